import PyProof.Rows.All
import HandS.Words
import KE.KStateDown
import HandS.Head0
import HandS.Head1
import HandS.Head2
import HandS.Head3
import HandS.HeadEnd
import HandS.HeadHook1
import HandS.HeadHook2
import Wide.All
import OpenK.AllK
import Wide.FinOn
import HandS.ForMost
import HandS.Exc
import HandS.ExcOwn
import HandS.TryOnly
import HandS.TryMany
import HandS.WordsExc
import HandS.Walk
import HandS.Wide
import HandS.WideBits
import HandS.Gcd
import HandS.IsInst
import HandS.TupAny
import HandS.TupMul
import HandS.TupLe
import HandS.Deep
import HandS.Flow
import HandS.SortInts
import HandS.More
import KE.KRevSl
import HandS.CallLocal
import HandS.Star
import HandS.CallSlots
import HandS.SetFor
import HandS.Strs
import KE.GoesMore
import KE.GoesEnum
import HandS.Zip
import HandS.Style
import HandS.Small
import HandS.Defaults
import PySem.Challenge.RW_flashwheels_k31_whole_telling_as_much
set_option Elab.async false
set_option linter.all false
set_option maxRecDepth 100000
/-! Fw: the hook of the head, ahead of all else: the run of a law's top stands first in its file, for memory. -/
namespace Fw
open PySem PySem.Spec PyProof.Rows L2
/-- the addresses that are looked at: the module's names first, then from the newest down -/
def asL : List Addr := mainGlobals :: (List.range 1200).reverse
/-- the hook of the layer's heads over these, and one more test -/
def hookE (n : Nat) (fa : List He.Fa) (fn : List He.DefD) (ex : PySem.W.Frag → Bool) : PySem.W.Hook where
  α := Bool × He.AlD
  obs := fun s => (ex (He.frG s.heap.get? asL), He.obsD fa fn (He.frG s.heap.get? asL))
  val := fun _ => (true, He.valD fn)
  says := fun _ h => ∃ K : PySem.W.Frag, K.In h ∧ ex K = true ∧ He.SaysD fa fn K
  of := fun _ _ e => ⟨_, He.frG_in, congrArg Prod.fst e, congrArg Prod.snd e⟩
  keeps := fun _ _ _ ⟨K, hK, c⟩ k => ⟨K, PySem.W.Frag.In.keeps hK k, c⟩
def obE (n : Nat) (fa : List He.Fa) (fn : List He.DefD) (ex : PySem.W.Frag → Bool) (s : PySem.W.SharedT) : Bool × He.AlD :=
  (ex (He.frG (HandSHeadRun.getT s) asL), He.obsD fa fn (He.frG (HandSHeadRun.getT s) asL))
/-! the run in pieces: each look by itself -/
theorem map3 {α β γ δ : Type} {o : Option α} {f : α → β} {g : α → γ} {h : α → δ} {a : β} {b : γ} {c : δ} (ha : o.map f = some a) (hb : o.map g = some b) (hc : o.map h = some c) : o.map (fun x => (f x, g x, h x)) = some (a, b, c) := by
  cases o with
  | none => cases ha
  | some x =>
    cases ha
    cases hb
    cases hc
    rfl
theorem mapJ {α β γ δ : Type} {o : Option α} {f : α → β} {g : α → γ} {h : α → δ} {a : β} {b : γ} {c : δ} (j : ∀ x, f x = a → g x = b → h x = c) (ha : o.map f = some a) (hb : o.map g = some b) : o.map h = some c := by
  cases o with
  | none => cases ha
  | some x => exact congrArg some (j x (Option.some.inj ha) (Option.some.inj hb))
theorem obE_app {n : Nat} {fa fb : List He.Fa} {fn gn : List He.DefD} {ex ey : PySem.W.Frag → Bool} {s : PySem.W.SharedT} (h1 : obE n fa fn ex s = (true, He.valD fn)) (h2 : obE n fb gn ey s = (true, He.valD gn)) :
    obE n (fa ++ fb) (fn ++ gn) (fun K => ex K && ey K) s = (true, He.valD (fn ++ gn)) := by
  unfold obE He.obsD at *
  generalize He.frG (HandSHeadRun.getT s) asL = K at *
  obtain ⟨a1, a2⟩ := Prod.mk.inj h1
  obtain ⟨b1, b2⟩ := Prod.mk.inj h2
  obtain ⟨a2, a3⟩ := Prod.mk.inj a2
  obtain ⟨b2, b3⟩ := Prod.mk.inj b2
  rw [Bool.and_eq_true] at a2 b2
  refine Prod.ext ?_ (Prod.ext ?_ ?_)
  · show (ex K && ey K) = true
    rw [a1, b1]; rfl
  · show (((fa ++ fb).all fun f => f.ok K) && (fn ++ gn).all fun d => d.ok K) = true
    rw [List.all_append, List.all_append, a2.1, a2.2, b2.1, b2.2]; rfl
  · show (fn ++ gn).map (fun d => He.fnW K d.at_) = (fn ++ gn).map He.DefD.val
    rw [List.map_append, List.map_append, a3, b3]
end Fw
namespace K31
open PySem L2 Fw
def top (i : Nat) : Stmt := PySem.Challenge.pw_flashwheels_k31_whole_telling_as_much.main.body.getD i (.Pass ⟨0, 0, 0, 0⟩)
def dd_law_take : He.DefD := ⟨("_law_take", none), "_law_take", "_law_take", defArgs (top 52), defBody (top 52), defScope (top 52), [], []⟩
def dd_law_of : He.DefD := ⟨("_law_of", none), "_law_of", "_law_of", defArgs (top 53), defBody (top 53), defScope (top 53), [], []⟩
def dd_law_part : He.DefD := ⟨("_law_part", none), "_law_part", "_law_part", defArgs (top 55), defBody (top 55), defScope (top 55), [], []⟩
def dd_law_flashes : He.DefD := ⟨("_law_flashes", none), "_law_flashes", "_law_flashes", defArgs (top 64), defBody (top 64), defScope (top 64), [], []⟩
def dd_law_less : He.DefD := ⟨("_law_less", none), "_law_less", "_law_less", defArgs (top 57), defBody (top 57), defScope (top 57), [], []⟩
def dd_law_by : He.DefD := ⟨("_law_by", none), "_law_by", "_law_by", defArgs (top 58), defBody (top 58), defScope (top 58), [], []⟩
def dd_law_floor : He.DefD := ⟨("_law_floor", none), "_law_floor", "_law_floor", defArgs (top 60), defBody (top 60), defScope (top 60), [], []⟩
def dd_law_over : He.DefD := ⟨("_law_over", none), "_law_over", "_law_over", defArgs (top 59), defBody (top 59), defScope (top 59), [], []⟩
def dd_law_rest : He.DefD := ⟨("_law_rest", none), "_law_rest", "_law_rest", defArgs (top 61), defBody (top 61), defScope (top 61), [], []⟩
def dd_law_measure : He.DefD := ⟨("_law_measure", none), "_law_measure", "_law_measure", defArgs (top 62), defBody (top 62), defScope (top 62), [], []⟩
def dd_law_flash_measure : He.DefD := ⟨("_law_flash_measure", none), "_law_flash_measure", "_law_flash_measure", defArgs (top 63), defBody (top 63), defScope (top 63), [], []⟩
def dd_law_tell_as_much : He.DefD := ⟨("_law_tell_as_much", none), "_law_tell_as_much", "_law_tell_as_much", defArgs (top 68), defBody (top 68), defScope (top 68), [], []⟩
def dd_is_tuple_up_to : He.DefD := ⟨("is_tuple_up_to", none), "is_tuple_up_to", "is_tuple_up_to", defArgs (top 21), defBody (top 21), defScope (top 21), [], []⟩
def dd_is_tuple_of : He.DefD := ⟨("is_tuple_of", none), "is_tuple_of", "is_tuple_of", defArgs (top 22), defBody (top 22), defScope (top 22), [], []⟩
def dd_is_pair : He.DefD := ⟨("is_pair", none), "is_pair", "is_pair", defArgs (top 23), defBody (top 23), defScope (top 23), [], []⟩
def dd_is_whole : He.DefD := ⟨("is_whole", none), "is_whole", "is_whole", defArgs (top 18), defBody (top 18), defScope (top 18), [], []⟩
def dd_is_from : He.DefD := ⟨("is_from", none), "is_from", "is_from", defArgs (top 20), defBody (top 20), defScope (top 20), [], []⟩
def dd_is_fraction_of : He.DefD := ⟨("is_fraction_of", none), "is_fraction_of", "is_fraction_of", defArgs (top 27), defBody (top 27), defScope (top 27), [], []⟩
def dd_is_time_of : He.DefD := ⟨("is_time_of", none), "is_time_of", "is_time_of", defArgs (top 28), defBody (top 28), defScope (top 28), [], []⟩
def dd_is_less : He.DefD := ⟨("is_less", none), "is_less", "is_less", defArgs (top 15), defBody (top 15), defScope (top 15), [], []⟩
def dd_wrong_in_flashes : He.DefD := ⟨("wrong_in_flashes", none), "wrong_in_flashes", "wrong_in_flashes", defArgs (top 30), defBody (top 30), defScope (top 30), [.int 12], []⟩
def dd_check_flashes : He.DefD := ⟨("check_flashes", none), "check_flashes", "check_flashes", defArgs (top 33), defBody (top 33), defScope (top 33), [], []⟩
def dd_is_whole_one : He.DefD := ⟨("is_whole_one", none), "is_whole_one", "is_whole_one", defArgs (top 16), defBody (top 16), defScope (top 16), [], []⟩
def dd_plain_of : He.DefD := ⟨("plain_of", none), "plain_of", "plain_of", defArgs (top 8), defBody (top 8), defScope (top 8), [], []⟩
def dd_over : He.DefD := ⟨("over", none), "over", "over", defArgs (top 14), defBody (top 14), defScope (top 14), [], []⟩
def dd_is_multiple : He.DefD := ⟨("is_multiple", none), "is_multiple", "is_multiple", defArgs (top 37), defBody (top 37), defScope (top 37), [], []⟩
def dd_measure_of_two : He.DefD := ⟨("measure_of_two", none), "measure_of_two", "measure_of_two", defArgs (top 35), defBody (top 35), defScope (top 35), [], []⟩
def dd_measure_by : He.DefD := ⟨("measure_by", none), "measure_by", "measure_by", defArgs (top 36), defBody (top 36), defScope (top 36), [], []⟩
def dd_plus : He.DefD := ⟨("plus", none), "plus", "plus", defArgs (top 10), defBody (top 10), defScope (top 10), [], []⟩
def dd_negative : He.DefD := ⟨("negative", none), "negative", "negative", defArgs (top 11), defBody (top 11), defScope (top 11), [], []⟩
def dd_minus : He.DefD := ⟨("minus", none), "minus", "minus", defArgs (top 12), defBody (top 12), defScope (top 12), [], []⟩
def dd_flash_measure_by : He.DefD := ⟨("flash_measure_by", none), "flash_measure_by", "flash_measure_by", defArgs (top 39), defBody (top 39), defScope (top 39), [], []⟩
def dd_tell_as_much_by : He.DefD := ⟨("tell_as_much_by", none), "tell_as_much_by", "tell_as_much_by", defArgs (top 43), defBody (top 43), defScope (top 43), [], []⟩
def dd_tell_as_much : He.DefD := ⟨("tell_as_much", none), "tell_as_much", "tell_as_much", defArgs (top 45), defBody (top 45), defScope (top 45), [], []⟩
def dd_law_plus : He.DefD := ⟨("_law_plus", none), "_law_plus", "_law_plus", defArgs (top 56), defBody (top 56), defScope (top 56), [], []⟩
def dd_law_same : He.DefD := ⟨("_law_same", none), "_law_same", "_law_same", defArgs (top 54), defBody (top 54), defScope (top 54), [], []⟩
def dd_law_order : He.DefD := ⟨("_law_order", none), "_law_order", "_law_order", defArgs (top 67), defBody (top 67), defScope (top 67), [], []⟩
def dd_law_fraction : He.DefD := ⟨("_law_fraction", none), "_law_fraction", "_law_fraction", defArgs (top 65), defBody (top 65), defScope (top 65), [], []⟩
def dd_law_step : He.DefD := ⟨("_law_step", none), "_law_step", "_law_step", defArgs (top 66), defBody (top 66), defScope (top 66), [], []⟩
def dd_is_between : He.DefD := ⟨("is_between", none), "is_between", "is_between", defArgs (top 19), defBody (top 19), defScope (top 19), [], []⟩
def dd_is_order_of : He.DefD := ⟨("is_order_of", none), "is_order_of", "is_order_of", defArgs (top 29), defBody (top 29), defScope (top 29), [], []⟩
def dd_check_order : He.DefD := ⟨("check_order", none), "check_order", "check_order", defArgs (top 32), defBody (top 32), defScope (top 32), [], []⟩
def dd_check_lit : He.DefD := ⟨("check_lit", none), "check_lit", "check_lit", defArgs (top 48), defBody (top 48), defScope (top 48), [], []⟩
def dd_check_fraction : He.DefD := ⟨("check_fraction", none), "check_fraction", "check_fraction", defArgs (top 31), defBody (top 31), defScope (top 31), [], []⟩
def dd_times : He.DefD := ⟨("times", none), "times", "times", defArgs (top 13), defBody (top 13), defScope (top 13), [], []⟩
def dd_whole : He.DefD := ⟨("whole", none), "whole", "whole", defArgs (top 9), defBody (top 9), defScope (top 9), [], []⟩
def dd_rate_step_by : He.DefD := ⟨("rate_step_by", none), "rate_step_by", "rate_step_by", defArgs (top 40), defBody (top 40), defScope (top 40), [], []⟩
def dd_are_alike_by : He.DefD := ⟨("are_alike_by", none), "are_alike_by", "are_alike_by", defArgs (top 41), defBody (top 41), defScope (top 41), [], []⟩
def dd_are_alike : He.DefD := ⟨("are_alike", none), "are_alike", "are_alike", defArgs (top 49), defBody (top 49), defScope (top 49), [], []⟩
def dd_flash_measure : He.DefD := ⟨("flash_measure", none), "flash_measure", "flash_measure", defArgs (top 47), defBody (top 47), defScope (top 47), [], []⟩
def dd_law_is_told : He.DefD := ⟨("_law_is_told", none), "_law_is_told", "_law_is_told", defArgs (top 69), defBody (top 69), defScope (top 69), [], []⟩
def dd_law_right : He.DefD := ⟨("_law_right", none), "_law_right", "_law_right", defArgs (top 70), defBody (top 70), defScope (top 70), [], []⟩
def dd_law_well : He.DefD := ⟨("_law_well", none), "_law_well", "_law_well", defArgs (top 51), defBody (top 51), defScope (top 51), [], []⟩
def dd_law : He.DefD := ⟨("law", none), "law", "law", defArgs (top 71), defBody (top 71), defScope (top 71), [], []⟩
def fn_0 : List He.DefD := [dd_law_take, dd_law_of, dd_law_part, dd_law_flashes, dd_law_less, dd_law_by, dd_law_floor, dd_law_over, dd_law_rest, dd_law_measure, dd_law_flash_measure, dd_law_tell_as_much, dd_is_tuple_up_to, dd_is_tuple_of, dd_is_pair, dd_is_whole, dd_is_from, dd_is_fraction_of, dd_is_time_of, dd_is_less, dd_wrong_in_flashes, dd_check_flashes, dd_is_whole_one, dd_plain_of, dd_over, dd_is_multiple, dd_measure_of_two, dd_measure_by, dd_plus, dd_negative, dd_minus, dd_flash_measure_by, dd_tell_as_much_by, dd_tell_as_much, dd_law_plus, dd_law_same, dd_law_order, dd_law_fraction, dd_law_step, dd_is_between, dd_is_order_of, dd_check_order, dd_check_lit, dd_check_fraction, dd_times, dd_whole, dd_rate_step_by, dd_are_alike_by, dd_are_alike, dd_flash_measure, dd_law_is_told, dd_law_right, dd_law_well, dd_law]
def fa_0 : List He.Fa := ([.glo "_law_take", .glo "_law_of", .glo "_law_part", .glo "_law_flashes", .glo "_law_less", .glo "_law_by", .glo "_law_floor", .glo "_law_over", .glo "_law_rest", .glo "_law_measure", .glo "_law_flash_measure", .glo "_law_tell_as_much", .glo "is_tuple_up_to", .glo "is_tuple_of", .glo "is_pair", .glo "is_whole", .glo "is_from", .glo "is_fraction_of", .glo "is_time_of", .glo "is_less", .glo "wrong_in_flashes", .glo "check_flashes", .glo "is_whole_one", .glo "plain_of", .glo "over", .glo "is_multiple", .glo "measure_of_two", .glo "measure_by", .glo "plus", .glo "negative"] : List He.Fa) ++ ([.glo "minus", .glo "flash_measure_by", .glo "tell_as_much_by", .glo "tell_as_much", .glo "_law_plus", .glo "_law_same", .glo "_law_order", .glo "_law_fraction", .glo "_law_step", .glo "is_between", .glo "is_order_of", .glo "check_order", .glo "check_lit", .glo "check_fraction", .glo "times", .glo "whole", .glo "rate_step_by", .glo "are_alike_by", .glo "are_alike", .glo "flash_measure", .glo "_law_is_told", .glo "_law_right", .glo "_law_well", .glo "law", .free "len", .free "abs", .free "int", .free "tuple", .free "list", .free "all"] : List He.Fa) ++ ([.free "any", .free "max", .free "min", .free "divmod", .free "sorted", .free "range", .free "enumerate", .free "zip", .free "isinstance", .free "bool", .free "str", .free "dict", .free "set"] : List He.Fa)
def fnL : List He.DefD := fn_0
def faL : List He.Fa := fa_0
def ex_0 (K : PySem.W.Frag) : Bool := true && He.eqO (PySem.W.nsIn K mainGlobals "gcd") (some (some (.builtin "math.gcd"))) && ((He.Fa.glo "NOUGHT").ok K && He.tupB K "NOUGHT" [.int 0, .int 1]) && (He.Fa.int "MOST_ORDER" 24).ok K
def exB : PySem.W.Frag → Bool := fun K => ex_0 K
def looseL : List Str := ([("FlashError" : Str), ("InvalidNumber" : Str), ("InvalidFraction" : Str), ("InvalidFlashes" : Str), ("NOUGHT" : Str), ("plain_of" : Str), ("whole" : Str), ("plus" : Str), ("negative" : Str), ("minus" : Str), ("times" : Str), ("over" : Str), ("is_less" : Str), ("is_whole_one" : Str), ("is_whole" : Str), ("is_between" : Str), ("is_from" : Str), ("is_tuple_up_to" : Str), ("is_tuple_of" : Str), ("is_pair" : Str), ("MOST_ORDER" : Str), ("MOST_FLASHES" : Str), ("is_fraction_of" : Str), ("is_time_of" : Str), ("is_order_of" : Str), ("wrong_in_flashes" : Str), ("check_fraction" : Str), ("check_order" : Str), ("check_flashes" : Str), ("measure_of_two" : Str)] : List Str) ++ ([("measure_by" : Str), ("is_multiple" : Str), ("flash_measure_by" : Str), ("rate_step_by" : Str), ("are_alike_by" : Str), ("tell_as_much_by" : Str), ("tell_as_much" : Str), ("flash_measure" : Str), ("check_lit" : Str), ("are_alike" : Str), ("_law_well" : Str), ("_law_take" : Str), ("_law_of" : Str), ("_law_same" : Str), ("_law_part" : Str), ("_law_plus" : Str), ("_law_less" : Str), ("_law_by" : Str), ("_law_over" : Str), ("_law_floor" : Str), ("_law_rest" : Str), ("_law_measure" : Str), ("_law_flash_measure" : Str), ("_law_flashes" : Str), ("_law_fraction" : Str), ("_law_step" : Str), ("_law_order" : Str), ("_law_tell_as_much" : Str), ("_law_is_told" : Str), ("_law_right" : Str)] : List Str)
abbrev R : PySem.W.OpenRow := PySem.W.OpenLaw.row PySem.Challenge.rw_flashwheels_k31_whole_telling_as_much
theorem run_a (w : World) : (HandSHeadRun.wholeF (fun p => HandSHeadRun.stepQ (HandSHeadRun.denQ HandSHeadRun.tabQ) p w) HandSHeadRun.fenceQ 6000 R.prog).map (fun x => HandSHeadRun.looksF R.prog x.1.heap x.2.abs) = some true := by
  kernel_rfl
theorem run_b (w : World) : (HandSHeadRun.wholeF (fun p => HandSHeadRun.stepQ (HandSHeadRun.denQ HandSHeadRun.tabQ) p w) HandSHeadRun.fenceQ 6000 R.prog).map (fun x => HandSHeadRun.seenQ (PySem.W.view R.prog [0, 71]) looseL (PySem.importedModules R.prog.main.body) (fun s => PySem.W.xlAt (PySem.W.view R.prog [0, 71]) [] s && PySem.W.recOk R.toRowW.records s) x.2.abs) = some (PySem.W.openGood (PySem.W.view R.prog [0, 71]) looseL) := by
  kernel_rfl
theorem run_c0 (w : World) : (HandSHeadRun.wholeF (fun p => HandSHeadRun.stepQ (HandSHeadRun.denQ HandSHeadRun.tabQ) p w) HandSHeadRun.fenceQ 6000 R.prog).map (fun x => obE 4 fa_0 fn_0 ex_0 x.2) = some (true, He.valD fn_0) := by
  kernel_rfl
theorem run_c (w : World) : (HandSHeadRun.wholeF (fun p => HandSHeadRun.stepQ (HandSHeadRun.denQ HandSHeadRun.tabQ) p w) HandSHeadRun.fenceQ 6000 R.prog).map (fun x => obE 4 faL fnL exB x.2) = some (true, He.valD fnL) := run_c0 w
theorem run (w : World) : HandSHeadRun.RunEqI R (PySem.W.view R.prog [0, 71]) (hookE 4 faL fnL exB) (obE 4 faL fnL exB) 6000 looseL w := map3 (run_a w) (run_b w) (run_c w)
end K31
/-! Fw: pure values P, how they stand in the abstract heap (Rep), what may change. -/
namespace Fw
open PySem PySem.Spec PyProof.Rows L2

inductive P where
  | non | bl (b : Bool) | int (i : Int) | str (x : Str)
  | tup (xs : List P) | lst (xs : List P)
  | dct (ks : List Key) (vs : List P)
  | fn (n : Nat)
  | pool
  | exc (c : Nat) (xs : List P)
  | scr (ns : List Int)
  deriving Inhabited

/-- the ghost: addresses that never change any more; pools of draws; the frame's own lists by slot -/
structure Gh where
  imm : Addr → Prop
  pool : Addr → Prop
  own : Nat → Option Addr

/-- what may stand at a place of a pool -/
def PoolIn (k : Nat) (x : Int) : Prop := if k = 0 then 0 ≤ x else if k = 1 then 0 ≤ x else 0 ≤ x
def PoolAt (o : HO) : Prop := ∃ x y z : Int, o = .lst [.int x, .int y, .int z] ∧ PoolIn 0 x ∧ PoolIn 1 y ∧ PoolIn 2 z

/-- what may be a frame's own: a list, a dict of plain keys -/
def OwnO : HO → Prop
  | .lst _ => True
  | .dK _ => True
  | _ => False
def mutP : P → Bool
  | .lst _ => true
  | .dct _ _ => true
  | _ => false
structure Good (G : Gh) (H : Hp) : Prop where
  immH : ∀ a, G.imm a → H a ≠ none
  immP : ∀ a, G.imm a → ¬ G.pool a
  pool : ∀ a, G.pool a → ∃ o, H a = some o ∧ PoolAt o
  own : ∀ i a, G.own i = some a → ¬ G.imm a ∧ ¬ G.pool a ∧ ∃ o, H a = some o ∧ OwnO o
  inj : ∀ i j a, G.own i = some a → G.own j = some a → i = j

/-- the script: a list that is read only -/
def SqI (K : PySem.W.Frag) (G : Gh) (H : Hp) (a : Addr) (vs : List V) : Prop :=
  (H a = some (.lst vs) ∧ G.imm a) ∨ (∃ o, H a = some (.frz o (.lst vs))) ∨
    ∃ (o : Obj) (its : Array Value) (n : Nat), K.lookup a = some o ∧ o.cls = .type "list" ∧ o.dict = none ∧ o.data = .seq its n ∧ its.size ≤ sizeLine ∧ Vals vs its.toList
theorem SqI.sq {K G H a vs} (h : SqI K G H a vs) : SqL K H a vs := by
  rcases h with ⟨h, _⟩ | h | h
  · exact .inl (.inl h)
  · exact .inl (.inr h)
  · exact .inr h

section
variable (K : PySem.W.Frag) (fa : Nat → Addr) (G : Gh) (H : Hp)
mutual
def Rep : P → V → Prop
  | .non, v => v = .non
  | .bl b, v => v = .bl b
  | .int i, v => v = .int i
  | .str x, v => v = .str x
  | .tup xs, v => ∃ a vs, v = .ref a ∧ SqT K H a vs ∧ Reps xs vs
  | .lst xs, v => ∃ a vs, v = .ref a ∧ H a = some (.lst vs) ∧ G.imm a ∧ Reps xs vs
  | .dct ks ps, v => ∃ a vs, v = .ref a ∧ H a = some (.dK (ks.zip vs)) ∧ G.imm a ∧ ks.length = ps.length ∧ Reps ps vs
  | .fn n, v => v = .ref (fa n)
  | .pool, v => ∃ a, v = .ref a ∧ G.pool a
  | .exc _ _, _ => False
  | .scr ns, v => ∃ a, v = .ref a ∧ SqI K G H a (ns.map V.int)
def Reps : List P → List V → Prop
  | [], vs => vs = []
  | x :: xs, vs => ∃ v r, vs = v :: r ∧ Rep x v ∧ Reps xs r
end
/-- read only: a list may be one that is changed later -/
def RepR : P → V → Prop
  | .lst xs, v => ∃ a vs, v = .ref a ∧ H a = some (.lst vs) ∧ ¬ G.pool a ∧ Reps K fa G H xs vs
  | .dct ks ps, v => ∃ a vs, v = .ref a ∧ H a = some (.dK (ks.zip vs)) ∧ ¬ G.pool a ∧ ks.length = ps.length ∧ Reps K fa G H ps vs
  | p, v => Rep K fa G H p v
end
section
variable {K : PySem.W.Frag} {fa : Nat → Addr} {G G' G1 G2 : Gh} {H H' H1 H2 : Hp}
theorem Rep.r {p : P} {v : V} (g : Good G H) (h : Rep K fa G H p v) : RepR K fa G H p v := by
  cases p <;> first | exact h | (obtain ⟨a, vs, e, q, i, r⟩ := h; exact ⟨a, vs, e, q, g.immP a i, r⟩)
theorem Reps.length : ∀ {ps : List P} {vs : List V}, Reps K fa G H ps vs → vs.length = ps.length
  | [], _, h => by rw [show _ = [] from h]; rfl
  | _ :: _, _, ⟨_, _, e, _, t⟩ => by rw [e, List.length_cons, List.length_cons, Reps.length t]
theorem Reps.get : ∀ {ps : List P} {vs : List V} {i : Nat} {p : P}, Reps K fa G H ps vs → ps[i]? = some p → ∃ v, vs[i]? = some v ∧ Rep K fa G H p v
  | [], _, _, _, _, e => by simp at e
  | q :: ps, _, 0, p, ⟨v, r, e, h, t⟩, e2 => by
    subst e
    have z : q = p := by simpa using e2
    subst z
    exact ⟨v, rfl, h⟩
  | _ :: ps, _, i + 1, p, ⟨v, r, e, h, t⟩, e2 => by
    subst e
    obtain ⟨u, h1, h2⟩ := Reps.get (i := i) (p := p) t (by simpa using e2)
    exact ⟨u, by simpa using h1, h2⟩
theorem Reps.getV : ∀ {ps : List P} {vs : List V} {i : Nat} {v : V}, Reps K fa G H ps vs → vs[i]? = some v → ∃ p, ps[i]? = some p ∧ Rep K fa G H p v := fun {ps vs i v} h e => by
  have hl := h.length
  have hi : i < vs.length := (List.getElem?_eq_some_iff.mp e).1
  obtain ⟨u, e2, r⟩ := h.get (i := i) (p := ps[i]'(by omega)) (by simp)
  rw [e] at e2; cases e2
  exact ⟨_, by simp [show i < ps.length by omega], r⟩
theorem Reps.append : ∀ {ps qs : List P} {vs us : List V}, Reps K fa G H ps vs → Reps K fa G H qs us → Reps K fa G H (ps ++ qs) (vs ++ us)
  | [], _, _, _, h, h2 => by rw [show _ = [] from h]; exact h2
  | _ :: _, _, _, _, ⟨v, r, e, h, t⟩, h2 => by rw [e]; exact ⟨v, _, rfl, h, Reps.append t h2⟩
theorem Reps.take : ∀ {ps : List P} {vs : List V} (n : Nat), Reps K fa G H ps vs → Reps K fa G H (ps.take n) (vs.take n)
  | _, _, 0, _ => rfl
  | [], _, _ + 1, h => by rw [show _ = [] from h]; rfl
  | _ :: _, _, n + 1, ⟨v, r, e, h, t⟩ => by rw [e]; exact ⟨v, _, rfl, h, Reps.take n t⟩
theorem Reps.drop : ∀ {ps : List P} {vs : List V} (n : Nat), Reps K fa G H ps vs → Reps K fa G H (ps.drop n) (vs.drop n)
  | _, _, 0, h => h
  | [], _, _ + 1, h => by rw [show _ = [] from h]; rfl
  | _ :: _, _, n + 1, ⟨v, r, e, h, t⟩ => by rw [e]; exact Reps.drop n t
theorem Reps.set : ∀ {ps : List P} {vs : List V} (n : Nat) {p : P} {v : V}, Reps K fa G H ps vs → Rep K fa G H p v → Reps K fa G H (ps.set n p) (vs.set n v)
  | [], _, _, _, _, h, _ => by rw [show _ = [] from h]; rfl
  | _ :: _, _, 0, _, _, ⟨v, r, e, h, t⟩, h2 => by rw [e]; exact ⟨_, _, rfl, h2, t⟩
  | _ :: _, _, n + 1, _, _, ⟨v, r, e, h, t⟩, h2 => by rw [e]; exact ⟨v, _, rfl, h, Reps.set n t h2⟩
theorem Reps.eraseIdx : ∀ {ps : List P} {vs : List V} (n : Nat), Reps K fa G H ps vs → Reps K fa G H (ps.eraseIdx n) (vs.eraseIdx n)
  | [], _, _, h => by rw [show _ = [] from h]; rfl
  | _ :: _, _, 0, ⟨v, r, e, h, t⟩ => by rw [e]; exact t
  | _ :: _, _, n + 1, ⟨v, r, e, h, t⟩ => by rw [e]; exact ⟨v, _, rfl, h, Reps.eraseIdx n t⟩
theorem Reps.rep {ps : List P} {vs : List V} (h : Reps K fa G H ps vs) : ∀ n : Nat, Reps K fa G H (List.replicate n ps).flatten (List.replicate n vs).flatten
  | 0 => rfl
  | n + 1 => by
    rw [List.replicate_succ, List.replicate_succ, List.flatten_cons, List.flatten_cons]
    exact h.append (Reps.rep h n)
theorem Reps.reverse : ∀ {ps : List P} {vs : List V}, Reps K fa G H ps vs → Reps K fa G H ps.reverse vs.reverse
  | [], _, h => by rw [show _ = [] from h]; rfl
  | _ :: _, _, ⟨v, r, e, h, t⟩ => by
    rw [e, List.reverse_cons, List.reverse_cons]
    exact (Reps.reverse t).append ⟨v, [], rfl, h, rfl⟩

/-- what stands is kept: tuples, written things, lists and dicts that are not changed any more -/
structure Mo (G : Gh) (H : Hp) (G' : Gh) (H' : Hp) : Prop where
  tup : ∀ a vs, H a = some (.tup vs) → H' a = some (.tup vs)
  frz : ∀ a o u, H a = some (.frz o u) → H' a = some (.frz o u)
  immH : ∀ a o, G.imm a → H a = some o → H' a = some o
  imm : ∀ a, G.imm a → G'.imm a
  pool : ∀ a, G.pool a → G'.pool a
theorem Mo.refl : Mo G H G H := ⟨fun _ _ h => h, fun _ _ _ h => h, fun _ _ _ h => h, fun _ h => h, fun _ h => h⟩
theorem Mo.trans (x : Mo G H G1 H1) (y : Mo G1 H1 G2 H2) : Mo G H G2 H2 :=
  ⟨fun a vs h => y.tup a vs (x.tup a vs h), fun a o u h => y.frz a o u (x.frz a o u h), fun a o i h => y.immH a o (x.imm a i) (x.immH a o i h), fun a h => y.imm a (x.imm a h), fun a h => y.pool a (x.pool a h)⟩
theorem Mo.sqT (x : Mo G H G' H') {a : Addr} {vs : List V} (h : SqT K H a vs) : SqT K H' a vs := by
  rcases h with (h | ⟨o, h⟩) | h
  · exact .inl (.inl (x.tup a vs h))
  · exact .inl (.inr ⟨o, x.frz a o _ h⟩)
  · exact .inr h
theorem Mo.sqI (x : Mo G H G' H') {a : Addr} {vs : List V} (h : SqI K G H a vs) : SqI K G' H' a vs := by
  rcases h with ⟨h, i⟩ | ⟨o, h⟩ | h
  · exact .inl ⟨x.immH a _ i h, x.imm a i⟩
  · exact .inr (.inl ⟨o, x.frz a o _ h⟩)
  · exact .inr (.inr h)
mutual
theorem Mo.rep (x : Mo G H G' H') : ∀ {p : P} {v : V}, Rep K fa G H p v → Rep K fa G' H' p v
  | .non, _, h => h
  | .bl _, _, h => h
  | .int _, _, h => h
  | .str _, _, h => h
  | .tup _, _, ⟨a, vs, e, q, r⟩ => ⟨a, vs, e, x.sqT q, Mo.reps x r⟩
  | .lst _, _, ⟨a, vs, e, q, i, r⟩ => ⟨a, vs, e, x.immH a _ i q, x.imm a i, Mo.reps x r⟩
  | .dct _ _, _, ⟨a, vs, e, q, i, l, r⟩ => ⟨a, vs, e, x.immH a _ i q, x.imm a i, l, Mo.reps x r⟩
  | .fn _, _, h => h
  | .pool, _, ⟨a, e, h⟩ => ⟨a, e, x.pool a h⟩
  | .exc _ _, _, h => h
  | .scr _, _, ⟨a, e, q⟩ => ⟨a, e, x.sqI q⟩
theorem Mo.reps (x : Mo G H G' H') : ∀ {ps : List P} {vs : List V}, Reps K fa G H ps vs → Reps K fa G' H' ps vs
  | [], _, h => h
  | _ :: _, _, ⟨v, r, e, h, t⟩ => ⟨v, r, e, Mo.rep x h, Mo.reps x t⟩
end

/-- an expression has run: all that stood stands as it did, but the pools -/
structure Xt (G : Gh) (H : Hp) (G' : Gh) (H' : Hp) : Prop where
  std : ∀ a o, H a = some o → ¬ G.pool a → H' a = some o
  there : ∀ a, H a ≠ none → H' a ≠ none
  imm : ∀ a, G.imm a → G'.imm a
  pool : ∀ a, G.pool a → G'.pool a
  nimm : ∀ a, H a ≠ none → ¬ G.imm a → ¬ G'.imm a
  npool : ∀ a, H a ≠ none → ¬ G.pool a → ¬ G'.pool a
  own : G'.own = G.own
theorem Xt.refl : Xt G H G H := ⟨fun _ _ h _ => h, fun _ h => h, fun _ h => h, fun _ h => h, fun _ _ h => h, fun _ _ h => h, rfl⟩
theorem Xt.trans (x : Xt G H G1 H1) (y : Xt G1 H1 G2 H2) : Xt G H G2 H2 :=
  ⟨fun a o h n => y.std a o (x.std a o h n) (x.npool a (by rw [h]; exact Option.some_ne_none _) n), fun a h => y.there a (x.there a h), fun a h => y.imm a (x.imm a h), fun a h => y.pool a (x.pool a h),
    fun a h n => y.nimm a (x.there a h) (x.nimm a h n), fun a h n => y.npool a (x.there a h) (x.npool a h n), y.own.trans x.own⟩
theorem Good.npoolT (g : Good G H) {a : Addr} {vs : List V} (h : H a = some (.tup vs)) : ¬ G.pool a := fun q => by
  obtain ⟨o, e, x, y, z, e2, _⟩ := g.pool a q
  rw [h] at e; cases e; cases e2
theorem Good.npoolF (g : Good G H) {a : Addr} {o : Obj} {u : HO} (h : H a = some (.frz o u)) : ¬ G.pool a := fun q => by
  obtain ⟨o, e, x, y, z, e2, _⟩ := g.pool a q
  rw [h] at e; cases e; cases e2
theorem Xt.mo (x : Xt G H G' H') (g : Good G H) : Mo G H G' H' :=
  ⟨fun a vs h => x.std a _ h (g.npoolT h), fun a o u h => x.std a _ h (g.npoolF h), fun a o i h => x.std a o h (g.immP a i), x.imm, x.pool⟩
theorem Xt.sqL (x : Xt G H G' H') {a : Addr} {vs : List V} (g : Good G H) (n : ¬ G.pool a) (h : SqL K H a vs) : SqL K H' a vs := by
  rcases h with (h | ⟨o, h⟩) | h
  · exact .inl (.inl (x.std a _ h n))
  · exact .inl (.inr ⟨o, x.std a _ h (g.npoolF h)⟩)
  · exact .inr h
/-- a statement has run: as Xt, but the frame's own lists may have changed, may be own no more -/
structure Xs (G : Gh) (H : Hp) (G' : Gh) (H' : Hp) : Prop where
  std : ∀ a o, H a = some o → ¬ G.pool a → (∀ i, G.own i ≠ some a) → H' a = some o
  there : ∀ a, H a ≠ none → H' a ≠ none
  imm : ∀ a, G.imm a → G'.imm a
  pool : ∀ a, G.pool a → G'.pool a
  nimm : ∀ a, H a ≠ none → ¬ G.imm a → (∀ i, G.own i ≠ some a) → ¬ G'.imm a
  npool : ∀ a, H a ≠ none → ¬ G.pool a → ¬ G'.pool a
  own : ∀ i a, G'.own i = some a → (∃ j, G.own j = some a) ∨ H a = none
theorem Xt.s (x : Xt G H G' H') : Xs G H G' H' :=
  ⟨fun a o h n _ => x.std a o h n, x.there, x.imm, x.pool, fun a h n _ => x.nimm a h n, x.npool, fun i a h => .inl ⟨i, by rw [← x.own]; exact h⟩⟩
theorem Xs.refl : Xs G H G H := Xt.refl.s
theorem Xs.trans (x : Xs G H G1 H1) (y : Xs G1 H1 G2 H2) : Xs G H G2 H2 := by
  have no : ∀ a, H a ≠ none → (∀ i, G.own i ≠ some a) → ∀ i, G1.own i ≠ some a := fun a h n i e => by
    rcases x.own i a e with ⟨j, q⟩ | q
    · exact n j q
    · exact h q
  refine ⟨fun a o h n o2 => ?_, fun a h => y.there a (x.there a h), fun a h => y.imm a (x.imm a h), fun a h => y.pool a (x.pool a h), fun a h n o2 => ?_, fun a h n => y.npool a (x.there a h) (x.npool a h n), fun i a h => ?_⟩
  · have hn : H a ≠ none := by rw [h]; exact Option.some_ne_none _
    exact y.std a o (x.std a o h n o2) (x.npool a hn n) (no a hn o2)
  · exact y.nimm a (x.there a h) (x.nimm a h n o2) (no a h o2)
  · rcases y.own i a h with ⟨j, q⟩ | q
    · exact x.own j a q
    · refine .inr ?_
      cases e : H a with
      | none => rfl
      | some o => exact absurd q (x.there a (by rw [e]; exact Option.some_ne_none _))
theorem Good.nownI (g : Good G H) {a : Addr} (h : G.imm a) (i : Nat) : G.own i ≠ some a := fun e => (g.own i a e).1 h
theorem Good.nownT (g : Good G H) {a : Addr} {vs : List V} (h : H a = some (.tup vs)) (i : Nat) : G.own i ≠ some a := fun e => by
  obtain ⟨_, _, ws, q, q2⟩ := g.own i a e
  rw [h] at q; cases q; exact q2
theorem Good.nownF (g : Good G H) {a : Addr} {o : Obj} {u : HO} (h : H a = some (.frz o u)) (i : Nat) : G.own i ≠ some a := fun e => by
  obtain ⟨_, _, ws, q, q2⟩ := g.own i a e
  rw [h] at q; cases q; exact q2
theorem Xs.mo (x : Xs G H G' H') (g : Good G H) : Mo G H G' H' :=
  ⟨fun a vs h => x.std a _ h (g.npoolT h) (g.nownT h), fun a o u h => x.std a _ h (g.npoolF h) (g.nownF h), fun a o i h => x.std a o h (g.immP a i) (g.nownI i), x.imm, x.pool⟩

/-! ### new objects -/
def Gh.addI (G : Gh) (a : Addr) : Gh := { G with imm := fun b => b = a ∨ G.imm b }
theorem fresh_imm (g : Good G H) {p : Addr} (hp : H p = none) : ¬ G.imm p := fun q => g.immH p q hp
theorem fresh_pool (g : Good G H) {p : Addr} (hp : H p = none) : ¬ G.pool p := fun q => by
  obtain ⟨o, e, _⟩ := g.pool p q
  rw [hp] at e; cases e
theorem fresh_own (g : Good G H) {p : Addr} (hp : H p = none) (i : Nat) : G.own i ≠ some p := fun q => by
  obtain ⟨_, _, vs, e, _⟩ := g.own i p q
  rw [hp] at e; cases e
theorem Good.newI (g : Good G H) {p : Addr} (hp : H p = none) (o : HO) : Good (G.addI p) (upd H p o) := by
  refine ⟨fun a h => ?_, fun a h => ?_, fun a h => ?_, fun i a h => ?_, g.inj⟩
  · by_cases e : a = p
    · subst e; rw [upd_same]; exact Option.some_ne_none _
    · rw [upd_ne e]
      rcases h with h | h
      · exact absurd h e
      · exact g.immH a h
  · rcases h with h | h
    · rw [h]; exact fresh_pool g hp
    · exact g.immP a h
  · have e : a ≠ p := fun z => fresh_pool g hp (z ▸ h)
    rw [upd_ne e]
    exact g.pool a h
  · have e : a ≠ p := fun z => fresh_own g hp i (z ▸ h)
    obtain ⟨h1, h2, vs, h3⟩ := g.own i a h
    refine ⟨fun z => ?_, h2, vs, by rw [upd_ne e]; exact h3⟩
    rcases z with z | z
    · exact e z
    · exact h1 z
theorem Xt.newI (g : Good G H) {p : Addr} (hp : H p = none) (o : HO) : Xt G H (G.addI p) (upd H p o) := by
  have ne : ∀ a, H a ≠ none → a ≠ p := fun a h z => h (z ▸ hp)
  refine ⟨fun a q h _ => ?_, fun a h => ?_, fun a h => .inr h, fun a h => h, fun a h n z => ?_, fun a _ n => n, rfl⟩
  · rw [upd_ne (ne a (by rw [h]; exact Option.some_ne_none _))]; exact h
  · rw [upd_ne (ne a h)]; exact h
  · rcases z with z | z
    · exact ne a h z
    · exact n z
/-- a new object that is no list, no dict: nothing of the ghost changes -/
theorem Good.new0 (g : Good G H) {p : Addr} (hp : H p = none) (o : HO) : Good G (upd H p o) := by
  have np : ∀ a, H a ≠ none → a ≠ p := fun a h z => h (z ▸ hp)
  refine ⟨fun a h => ?_, g.immP, fun a h => ?_, fun i a h => ?_, g.inj⟩
  · rw [upd_ne (np a (g.immH a h))]; exact g.immH a h
  · obtain ⟨o, e, q⟩ := g.pool a h
    exact ⟨o, by rw [upd_ne (np a (by rw [e]; exact Option.some_ne_none _))]; exact e, q⟩
  · obtain ⟨h1, h2, vs, h3⟩ := g.own i a h
    exact ⟨h1, h2, vs, by rw [upd_ne (np a (by rw [h3.1]; exact Option.some_ne_none _))]; exact h3⟩
theorem Xt.new0 {p : Addr} (hp : H p = none) (o : HO) : Xt G H G (upd H p o) := by
  have ne : ∀ a, H a ≠ none → a ≠ p := fun a h z => h (z ▸ hp)
  refine ⟨fun a q h _ => ?_, fun a h => ?_, fun a h => h, fun a h => h, fun a _ n => n, fun a _ n => n, rfl⟩
  · rw [upd_ne (ne a (by rw [h]; exact Option.some_ne_none _))]; exact h
  · rw [upd_ne (ne a h)]; exact h
end

/-! ### what an own object holds -/
section
variable (K : PySem.W.Frag) (fa : Nat → Addr) (G : Gh) (H : Hp)
def Cont : P → HO → Prop
  | .lst xs, o => ∃ vs, o = .lst vs ∧ Reps K fa G H xs vs
  | .dct ks ps, o => ∃ vs, o = .dK (ks.zip vs) ∧ ks.length = ps.length ∧ Reps K fa G H ps vs
  | _, _ => False
end
section
variable {K : PySem.W.Frag} {fa : Nat → Addr} {G G' : Gh} {H H' : Hp} {p : P} {o : HO} {a : Addr}
theorem Mo.cont (x : Mo G H G' H') (h : Cont K fa G H p o) : Cont K fa G' H' p o := by
  cases p <;> first | exact h.elim | (obtain ⟨vs, e, r⟩ := h; exact ⟨vs, e, x.reps r⟩) | (obtain ⟨vs, e, l, r⟩ := h; exact ⟨vs, e, l, x.reps r⟩)
theorem Cont.own (h : Cont K fa G H p o) : OwnO o := by
  cases p <;> first | exact h.elim | (obtain ⟨vs, e, _⟩ := h; rw [e]; trivial)
theorem Cont.r (h : Cont K fa G H p o) (e : H a = some o) (n : ¬ G.pool a) : RepR K fa G H p (.ref a) := by
  cases p <;> first | exact h.elim | (obtain ⟨vs, q, r⟩ := h; rw [q] at e; exact ⟨a, vs, rfl, e, n, r⟩)
theorem Cont.rep (h : Cont K fa G H p o) (e : H a = some o) (n : G.imm a) : Rep K fa G H p (.ref a) := by
  cases p <;> first | exact h.elim | (obtain ⟨vs, q, r⟩ := h; rw [q] at e; exact ⟨a, vs, rfl, e, n, r⟩)
theorem RepR.cont {v : V} (h : RepR K fa G H p v) (m : mutP p = true) : ∃ a o, v = .ref a ∧ H a = some o ∧ ¬ G.pool a ∧ Cont K fa G H p o := by
  cases p <;> first | (cases m; done) | (obtain ⟨a, vs, e, q, n, r⟩ := h; exact ⟨a, _, e, q, n, vs, rfl, r⟩)
theorem RepR.im (h : mutP p = false) {v : V} (r : RepR K fa G H p v) : Rep K fa G H p v := by
  cases p <;> first | (cases h; done) | exact r
theorem Rep.im (h : mutP p = false) {v : V} (r : Rep K fa G H p v) : RepR K fa G H p v := by
  cases p <;> first | (cases h; done) | exact r
/-- read only, moved -/
theorem RepR.mv {v : V} (h : RepR K fa G H p v) (hm : Mo G H G' H') (hs : ∀ a o, H a = some o → ¬ G.pool a → v = .ref a → mutP p = true → H' a = some o ∧ ¬ G'.pool a) : RepR K fa G' H' p v := by
  cases m : mutP p with
  | false => exact (hm.rep (h.im m)).im m
  | true =>
    obtain ⟨a, o, e, q, n, c⟩ := h.cont m
    obtain ⟨h1, h2⟩ := hs a o q n e m
    subst e
    exact (hm.cont c).r h1 h2
end
/-! ### the names' values -/
abbrev Env := List (Option P)
abbrev PQ := P → Prop
abbrev XQ := Nat → List P → Prop
end Fw
/-! Fw: the small syntax and what it asks (wp), over pure values. -/
namespace Fw
open PySem PySem.Spec PyProof.Rows L2

inductive Tg where
  | n (i : Nat) | t (ts : List Tg)
  /-- a place of a pool -/
  | p (i k : Nat)
  deriving Inhabited
/-- built-in functions -/
inductive Bn where
  | len | abs | int | tuple | list | all | any | max | min | gcd | divmod | sorted
  deriving DecidableEq, Inhabited
inductive Ex where
  | var (i : Nat) | rd (i : Nat) | cst (n : Nat) | fnv (n : Nat)
  | non | bl (b : Bool) | int (n : Int) | str (x : Str)
  | bin (op : Operator) (a b : Ex) | neg (a : Ex)
  | cmp (op : CmpOp) (a b : Ex) | chain (op op' : CmpOp) (a b c : Ex)
  | and (es : List Ex) | or (es : List Ex) | not (a : Ex) | ite (t a b : Ex)
  | tup (es : List Ex) | lst (es : List Ex)
  | ix (a b : Ex) | sl (a lo hi : Ex) | no
  | blt (f : Bn) (es : List Ex) | call (f : Nat) (es : List Ex) | callK (f : Nat) (es kes : List Ex) (perm : List Nat)
  | callV (i : Nat) (es : List Ex)
  | isi (a : Ex) (ty : List String)
  | lc (elt : Ex) (tg : Tg) (it : Ex) (ifs : List Ex) (own : List Nat)
  | enum (a : Ex) | zip (a b : Ex) | rng (es : List Ex)
  | dct0 | dct1 (k : Str) (e : Ex)
  | rev (a : Ex) | lsta (a : Ex) (es : List Ex) | tupa (a : Ex) (es : List Ex)
  | callD (f : Nat) (es : List Ex) (d : Int)
  | sset (a : Ex)
  deriving Inhabited
/-- an except clause: it returns a constant; it returns (tag, what the exception keeps) -/
inductive Hd where
  | ret (c : Nat) (e : Ex) | fld (c i : Nat) (tag : Str)
  deriving Inhabited
inductive Sx where
  | ret (e : Ex) | retN | asg (t : Tg) (e : Ex) | own (i : Nat) (e : Ex) | par (is : List (Nat × Bool)) (es : List Ex) | retP (e : Ex) | never
  | expr (e : Ex) | ite (t : Ex) (a b : List Sx) | for_ (t : Tg) (it : Ex) (b : List Sx) | whl (t : Ex) (b : List Sx)
  | pass | brk | cnt | raise (c : Nat) (es : List Ex)
  | app (i : Nat) (e : Ex) | frz (i : Nat) | seti (i : Nat) (k e : Ex)
  | setd (i : Nat) (k e : Ex) | ext (i : Nat) (e : Ex)
  | try_ (b : List Sx) (hs : List Hd)
  deriving Inhabited

abbrev Spec := List P → PQ → XQ → Prop
structure Tab where
  /-- the defs' specs, names -/
  fn : Nat → Spec
  nm : Nat → Str
  /-- the number of parameters -/
  np : Nat → Nat
  /-- how many of them may be called -/
  nf : Nat
  /-- constants of the module: name, value -/
  cn : Nat → Str
  cv : Nat → P
  /-- exception classes: name; is the first one below the second one? -/
  xn : Nat → Str
  xs : Nat → Nat → Option Bool

/-! ### operations on values -/
def truth : P → Option Bool
  | .non => some false
  | .bl b => some b
  | .int i => some (i != 0)
  | .str x => if x.length ≤ sizeLine then some (x.length != 0) else none
  | .tup xs => some (!xs.isEmpty)
  | .lst xs => some (!xs.isEmpty)
  | .dct ks _ => some (!ks.isEmpty)
  | _ => none
def tru (p : P) (Q : Bool → Prop) : Prop := ∃ b, truth p = some b ∧ Q b
def elems : P → Option (List P)
  | .tup xs => some xs
  | .lst xs => some xs
  | .str x => some (x.cps.toList.map fun c => .str ⟨#[c]⟩)
  | _ => none
def isStr : P → Bool
  | .str _ => true
  | _ => false
/-- a whole number that the machine reckons with at once -/
def Bt (k : Nat) (n : Int) : Prop := n.natAbs < 2 ^ k
def addP : P → P → PQ → Prop
  | .int i, .int j, Q => Q (.int (i + j))
  | .str a, .str b, Q => a.length + b.length ≤ sizeLine ∧ Q (.str (a ++ b))
  | .lst xs, .lst ys, Q => xs.length + ys.length ≤ sizeLine ∧ Q (.lst (xs ++ ys))
  | .tup xs, .tup ys, Q => xs.length + ys.length ≤ sizeLine ∧ Q (.tup (xs ++ ys))
  | _, _, _ => False
def subP : P → P → PQ → Prop
  | .int i, .int j, Q => Q (.int (i - j))
  | _, _, _ => False
def repL (xs : List P) (k : Int) : List P := (List.replicate k.toNat xs).flatten
def mulP : P → P → PQ → Prop
  | .int i, .int j, Q => ((Bt 64 i ∨ Bt 64 j) ∨ (Bt 8000 i ∧ Bt 8000 j)) ∧ Q (.int (i * j))
  | .lst xs, .int k, Q => (k < 1000000 ∧ -1000000 < k) ∧ xs.length * k.toNat ≤ sizeLine ∧ Q (.lst (repL xs k))
  | .tup xs, .int k, Q => (xs ≠ [] ∧ 0 ≤ k ∧ k ≤ 1000 ∧ xs.length ≤ 1000) ∧ Q (.tup (repL xs k))
  | _, _, _ => False
def fdivP : P → P → PQ → Prop
  | .int i, .int j, Q => (j ≠ 0 ∧ Bt 8000 j) ∧ Q (.int (i.fdiv j))
  | _, _, _ => False
def modP : P → P → PQ → Prop
  | .int i, .int j, Q => j ≠ 0 ∧ Q (.int (i.fmod j))
  | _, _, _ => False
def powP : P → P → PQ → Prop
  | .int i, .int j, Q => (0 ≤ j ∧ j ≤ 1000000 ∧ i.natAbs < 2 ^ 64) ∧ Q (.int (i ^ j.toNat))
  | _, _, _ => False
def opP : Operator → P → P → PQ → Prop
  | .Add => addP | .Sub => subP | .Mult => mulP | .FloorDiv => fdivP | .Mod => modP | .Pow => powP
  | _ => fun _ _ _ => False
def negP : P → PQ → Prop
  | .int i, Q => Q (.int (-i))
  | _, _ => False
/-! == of values; data: no def, no pool, no dict within -/
mutual
def toD : P → PyData
  | .non => .none
  | .bl b => .bool b
  | .int i => .int i
  | .str x => .str x
  | .tup xs => .tuple (toDs xs)
  | .lst xs => .list (toDs xs)
  | _ => .dict []
def toDs : List P → List PyData
  | [] => []
  | x :: r => toD x :: toDs r
end
def data (p : P) : Bool := SeqAt.shaped (toD p)
def pyEq (p q : P) : Bool := PyData.eqv (toD p) (toD q)
def ltP : P → P → PQ → Prop
  | .int i, .int j, Q => Q (.bl (decide (i < j)))
  | _, _, _ => False
def leP : P → P → PQ → Prop
  | .int i, .int j, Q => Q (.bl (decide (i ≤ j)))
  | _, _, _ => False
def isNonP : P → Bool
  | .non => true
  | _ => false
/-- x in y -/
def inP (neg : Bool) : P → P → PQ → Prop
  | x, .lst ys, Q => data x = true ∧ data (.lst ys) = true ∧ Q (.bl (if neg then !(ys.any fun y => pyEq y x) else ys.any fun y => pyEq y x))
  | x, .tup ys, Q => data x = true ∧ data (.tup ys) = true ∧ Q (.bl (if neg then !(ys.any fun y => pyEq y x) else ys.any fun y => pyEq y x))
  | _, _, _ => False
def cmpP : CmpOp → P → P → PQ → Prop
  | .Eq, a, b, Q => data a = true ∧ data b = true ∧ Q (.bl (pyEq a b))
  | .NotEq, a, b, Q => data a = true ∧ data b = true ∧ Q (.bl (!pyEq a b))
  | .Lt, a, b, Q => ltP a b Q
  | .LtE, a, b, Q => leP a b Q
  | .Gt, a, b, Q => ltP b a Q
  | .GtE, a, b, Q => leP b a Q
  | .Is, a, .non, Q => Q (.bl (isNonP a))
  | .IsNot, a, .non, Q => Q (.bl (!isNonP a))
  | .Is, .bl a, .bl b, Q => Q (.bl (a == b))
  | .IsNot, .bl a, .bl b, Q => Q (.bl (!(a == b)))
  | .In, a, b, Q => inP false a b Q
  | .NotIn, a, b, Q => inP true a b Q
  | _, _, _, _ => False
def ixP : P → P → PQ → Prop
  | .scr ns, .int i, Q => ∃ n, atI ns i = some n ∧ Q (.int n)
  | .pool, .int i, Q => (0 ≤ i ∧ i < 3) ∧ ∀ x, PoolIn i.toNat x → Q (.int x)
  | .tup xs, .int i, Q => ∃ p, atI xs i = some p ∧ Q p
  | .lst xs, .int i, Q => ∃ p, atI xs i = some p ∧ Q p
  | _, _, _ => False
def cutP (xs : List P) (lo hi : Option Int) : List P := (xs.drop (HT.sIx xs.length 0 lo)).take (HT.sIx xs.length xs.length hi - HT.sIx xs.length 0 lo)
def isNo : Ex → Bool
  | .no => true
  | _ => false
def partP (no : Bool) : P → Option (Option Int)
  | .int i => if no = true then none else some (some i)
  | .non => if no = true then some none else none
  | _ => none
def slP : P → Option Int → Option Int → PQ → Prop
  | .scr ns, lo, hi, Q => Q (.lst (cutP (ns.map P.int) lo hi))
  | .tup xs, lo, hi, Q => Q (.tup (cutP xs lo hi))
  | .lst xs, lo, hi, Q => Q (.lst (cutP xs lo hi))
  | _, _, _, _ => False
def revP : P → PQ → Prop
  | .scr ns, Q => Q (.lst (ns.map P.int).reverse)
  | .tup xs, Q => Q (.tup xs.reverse)
  | .lst xs, Q => Q (.lst xs.reverse)
  | _, _ => False
def lenP : P → Option Nat
  | .scr ns => some ns.length
  | .tup xs => some xs.length
  | .lst xs => some xs.length
  | .dct ks _ => some ks.length
  | _ => none
def allB : List P → Option Bool
  | [] => some true
  | .bl b :: r => (allB r).map fun c => b && c
  | _ => none
def anyB : List P → Option Bool
  | [] => some false
  | .bl b :: r => (anyB r).map fun c => b || c
  | _ => none
def keyP : Key → P
  | .inl n => .int n
  | .inr x => .str x
/-- d[k] = p -/
def hasK (ks : List Key) (k : Key) : Bool := ks.any fun k' => decide (k' = k)
def putP (ks : List Key) (ps : List P) (k : Key) (p : P) : P := if hasK ks k = true then .dct ks (List.zipWith (fun k' q => if k' = k then p else q) ks ps) else .dct (ks ++ [k]) (ps ++ [p])
def rowP (r : Int × P) : P := .tup [.int r.1, r.2]
def bltP : Bn → List P → PQ → Prop
  | .len, [p], Q => ∃ n : Nat, lenP p = some n ∧ Q (.int n)
  | .abs, [.int i], Q => Q (.int (if i < 0 then -i else i))
  | .int, [.int i], Q => Q (.int i)
  | .tuple, [.lst xs], Q => Q (.tup xs)
  | .tuple, [.tup xs], Q => Q (.tup xs)
  | .list, [.lst xs], Q => Q (.lst xs)
  | .list, [.tup xs], Q => Q (.lst xs)
  | .list, [.dct ks _], Q => Q (.lst (ks.map keyP))
  | .all, [.lst xs], Q => ∃ b, allB xs = some b ∧ Q (.bl b)
  | .any, [.lst xs], Q => ∃ b, anyB xs = some b ∧ Q (.bl b)
  | .gcd, [.int i, .int j], Q => Q (.int ((Nat.gcd i.natAbs j.natAbs : Nat) : Int))
  | .max, [.int i, .int j], Q => Q (.int (if j > i then j else i))
  | .min, [.int i, .int j], Q => Q (.int (if j < i then j else i))
  | .int, [.bl b], Q => Q (.int (if b = true then 1 else 0))
  | .sorted, [.lst xs], Q => (∃ ns : List Int, xs = ns.map P.int ∧ ∀ ms : List Int, ms.Perm ns → ms.Pairwise (· ≤ ·) → Q (.lst (ms.map P.int))) ∨
      ∃ rs : List (Int × P), xs = rs.map rowP ∧ (rs.map Prod.fst).Nodup ∧ ∀ ss : List (Int × P), ss.Perm rs → ss.Pairwise (fun x y => x.1 ≤ y.1) → Q (.lst (ss.map rowP))
  | .divmod, [.int i, .int j], Q => (0 < j ∧ Bt 8000 j) ∧ Q (.tup [.int (i / j), .int (i % j)])
  | _, _, _ => False
/-- isinstance of a value and a built-in class -/
def isiP : P → String → Option Bool
  | .non, t => some false
  | .bl _, t => some (t == "bool" || t == "int")
  | .int _, t => some (t == "int")
  | .str _, t => some (t == "str")
  | .tup _, t => some (t == "tuple")
  | .lst _, t => some (t == "list")
  | .dct _ _, t => some (t == "dict")
  | _, _ => none
def isiAny (p : P) : List String → Option Bool
  | [] => some false
  | t :: r => match isiP p t with
    | some true => some true
    | some false => isiAny p r
    | none => none
def enumFrom (k : Nat) : List P → List P
  | [] => []
  | x :: r => .tup [.int k, x] :: enumFrom (k + 1) r
def zipP : List P → List P → List P
  | x :: r, y :: t => .tup [x, y] :: zipP r t
  | _, _ => []
def rangeP (lo hi : Int) : List P := (List.range (hi - lo).toNat).map fun (k : Nat) => .int (lo + (k : Int))
def Sm62 (i : Int) : Prop := -(2 ^ 62) ≤ i ∧ i < 2 ^ 62
def rngP : List P → PQ → Prop
  | [.int j], Q => Sm62 j ∧ Q (.lst (rangeP 0 j))
  | [.int i, .int j], Q => (Sm62 i ∧ Sm62 j) ∧ Q (.lst (rangeP i j))
  | [.int i, .int j, .int c], Q => ∃ n : Nat, RgC i j c n ∧ Q (.lst ((List.range n).map fun (k : Nat) => .int (i + (k : Int) * c)))
  | _, _ => False

/-! ### targets -/
mutual
def bindT : Tg → P → Env → (Env → Prop) → Prop
  | .n i, p, env, k => k (env.set i (some p))
  | .t ts, p, env, k => ∃ xs, p = .tup xs ∧ xs.length = ts.length ∧ bindTs ts xs env k
  | .p i j, p, env, k => ∃ x, p = .int x ∧ env[i]? = some (some .pool) ∧ j < 3 ∧ PoolIn j x ∧ k env
def bindTs : List Tg → List P → Env → (Env → Prop) → Prop
  | [], xs, env, k => xs = [] ∧ k env
  | t :: ts, xs, env, k => ∃ x r, xs = x :: r ∧ bindT t x env fun env' => bindTs ts r env' k
end
def wipeE (env : Env) : List Nat → Env
  | [] => env
  | i :: r => (wipeE env r).set i none
def lcGo (step : P → List P → (List P → Prop) → Prop) : List P → List P → (List P → Prop) → Prop
  | [], acc, k => k acc
  | x :: r, acc, k => step x acc fun acc' => lcGo step r acc' k
def forGo (step : P → Env → (Env → Prop) → Prop) : List P → Env → (Env → Prop) → Prop
  | [], env, k => k env
  | x :: r, env, k => step x env fun env' => forGo step r env' k
def NoX : XQ := fun _ _ => False

section
variable (T : Tab)
mutual
def wpE : Ex → Env → PQ → XQ → Prop
  | .var i, env, Q, _ => ∃ p, env[i]? = some (some p) ∧ Q p
  | .rd i, env, Q, _ => ∃ p, env[i]? = some (some p) ∧ Q p
  | .cst n, _, Q, _ => Q (T.cv n)
  | .fnv n, _, Q, _ => Q (.fn n)
  | .non, _, Q, _ => Q .non
  | .bl b, _, Q, _ => Q (.bl b)
  | .int n, _, Q, _ => Q (.int n)
  | .str x, _, Q, _ => Q (.str x)
  | .bin op a b, env, Q, E => wpE a env (fun p => wpE b env (fun q => opP op p q Q) E) E
  | .neg a, env, Q, E => wpE a env (fun p => negP p Q) E
  | .cmp op a b, env, Q, E => wpE a env (fun p => wpE b env (fun q => cmpP op p q Q) E) E
  | .chain op op' a b c, env, Q, E => wpE a env (fun p => wpE b env (fun q => cmpP op p q fun r => ∃ k, r = .bl k ∧ if k = true then wpE c env (fun s => cmpP op' q s Q) E else Q (.bl false)) E) E
  | .and es, env, Q, E => wpAnd es env Q E
  | .or es, env, Q, E => wpOr es env Q E
  | .not a, env, Q, E => wpE a env (fun p => tru p fun b => Q (.bl (!b))) E
  | .ite t a b, env, Q, E => wpE t env (fun p => tru p fun c => if c = true then wpE a env Q E else wpE b env Q E) E
  | .tup es, env, Q, E => wpEs es env (fun ps => Q (.tup ps)) E
  | .lst es, env, Q, E => wpEs es env (fun ps => Q (.lst ps)) E
  | .ix a b, env, Q, E => wpE a env (fun p => wpE b env (fun q => ixP p q Q) E) E
  | .sl a lo hi, env, Q, E => wpE a env (fun p => wpE lo env (fun l => ∃ l', partP (isNo lo) l = some l' ∧ wpE hi env (fun h => ∃ h', partP (isNo hi) h = some h' ∧ slP p l' h' Q) E) E) E
  | .no, _, Q, _ => Q .non
  | .blt f es, env, Q, E => wpEs es env (fun ps => bltP f ps Q) E
  | .call f es, env, Q, E => wpEs es env (fun ps => T.fn f ps Q E) E
  | .callK f es kes perm, env, Q, E => wpEs es env (fun ps => wpEs kes env (fun qs => T.fn f (perm.map fun i => (ps ++ qs).getD i .non) Q E) E) E
  | .callV i es, env, Q, E => ∃ f, env[i]? = some (some (.fn f)) ∧ f < T.nf ∧ es.length = T.np f ∧ wpEs es env (fun ps => T.fn f ps Q E) E
  | .isi a ty, env, Q, E => wpE a env (fun p => ∃ b, isiAny p ty = some b ∧ Q (.bl b)) E
  | .lc elt tg it ifs own, env, Q, E => wpE it env (fun p => ∃ xs, elems p = some xs ∧ xs.length ≤ sizeLine ∧
      lcGo (fun x acc k => bindT tg x (wipeE env own) fun env' => wpIfs ifs env' (fun b => if b = true then wpE elt env' (fun y => k (acc ++ [y])) NoX else k acc) NoX) xs [] fun ys => Q (.lst ys)) E
  | .enum a, env, Q, E => wpE a env (fun p => ∃ xs, (p = .lst xs ∨ p = .tup xs) ∧ Q (.lst (enumFrom 0 xs))) E
  | .zip a b, env, Q, E => wpE a env (fun p => wpE b env (fun q => ∃ xs ys, (p = .lst xs ∧ q = .lst ys ∨ p = .tup xs ∧ q = .tup ys ∨ p = .lst xs ∧ q = .tup ys ∨ p = .tup xs ∧ q = .lst ys) ∧ Q (.lst (zipP xs ys))) E) E
  | .rng es, env, Q, E => wpEs es env (fun ps => rngP ps Q) E
  | .dct0, _, Q, _ => Q (.dct [] [])
  | .dct1 k e, env, Q, E => wpE e env (fun p => Q (.dct [.inr k] [p])) E
  | .callD f es d, env, Q, E => wpEs es env (fun ps => T.fn f (ps ++ [.int d]) Q E) E
  | .rev a, env, Q, E => wpE a env (fun p => revP p Q) E
  | .sset a, env, Q, E => wpE a env (fun p => ∃ ns : List Int, p = .lst (ns.map P.int) ∧ ns.length < 60 ∧ ∀ ms : List Int, ms.Pairwise (· < ·) → (∀ k, k ∈ ms ↔ k ∈ ns) → Q (.lst (ms.map P.int))) E
  | .lsta a es, env, Q, E => wpE a env (fun p => ∃ xs, elems p = some xs ∧ isStr p = false ∧ wpEs es env (fun ps => xs.length + ps.length ≤ sizeLine ∧ Q (.lst (xs ++ ps))) E) E
  | .tupa a es, env, Q, E => wpE a env (fun p => ∃ xs, elems p = some xs ∧ isStr p = false ∧ wpEs es env (fun ps => xs.length + ps.length ≤ sizeLine ∧ Q (.tup (xs ++ ps))) E) E
def wpEs : List Ex → Env → (List P → Prop) → XQ → Prop
  | [], _, Q, _ => Q []
  | e :: es, env, Q, E => wpE e env (fun p => wpEs es env (fun ps => Q (p :: ps)) E) E
def wpAnd : List Ex → Env → PQ → XQ → Prop
  | [], _, _, _ => False
  | e :: es, env, Q, E => if es.isEmpty = true then wpE e env Q E else wpE e env (fun p => tru p fun b => if b = true then wpAnd es env Q E else Q p) E
def wpOr : List Ex → Env → PQ → XQ → Prop
  | [], _, _, _ => False
  | e :: es, env, Q, E => if es.isEmpty = true then wpE e env Q E else wpE e env (fun p => tru p fun b => if b = true then Q p else wpOr es env Q E) E
def wpIfs : List Ex → Env → (Bool → Prop) → XQ → Prop
  | [], _, Q, _ => Q true
  | e :: es, env, Q, E => wpE e env (fun p => tru p Q) E
end

def setAll (env : Env) : List (Nat × Bool) → List P → Env
  | (i, _) :: is, p :: ps => setAll (env.set i (some p)) is ps
  | _, _ => env
/-- what is wanted behind a statement -/
structure Ds where
  nx : Env → Prop
  rt : PQ
  bk : Env → Prop
  ct : Env → Prop
  ex : XQ
mutual
def cval : Ex → Option P
  | .non => some .non
  | .bl b => some (.bl b)
  | .int n => some (.int n)
  | .str x => some (.str x)
  | .tup es => (cvals es).map P.tup
  | _ => none
def cvals : List Ex → Option (List P)
  | [] => some []
  | e :: es => match cval e, cvals es with
    | some p, some ps => some (p :: ps)
    | _, _ => none
end
/-- the except clauses, one after the other -/
def hdP (D : Ds) (c : Nat) (ps : List P) : List Hd → Prop
  | [] => D.ex c ps
  | .ret c' e :: r => ∃ b, T.xs c c' = some b ∧ if b = true then ∃ p, cval e = some p ∧ D.rt p else hdP D c ps r
  | .fld c' _ tag :: r => ∃ b, T.xs c c' = some b ∧ if b = true then ∃ p, ps = [p] ∧ D.rt (.tup [.str tag, p]) else hdP D c ps r
mutual
def wpS : Sx → Env → Ds → Prop
  | .ret e, env, D => wpE T e env D.rt D.ex
  | .retN, _, D => D.rt .non
  | .asg t e, env, D => wpE T e env (fun p => bindT t p env D.nx) D.ex
  | .own i e, env, D => wpE T e env (fun p => D.nx (env.set i (some p))) D.ex
  | .par is es, env, D => wpEs T es env (fun ps => D.nx (setAll env is ps)) D.ex
  | .retP e, env, D => wpE T e env (fun p => ∃ x y z, p = .lst [.int x, .int y, .int z] ∧ PoolIn 0 x ∧ PoolIn 1 y ∧ PoolIn 2 z ∧ D.rt .pool) D.ex
  | .never, _, _ => False
  | .expr e, env, D => wpE T e env (fun _ => D.nx env) D.ex
  | .ite t a b, env, D => wpE T t env (fun p => tru p fun c => if c = true then wpSs a env D else wpSs b env D) D.ex
  | .for_ t it b, env, D => wpE T it env (fun p => ∃ xs, elems p = some xs ∧
      forGo (fun x env k => bindT t x env fun env' => wpSs b env' { D with nx := k, ct := k, bk := D.nx }) xs env D.nx) D.ex
  | .whl t b, env, D => ∃ W : Nat → Env → Prop, (∃ m, W m env) ∧ ∀ m env, W m env →
      wpE T t env (fun p => tru p fun c => if c = true then wpSs b env { D with nx := fun e => ∃ m', m' < m ∧ W m' e, ct := fun e => ∃ m', m' < m ∧ W m' e, bk := D.nx } else D.nx env) D.ex
  | .pass, env, D => D.nx env
  | .brk, env, D => D.bk env
  | .cnt, env, D => D.ct env
  | .raise c es, env, D => wpEs T es env (fun ps => D.ex c ps) D.ex
  | .app i e, env, D => ∃ xs, env[i]? = some (some (.lst xs)) ∧ wpE T e env (fun p => xs.length < sizeLine ∧ D.nx (env.set i (some (.lst (xs ++ [p]))))) D.ex
  | .frz _, env, D => D.nx env
  | .seti i k e, env, D => wpE T e env (fun p => ∃ xs, env[i]? = some (some (.lst xs)) ∧ wpE T k env (fun q => ∃ n j, q = .int n ∧ ixN xs.length n = some j ∧ D.nx (env.set i (some (.lst (xs.set j p))))) D.ex) D.ex
  | .setd i k e, env, D => wpE T e env (fun p => ∃ ks ps, env[i]? = some (some (.dct ks ps)) ∧ ks.length < sizeLine ∧ wpE T k env (fun q => ∃ key, q = keyP key ∧ D.nx (env.set i (some (putP ks ps key p)))) D.ex) D.ex
  | .ext i e, env, D => ∃ xs, env[i]? = some (some (.lst xs)) ∧ wpE T e env (fun p => ∃ ys, p = .lst ys ∧ xs.length + ys.length ≤ sizeLine ∧ D.nx (env.set i (some (.lst (xs ++ ys))))) D.ex
  | .try_ b hs, env, D => wpSs b env { D with ex := fun c ps => hdP T D c ps hs }
def wpSs : List Sx → Env → Ds → Prop
  | [], env, D => D.nx env
  | s :: r, env, D => wpS s env { D with nx := fun env' => wpSs r env' D }
end
end

def env0 (n : Nat) (ps : List P) : Env := ps.map some ++ List.replicate (n - ps.length) none
def Ds.fn (Q : PQ) (E : XQ) : Ds := ⟨fun _ => Q .non, Q, fun _ => False, fun _ => False, E⟩
/-- the body of a def keeps a spec; np parameters, n names -/
structure BodyOk (T : Tab) (np n : Nat) (body : List Sx) (sp : Spec) : Prop where
  len : ∀ ps Q E, sp ps Q E → ps.length = np
  run : ∀ ps Q E, sp ps Q E → wpSs T body (env0 n ps) (Ds.fn Q E)
end Fw
/-! Fw: each operation on values does what opP, cmpP .. say. -/
namespace Fw
open PySem PySem.Spec PyProof.Rows L2

def Kt (K : PySem.W.Frag) (fa : Nat → Addr) (G : Gh) (H : Hp) (Qp : PQ) (Q : VK) : Prop :=
  ∀ v p H' G', Xt G H G' H' → Good G' H' → Rep K fa G' H' p v → Qp p → Q v H'
def rP (K : PySem.W.Frag) (fa : Nat → Addr) (o : P → P → PQ → Prop) : R2 := fun x y H Q =>
  ∃ G p q Qp, Good G H ∧ RepR K fa G H p x ∧ RepR K fa G H q y ∧ o p q Qp ∧ Kt K fa G H Qp Q
def rUP (K : PySem.W.Frag) (fa : Nat → Addr) (o : P → PQ → Prop) : V → Hp → VK → Prop := fun x H Q =>
  ∃ G p Qp, Good G H ∧ RepR K fa G H p x ∧ o p Qp ∧ Kt K fa G H Qp Q
/-- arguments that are only read -/
def RepsR (K : PySem.W.Frag) (fa : Nat → Addr) (G : Gh) (H : Hp) : List P → List V → Prop
  | [], vs => vs = []
  | p :: ps, vs => ∃ v r, vs = v :: r ∧ RepR K fa G H p v ∧ RepsR K fa G H ps r
def rCP (K : PySem.W.Frag) (fa : Nat → Addr) (o : List P → PQ → Prop) : List V → Hp → VK → Prop := fun xs H Q =>
  ∃ G ps Qp, Good G H ∧ RepsR K fa G H ps xs ∧ o ps Qp ∧ Kt K fa G H Qp Q

section
variable {K : PySem.W.Frag} {fa : Nat → Addr} {G G' : Gh} {H H' : Hp} {Qp : PQ} {Q : VK}
theorem Kt.now (k : Kt K fa G H Qp Q) (g : Good G H) {v : V} {p : P} (r : Rep K fa G H p v) (q : Qp p) : Q v H := k v p H G Xt.refl g r q
theorem Kt.newT (k : Kt K fa G H Qp Q) (g : Good G H) {a : Addr} {vs : List V} {ps : List P} (ha : H a = none) (r : Reps K fa G H ps vs) (q : Qp (.tup ps)) : Q (.ref a) (upd H a (.tup vs)) :=
  k _ _ _ G (Xt.new0 ha _) (g.new0 ha _) (show Rep K fa G (upd H a (.tup vs)) (.tup ps) (.ref a) from ⟨a, vs, rfl, SqT.of upd_same, ((Xt.new0 ha _).mo g).reps r⟩) q
theorem Kt.newL (k : Kt K fa G H Qp Q) (g : Good G H) {a : Addr} {vs : List V} {ps : List P} (ha : H a = none) (r : Reps K fa G H ps vs) (q : Qp (.lst ps)) : Q (.ref a) (upd H a (.lst vs)) :=
  k _ _ _ _ (Xt.newI g ha _) (g.newI ha _) (show Rep K fa (G.addI a) (upd H a (.lst vs)) (.lst ps) (.ref a) from ⟨a, vs, rfl, upd_same, .inl rfl, ((Xt.newI g ha _).mo g).reps r⟩) q
theorem Kt.mono (k : Kt K fa G H Qp Q) (x : Xt G H G' H') : Kt K fa G' H' Qp Q := fun v p H2 G2 x2 g r q => k v p H2 G2 (x.trans x2) g r q
theorem repR_tup {xs : List P} {v : V} (h : RepR K fa G H (.tup xs) v) : ∃ a vs, v = .ref a ∧ SqT K H a vs ∧ Reps K fa G H xs vs := h
theorem repR_lst {xs : List P} {v : V} (h : RepR K fa G H (.lst xs) v) : ∃ a vs, v = .ref a ∧ H a = some (.lst vs) ∧ Reps K fa G H xs vs := by
  obtain ⟨a, vs, e, h1, _, h2⟩ := h
  exact ⟨a, vs, e, h1, h2⟩
theorem Reps.nil_iff {ps : List P} {vs : List V} (r : Reps K fa G H ps vs) : vs = [] ↔ ps = [] := by
  have h := r.length
  constructor
  · intro e; rw [e] at h; exact List.length_eq_zero_iff.mp h.symm
  · intro e; rw [e] at h; exact List.length_eq_zero_iff.mp h
end

theorem Bt.mulOk {i j : Int} (h : (Bt 64 i ∨ Bt 64 j) ∨ (Bt 8000 i ∧ Bt 8000 j)) : IntMulOk i j := by
  have b64 : ∀ {k : Int}, Bt 64 k → -(2 ^ 64) < k ∧ k < 2 ^ 64 := fun {k} h => by
    have h' : k.natAbs < 2 ^ 64 := h
    omega
  rcases h with (h | h) | h
  · exact CMul.ok (.inl (b64 h))
  · exact CMul.ok (.inr (b64 h))
  · exact CMulX.ok (mulx_ok h.1 h.2 (by decide))
theorem op_mulAny {X : Cx} : OpR X (binaryOp .Mult) (rI IntMulOk fun i j => .int (i * j)) := opI fun _ _ _ _ _ _ _ hc q => mul_int q hc
section
variable {X : Cx} {fa : Nat → Addr}
theorem op_addP : OpR X (binaryOp .Add) (rP X.K fa addP) := by
  intro pins s σ H x y v u Q I rx ry ⟨G, p, q, Qp, g, rp, rq, ho, k⟩
  cases p <;> try exact False.elim ho
  all_goals (cases q <;> try exact False.elim ho)
  · rename_i i j
    obtain rfl : x = .int i := rp
    obtain rfl : y = .int j := rq
    exact op_add pins s σ H _ _ v u Q I rx ry ⟨i, j, rfl, rfl, k.now (p := .int (i + j)) g rfl ho⟩
  · rename_i i j
    obtain rfl : x = .str i := rp
    obtain rfl : y = .str j := rq
    exact op_add_str pins s σ H _ _ v u Q I rx ry ⟨i, j, rfl, rfl, ho.1, k.now (p := .str (i ++ j)) g rfl ho.2⟩
  · obtain ⟨a, vs, rfl, ha, ra⟩ := repR_tup rp
    obtain ⟨b, ws, rfl, hb, rb⟩ := repR_tup rq
    refine op_catA pins s σ H _ _ v u Q I rx ry ⟨a, b, vs, ws, rfl, rfl, ha, hb, by rw [ra.length, rb.length]; exact ho.1, fun e => ?_, fun e1 e2 => ?_, fun _ _ p hp => ?_⟩
    · have z := ra.nil_iff.mp e
      subst z
      exact k.now (p := .tup _) g ⟨b, ws, rfl, hb, rb⟩ (by simpa using ho.2)
    · have z := rb.nil_iff.mp e2
      subst z
      exact k.now (p := .tup _) g ⟨a, vs, rfl, ha, ra⟩ (by simpa using ho.2)
    · exact k.newT g hp (ra.append rb) ho.2
  · obtain ⟨a, vs, rfl, ha, ra⟩ := repR_lst rp
    obtain ⟨b, ws, rfl, hb, rb⟩ := repR_lst rq
    exact op_cat pins s σ H _ _ v u Q I rx ry ⟨a, b, vs, ws, rfl, rfl, ha, hb, by rw [ra.length, rb.length]; exact ho.1, fun p hp => k.newL g hp (ra.append rb) ho.2⟩
theorem op_subP : OpR X (binaryOp .Sub) (rP X.K fa subP) := by
  intro pins s σ H x y v u Q I rx ry ⟨G, p, q, Qp, g, rp, rq, ho, k⟩
  cases p <;> try exact False.elim ho
  all_goals (cases q <;> try exact False.elim ho)
  rename_i i j
  obtain rfl : x = .int i := rp
  obtain rfl : y = .int j := rq
  exact op_sub pins s σ H _ _ v u Q I rx ry ⟨i, j, rfl, rfl, k.now (p := .int (i - j)) g rfl ho⟩
theorem op_modP : OpR X (binaryOp .Mod) (rP X.K fa modP) := by
  intro pins s σ H x y v u Q I rx ry ⟨G, p, q, Qp, g, rp, rq, ho, k⟩
  cases p <;> try exact False.elim ho
  all_goals (cases q <;> try exact False.elim ho)
  rename_i i j
  obtain rfl : x = .int i := rp
  obtain rfl : y = .int j := rq
  exact op_modN pins s σ H _ _ v u Q I rx ry ⟨i, j, rfl, rfl, ho.1, k.now (p := .int (i.fmod j)) g rfl ho.2⟩
theorem op_fdivAny : OpR X (binaryOp .FloorDiv) (rI (fun _ j => j ≠ 0 ∧ j.natAbs.log2 < 9000) fun i j => .int (i.fdiv j)) := opI fun i j _ _ _ _ _ hc q =>
  floordiv_int hc.1 q (.inl (PyProof.noPylong_of_log2 hc.2))
theorem op_fdivP : OpR X (binaryOp .FloorDiv) (rP X.K fa fdivP) := by
  intro pins s σ H x y v u Q I rx ry ⟨G, p, q, Qp, g, rp, rq, ho, k⟩
  cases p <;> try exact False.elim ho
  all_goals (cases q <;> try exact False.elim ho)
  rename_i i j
  obtain rfl : x = .int i := rp
  obtain rfl : y = .int j := rq
  exact op_fdivAny pins s σ H _ _ v u Q I rx ry ⟨i, j, rfl, rfl, ⟨ho.1.1, Nat.lt_trans (PySem.Flt.log2_lt_of (by decide) ho.1.2) (by decide)⟩, k.now (p := .int (i.fdiv j)) g rfl ho.2⟩
theorem op_powP : OpR X (binaryOp .Pow) (rP X.K fa powP) := by
  intro pins s σ H x y v u Q I rx ry ⟨G, p, q, Qp, g, rp, rq, ho, k⟩
  cases p <;> try exact False.elim ho
  all_goals (cases q <;> try exact False.elim ho)
  rename_i i j
  obtain rfl : x = .int i := rp
  obtain rfl : y = .int j := rq
  exact op_pow pins s σ H _ _ v u Q I rx ry ⟨i, j, rfl, rfl, ho.1, k.now (p := .int (i ^ j.toNat)) g rfl ho.2⟩
theorem tuple_mulOne (l : Addr) (items : Array Value) (n : Nat) (dd : Option Addr) (sl : Array (Option Value)) (u : Tok) :
    Meets (Builtin.«tuple.__mul__» ⟨[.ref l, .int 1 u], []⟩) (fun _ R s => s.heap.get? l = some { cls := .type "tuple", dict := dd, data := .seq items n, slots := sl } ∧ R (.ok (.ret (Value.ref l))) s) :=
  .of_wp fun prog w A R s h => by
    obtain ⟨hp, g, d, tk, os⟩ := s
    obtain ⟨hl, h⟩ := h
    have f1 := AutoSeq1.idx_int
    have c0 : (decide ((1 : Int) < -(2 ^ 63)) || decide ((1 : Int) ≥ 2 ^ 63)) = false := by decide
    have c1 : (items.isEmpty || (1 : Int) == 1) = true := by simp
    wp_walk using wpAny_loadPart' hl
    repeat (first
      | (refine wpAny_ite_false (decide_eq_false (by rw [c0]; exact Bool.false_ne_true)) ?_; wp_walk using wpAny_loadPart' hl)
      | (refine wpAny_ite_true (decide_eq_true c1) ?_; wp_walk using wpAny_loadPart' hl))
    exact ⟨_, rfl, h⟩
def rRepT1 (K : PySem.W.Frag) : R2 := fun x y H Q => ∃ l xs, x = .ref l ∧ y = .int 1 ∧ SqT K H l xs ∧ Q (.ref l) H
theorem op_repT1 : OpR X (binaryOp .Mult) (rRepT1 X.K) := by
  intro pins s σ H x y v u Q I rx ry h
  obtain ⟨l, xs, rfl, rfl, hT, q⟩ := h
  cases rx
  obtain ⟨t, rfl⟩ := ry
  obtain ⟨its, r, ⟨⟨cls, dd, data, sl⟩, ho, hc, n, hd⟩, hs⟩ := I.tuple hT
  simp only at hc hd
  subst hc hd
  refine wpAny_binaryOp_repeat_ref (T := "tuple") (U := "int") (by decide) ⟨_, ho, rfl⟩ (fun s' => typeIs_int s' 1 t) noFill_tuple_mul F.fills_int_mul F.slot_int_rmul repeat_tuple F.slot_int_index.lookup
    (call_meets F.slot_int_rmul (typeIs_int s 1 t) F.entry_int_rmul (F.args_int_rmul_2 _ _) (int_rmul_tuple 1 t l its.toArray n dd sl)
      ⟨ho, rfl, ⟨_, ho, rfl⟩, call_meets F.slot_tuple_mul ⟨_, ho, rfl⟩ F.entry_tuple_mul (F.args_tuple_mul_2 _ _) (tuple_mulOne l its.toArray n dd sl t) ⟨ho, ?_⟩⟩)
  exact ⟨.ref l, H, I, rfl, q⟩
theorem tuple_mulZero (l : Addr) (items : Array Value) (n : Nat) (dd : Option Addr) (sl : Array (Option Value)) (u : Tok) (hi : items.isEmpty = false) :
    Meets (Builtin.«tuple.__mul__» ⟨[.ref l, .int 0 u], []⟩) (fun _ R s => s.heap.get? l = some { cls := .type "tuple", dict := dd, data := .seq items n, slots := sl } ∧
      R (.ok (.ret (Value.ref s.heap.objs.size))) { s with heap := s.heap.push { cls := Value.type "tuple", data := Data.seq #[] }, toks := s.toks }) :=
  .of_wp fun prog w A R s h => by
    obtain ⟨hp, g, d, tk, os⟩ := s
    obtain ⟨hl, h⟩ := h
    have f1 := AutoSeq1.idx_int
    have c0 : (decide ((0 : Int) < -(2 ^ 63)) || decide ((0 : Int) ≥ 2 ^ 63)) = false := by decide
    have c1 : (items.isEmpty || (0 : Int) == 1) = false := by rw [hi]; decide
    have c2 : (decide ((0 : Int) ≤ 0) || items.isEmpty) = true := by simp
    wp_walk using wpAny_loadPart' hl
    repeat (first
      | (refine wpAny_ite_false (decide_eq_false (by rw [c0]; exact Bool.false_ne_true)) ?_; wp_walk using wpAny_loadPart' hl)
      | (refine wpAny_ite_false (decide_eq_false (by rw [c1]; exact Bool.false_ne_true)) ?_; wp_walk using wpAny_loadPart' hl)
      | (refine wpAny_ite_true (decide_eq_true c2) ?_; wp_walk using wpAny_loadPart' hl))
    exact ⟨_, rfl, h⟩
def rRepT0 (K : PySem.W.Frag) : R2 := fun x y H Q => ∃ l xs, x = .ref l ∧ y = .int 0 ∧ SqT K H l xs ∧ xs ≠ [] ∧ ∀ p, H p = none → Q (.ref p) (upd H p (.tup []))
theorem op_repT0 : OpR X (binaryOp .Mult) (rRepT0 X.K) := by
  intro pins s σ H x y v u Q I rx ry h
  obtain ⟨l, xs, rfl, rfl, hT, hne, q⟩ := h
  cases rx
  obtain ⟨t, rfl⟩ := ry
  obtain ⟨its, r, ⟨⟨cls, dd, data, sl⟩, ho, hc, n, hd⟩, hs⟩ := I.tuple hT
  simp only at hc hd
  subst hc hd
  have hi : its.toArray.isEmpty = false := by
    cases its with
    | nil =>
      have hle := r.length
      exact absurd (List.eq_nil_of_length_eq_zero hle) hne
    | cons a b => rfl
  refine wpAny_binaryOp_repeat_ref (T := "tuple") (U := "int") (by decide) ⟨_, ho, rfl⟩ (fun s' => typeIs_int s' 0 t) noFill_tuple_mul F.fills_int_mul F.slot_int_rmul repeat_tuple F.slot_int_index.lookup
    (call_meets F.slot_int_rmul (typeIs_int s 0 t) F.entry_int_rmul (F.args_int_rmul_2 _ _) (int_rmul_tuple 0 t l its.toArray n dd sl)
      ⟨ho, rfl, ⟨_, ho, rfl⟩, call_meets F.slot_tuple_mul ⟨_, ho, rfl⟩ F.entry_tuple_mul (F.args_tuple_mul_2 _ _) (tuple_mulZero l its.toArray n dd sl t hi) ⟨ho, ?_⟩⟩)
  refine ⟨.ref s.heap.objs.size, _, I.laid (t' := s.toks) (o := .tup []) (fun b ob q => Heap.get?_push_of_some _ q) (Nat.le_refl _) ?_, rfl, q _ (I.hok.fresh (Nat.le_refl _))⟩
  exact ⟨Nat.zero_le _, [], .nil, IsTup.new _ _⟩
theorem op_mulP : OpR X (binaryOp .Mult) (rP X.K fa mulP) := by
  intro pins s σ H x y v u Q I rx ry ⟨G, p, q, Qp, g, rp, rq, ho, k⟩
  cases p <;> try exact False.elim ho
  all_goals (cases q <;> try exact False.elim ho)
  · rename_i i j
    obtain rfl : x = .int i := rp
    obtain rfl : y = .int j := rq
    exact op_mulAny pins s σ H _ _ v u Q I rx ry ⟨i, j, rfl, rfl, Bt.mulOk ho.1, k.now (p := .int (i * j)) g rfl ho.2⟩
  · rename_i xs j
    obtain ⟨a, vs, rfl, ha, ra⟩ := repR_tup rp
    obtain rfl : y = .int j := rq
    obtain ⟨⟨h1, h2, h3, h4⟩, ho⟩ := ho
    by_cases e : j = 1
    · subst e
      refine op_repT1 pins s σ H _ _ v u Q I rx ry ⟨a, vs, rfl, rfl, ha, k.now (p := .tup xs) g ⟨a, vs, rfl, ha, ra⟩ ?_⟩
      have z : repL xs 1 = xs := by simp [repL, List.replicate_succ]
      rw [z] at ho
      exact ho
    by_cases e0 : j = 0
    · subst e0
      exact op_repT0 pins s σ H _ _ v u Q I rx ry ⟨a, vs, rfl, rfl, ha, fun z => h1 (ra.nil_iff.mp z), fun p hp => k.newT g hp (ps := []) rfl ho⟩
    · exact op_repT pins s σ H _ _ v u Q I rx ry ⟨a, j, vs, rfl, rfl, ha, fun z => h1 (ra.nil_iff.mp z), by omega, h3, by rw [ra.length]; exact h4, fun p hp => k.newT g hp (ra.rep _) ho⟩
  · rename_i xs j
    obtain ⟨a, vs, rfl, ha, ra⟩ := repR_lst rp
    obtain rfl : y = .int j := rq
    exact op_rep pins s σ H _ _ v u Q I rx ry ⟨a, j, vs, rfl, rfl, ha, by have := ho.1; omega, by have := ho.1; omega, by rw [ra.length]; exact ho.2.1, fun p hp => k.newL g hp (ra.rep _) ho.2.2⟩
theorem op_P (op : Operator) : OpR X (binaryOp op) (rP X.K fa (opP op)) := by
  have no : ∀ op, OpR X (binaryOp op) (rP X.K fa fun _ _ _ => False) := fun op pins s σ H x y v u Q I rx ry ⟨G, p, q, Qp, g, rp, rq, ho, k⟩ => ho.elim
  cases op <;> first | exact op_addP | exact op_subP | exact op_mulP | exact op_fdivP | exact op_modP | exact op_powP | exact no _
theorem un_negP : UnR X (unaryOp .USub) (rUP X.K fa negP) := by
  intro pins s σ H x v Q I rx ⟨G, p, Qp, g, rp, ho, k⟩
  cases p <;> try exact False.elim ho
  rename_i i
  obtain rfl : x = .int i := rp
  exact un_neg pins s σ H _ v Q I rx ⟨i, rfl, k.now (p := .int (-i)) g rfl ho⟩

/-! ### comparisons -/
mutual
theorem Rep.dp {K} {fa : Nat → Addr} {G H} : ∀ {p : P} {v : V}, Rep K fa G H p v → PyData.canLay0 (toD p) = true → Dp K H v (toD p)
  | .non, _, h, _ => by obtain rfl := h; exact .non
  | .bl b, _, h, _ => by obtain rfl := h; exact .bl b
  | .int i, _, h, _ => by obtain rfl := h; exact .int i
  | .str x, _, h, _ => by obtain rfl := h; exact .str x
  | .tup xs, _, ⟨a, vs, e, q, r⟩, d => by
    subst e
    exact .tup q (Reps.dp r (by simpa [toD, PyData.canLay0] using d))
  | .lst xs, _, ⟨a, vs, e, q, i, r⟩, d => by
    subst e
    exact .lst (SqL.of q) (Reps.dp r (by simpa [toD, PyData.canLay0] using d))
  | .dct _ _, _, _, d => by simp [toD, PyData.canLay0] at d
  | .fn _, _, _, d => by simp [toD, PyData.canLay0] at d
  | .pool, _, _, d => by simp [toD, PyData.canLay0] at d
  | .exc _ _, _, _, d => by simp [toD, PyData.canLay0] at d
  | .scr _, _, _, d => by simp [toD, PyData.canLay0] at d
theorem Reps.dp {K} {fa : Nat → Addr} {G H} : ∀ {ps : List P} {vs : List V}, Reps K fa G H ps vs → PyData.canLayAll0 (toDs ps) = true → DpAll K H vs (toDs ps)
  | [], _, h, _ => by rw [show _ = [] from h]; exact .nil
  | x :: xs, _, ⟨v, r, e, h, t⟩, d => by
    subst e
    have d' : PyData.canLay0 (toD x) = true ∧ PyData.canLayAll0 (toDs xs) = true := by simpa [toDs, PyData.canLayAll0] using d
    exact .cons (Rep.dp h d'.1) (Reps.dp t d'.2)
end
theorem data_lay {p : P} (h : data p = true) : PyData.canLay0 (toD p) = true := by
  have h' : (_ && _) = true := h
  rw [Bool.and_eq_true] at h'
  exact h'.1
theorem RepR.dp {K} {fa : Nat → Addr} {G H} {p : P} {v : V} (h : RepR K fa G H p v) (d : data p = true) : Dp K H v (toD p) := by
  have d' := data_lay d
  cases p with
  | lst xs =>
    obtain ⟨a, vs, e, q, r⟩ := repR_lst h
    subst e
    exact .lst (SqL.of q) (Reps.dp r (by simpa [toD, PyData.canLay0] using d'))
  | dct _ _ => simp [toD, PyData.canLay0] at d'
  | _ => exact Rep.dp (fa := fa) (G := G) h d'
theorem toDs_any (xs : List P) (d : PyData) : ((toDs xs).any fun z => PyData.eqv z d) = xs.any fun y => PyData.eqv (toD y) d := by
  induction xs with
  | nil => rfl
  | cons x r ih => simp only [toDs, List.any_cons, ih]
theorem op_eqP (hu : X.A.units + 64 < cLine) : OpR X (compareOp .Eq) (rP X.K fa (cmpP .Eq)) := by
  intro pins s σ H x y v u Q I rx ry ⟨G, p, q, Qp, g, rp, rq, ⟨h1, h2, ho⟩, k⟩
  exact op_eqD hu pins s σ H _ _ v u Q I rx ry ⟨_, _, rp.dp h1, rq.dp h2, h1, h2, k.now (p := .bl (pyEq p q)) g rfl ho⟩
theorem op_neP (hu : X.A.units + 64 < cLine) : OpR X (compareOp .NotEq) (rP X.K fa (cmpP .NotEq)) := by
  intro pins s σ H x y v u Q I rx ry ⟨G, p, q, Qp, g, rp, rq, ⟨h1, h2, ho⟩, k⟩
  exact op_neD hu pins s σ H _ _ v u Q I rx ry ⟨_, _, rp.dp h1, rq.dp h2, h1, h2, k.now (p := .bl (!pyEq p q)) g rfl ho⟩
theorem op_ltP : OpR X (compareOp .Lt) (rP X.K fa (cmpP .Lt)) := by
  intro pins s σ H x y v u Q I rx ry ⟨G, p, q, Qp, g, rp, rq, ho, k⟩
  replace ho : ltP p q Qp := ho
  cases p <;> try exact False.elim ho
  all_goals (cases q <;> try exact False.elim ho)
  rename_i i j
  obtain rfl : x = .int i := rp
  obtain rfl : y = .int j := rq
  exact op_lt pins s σ H _ _ v u Q I rx ry ⟨i, j, rfl, rfl, k.now (p := .bl (decide (i < j))) g rfl ho⟩
theorem op_leP : OpR X (compareOp .LtE) (rP X.K fa (cmpP .LtE)) := by
  intro pins s σ H x y v u Q I rx ry ⟨G, p, q, Qp, g, rp, rq, ho, k⟩
  replace ho : leP p q Qp := ho
  cases p <;> try exact False.elim ho
  all_goals (cases q <;> try exact False.elim ho)
  rename_i i j
  obtain rfl : x = .int i := rp
  obtain rfl : y = .int j := rq
  exact op_le pins s σ H _ _ v u Q I rx ry ⟨i, j, rfl, rfl, k.now (p := .bl (decide (i ≤ j))) g rfl ho⟩
theorem op_gtP : OpR X (compareOp .Gt) (rP X.K fa (cmpP .Gt)) := by
  intro pins s σ H x y v u Q I rx ry ⟨G, p, q, Qp, g, rp, rq, ho, k⟩
  replace ho : ltP q p Qp := ho
  cases q <;> try exact False.elim ho
  all_goals (cases p <;> try exact False.elim ho)
  rename_i j i
  obtain rfl : x = .int i := rp
  obtain rfl : y = .int j := rq
  exact op_gt pins s σ H _ _ v u Q I rx ry ⟨i, j, rfl, rfl, k.now (p := .bl (decide (j < i))) g rfl ho⟩
theorem op_geP : OpR X (compareOp .GtE) (rP X.K fa (cmpP .GtE)) := by
  intro pins s σ H x y v u Q I rx ry ⟨G, p, q, Qp, g, rp, rq, ho, k⟩
  replace ho : leP q p Qp := ho
  cases q <;> try exact False.elim ho
  all_goals (cases p <;> try exact False.elim ho)
  rename_i j i
  obtain rfl : x = .int i := rp
  obtain rfl : y = .int j := rq
  exact op_ge pins s σ H _ _ v u Q I rx ry ⟨i, j, rfl, rfl, k.now (p := .bl (decide (j ≤ i))) g rfl ho⟩
theorem rep_isN {K} {fa : Nat → Addr} {G H} {p : P} {x : V} (r : RepR K fa G H p x) : decide (x = .non) = isNonP p := by
  cases p <;> first
    | (obtain rfl : x = _ := r; rfl)
    | (obtain ⟨a, vs, rfl, _⟩ := r; rfl)
    | (obtain ⟨a, rfl, _⟩ := r; rfl)
    | (obtain rfl : x = .ref _ := r; rfl)
    | exact False.elim r
theorem op_isP : OpR X (compareOp .Is) (rP X.K fa (cmpP .Is)) := by
  intro pins s σ H x y v u Q I rx ry ⟨G, p, q, Qp, g, rp, rq, ho, k⟩
  cases q with
  | non =>
    have ho : Qp (.bl (isNonP p)) := by cases p <;> exact ho
    obtain rfl : y = .non := rq
    exact op_isN pins s σ H _ _ v u Q I rx ry ⟨rfl, by rw [rep_isN rp]; exact k.now (p := .bl (isNonP p)) g rfl ho⟩
  | bl b =>
    cases p <;> try exact False.elim ho
    rename_i a
    have ho : Qp (.bl (a == b)) := ho
    obtain rfl : x = .bl a := rp
    obtain rfl : y = .bl b := rq
    refine op_is_bl pins s σ H _ _ v u Q I rx ry ⟨a, b, rfl, rfl, ?_⟩
    rw [show decide (a = b) = (a == b) by cases a <;> cases b <;> rfl]
    exact k.now (p := .bl (a == b)) g rfl ho
  | _ => cases p <;> exact False.elim ho
theorem op_isnotP : OpR X (compareOp .IsNot) (rP X.K fa (cmpP .IsNot)) := by
  intro pins s σ H x y v u Q I rx ry ⟨G, p, q, Qp, g, rp, rq, ho, k⟩
  cases q with
  | non =>
    have ho : Qp (.bl (!isNonP p)) := by cases p <;> exact ho
    obtain rfl : y = .non := rq
    exact op_notN pins s σ H _ _ v u Q I rx ry ⟨rfl, by rw [rep_isN rp]; exact k.now (p := .bl (!isNonP p)) g rfl ho⟩
  | bl b =>
    cases p <;> try exact False.elim ho
    rename_i a
    have ho : Qp (.bl (!(a == b))) := ho
    obtain rfl : x = .bl a := rp
    obtain rfl : y = .bl b := rq
    refine op_isnot_bl pins s σ H _ _ v u Q I rx ry ⟨a, b, rfl, rfl, ?_⟩
    rw [show decide (a = b) = (a == b) by cases a <;> cases b <;> rfl]
    exact k.now (p := .bl (!(a == b))) g rfl ho
  | _ => cases p <;> exact False.elim ho
def canAll_of {ps : List P} (h : data (.lst ps) = true) : PyData.canLayAll0 (toDs ps) = true := by
  have h1 := data_lay h
  simpa [toD, PyData.canLay0] using h1
def canAll_ofT {ps : List P} (h : data (.tup ps) = true) : PyData.canLayAll0 (toDs ps) = true := by
  have h1 := data_lay h
  simpa [toD, PyData.canLay0] using h1
theorem op_inP (hu : X.A.units + 65 < cLine) : OpR X (compareOp .In) (rP X.K fa (cmpP .In)) := by
  intro pins s σ H x y v u Q I rx ry ⟨G, p, q, Qp, g, rp, rq, ho, k⟩
  replace ho : inP false p q Qp := ho
  cases q <;> try exact False.elim ho
  · rename_i ys
    obtain ⟨h1, h2, ho⟩ := ho
    obtain ⟨as, r1⟩ := Dp.reads I _ x v (rp.dp h1) rx
    obtain ⟨bs, r2⟩ := Dp.reads I _ y u (rq.dp h2) ry
    refine SeqAt.in_tuple_reads r2 r1 (canAll_ofT h2) (data_lay h1) (room_in_shaped h1 hu) ⟨.bl _, H, I, rfl, ?_⟩
    rw [toDs_any]
    exact k.now (p := .bl _) g rfl ho
  · rename_i ys
    obtain ⟨h1, h2, ho⟩ := ho
    obtain ⟨as, r1⟩ := Dp.reads I _ x v (rp.dp h1) rx
    obtain ⟨bs, r2⟩ := Dp.reads I _ y u (rq.dp h2) ry
    refine SeqAt.in_list_reads r2 r1 (canAll_of h2) (data_lay h1) (room_in_shaped h1 hu) ⟨.bl _, H, I, rfl, ?_⟩
    rw [toDs_any]
    exact k.now (p := .bl _) g rfl ho
theorem op_notInP (hu : X.A.units + 65 < cLine) : OpR X (compareOp .NotIn) (rP X.K fa (cmpP .NotIn)) := by
  intro pins s σ H x y v u Q I rx ry ⟨G, p, q, Qp, g, rp, rq, ho, k⟩
  replace ho : inP true p q Qp := ho
  cases q <;> try exact False.elim ho
  · rename_i ys
    obtain ⟨h1, h2, ho⟩ := ho
    obtain ⟨as, r1⟩ := Dp.reads I _ x v (rp.dp h1) rx
    obtain ⟨bs, r2⟩ := Dp.reads I _ y u (rq.dp h2) ry
    refine SeqAt.notIn_tuple_reads r2 r1 (canAll_ofT h2) (data_lay h1) (room_in_shaped h1 hu) ⟨.bl _, H, I, rfl, ?_⟩
    rw [toDs_any]
    exact k.now (p := .bl _) g rfl ho
  · rename_i ys
    obtain ⟨h1, h2, ho⟩ := ho
    obtain ⟨as, r1⟩ := Dp.reads I _ x v (rp.dp h1) rx
    obtain ⟨bs, r2⟩ := Dp.reads I _ y u (rq.dp h2) ry
    refine SeqAt.notIn_list_reads r2 r1 (canAll_of h2) (data_lay h1) (room_in_shaped h1 hu) ⟨.bl _, H, I, rfl, ?_⟩
    rw [toDs_any]
    exact k.now (p := .bl _) g rfl ho
theorem cmp_P (hu : X.A.units + 65 < cLine) (op : CmpOp) : OpR X (compareOp op) (rP X.K fa (cmpP op)) := by
  cases op with
  | Eq => exact op_eqP (by omega)
  | NotEq => exact op_neP (by omega)
  | Lt => exact op_ltP
  | LtE => exact op_leP
  | Gt => exact op_gtP
  | GtE => exact op_geP
  | Is => exact op_isP
  | IsNot => exact op_isnotP
  | In => exact op_inP hu
  | NotIn => exact op_notInP hu

/-! ### items, slices -/
theorem Reps.at_ {K} {fa : Nat → Addr} {G H} {ps : List P} {vs : List V} (r : Reps K fa G H ps vs) {i : Int} {p : P} (h : atI ps i = some p) : ∃ v, atI vs i = some v ∧ Rep K fa G H p v := by
  unfold atI at h ⊢
  rw [r.length]
  cases e : ixN ps.length i with
  | none => rw [e] at h; cases h
  | some j =>
    rw [e] at h
    exact r.get (i := j) h
theorem atI_map {ns : List Int} {i : Int} {n : Int} (h : atI ns i = some n) : atI (ns.map V.int) i = some (.int n) := by
  unfold atI at h ⊢
  rw [List.length_map]
  cases e : ixN ns.length i with
  | none => rw [e] at h; cases h
  | some j =>
    rw [e] at h
    have h' : ns[j]? = some n := h
    show (ns.map V.int)[j]? = _
    rw [List.getElem?_map, h']
    rfl
theorem ix_P : IxR X (rP X.K fa ixP) := by
  intro value slice pins s σ H x y v u Q I rx ry ⟨G, p, q, Qp, g, rp, rq, ho, k⟩ hsub
  cases p <;> try exact False.elim ho
  all_goals (cases q <;> try exact False.elim ho)
  · rename_i xs i
    obtain ⟨a, vs, rfl, ha, ra⟩ := repR_tup rp
    obtain rfl : y = .int i := rq
    obtain ⟨z, hz, ho⟩ := ho
    obtain ⟨w, hw, rw'⟩ := ra.at_ hz
    exact ix_tup value slice pins s σ H _ _ v u Q I rx ry ⟨a, vs, i, w, rfl, rfl, ha, hw, k.now g rw' ho⟩ hsub
  · rename_i xs i
    obtain ⟨a, vs, rfl, ha, ra⟩ := repR_lst rp
    obtain rfl : y = .int i := rq
    obtain ⟨z, hz, ho⟩ := ho
    obtain ⟨w, hw, rw'⟩ := ra.at_ hz
    exact ix_list value slice pins s σ H _ _ v u Q I rx ry ⟨a, vs, i, w, rfl, rfl, SqL.of ha, hw, k.now g rw' ho⟩ hsub
  · rename_i i
    obtain ⟨a, rfl, ha⟩ := rp
    obtain rfl : y = .int i := rq
    obtain ⟨⟨h1, h2⟩, ho⟩ := ho
    obtain ⟨o, e1, x0, x1, x2, e2, q0, q1, q2⟩ := g.pool a ha
    subst e2
    have h3 : i = 0 ∨ i = 1 ∨ i = 2 := by omega
    rcases h3 with rfl | rfl | rfl
    · exact ix_list value slice pins s σ H _ _ v u Q I rx ry ⟨a, _, 0, .int x0, rfl, rfl, SqL.of e1, rfl, k.now (p := .int x0) g rfl (ho x0 q0)⟩ hsub
    · exact ix_list value slice pins s σ H _ _ v u Q I rx ry ⟨a, _, 1, .int x1, rfl, rfl, SqL.of e1, rfl, k.now (p := .int x1) g rfl (ho x1 q1)⟩ hsub
    · exact ix_list value slice pins s σ H _ _ v u Q I rx ry ⟨a, _, 2, .int x2, rfl, rfl, SqL.of e1, rfl, k.now (p := .int x2) g rfl (ho x2 q2)⟩ hsub
  · rename_i ns i
    obtain ⟨a, rfl, ha⟩ := rp
    obtain rfl : y = .int i := rq
    obtain ⟨z, hz, ho⟩ := ho
    exact ix_list value slice pins s σ H _ _ v u Q I rx ry ⟨a, _, i, .int z, rfl, rfl, ha.sq, atI_map hz, k.now (p := .int z) g rfl ho⟩ hsub
theorem Reps.cut {K} {fa : Nat → Addr} {G H} {ps : List P} {vs : List V} (r : Reps K fa G H ps vs) (lo hi : Option Int) : Reps K fa G H (cutP ps lo hi) (cutV vs lo hi) := by
  unfold cutP cutV
  rw [r.length]
  exact (r.drop _).take _
theorem Reps.ints {K} {fa : Nat → Addr} {G H} : ∀ ns : List Int, Reps K fa G H (ns.map P.int) (ns.map V.int)
  | [] => rfl
  | n :: ns => ⟨_, _, rfl, rfl, Reps.ints ns⟩
def rSP (K : PySem.W.Frag) (fa : Nat → Addr) : V → Option Int → Option Int → Hp → VK → Prop := fun x lo hi H Q =>
  ∃ G p Qp, Good G H ∧ RepR K fa G H p x ∧ slP p lo hi Qp ∧ Kt K fa G H Qp Q
theorem cut_whole {α : Type} (ps : List P) (lo hi : Option Int) (h : HT.sIx ps.length 0 lo = 0 ∧ HT.sIx ps.length ps.length hi = ps.length) : cutP ps lo hi = ps := by
  unfold cutP
  rw [h.1, h.2]
  simp
theorem sl_P : SlR X (rSP X.K fa) := by
  intro pins s σ H x v vl vu lo hi sl Q I rx hs pl pu ⟨G, p, Qp, g, rp, ho, k⟩
  cases p <;> try exact False.elim ho
  · rename_i xs
    obtain ⟨a, vs, rfl, ha, ra⟩ := repR_tup rp
    refine sl_tupA pins s σ H _ v vl vu lo hi sl Q I rx hs pl pu ⟨a, vs, rfl, ha, fun e => ?_, fun _ p hp => k.newT g hp (ra.cut lo hi) ho⟩
    rw [ra.length] at e
    have ho' : Qp (.tup (cutP xs lo hi)) := ho
    rw [cut_whole (α := P) xs lo hi e] at ho'
    exact k.now (p := .tup xs) g ⟨a, vs, rfl, ha, ra⟩ ho'
  · rename_i xs
    obtain ⟨a, vs, rfl, ha, ra⟩ := repR_lst rp
    exact sl_list pins s σ H _ v vl vu lo hi sl Q I rx hs pl pu ⟨a, vs, rfl, SqL.of ha, fun p hp => k.newL g hp (ra.cut lo hi) ho⟩
  · rename_i ns
    obtain ⟨a, rfl, ha⟩ := rp
    exact sl_list pins s σ H _ v vl vu lo hi sl Q I rx hs pl pu ⟨a, _, rfl, ha.sq, fun p hp => k.newL g hp ((Reps.ints ns).cut lo hi) ho⟩

/-! ### truth, built-in calls -/
theorem emptyL {α : Type} (xs : List α) : xs.isEmpty = decide (xs.length = 0) := by cases xs <;> simp
theorem tru_P {K} {fa : Nat → Addr} {G H} {p : P} {x : V} {b : Bool} (r : RepR K fa G H p x) (h : truth p = some b) : TruV K x H b := by
  cases p with
  | non => obtain rfl : x = .non := r; exact (Option.some.inj h).symm
  | bl c => obtain rfl : x = .bl c := r; exact (Option.some.inj h).symm
  | int i => obtain rfl : x = .int i := r; exact (Option.some.inj h).symm
  | str z =>
    obtain rfl : x = .str z := r
    have h' : (if z.length ≤ sizeLine then some (z.length != 0) else none) = some b := h
    by_cases hz : z.length ≤ sizeLine
    · rw [if_pos hz] at h'
      refine ⟨hz, ?_⟩
      rw [← Option.some.inj h']
      by_cases e : z.length = 0
      · rw [e]; rfl
      · have h1 : (z.length != 0) = true := bne_iff_ne.mpr e
        have h2 : ((z.length : Int) != 0) = true := bne_iff_ne.mpr (by omega)
        rw [h1, h2]
    · rw [if_neg hz] at h'; cases h'
  | tup xs =>
    obtain ⟨a, vs, rfl, ha, ra⟩ := repR_tup r
    refine .inr (.inl ⟨vs, ha, ?_⟩)
    rw [← Option.some.inj h, emptyL, emptyL, ra.length]
  | lst xs =>
    obtain ⟨a, vs, rfl, ha, ra⟩ := repR_lst r
    refine .inl ⟨vs, SqL.of ha, ?_⟩
    rw [← Option.some.inj h, emptyL, emptyL, ra.length]
  | dct ks ps =>
    obtain ⟨a, vs, rfl, ha, _, l, ra⟩ := r
    refine .inr (.inr ⟨_, ha, ?_⟩)
    rw [← Option.some.inj h, emptyL, emptyL, List.length_zip, ra.length, l, Nat.min_self]
  | _ => cases h
end
end Fw
/-! Fw: sorted, of ints and of rows with unlike ints at their heads. -/
namespace Fw
open PySem PySem.Spec PyProof.Rows L2 Srt SrtO
/-- a tuple of an int and one thing more -/
def Row2 (h : Heap) (v : Value) (x : Int) (g : Value) : Prop := ∃ a o t n, v = .ref a ∧ h.get? a = some o ∧ o.cls = .type "tuple" ∧ o.data = .seq #[.int x t, g] n
theorem Row2.keep {h h' : Heap} {v g : Value} {x : Int} (p : Row2 h v x g) (k : ∀ b o, h.get? b = some o → o.cls = .type "tuple" → h'.get? b = some o) : Row2 h' v x g := by
  obtain ⟨a, o, t, n, e, ho, hc, hd⟩ := p
  exact ⟨a, o, t, n, e, k _ _ ho hc, hc, hd⟩
def ltR (k : Value → Int) (v u : Value) : Bool := decide (k v < k u)
theorem swo_row (k : Value → Int) : Swo (ltR k) := by
  refine ⟨fun x y h => ?_, fun x y z h1 h2 => ?_⟩
  · have a := of_decide_eq_true (p := k x < k y) h
    exact decide_eq_false (p := k y < k x) (by omega)
  · have a := of_decide_eq_false (p := k y < k x) h1
    have b := of_decide_eq_false (p := k z < k y) h2
    exact decide_eq_false (p := k z < k x) (by omega)
section
variable {prog : Program} {w : World} {A : Around} {E : Value → Shared → Prop} {s : Shared}
theorem row_cmp {vs : List Value} {k : Value → Int} {g : Value → Value} (hp : ∀ v ∈ vs, Row2 s.heap v (k v) (g v)) (hn : ∀ v ∈ vs, ∀ u ∈ vs, k v = k u → v = u) : Cmp prog w A s (tuples' true) (fun p => p.1 ∈ vs) (lt2 (ltR k)) := by
  intro p q hm hm'
  have h1 := hp _ hm
  have h2 := hp _ hm'
  have h3 := hn _ hm _ hm'
  show wpAny (model prog w) A (keyLt' (tuples' true) p.1 q.1) (fun r s' => s' = s ∧ r = ltR k p.1 q.1) (fun _ _ => False) s
  unfold ltR
  generalize p.1 = v at h1 h3 ⊢
  generalize q.1 = u at h2 h3 ⊢
  obtain ⟨a, o, t, n, e, ho, hc, hd⟩ := h1
  obtain ⟨a', o', t', n', e', ho', hc', hd'⟩ := h2
  by_cases ex : k v = k u
  · have ev : v = u := h3 ex
    subst ev
    rw [e] at e'
    have ea : a = a' := Value.ref.inj e'
    subst ea
    rw [e]
    rw [← e]
    refine (e ▸ PySem.W.kat_lt ho hd ho hd ?_)
    refine PySem.W.kat_cons (SeqAt.EqAt.same _ prog w _ _ ?_)
    refine PySem.W.kat_yes (PySem.W.kat_cons (SeqAt.EqAt.same _ prog w _ _ ?_))
    refine PySem.W.kat_yes (PySem.W.kat_nil ⟨rfl, ?_⟩)
    simp
  · rw [e, e']
    refine PySem.W.kat_lt ho hd ho' hd' ?_
    refine PySem.W.kat_cons (SeqAt.EqAt.int_int (k v) t (k u) t' prog w _ _ ?_)
    refine PySem.W.kat_go (fun e1 => absurd (by simpa using e1) ex) (fun _ => ?_)
    exact PySem.W.kat_no (oneLt_int ⟨rfl, by rw [← e, ← e']⟩)
theorem heads_of {h : Heap} : ∀ {vs : List Value}, (∀ v ∈ vs, ∃ x g, Row2 h v x g) → ∃ fs : List Value, PySem.W.KatTups h vs fs ∧ fs.length = vs.length ∧ ∀ f ∈ fs, ∃ x t, f = Value.int x t
  | [], _ => ⟨[], PySem.W.KatTups.nil, rfl, fun _ z => by simp at z⟩
  | v :: vs, hp => by
    obtain ⟨fs, h1, h2, h3⟩ := heads_of (vs := vs) fun u z => hp u (List.mem_cons_of_mem _ z)
    obtain ⟨x, g, a, o, t, n, rfl, ho, hc, hd⟩ := hp v (List.mem_cons_self ..)
    refine ⟨.int x t :: fs, PySem.W.KatTups.cons ho hc hd rfl h1, by simp [h2], fun f z => ?_⟩
    rcases List.mem_cons.mp z with rfl | z
    · exact ⟨x, t, rfl⟩
    · exact h3 f z
theorem rows_sortable {a : Addr} {vs : List Value} {k : Value → Int} {g : Value → Value} (h0 : 0 < vs.length) (hp : ∀ v ∈ vs, Row2 s.heap v (k v) (g v)) (hn : ∀ v ∈ vs, ∀ u ∈ vs, k v = k u → v = u) (ha : ∀ o, s.heap.get? a = some o → o.cls ≠ .type "tuple") :
    SortableO prog w A s a vs (ltR k) := by
  intro h' keep
  have hp' : ∀ v ∈ vs, Row2 h' v (k v) (g v) := fun v z => (hp v z).keep fun b o e c => keep b o (fun y => by subst y; exact ha o e c) e
  obtain ⟨fs, h1, h2, h3⟩ := heads_of fun v z => ⟨_, _, hp' v z⟩
  refine ⟨tuples' true, fun Q E hq => ?_, row_cmp hp' hn⟩
  refine PySem.W.kat_kind (T := .type "int") h1 (by omega) (fun f z => ?_) (by rfl) ?_
  · obtain ⟨x, t, rfl⟩ := h3 f z
    exact PySem.W.Looks.now
  · rw [show (Value.type "int" != Value.type "tuple") = true by first | decide +kernel | rfl | decide]
    exact hq
theorem sorted_rows {l : Addr} {vs : List Value} {k : Value → Int} {g : Value → Value} {Q : Value → Shared → Prop} (hl : s.heap.IsList l vs.toArray) (hz : vs.length ≤ sizeLine) (hp : ∀ v ∈ vs, Row2 s.heap v (k v) (g v)) (hn : ∀ v ∈ vs, ∀ u ∈ vs, k v = k u → v = u)
    (h : ∀ (h' : Heap) (d : Addr) (out : List Value), Srtd (ltR k) out → out.Perm vs → (∀ b o, s.heap.get? b = some o → h'.get? b = some o) → s.heap.objs.size ≤ d → (∃ n, h'.get? d = some (seqObj "list" out.toArray n)) → Q (.ref d) { s with heap := h' }) :
    wpAny (model prog w) A (call (.builtin "sorted") [.ref l]) Q E s := by
  refine sorted_ord (swo_row k) hl hz (fun h2 h1 a ha kk => ?_) fun out hs hb => ?_
  · refine rows_sortable (s := { s with heap := h1 }) (g := g) (by omega) (fun v z => (hp v z).keep fun b o e _ => (kk b o e).2) hn fun o e => ?_
    have e' : some o = some (seqObj "list" vs.toArray 0) := e.symm.trans ha
    cases e'
    exact fun c => absurd (Value.type.inj c) (by decide)
  · exact h _ _ out hs hb.perm (fun b o e => sortedAll_old e) (Nat.le_succ _) (sortedAll_at s.heap vs out.toArray)
end
/-- sorted(xs), xs a list of tuples with unlike ints at their heads -/
def rSortedR (K : PySem.W.Frag) : List V → Hp → VK → Prop := fun vs H Q => ∃ (a : Addr) (xs : List V) (k : V → Int), vs = [V.ref a] ∧ SqL K H a xs ∧ (∀ x ∈ xs, ∃ t g, x = V.ref t ∧ SqT K H t [.int (k x), g]) ∧ (∀ x ∈ xs, ∀ y ∈ xs, k x = k y → x = y) ∧
  ∀ ys p, ys.Perm xs → ys.Pairwise (fun x y => k x ≤ k y) → H p = none → Q (.ref p) (upd H p (.lst ys))
section
variable {X : Cx}
theorem cr_sortedR : CallR X (.builtin "sorted") (rSortedR X.K) := by
  intro pins s σ H vs us Q I r h
  obtain ⟨a, xs, k, rfl, hs, hx, hn, q⟩ := h
  obtain ⟨its, rv, hl, hz⟩ := I.list hs
  obtain ⟨u, rfl, ru⟩ := vals1 r
  obtain rfl : u = Value.ref a := ru
  obtain ⟨e1, e2⟩ := refs_back rv fun x m => by
    obtain ⟨t, g, e, _⟩ := hx x m
    exact ⟨t, e⟩
  have hrow : ∀ v ∈ its, ∃ g, Row2 s.heap v (k (backV v)) g := fun v hv => by
    obtain ⟨t, rfl⟩ := e2 v hv
    have hm : V.ref t ∈ xs := by rw [e1]; exact List.mem_map.mpr ⟨_, hv, rfl⟩
    obtain ⟨t', g, e, ht⟩ := hx _ hm
    cases e
    obtain ⟨its2, r2, p2, _⟩ := I.tuple ht
    obtain ⟨u1, u2, rfl, ri, rj⟩ := vals2 r2
    obtain ⟨t1, rfl⟩ := ri
    obtain ⟨o, ho, hc, n, hd⟩ := (show s.heap.IsTuple t _ from p2)
    exact ⟨u2, t, o, t1, n, rfl, ho, hc, hd⟩
  have hinj : ∀ v ∈ its, ∀ u ∈ its, k (backV v) = k (backV u) → v = u := fun v hv u hu e => by
    obtain ⟨t, rfl⟩ := e2 v hv
    obtain ⟨t2, rfl⟩ := e2 u hu
    have m1 : V.ref t ∈ xs := by rw [e1]; exact List.mem_map.mpr ⟨_, hv, rfl⟩
    have m2 : V.ref t2 ∈ xs := by rw [e1]; exact List.mem_map.mpr ⟨_, hu, rfl⟩
    have := hn _ m1 _ m2 e
    cases this
    rfl
  refine sorted_rows (k := fun u => k (backV u)) (g := fun v => @Classical.epsilon Value ⟨.none⟩ fun g => Row2 s.heap v (k (backV v)) g) hl.isList (by rw [← rv.length]; exact hz) (fun v hv => ?_) hinj fun h' d out h1 h2 kp hd hn2 => ?_
  · exact Classical.epsilon_spec (hrow v hv)
  · have h3 : ∀ u ∈ out, ∃ a, u = Value.ref a := fun u hu => e2 u (h2.mem_iff.mp hu)
    obtain ⟨n, hn3⟩ := hn2
    have hb : (out.map backV).Perm xs := by
      rw [e1]
      exact h2.map backV
    refine ⟨.ref d, upd H d (.lst (out.map backV)), I.laid (t' := s.toks) kp hd ⟨?_, out, n, vals_back h3, hn3⟩, rfl, q _ d hb ?_ (I.hok.fresh hd)⟩
    · rw [hb.length_eq]
      exact hz
    · exact List.pairwise_map.mpr (h1.imp fun {x y} z => Int.not_lt.mp (of_decide_eq_false (p := k (backV y) < k (backV x)) z))
end
end Fw
/-! Fw: built-in calls. -/
namespace Fw
open PySem PySem.Spec PyProof.Rows L2

def bv : Bn → Value
  | .len => .builtin "len" | .abs => .builtin "abs" | .int => .type "int" | .tuple => .type "tuple" | .list => .type "list"
  | .all => .builtin "all" | .any => .builtin "any" | .max => .builtin "max" | .min => .builtin "min"
  | .gcd => .builtin "math.gcd" | .divmod => .builtin "divmod" | .sorted => .builtin "sorted"
section
variable {X : Cx} {fa : Nat → Addr} {K : PySem.W.Frag} {G : Gh} {H : Hp}
theorem RepsR.one {p : P} {xs : List V} (h : RepsR K fa G H [p] xs) : ∃ v, xs = [v] ∧ RepR K fa G H p v := by
  obtain ⟨v, r, e, h, t⟩ := h
  have t' : r = [] := t
  subst t'
  exact ⟨v, e, h⟩
theorem RepsR.two {p q : P} {xs : List V} (h : RepsR K fa G H [p, q] xs) : ∃ v w, xs = [v, w] ∧ RepR K fa G H p v ∧ RepR K fa G H q w := by
  obtain ⟨v, r, e, h, t⟩ := h
  obtain ⟨w, e2, t2⟩ := RepsR.one t
  subst e2
  exact ⟨v, w, e, h, t2⟩
theorem RepsR.none {xs : List V} (h : RepsR K fa G H [] xs) : xs = [] := h
theorem allB_bls : ∀ {ps : List P} {vs : List V} {b : Bool}, Reps K fa G H ps vs → allB ps = some b → ∃ bs : List Bool, vs = bs.map V.bl ∧ bs.all id = b
  | [], vs, b, r, h => ⟨[], r, Option.some.inj h⟩
  | .bl c :: ps, vs, b, ⟨v, t, e, hv, ht⟩, h => by
    have h' : (allB ps).map (fun d => c && d) = some b := h
    cases q : allB ps with
    | none => rw [q] at h'; cases h'
    | some d =>
      rw [q] at h'
      obtain ⟨bs, e2, e3⟩ := allB_bls ht q
      obtain rfl : v = .bl c := hv
      subst e2
      refine ⟨c :: bs, by rw [e]; rfl, ?_⟩
      rw [List.all_cons, e3]
      exact Option.some.inj h'
  | .non :: _, _, _, _, h => by cases h
  | .int _ :: _, _, _, _, h => by cases h
  | .str _ :: _, _, _, _, h => by cases h
  | .tup _ :: _, _, _, _, h => by cases h
  | .lst _ :: _, _, _, _, h => by cases h
  | .dct _ _ :: _, _, _, _, h => by cases h
  | .fn _ :: _, _, _, _, h => by cases h
  | .pool :: _, _, _, _, h => by cases h
  | .exc _ _ :: _, _, _, _, h => by cases h
  | .scr _ :: _, _, _, _, h => by cases h
theorem anyB_bls : ∀ {ps : List P} {vs : List V} {b : Bool}, Reps K fa G H ps vs → anyB ps = some b → ∃ bs : List Bool, vs = bs.map V.bl ∧ bs.any id = b
  | [], vs, b, r, h => ⟨[], r, Option.some.inj h⟩
  | .bl c :: ps, vs, b, ⟨v, t, e, hv, ht⟩, h => by
    have h' : (anyB ps).map (fun d => c || d) = some b := h
    cases q : anyB ps with
    | none => rw [q] at h'; cases h'
    | some d =>
      rw [q] at h'
      obtain ⟨bs, e2, e3⟩ := anyB_bls ht q
      obtain rfl : v = .bl c := hv
      subst e2
      refine ⟨c :: bs, by rw [e]; rfl, ?_⟩
      rw [List.any_cons, e3]
      exact Option.some.inj h'
  | .non :: _, _, _, _, h => by cases h
  | .int _ :: _, _, _, _, h => by cases h
  | .str _ :: _, _, _, _, h => by cases h
  | .tup _ :: _, _, _, _, h => by cases h
  | .lst _ :: _, _, _, _, h => by cases h
  | .dct _ _ :: _, _, _, _, h => by cases h
  | .fn _ :: _, _, _, _, h => by cases h
  | .pool :: _, _, _, _, h => by cases h
  | .exc _ _ :: _, _, _, _, h => by cases h
  | .scr _ :: _, _, _, _, h => by cases h
theorem RepsR.len {ps : List P} {vs : List V} (h : RepsR K fa G H ps vs) : vs.length = ps.length := by
  induction ps generalizing vs with
  | nil => rw [show vs = [] from h]; rfl
  | cons p ps ih => obtain ⟨v, r, e, _, t⟩ := h; rw [e, List.length_cons, List.length_cons, ih t]
theorem blt_len : CallR X (.builtin "len") (rCP X.K fa (bltP .len)) := by
  intro pins s σ H xs us Q I rx ⟨G, ps, Qp, g, rp, ho, k⟩
  match ps, ho with
  | [p], ho =>
    obtain ⟨v, rfl, r⟩ := rp.one
    obtain ⟨n, hn, ho⟩ := ho
    have hl : LenV X.K v H n ∨ ∃ kvs : List (Key × V), ∃ a, v = .ref a ∧ H a = some (.dK kvs) ∧ n = kvs.length := by
      cases p with
      | tup ys =>
        obtain ⟨a, vs, rfl, ha, ra⟩ := repR_tup r
        exact .inl (.inr ⟨vs, ha, by rw [ra.length]; exact (Option.some.inj hn).symm⟩)
      | lst ys =>
        obtain ⟨a, vs, rfl, ha, ra⟩ := repR_lst r
        exact .inl (.inl ⟨vs, SqL.of ha, by rw [ra.length]; exact (Option.some.inj hn).symm⟩)
      | scr ns =>
        obtain ⟨a, rfl, ha⟩ := r
        exact .inl (.inl ⟨_, ha.sq, by rw [List.length_map]; exact (Option.some.inj hn).symm⟩)
      | dct ks ps =>
        obtain ⟨a, vs, rfl, ha, _, l, ra⟩ := r
        exact .inr ⟨_, a, rfl, ha, by rw [List.length_zip, ra.length, l, Nat.min_self]; rw [← l]; exact (Option.some.inj hn).symm⟩
      | _ => cases hn
    rcases hl with hl | ⟨kvs, a, rfl, ha, e⟩
    · exact call_len pins s σ H _ us Q I rx ⟨v, n, rfl, hl, k.now (p := .int n) g rfl ho⟩
    · exact call_lenD pins s σ H _ us Q I rx ⟨a, kvs, rfl, ha, by rw [← e]; exact k.now (p := .int n) g rfl ho⟩
theorem blt_tuple : CallR X (.type "tuple") (rCP X.K fa (bltP .tuple)) := by
  intro pins s σ H xs us Q I rx ⟨G, ps, Qp, g, rp, ho, k⟩
  match ps, ho with
  | [.lst ys], ho =>
    obtain ⟨v, rfl, r⟩ := rp.one
    obtain ⟨a, vs, rfl, ha, ra⟩ := repR_lst r
    exact call_tuple_of pins s σ H _ us Q I rx ⟨a, vs, rfl, .inl ⟨SqL.of ha, fun l hl => k.newT g hl ra ho⟩⟩
  | [.tup ys], ho =>
    obtain ⟨v, rfl, r⟩ := rp.one
    obtain ⟨a, vs, rfl, ha, ra⟩ := repR_tup r
    exact call_tuple_of pins s σ H _ us Q I rx ⟨a, vs, rfl, .inr ⟨ha, k.now (p := .tup ys) g ⟨a, vs, rfl, ha, ra⟩ ho⟩⟩
theorem reps_keys : ∀ ks : List Key, Reps K fa G H (ks.map keyP) (ks.map kV)
  | [] => rfl
  | .inl n :: ks => ⟨_, _, rfl, rfl, reps_keys ks⟩
  | .inr x :: ks => ⟨_, _, rfl, rfl, reps_keys ks⟩
theorem zip_keys : ∀ {ks : List Key} {vs : List V}, vs.length = ks.length → ((ks.zip vs).map fun kv => kV kv.1) = ks.map kV
  | [], _, _ => rfl
  | k :: ks, [], h => by simp at h
  | k :: ks, v :: vs, h => by
    rw [List.zip_cons_cons, List.map_cons, List.map_cons, zip_keys (by simpa using h)]
/-- list(a list, a tuple, a dict) -/
theorem call_listA (hc : X.calm = true) : CallR X (.type "list") (fun xs H Q => (∃ p ys, xs = [.ref p] ∧ (SqL X.K H p ys ∨ SqT X.K H p ys) ∧ ∀ l, H l = none → Q (.ref l) (upd H l (.lst ys))) ∨
    ∃ (a : Addr) (kvs : List (Key × V)), xs = [.ref a] ∧ Rd H a (.dK kvs) ∧ ∀ p, H p = none → Q (.ref p) (upd H p (.lst (kvs.map fun kv => kV kv.1)))) := by
  intro pins s σ H xs us Q I r h
  rcases h with h | h
  · exact call_list_of pins s σ H xs us Q I r h
  · exact call_listD hc pins s σ H xs us Q I r h
theorem blt_list (hc : X.calm = true) : CallR X (.type "list") (rCP X.K fa (bltP .list)) := by
  intro pins s σ H xs us Q I rx ⟨G, ps, Qp, g, rp, ho, k⟩
  match ps, ho with
  | [.lst ys], ho =>
    obtain ⟨v, rfl, r⟩ := rp.one
    obtain ⟨a, vs, rfl, ha, ra⟩ := repR_lst r
    exact call_list_of pins s σ H _ us Q I rx ⟨a, vs, rfl, .inl (SqL.of ha), fun l hl => k.newL g hl ra ho⟩
  | [.tup ys], ho =>
    obtain ⟨v, rfl, r⟩ := rp.one
    obtain ⟨a, vs, rfl, ha, ra⟩ := repR_tup r
    exact call_list_of pins s σ H _ us Q I rx ⟨a, vs, rfl, .inr ha, fun l hl => k.newL g hl ra ho⟩
  | [.dct ks qs], ho =>
    obtain ⟨v, rfl, r⟩ := rp.one
    obtain ⟨a, vs, rfl, ha, _, l, ra⟩ := r
    refine call_listD hc pins s σ H _ us Q I rx ⟨a, _, rfl, .inl ha, fun l2 hl => ?_⟩
    rw [zip_keys (by rw [ra.length, l])]
    exact k.newL g hl (reps_keys ks) ho
theorem blt_all (hc : X.calm = true) : CallR X (.builtin "all") (rCP X.K fa (bltP .all)) := by
  intro pins s σ H xs us Q I rx ⟨G, ps, Qp, g, rp, ho, k⟩
  match ps, ho with
  | [.lst ys], ho =>
    obtain ⟨v, rfl, r⟩ := rp.one
    obtain ⟨a, vs, rfl, ha, ra⟩ := repR_lst r
    obtain ⟨b, hb, ho⟩ := ho
    obtain ⟨bs, e, e2⟩ := allB_bls ra hb
    subst e
    exact cr_all hc pins s σ H _ us Q I rx ⟨a, bs, rfl, SqL.of ha, by rw [e2]; exact k.now (p := .bl b) g rfl ho⟩
theorem blt_any (hc : X.calm = true) : CallR X (.builtin "any") (rCP X.K fa (bltP .any)) := by
  intro pins s σ H xs us Q I rx ⟨G, ps, Qp, g, rp, ho, k⟩
  match ps, ho with
  | [.lst ys], ho =>
    obtain ⟨v, rfl, r⟩ := rp.one
    obtain ⟨a, vs, rfl, ha, ra⟩ := repR_lst r
    obtain ⟨b, hb, ho⟩ := ho
    obtain ⟨bs, e, e2⟩ := anyB_bls ra hb
    subst e
    exact cr_any hc pins s σ H _ us Q I rx ⟨a, bs, rfl, SqL.of ha, by rw [e2]; exact k.now (p := .bl b) g rfl ho⟩
theorem blt_abs : CallR X (.builtin "abs") (rCP X.K fa (bltP .abs)) := by
  intro pins s σ H xs us Q I rx ⟨G, ps, Qp, g, rp, ho, k⟩
  match ps, ho with
  | [.int i], ho =>
    obtain ⟨v, rfl, r⟩ := rp.one
    obtain rfl : v = .int i := r
    exact call_abs pins s σ H _ us Q I rx ⟨i, rfl, k.now (p := .int _) g rfl ho⟩
theorem blt_int : CallR X (.type "int") (rCP X.K fa (bltP .int)) := by
  intro pins s σ H xs us Q I rx ⟨G, ps, Qp, g, rp, ho, k⟩
  match ps, ho with
  | [.int i], ho =>
    obtain ⟨v, rfl, r⟩ := rp.one
    obtain rfl : v = .int i := r
    exact call_int1 pins s σ H _ us Q I rx (.inl ⟨i, rfl, k.now (p := .int _) g rfl ho⟩)
  | [.bl b], ho =>
    obtain ⟨v, rfl, r⟩ := rp.one
    obtain rfl : v = .bl b := r
    exact call_int1 pins s σ H _ us Q I rx (.inr ⟨b, rfl, k.now (p := .int _) g rfl ho⟩)
theorem ints_reps : ∀ {ns : List Int} {vs : List V}, Reps K fa G H (ns.map P.int) vs → vs = ns.map V.int
  | [], _, h => h
  | n :: ns, _, ⟨v, r, e, h, t⟩ => by
    obtain rfl : v = .int n := h
    rw [e, ints_reps t]; rfl
theorem reps_ints : ∀ ns : List Int, Reps K fa G H (ns.map P.int) (ns.map V.int)
  | [] => rfl
  | n :: ns => ⟨_, _, rfl, rfl, reps_ints ns⟩
theorem repsPerm {α : Type} {f : α → P} : ∀ {vs ys : List V}, ys.Perm vs → ∀ {rs : List α}, Reps K fa G H (rs.map f) vs → ∃ ss : List α, ss.Perm rs ∧ Reps K fa G H (ss.map f) ys := by
  intro vs ys h
  induction h with
  | nil => exact fun {rs} r => ⟨rs, .refl _, r⟩
  | cons x _ ih =>
    intro rs r
    cases rs with
    | nil => cases (show _ :: _ = [] from r)
    | cons a rs =>
      obtain ⟨v, t, e, h1, h2⟩ := r
      cases e
      obtain ⟨ss, p, q⟩ := ih h2
      exact ⟨a :: ss, .cons a p, _, _, rfl, h1, q⟩
  | swap x y l =>
    intro rs r
    match rs, r with
    | [], r => cases (show _ :: _ = [] from r)
    | [a], ⟨v, t, e, h1, h2⟩ =>
      cases e
      cases (show _ :: _ = [] from h2)
    | a :: b :: rs, ⟨v, t, e, h1, h2⟩ =>
      cases e
      obtain ⟨w, t, e, h3, h4⟩ := h2
      cases e
      exact ⟨b :: a :: rs, .swap a b rs, _, _, rfl, h3, _, _, rfl, h1, h4⟩
  | trans _ _ ih1 ih2 =>
    intro rs r
    obtain ⟨ss, p, q⟩ := ih2 r
    obtain ⟨us, p2, q2⟩ := ih1 q
    exact ⟨us, p2.trans p, q2⟩
theorem reps_map {α β : Type} {f : α → P} {g : V → β} {m : α → β} : ∀ {rs : List α} {vs : List V}, (∀ a v, v ∈ vs → Rep K fa G H (f a) v → g v = m a) → Reps K fa G H (rs.map f) vs → vs.map g = rs.map m
  | [], _, _, h => by rw [show _ = [] from h]; rfl
  | a :: rs, _, hk, ⟨v, r, e, h, t⟩ => by
    subst e
    rw [List.map_cons, List.map_cons, hk a v (List.mem_cons_self ..) h, reps_map (fun b w hw => hk b w (List.mem_cons_of_mem _ hw)) t]
theorem reps_mem {ps : List P} : ∀ {vs : List V}, Reps K fa G H ps vs → ∀ v ∈ vs, ∃ p ∈ ps, Rep K fa G H p v := by
  induction ps with
  | nil => intro vs r v h; rw [show vs = [] from r] at h; simp at h
  | cons a r ih =>
    intro vs ⟨w, t, e, h1, h2⟩ v h
    subst e
    rcases List.mem_cons.mp h with z | z
    · exact ⟨a, List.mem_cons_self .., z ▸ h1⟩
    · obtain ⟨p, hp, hr⟩ := ih h2 v z
      exact ⟨p, List.mem_cons_of_mem _ hp, hr⟩
theorem nodup_map_inj {α β : Type} {f : α → β} : ∀ {l : List α}, (l.map f).Nodup → ∀ x ∈ l, ∀ y ∈ l, f x = f y → x = y
  | [], _, x, hx, _, _, _ => by simp at hx
  | a :: l, h, x, hx, y, hy, e => by
    rw [List.map_cons, List.nodup_cons] at h
    rcases List.mem_cons.mp hx with rfl | hx' <;> rcases List.mem_cons.mp hy with rfl | hy'
    · rfl
    · exact absurd (List.mem_map.mpr ⟨y, hy', e.symm⟩) h.1
    · exact absurd (List.mem_map.mpr ⟨x, hx', e⟩) h.1
    · exact nodup_map_inj h.2 x hx' y hy' e
theorem blt_sorted : CallR X (.builtin "sorted") (rCP X.K fa (bltP .sorted)) := by
  intro pins s σ H xs us Q I rx ⟨G, ps, Qp, g, rp, ho, k⟩
  match ps, ho with
  | [.lst ys], ho =>
    obtain ⟨v, rfl, r⟩ := rp.one
    obtain ⟨a, vs, rfl, ha, ra⟩ := repR_lst r
    rcases ho with ⟨ns, rfl, ho⟩ | ⟨rs, rfl, hn, ho⟩
    · have e := ints_reps ra
      subst e
      exact cr_sortedI pins s σ H _ us Q I rx ⟨a, ns, rfl, SqL.of ha, fun ms p hp hw hN => k.newL g hN (reps_ints ms) (ho ms hp hw)⟩
    · let key : V → Int := fun x => @Classical.epsilon Int ⟨0⟩ fun i => ∃ t z, x = V.ref t ∧ SqT X.K H t [.int i, z]
      have hkey : ∀ (r : Int × P) (x : V), Rep X.K fa G H (rowP r) x → (∃ t z, x = V.ref t ∧ SqT X.K H t [.int (key x), z]) ∧ key x = r.1 := fun r x hx => by
        obtain ⟨t, ws, rfl, ht, w1, rest, rfl, h1, w2, rest2, rfl, h2, h3⟩ := hx
        obtain rfl : w1 = .int r.1 := h1
        obtain rfl : rest2 = [] := h3
        have ex : ∃ t' z, V.ref t = V.ref t' ∧ SqT X.K H t' [.int (key (.ref t)), z] := Classical.epsilon_spec (p := fun i => ∃ t' z, V.ref t = V.ref t' ∧ SqT X.K H t' [.int i, z]) ⟨r.1, t, w2, rfl, ht⟩
        refine ⟨ex, ?_⟩
        obtain ⟨t', z, e, h4⟩ := ex
        cases e
        have := I.tuple_inj h4 ht
        injection this with e1 _
        injection e1
      have hm : ∀ x ∈ vs, ∃ r ∈ rs, Rep X.K fa G H (rowP r) x := fun x hx => by
        obtain ⟨p, hp, hr⟩ := reps_mem ra x hx
        obtain ⟨r, hr2, rfl⟩ := List.mem_map.mp hp
        exact ⟨r, hr2, hr⟩
      have hmap : vs.map key = rs.map Prod.fst := reps_map (fun r x _ hx => (hkey r x hx).2) ra
      refine cr_sortedR pins s σ H _ us Q I rx ⟨a, vs, key, rfl, SqL.of ha, fun x hx => ?_, nodup_map_inj (hmap ▸ hn), fun zs p hp hw hN => ?_⟩
      · obtain ⟨r, _, hr⟩ := hm x hx
        exact (hkey r x hr).1
      · obtain ⟨ss, hs, hr⟩ := repsPerm hp ra
        refine k.newL g hN hr (ho ss hs ?_)
        have e2 : zs.map key = ss.map Prod.fst := reps_map (fun r x _ hx => (hkey r x hx).2) hr
        have h5 : (zs.map key).Pairwise (· ≤ ·) := List.pairwise_map.mpr hw
        rw [e2] at h5
        exact List.pairwise_map.mp h5
theorem blt_max (hc : X.calm = true) : CallR X (.builtin "max") (rCP X.K fa (bltP .max)) := by
  intro pins s σ H xs us Q I rx ⟨G, ps, Qp, g, rp, ho, k⟩
  match ps, ho with
  | [.int i, .int j], ho =>
    obtain ⟨v, w, rfl, r, r2⟩ := rp.two
    obtain rfl : v = .int i := r
    obtain rfl : w = .int j := r2
    exact call_max2 hc pins s σ H _ us Q I rx ⟨i, j, rfl, k.now (p := .int _) g rfl ho⟩
theorem blt_min (hc : X.calm = true) : CallR X (.builtin "min") (rCP X.K fa (bltP .min)) := by
  intro pins s σ H xs us Q I rx ⟨G, ps, Qp, g, rp, ho, k⟩
  match ps, ho with
  | [.int i, .int j], ho =>
    obtain ⟨v, w, rfl, r, r2⟩ := rp.two
    obtain rfl : v = .int i := r
    obtain rfl : w = .int j := r2
    exact call_min2 hc pins s σ H _ us Q I rx ⟨i, j, rfl, k.now (p := .int _) g rfl ho⟩
theorem blt_gcd : CallR X (.builtin "math.gcd") (rCP X.K fa (bltP .gcd)) := by
  intro pins s σ H xs us Q I rx ⟨G, ps, Qp, g, rp, ho, k⟩
  match ps, ho with
  | [.int i, .int j], ho =>
    obtain ⟨v, w, rfl, r, r2⟩ := rp.two
    obtain rfl : v = .int i := r
    obtain rfl : w = .int j := r2
    exact cr_gcd pins s σ H _ us Q I rx ⟨i, j, rfl, k.now (p := .int _) g rfl ho⟩
theorem blt_divmod : CallR X (.builtin "divmod") (rCP X.K fa (bltP .divmod)) := by
  intro pins s σ H xs us Q I rx ⟨G, ps, Qp, g, rp, ho, k⟩
  match ps, ho with
  | [.int i, .int j], ho =>
    obtain ⟨v, w, rfl, r, r2⟩ := rp.two
    obtain rfl : v = .int i := r
    obtain rfl : w = .int j := r2
    obtain ⟨⟨h1, h2⟩, ho⟩ := ho
    refine call_divmodW pins s σ H _ us Q I rx ⟨i, j, rfl, ⟨h1, ?_⟩, fun p hp => k.newT (ps := [.int (i / j), .int (i % j)]) g hp ⟨_, _, rfl, rfl, _, _, rfl, rfl, rfl⟩ ho⟩
    have := PyProof.noPylong_of_log2 (x := i) (Nat.lt_trans (PySem.Flt.log2_lt_of (by decide) h2) (by decide : 8000 < 9000))
    exact this
theorem blt_P (hc : X.calm = true) (f : Bn) : CallR X (bv f) (rCP X.K fa (bltP f)) := by
  cases f
  · exact blt_len
  · exact blt_abs
  · exact blt_int
  · exact blt_tuple
  · exact blt_list hc
  · exact blt_all hc
  · exact blt_any hc
  · exact blt_max hc
  · exact blt_min hc
  · exact blt_gcd
  · exact blt_divmod
  · exact blt_sorted

/-! ### isinstance of built-in classes -/
def tyP : P → Option String
  | .non => some "NoneType" | .bl _ => some "bool" | .int _ => some "int" | .str _ => some "str"
  | .tup _ => some "tuple" | .lst _ => some "list" | .dct _ _ => some "dict" | _ => none
theorem sqT_ty {K : PySem.W.Frag} {a : Addr} {vs : List V} (h : SqT K H a vs) : TyX K H (.ref a) (.type "tuple") := by
  rcases h with (h | ⟨o, h⟩) | ⟨o, _, _, h, c, _⟩
  · exact .base (.tup h)
  · exact .fTuple h
  · exact .kTuple h c
theorem tyP_ok {p : P} {v : V} {t : String} (r : RepR K fa G H p v) (h : tyP p = some t) : TyX K H v (.type t) := by
  cases p with
  | non => obtain rfl : v = .non := r; cases h; exact .base .non
  | bl b => obtain rfl : v = .bl b := r; cases h; exact .base (.bl b)
  | int b => obtain rfl : v = .int b := r; cases h; exact .base (.int b)
  | str b => obtain rfl : v = .str b := r; cases h; exact .base (.str b)
  | tup xs => obtain ⟨a, vs, rfl, ha, ra⟩ := repR_tup r; cases h; exact sqT_ty ha
  | lst xs => obtain ⟨a, vs, rfl, ha, ra⟩ := repR_lst r; cases h; exact .base (.lst ha)
  | dct ks ps => obtain ⟨a, vs, rfl, ha, _⟩ := r; cases h; exact .base (.dK ha)
  | _ => cases h
def isiS (a b : String) : Bool := a == b || (a == "bool" && b == "int")
theorem kitB_ok : ∀ a ∈ ["NoneType", "bool", "int", "str", "tuple", "list", "dict"], ∀ b ∈ ["int", "bool", "str", "tuple", "list", "dict"], kitB a b = some (isiS a b) := by decide +kernel
def okTy (b : String) : Bool := ["int", "bool", "str", "tuple", "list", "dict"].contains b
theorem tyP_mem {p : P} {t : String} (h : tyP p = some t) : t ∈ ["NoneType", "bool", "int", "str", "tuple", "list", "dict"] := by
  cases p <;> first | (cases h; decide) | cases h
theorem isiP_ty {p : P} {b : String} {r : Bool} (hb : okTy b = true) (h : isiP p b = some r) : ∃ t, tyP p = some t ∧ r = isiS t b := by
  have hb' : b ∈ ["int", "bool", "str", "tuple", "list", "dict"] := by simpa [okTy] using hb
  cases p <;> first
    | (refine ⟨_, rfl, ?_⟩
       have e := Option.some.inj h
       subst e
       simp only [List.mem_cons, List.mem_nil_iff, or_false] at hb'
       rcases hb' with rfl | rfl | rfl | rfl | rfl | rfl <;> decide)
    | cases h
end
end Fw
/-! Fw: xs[::-1] of lists and of tuples. -/
namespace HT
open PySem PySem.Spec PyProof.Rows L2
section
variable {prog : Program} {w : World} {A : Around} {E : Value → Shared → Prop} {s : Shared}
theorem sliceApplied_rev {sl : Addr} {vs : Value} {n : Nat} {Q : Int × Int × Nat → Shared → Prop} (hs : s.heap.IsSliceOf sl .none .none vs) (ps : IsPart vs (some (-1)))
    (h : Q (((n : Int) - 1), -1, n) s) : wpAny (model prog w) A (Builtin.Slice.sliceApplied (.ref sl) (pure (n : Int))) Q E s := by
  obtain ⟨os, hos, hcs, hds⟩ := id hs
  unfold Builtin.Slice.sliceApplied Builtin.Slice.sliceFields
  refine wpAny_bind (wpAny_bind (wpAny_field hos hds (x := .none) rfl (wpAny_bind (wpAny_field hos hds (x := .none) rfl (wpAny_bind (wpAny_field hos hds (x := vs) rfl (wpAny_pure ?_)))))))
  refine wpAny_bind (slicePart_ ps ?_)
  show wpAny _ _ (if ((-1 : Int) == 0) = true then _ else _) _ _ s
  rw [if_neg (by decide)]
  refine wpAny_bind (slicePart_none (wpAny_bind (slicePart_none (wpAny_bind (wpAny_pure ?_)))))
  show wpAny _ _ (match Builtin.Slice.sliceAdjust none none (-1) (n : Int) with | (lo, hi) => pure (lo, (-1 : Int), Builtin.Slice.slicePlaces lo hi (-1))) _ _ s
  have e : Builtin.Slice.sliceAdjust none none (-1) (n : Int) = ((n : Int) - 1, -1) := by
    unfold Builtin.Slice.sliceAdjust
    simp
  rw [e]
  show wpAny _ _ (pure ((n : Int) - 1, (-1 : Int), Builtin.Slice.slicePlaces ((n : Int) - 1) (-1) (-1))) _ _ s
  have e2 : Builtin.Slice.slicePlaces ((n : Int) - 1) (-1) (-1) = n := by
    unfold Builtin.Slice.slicePlaces
    simp
    omega
  rw [e2]
  exact wpAny_pure h
theorem fm_congr {α β : Type} {f g : α → Option β} : ∀ {l : List α}, (∀ a ∈ l, f a = g a) → l.filterMap f = l.filterMap g
  | [], _ => rfl
  | a :: l, h => by rw [List.filterMap_cons, List.filterMap_cons, h a List.mem_cons_self, fm_congr fun b hb => h b (List.mem_cons_of_mem _ hb)]
theorem pick_rev (xs : Array Value) : ((List.range xs.size).filterMap fun (m : Nat) => xs[(((xs.size : Int) - 1) + (m : Int) * -1).toNat]?).toArray = xs.toList.reverse.toArray := by
  have e : (List.range xs.size).filterMap (fun (m : Nat) => xs[(((xs.size : Int) - 1) + (m : Int) * -1).toNat]?) = ((List.range xs.size).map (fun k => xs.size - 1 - k)).filterMap (xs[·]?) := by
    rw [List.filterMap_map]
    refine fm_congr fun m hm => ?_
    show _ = xs[xs.size - 1 - m]?
    have := List.mem_range.mp hm
    have e : (((xs.size : Int) - 1) + (m : Int) * -1).toNat = xs.size - 1 - m := by omega
    rw [e]
  rw [e, PySem.W.krv_range, List.filterMap_reverse, PySem.W.krv_all]
theorem getItem_tuple_rev {t sl : Addr} {items : Array Value} {vs : Value} {Q : Value → Shared → Prop} (ht : IsTup s.heap t items) (hs : s.heap.IsSliceOf sl .none .none vs) (ps : IsPart vs (some (-1)))
    (h : Q (.ref s.heap.objs.size) { s with heap := s.heap.push { cls := .type "tuple", data := .seq items.toList.reverse.toArray } })
    (hsz : items.size ≤ sizeLine) : wpAny (model prog w) A (getItem (.ref t) (.ref sl)) Q E s := by
  have htake : sizeOk (.seq items.toList.reverse.toArray) := by
    show items.toList.reverse.toArray.size ≤ sizeLine
    rw [List.size_toArray, List.length_reverse, Array.length_toList]
    exact hsz
  obtain ⟨os, hos, hcs, hds⟩ := id hs
  have hTs : s.TypeIs (.ref sl) "slice" := ⟨os, hos, hcs⟩
  unfold getItem
  try with_reducible refine wpAny_holding ?_
  first | refine wpAny_bind (wpAny_pure ?_) | skip
  refine wpAny_bind (wpAny_sequenceKey ht.typeIs (by decide) ?_)
  refine wpAny_bind (wpAny_callSpecial?_slot (name := Str.ofString "__getitem__") ht.typeIs PyProof.Rows.slot_tuple_getitem
    (wpAny_call_entry PyProof.Rows.slot_tuple_getitem ht.typeIs entry_tuple_getitem ?_ (args_tuple_getitem _ _)))
  show wpAny _ _ (Builtin.Tuple.tupleItemsOf (.ref t) >>= _) _ _ s
  refine wpAny_bind (tupleItemsOf_ ht ?_)
  refine wpAny_bind (wpAny_typeOf hTs ?_)
  rw [if_pos (by decide)]
  refine wpAny_bind (sliceApplied_rev hs ps ?_)
  have hno : ¬ ((((items.size : Int) - 1) == 0 && (-1 : Int) == 1 && items.size == items.size) = true) := by simp
  show wpAny _ _ (if (((items.size : Int) - 1) == 0 && (-1 : Int) == 1 && items.size == items.size) = true then _ else _) _ _ s
  rw [if_neg hno, pick_rev]
  first
    | exact wpAny_bind (m := Builtin.Tuple.tupleExact _) (wpAny_newObj_type (wpAny_pure ⟨_, rfl, wpAny_pure h⟩) htake)
    | exact wpAny_bind (m := Builtin.Tuple.tupleExact _) (wpAny_newObj_type (wpAny_bind (wpAny_pure (wpAny_pure ⟨_, rfl, wpAny_pure h⟩))) htake)
    | exact wpAny_bind (wpAny_bind (m := Builtin.Tuple.tupleExact _) (wpAny_newObj_type (wpAny_pure (wpAny_pure ⟨_, rfl, wpAny_pure h⟩)) htake))
    | exact wpAny_bind (wpAny_bind (m := Builtin.Tuple.tupleExact _) (wpAny_newObj_type (wpAny_pure ⟨_, rfl, wpAny_pure h⟩) htake))
end
end HT

namespace Fw
open PySem PySem.Spec PyProof.Rows L2
/-- x[::-1], by values: the slice object stands at sl -/
def RvR (X : Cx) (r : V → Hp → VK → Prop) : Prop :=
  ∀ (pins : List (Addr × Obj)) (s : Shared) (σ : L2.St) (H : Hp) (x : V) (v vs : Value) (sl : Addr) (Q : VK), Inv X pins σ H s → RelV x v → s.heap.IsSliceOf sl .none .none vs → IsPart vs (some (-1)) → r x H Q →
    ∃ T id, typeLookup (.type T) "__getitem__" = pure (some (.builtin id)) ∧ s.TypeIs v T ∧ wpAny (model X.prog X.w) X.A (getItem v (.ref sl)) (EP X pins σ Q) X.xe s
def tRv (r : V → Hp → VK → Prop) (te : TE) : TE := fun σ H Q => te σ H fun x H1 => r x H1 Q
section
variable {X : Cx} {e : Expr} {te : TE} {pos : Pos}
theorem pe_rv {r : V → Hp → VK → Prop} {k : Nat} {p1 p2 p3 : Pos} (hr : RvR X r) (he : PE X e te) : PE X (.Subscript e (.Slice none none (some (.UnaryOp .USub (.Constant (.int 1) k p1) p2)) p3) pos) (tRv r te) := by
  refine ⟨fun pins s σ H Q I h => ?_⟩
  refine Subscript_ (thn (he.run pins s σ H _ I h) fun v s1 ⟨x, H1, I1, r1, q1⟩ => ?_)
  have hst : PO X (some (.UnaryOp .USub (.Constant (.int 1) k p1) p2)) (tPart (tUn (rU fun i => .int (-i)) (tC (.int 1)))) := po_some (pe_un un_neg pe_int)
  refine wpAny_Slice (thn (po_none.run pins s1 σ H1 (fun o H2 => o = none ∧ H2 = H1) I1 ⟨rfl, rfl⟩) fun vl s2 ⟨l, H2, I2, pl, el, e2⟩ => ?_)
  subst el e2
  refine thn (po_none.run pins s2 σ H2 (fun o H3 => o = none ∧ H3 = H2) I2 ⟨rfl, rfl⟩) fun vu s3 ⟨u, H3, I3, pu, eu, e3⟩ => ?_
  subst eu e3
  refine thn (hst.run pins s3 σ H3 (fun o H4 => o = some (-1) ∧ H4 = H3) I3 ⟨1, rfl, -1, rfl, rfl, rfl⟩) fun vs s4 ⟨o, H4, I4, ps, eo, e4⟩ => ?_
  subst eo e4
  cases pl
  cases pu
  have I5 : Inv X pins σ H4 { s4 with heap := s4.heap.push { cls := .type "slice", data := .fields #[.none, .none, vs] } } := I4.kept (t' := s4.toks) fun b ob q => Heap.get?_push_of_some _ q
  obtain ⟨T, id, hT, ht, hg⟩ := hr pins { s4 with heap := s4.heap.push { cls := .type "slice", data := .fields #[.none, .none, vs] } } σ H4 x v vs s4.heap.objs.size Q I5 r1 (Heap.IsSliceOf.new ..) ps q1
  show wpAny (model X.prog X.w) X.A (subscriptTail e (.Slice none none (some (.UnaryOp .USub (.Constant (.int 1) k p1) p2)) p3) v (.ref s4.heap.objs.size)) (EP X pins σ Q) X.xe { s4 with heap := s4.heap.push { cls := .type "slice", data := .fields #[.none, .none, vs] } }
  exact tail_any (ops := [v, .ref s4.heap.objs.size]) ht hT hg (by with_unfolding_all rfl)
theorem rv_lst : RvR X (fun x H Q => ∃ a xs, x = .ref a ∧ SqL X.K H a xs ∧ ∀ p, H p = none → Q (.ref p) (upd H p (.lst xs.reverse))) := by
  intro pins s σ H x v vs sl Q I rx hs ps h
  obtain ⟨a, xs, rfl, hx, q⟩ := h
  cases rx
  obtain ⟨its, r, ht, hz⟩ := I.list hx
  have hlen := r.length
  refine ⟨"list", _, PySem.slot_list_getitem.lookup, ht.isList.typeIs, ?_⟩
  refine wpAny_getItem_list_slice ht.isList hs .none .none ps (by decide) ?_ (by rw [List.size_toArray]; omega)
  rw [PySem.W.krv_pick]
  refine ⟨.ref _, _, I.laid (t' := s.toks) (o := .lst xs.reverse) (fun b ob q => Heap.get?_push_of_some _ q) (Nat.le_refl _) ?_, rfl, q _ (I.hok.fresh (Nat.le_refl _))⟩
  exact ⟨by rw [List.length_reverse]; exact hz, _, 0, r.reverse, Heap.get?_push_size _ rfl⟩
theorem rv_tup : RvR X (fun x H Q => ∃ a xs, x = .ref a ∧ SqT X.K H a xs ∧ ∀ p, H p = none → Q (.ref p) (upd H p (.tup xs.reverse))) := by
  intro pins s σ H x v vs sl Q I rx hs ps h
  obtain ⟨a, xs, rfl, hx, q⟩ := h
  cases rx
  obtain ⟨its, r, ht, hz⟩ := I.tuple hx
  have hlen : its.toArray.size = xs.length := by rw [List.size_toArray]; exact r.length.symm
  refine ⟨"tuple", _, PyProof.Rows.slot_tuple_getitem.lookup, ht.typeIs, ?_⟩
  refine HT.getItem_tuple_rev ht hs ps ?_ (by rw [hlen]; exact hz)
  refine ⟨.ref s.heap.objs.size, _, I.laid (t' := s.toks) (o := .tup xs.reverse) (fun b ob q => Heap.get?_push_of_some _ q) (Nat.le_refl _) ?_, rfl, q _ (I.hok.fresh (Nat.le_refl _))⟩
  exact ⟨by rw [List.length_reverse]; exact hz, _, r.reverse, IsTup.new _ _⟩
def rRvP (K : PySem.W.Frag) (fa : Nat → Addr) : V → Hp → VK → Prop := fun x H Q =>
  ∃ G p Qp, Good G H ∧ RepR K fa G H p x ∧ revP p Qp ∧ Kt K fa G H Qp Q
theorem rv_P {fa : Nat → Addr} : RvR X (rRvP X.K fa) := by
  intro pins s σ H x v vs sl Q I rx hs ps ⟨G, p, Qp, g, rp, ho, k⟩
  cases p <;> try exact False.elim ho
  · rename_i xs
    obtain ⟨a, vs', rfl, ha, ra⟩ := repR_tup rp
    exact rv_tup pins s σ H _ v vs sl Q I rx hs ps ⟨a, vs', rfl, ha, fun p hp => k.newT g hp ra.reverse ho⟩
  · rename_i xs
    obtain ⟨a, vs', rfl, ha, ra⟩ := repR_lst rp
    exact rv_lst pins s σ H _ v vs sl Q I rx hs ps ⟨a, vs', rfl, SqL.of ha, fun p hp => k.newL g hp ra.reverse ho⟩
  · rename_i ns
    obtain ⟨a, rfl, ha⟩ := rp
    exact rv_lst pins s σ H _ v vs sl Q I rx hs ps ⟨a, _, rfl, ha.sq, fun p hp => k.newL g hp (Reps.ints ns).reverse ho⟩
end
end Fw
/-! Fw: contexts, readings of wp, the checker. -/
namespace Fw
open PySem PySem.Spec PyProof.Rows L2

/-- where the defs and exception classes stand -/
structure Ad where
  fa : Nat → Addr
  xa : Nat → Addr
  /-- the field that an exception of the class keeps -/
  xf : Nat → Option Str
def RepB (b : Bool) (K : PySem.W.Frag) (fa : Nat → Addr) (G : Gh) (H : Hp) (p : P) (v : V) : Prop := RepR K fa G H p v ∧ (b = true → Rep K fa G H p v)
def RepsB (K : PySem.W.Frag) (fa : Nat → Addr) (G : Gh) (H : Hp) : List Bool → List P → List V → Prop
  | b :: bs, p :: ps, vs => ∃ v r, vs = v :: r ∧ RepB b K fa G H p v ∧ RepsB K fa G H bs ps r
  | [], [], vs => vs = []
  | _, _, _ => False
/-- an exception: its class, its own dict -/
def XRep (K : PySem.W.Frag) (D : Ad) (G : Gh) (H : Hp) (cls : Value) (d : Option Addr) (c : Nat) (ps : List P) : Prop :=
  cls = .ref (D.xa c) ∧ match D.xf c with
    | none => ps = []
    | some f => ∃ p dd v, ps = [p] ∧ d = some dd ∧ H dd = some (.xd [(f, v)]) ∧ Rep K D.fa G H p v
section
variable {K : PySem.W.Frag} {fa : Nat → Addr} {D : Ad} {G G' G1 : Gh} {H H' H1 : Hp}
theorem RepR.xt (x : Xt G H G' H') (g : Good G H) {p : P} {v : V} (h : RepR K fa G H p v) : RepR K fa G' H' p v := by
  exact h.mv (x.mo g) fun a o q n _ _ => ⟨x.std a _ q n, x.npool a (by rw [q]; exact Option.some_ne_none _) n⟩
theorem RepB.xt (x : Xt G H G' H') (g : Good G H) {b : Bool} {p : P} {v : V} (h : RepB b K fa G H p v) : RepB b K fa G' H' p v :=
  ⟨h.1.xt x g, fun e => (x.mo g).rep (h.2 e)⟩
theorem Rep.b (g : Good G H) {b : Bool} {p : P} {v : V} (h : Rep K fa G H p v) : RepB b K fa G H p v := ⟨h.r g, fun _ => h⟩
theorem RepsB.xt (x : Xt G H G' H') (g : Good G H) : ∀ {bs : List Bool} {ps : List P} {vs : List V}, RepsB K fa G H bs ps vs → RepsB K fa G' H' bs ps vs
  | [], [], _, h => h
  | _ :: _, _ :: _, _, ⟨v, r, e, h, t⟩ => ⟨v, r, e, h.xt x g, RepsB.xt x g t⟩
  | [], _ :: _, _, h => h.elim
  | _ :: _, [], _, h => h.elim
theorem RepsB.reads : ∀ {bs : List Bool} {ps : List P} {vs : List V}, RepsB K fa G H bs ps vs → RepsR K fa G H ps vs
  | [], [], _, h => h
  | _ :: _, _ :: _, _, ⟨v, r, e, h, t⟩ => ⟨v, r, e, h.1, RepsB.reads t⟩
  | [], _ :: _, _, h => h.elim
  | _ :: _, [], _, h => h.elim
theorem RepsB.full : ∀ {bs : List Bool} {ps : List P} {vs : List V}, (∀ b ∈ bs, b = true) → RepsB K fa G H bs ps vs → Reps K fa G H ps vs
  | [], [], _, _, h => h
  | b :: _, _ :: _, _, q, ⟨v, r, e, h, t⟩ => ⟨v, r, e, h.2 (q b (List.mem_cons_self)), RepsB.full (fun c hc => q c (List.mem_cons_of_mem _ hc)) t⟩
  | [], _ :: _, _, _, h => h.elim
  | _ :: _, [], _, _, h => h.elim
theorem XRep.xt (x : Xt G H G' H') (g : Good G H) {cls : Value} {d : Option Addr} {c : Nat} {ps : List P} (h : XRep K D G H cls d c ps) : XRep K D G' H' cls d c ps := by
  obtain ⟨e, h⟩ := h
  refine ⟨e, ?_⟩
  cases q : D.xf c with
  | none => rw [q] at h; exact h
  | some f =>
    rw [q] at h
    obtain ⟨p, dd, v, e1, e2, e3, r⟩ := h
    refine ⟨p, dd, v, e1, e2, x.std dd _ e3 (fun z => ?_), (x.mo g).rep r⟩
    obtain ⟨o, e4, a, b, c, e5, _⟩ := g.pool dd z
    rw [e3] at e4; cases e4; cases e5
end

/-- the slots of a body: ow the frame's own lists, ro all that are read only -/
structure ER (K : PySem.W.Frag) (fa : Nat → Addr) (ow ro : List Nat) (G : Gh) (H : Hp) (σ : L2.St) (env : Env) : Prop where
  len : env.length = σ.length
  val : ∀ i p, env[i]? = some (some p) → ∃ v, σ[i]? = some (some v) ∧ RepB (!ro.contains i) K fa G H p v
  own : ∀ i, ow.contains i = true → ∀ p, env[i]? = some (some p) → ∃ a, σ[i]? = some (some (.ref a)) ∧ G.own i = some a
  bor : ∀ i p a, mutP p = true → ro.contains i = true → ow.contains i = false → env[i]? = some (some p) → σ[i]? = some (some (.ref a)) → ∀ j, G.own j ≠ some a
section
variable {K : PySem.W.Frag} {fa : Nat → Addr} {G G' : Gh} {H H' : Hp} {ow ro : List Nat} {σ : L2.St} {env : Env}
theorem ER.xt (x : Xt G H G' H') (g : Good G H) (h : ER K fa ow ro G H σ env) : ER K fa ow ro G' H' σ env :=
  ⟨h.len, fun i p e => let ⟨v, e2, r⟩ := h.val i p e; ⟨v, e2, r.xt x g⟩, fun i o p e => let ⟨a, e2, r⟩ := h.own i o p e; ⟨a, e2, by rw [x.own]; exact r⟩,
    fun i xs a m r o e s j => by rw [x.own]; exact h.bor i xs a m r o e s j⟩
end

/-- the table's marks: how many defs, constants; which are borrowed; calls with keywords -/
structure Mk where
  nc : Nat
  nx : Nat
  gcd : Bool
  /-- the parameters that are only read -/
  bo : Nat → List Nat
  /-- def, how many by position, names, the places of the parameters among positions and names -/
  kws : List (Nat × Nat × List Str × List Nat)
  /-- def, the value of its last parameter where it is left out -/
  dfl : List (Nat × Int)
  /-- the exception classes that are raised: without a field -/
  rz : List Nat
/-- what a spec over pure values is over the heap -/
def spOf (K : PySem.W.Frag) (D : Ad) (np : Nat) (bo : List Nat) (s : Spec) : Sp := fun vs H Q E =>
  ∃ G ps Qp Ep, vs.length = np ∧ Good G H ∧ RepsB K D.fa G H ((List.range np).map fun i => !bo.contains i) ps vs ∧ s ps Qp Ep ∧
    (∀ v p H' G', Xt G H G' H' → Good G' H' → Rep K D.fa G' H' p v → Qp p → Q v H') ∧
    (∀ c xs cls d H' G', Xt G H G' H' → Good G' H' → XRep K D G' H' cls d c xs → Ep c xs → E cls d H')
def bname : Bn → Str
  | .len => "len" | .abs => "abs" | .int => "int" | .tuple => "tuple" | .list => "list" | .all => "all" | .any => "any" | .max => "max" | .min => "min" | .gcd => "gcd" | .divmod => "divmod" | .sorted => "sorted"
/-- a def of the table is there -/
structure FThere (P : Program) (w : World) (K : PySem.W.Frag) (mg : Str → Option Value) (base : Heap) (T : Tab) (D : Ad) (M : Mk) (lv n : Nat) : Prop where
  gl : mg (T.nm n) = some (.ref (D.fa n))
  kp : PySem.W.keepIn K (.ref (D.fa n)) = true
  ok : ∃ (fd : FuncData) (prm : List Str), prm.length = T.np n ∧ Binds K fd prm [] ∧ FnOk P w K mg base (L2.CX P w) lv (D.fa n) fd prm (spOf K D prm.length (M.bo n) (T.fn n)) ∧
    ∀ q ∈ M.kws, q.1 = n → ∀ (s : Shared) (us ws : List Value), K.In s.heap → us.length = q.2.1 → ws.length = q.2.2.1.length →
      BindsTo s fd ⟨us, q.2.2.1.zip ws⟩ (prm.zip (q.2.2.2.map fun i => (us ++ ws).getD i .none)) ∧ q.2.2.2.length = prm.length ∧ ∀ i ∈ q.2.2.2, i < q.2.1 + q.2.2.1.length
  dfl : ∀ q ∈ M.dfl, q.1 = n → ∃ (fd : FuncData) (prm : List Str) (ds : List Value), prm.length = T.np n ∧ Vals [V.int q.2] ds ∧ Binds K fd prm ds ∧ FnOk P w K mg base (L2.CX P w) lv (D.fa n) fd prm (spOf K D prm.length (M.bo n) (T.fn n))
/-- the program's world as the layer sees it -/
structure Tok (P : Program) (w : World) (K : PySem.W.Frag) (mg : Str → Option Value) (base : Heap) (T : Tab) (D : Ad) (M : Mk) (lv : Nat) : Prop where
  fn : ∀ n, n < T.nf → FThere P w K mg base T D M lv n
  cn : ∀ n, n < M.nc → ∃ u v, mg (T.cn n) = some u ∧ RelV v u ∧ ∀ G H, Rep K D.fa G H (T.cv n) v
  bl : ∀ f : Bn, f ≠ .gcd → mg (bname f) = none
  gc : M.gcd = true → mg "gcd" = some (.builtin "math.gcd")
  nm : ∀ x ∈ (["range", "enumerate", "zip", "isinstance", "bool", "str", "dict", "set"] : List Str), mg x = none
  xg : ∀ c, c < M.nx → mg (T.xn c) = some (.ref (D.xa c))
  xr : ∀ c, M.rz.contains c = true → D.xf c = none ∧ PySem.W.excIn K (D.xa c) [.type "ValueError", .type "Exception", .type "BaseException", .type "object"] "ValueError.__new__" = true ∧ PySem.W.keepIn K (.ref (D.xa c)) = true ∧
    PySem.W.subIn K (.ref (D.xa c)) (.type "BaseException") = some true ∧ PySem.W.typeIn K (.ref (D.xa c)) = some (.type "type")
  xs : ∀ c c' b, T.xs c c' = some b → PySem.W.exmOne K (.ref (D.xa c)) (.ref (D.xa c')) = some b
/-- a context in which expressions are read -/
structure Cok (X : Cx) (T : Tab) (D : Ad) (M : Mk) (lv : Nat) (W : WX) : Prop where
  tok : Tok X.prog X.w X.K X.mg X.base T D M lv
  nd : X.N.Nodup
  room : Room lv X.A
  calm : X.calm = true
  tk : Takes X W

section
variable (X : Cx) (D : Ad) (W : WX) (ow ro : List Nat)
def Xk (G : Gh) (H : Hp) (σ : L2.St) (Ep : XQ) : Prop := ∀ c ps cls d H' G', Xt G H G' H' → Good G' H' → XRep X.K D G' H' cls d c ps → Ep c ps → W cls d σ H'
/-- an expression's reading -/
def Lf (b : Bool) (w : Env → PQ → XQ → Prop) : TE := fun σ H Q => ∃ G env Qp Ep, Good G H ∧ ER X.K D.fa ow ro G H σ env ∧ w env Qp Ep ∧
  (∀ v p H' G', Xt G H G' H' → Good G' H' → RepB b X.K D.fa G' H' p v → Qp p → Q v H') ∧ Xk X D W G H σ Ep
def LfA (bs : List Bool) (w : Env → (List P → Prop) → XQ → Prop) : TA := fun σ H Q => ∃ G env Qp Ep, Good G H ∧ ER X.K D.fa ow ro G H σ env ∧ w env Qp Ep ∧
  (∀ vs ps H' G', Xt G H G' H' → Good G' H' → RepsB X.K D.fa G' H' bs ps vs → Qp ps → Q vs H') ∧ Xk X D W G H σ Ep
def LfT (w : Env → PQ → XQ → Prop) : TT := fun σ H Q => ∃ G env Qp Ep, Good G H ∧ ER X.K D.fa ow ro G H σ env ∧ w env Qp Ep ∧
  (∀ p H' G', Xt G H G' H' → Good G' H' → Qp p → ∃ b, truth p = some b ∧ Q b H') ∧ Xk X D W G H σ Ep
end
section
variable {X : Cx} {D : Ad} {W : WX} {ow ro : List Nat} {G G' : Gh} {H H' : Hp} {σ : L2.St} {Ep : XQ}
theorem Xk.xt (x : Xt G H G' H') (k : Xk X D W G H σ Ep) : Xk X D W G' H' σ Ep := fun c ps cls d H2 G2 x2 g r q => k c ps cls d H2 G2 (x.trans x2) g r q
/-- weaken a reading -/
theorem pe_imp {e : Expr} {t t' : TE} (h : PE X e t) (k : ∀ σ H Q, t' σ H Q → t σ H Q) : PE X e t' := ⟨fun pins s σ H Q I q => h.run pins s σ H Q I (k σ H Q q)⟩
theorem pt_imp {e : Expr} {t t' : TT} (h : PT X e t) (k : ∀ σ H Q, t' σ H Q → t σ H Q) : PT X e t' := ⟨fun pins s σ H Q I q => h.run pins s σ H Q I (k σ H Q q)⟩
theorem pa_imp {es : List Expr} {t t' : TA} (h : PA X es t) (k : ∀ σ H Q, t' σ H Q → t σ H Q) : PA X es t' := ⟨fun pos pins s σ H Q I q => h.run pos pins s σ H Q I (k σ H Q q)⟩
end

/-- a list or dict that nobody else holds: not there at H0 -/
structure Fr (K : PySem.W.Frag) (fa : Nat → Addr) (H0 : Hp) (G : Gh) (H : Hp) (p : P) (d : Addr) : Prop where
  new : H0 d = none
  rep : ∃ o, H d = some o ∧ Cont K fa G H p o
  n1 : ¬ G.imm d
  n2 : ¬ G.pool d
  n3 : ∀ j, G.own j ≠ some d
/-- a reading that gives a new list -/
def LfF (X : Cx) (D : Ad) (W : WX) (ow ro : List Nat) (w : Env → PQ → XQ → Prop) : TE := fun σ H Q => ∃ G env Qp Ep, Good G H ∧ ER X.K D.fa ow ro G H σ env ∧ w env Qp Ep ∧
  (∀ d p H' G', Xt G H G' H' → Good G' H' → Fr X.K D.fa H G' H' p d → Qp p → Q (.ref d) H') ∧ Xk X D W G H σ Ep
theorem lff_of {X : Cx} {D : Ad} {W : WX} {ow ro : List Nat} {w : Env → PQ → XQ → Prop} {b : Bool} {σ : L2.St} {H : Hp} {Q : VK} (h : Lf X D W ow ro b w σ H Q) : LfF X D W ow ro w σ H Q := by
  obtain ⟨G, env, Qp, Ep, g, er, hw, k, kx⟩ := h
  refine ⟨G, env, Qp, Ep, g, er, hw, fun d ps H2 G2 x2 g2 fr q => ?_, kx⟩
  obtain ⟨hd, ⟨vs, hd2, rs⟩, n1, n2, n3⟩ := fr
  have ne : ∀ a, H a ≠ none → a ≠ d := fun a h z => h (z ▸ hd)
  have gd : Good (G2.addI d) H2 := by
    refine ⟨fun a z => ?_, fun a z => ?_, g2.pool, fun j a z => ?_, g2.inj⟩
    · rcases z with z | z
      · rw [z, hd2]; exact Option.some_ne_none _
      · exact g2.immH a z
    · rcases z with z | z
      · rw [z]; exact n2
      · exact g2.immP a z
    · obtain ⟨h1, h2, us, h3⟩ := g2.own j a z
      refine ⟨fun w => ?_, h2, us, h3⟩
      rcases w with w | w
      · exact n3 j (w ▸ z)
      · exact h1 w
  have xd : Xt G H (G2.addI d) H2 := ⟨x2.std, x2.there, fun a z => .inr (x2.imm a z), x2.pool, fun a z n w => by
    rcases w with w | w
    · exact ne a z w
    · exact x2.nimm a z n w, x2.npool, x2.own⟩
  have md : Mo G2 H2 (G2.addI d) H2 := ⟨fun _ _ h => h, fun _ _ _ h => h, fun _ _ _ h => h, fun a h => .inr h, fun _ h => h⟩
  exact k _ ps H2 (G2.addI d) xd gd (Rep.b gd ((md.cont rs).rep hd2 (.inl rfl))) q
/-! ### the checker -/
def visB (sc : Scope) (x : Str) : Bool := match sc.names.lookup x with | some .local => true | some .cell => true | some .free => true | _ => false
def glB (sc : Scope) (x : Str) : Bool := (match sc.names.lookup x with | some .globalImplicit => true | _ => false) && !(x == ("__debug__" : Str))
def slotB (N : List Str) (sc : Scope) (i : Nat) (x : Str) : Bool := decide (N[i]? = some x) && visB sc x && !(x == ("__debug__" : Str)) && !(x == ("__classdict__" : Str))
def tyName (t : String) : Str := Str.ofString t
/-! is the value of an expression one that may be kept? -/
mutual
def full (ro : List Nat) : Ex → Bool
  | .var i => !ro.contains i
  | .ite _ a b => full ro a && full ro b
  | .and es => fulls ro es
  | .or es => fulls ro es
  | _ => true
def fulls (ro : List Nat) : List Ex → Bool
  | [] => true
  | e :: r => full ro e && fulls ro r
end
/-- may it stand as a test? -/
def tst : Ex → Bool
  | .ite _ _ _ => false
  | _ => true
def noStarT : Expr → Bool
  | .Starred _ _ => false
  | _ => true
mutual
def tgB (N : List Str) (sc : Scope) (fl : Str → Bool) : Tg → Expr → Bool
  | .n i, .Name x _ => decide (N[i]? = some x) && (match sc.names.lookup x with | some .local => true | some .cell => fl x | _ => false)
  | .t ts, .Tuple es _ _ => tgsB N sc fl ts es && es.all noStarT
  | .p i k, .Subscript (.Name x _) (.Constant (.int n) _ _) _ => slotB N sc i x && decide (n = (k : Int))
  | _, _ => false
def tgsB (N : List Str) (sc : Scope) (fl : Str → Bool) : List Tg → List Expr → Bool
  | [], [] => true
  | t :: ts, e :: es => tgB N sc fl t e && tgsB N sc fl ts es
  | _, _ => false
end
def noStar : Expr → Bool
  | .Starred _ _ => false
  | _ => true
def plainIxB : Expr → Bool
  | .Slice _ _ none _ => false
  | _ => true
/-- a comprehension's own names: their places -/
def ownOf (N : List Str) (own : List Nat) : List (Str × Nat) := own.filterMap fun i => (N[i]?).map fun x => (x, i)
mutual
def tgSub (own : List Nat) : Tg → Bool
  | .n i => own.contains i
  | .t ts => tgsSub own ts
  | .p _ _ => false
def tgsSub (own : List Nat) : List Tg → Bool
  | [] => true
  | t :: ts => tgSub own t && tgsSub own ts
end
def needT : Ex → Bool
  | .enum _ => true
  | .zip _ _ => true
  | _ => false
def isTT : Tg → Bool
  | .t _ => true
  | _ => false
/-- what stands in a for's head alone -/
def itx : Ex → Bool
  | .enum _ => true
  | .zip _ _ => true
  | .rng _ => true
  | _ => false
/-- the arguments that are not only read may be kept -/
def argB (ro : List Nat) (bo : List Nat) (k : Nat) : List Ex → Bool
  | [] => true
  | e :: es => (bo.contains k || full ro e) && argB ro bo (k + 1) es
section
variable (T : Tab) (M : Mk) (N : List Str)
mutual
def chkE (sc : Scope) (ro : List Nat) : Ex → Expr → Bool
  | .var i, .Name x _ => slotB N sc i x
  | .cst n, .Name x _ => glB sc x && decide (x = T.cn n) && decide (n < M.nc)
  | .fnv n, .Name x _ => glB sc x && decide (x = T.nm n) && decide (n < T.nf)
  | .non, .Constant .none _ _ => true
  | .bl b, .Constant (.bool c) _ _ => b == c
  | .int n, .Constant (.int m) _ _ => decide (n = m)
  | .str x, .Constant (.str y) _ _ => decide (x = y)
  | .bin op a b, .BinOp l op' r _ => decide (op = op') && (!itx a && chkE sc ro a l) && (!itx b && chkE sc ro b r)
  | .neg a, .UnaryOp .USub e _ => (!itx a && chkE sc ro a e)
  | .cmp op a b, .Compare l [op'] [r] _ => decide (op = op') && (!itx a && chkE sc ro a l) && (!itx b && chkE sc ro b r) && !behindInMarks op r
  | .chain o1 o2 a b c, .Compare l [p1, p2] [r1, r2] _ => decide (o1 = p1) && decide (o2 = p2) && (!itx a && chkE sc ro a l) && (!itx b && chkE sc ro b r1) && (!itx c && chkE sc ro c r2) && !behindInMarks o2 r2
  | .and es, .BoolOp .And vs _ => (!es.isEmpty && es.all tst) && chkEs sc ro es vs
  | .or es, .BoolOp .Or vs _ => (!es.isEmpty && es.all tst) && chkEs sc ro es vs
  | .not a, .UnaryOp .Not e _ => (!itx a && chkE sc ro a e) && tst a
  | .ite t a b, .IfExp t' a' b' _ => (!itx t && chkE sc ro t t') && tst t && (!itx a && chkE sc ro a a') && (!itx b && chkE sc ro b b')
  | .tup es, .Tuple vs _ _ => chkEs sc ro es vs && fulls ro es && decide (es.length ≤ 1000)
  | .lst es, .List vs _ => chkEs sc ro es vs && fulls ro es && decide (es.length ≤ 1000)
  | .ix a b, .Subscript l r _ => (!itx a && chkE sc ro a l) && (!itx b && chkE sc ro b r) && plainIxB r
  | .sl a lo hi, .Subscript l (.Slice lo' hi' none _) _ => (!itx a && chkE sc ro a l) && (match lo' with | none => isNo lo | some e => !isNo lo && !itx lo && chkE sc ro lo e) && (match hi' with | none => isNo hi | some e => !isNo hi && !itx hi && chkE sc ro hi e)
  | .blt f es, .Call (.Name x _) vs [] _ => glB sc x && decide (x = bname f) && (!decide (f = .gcd) || M.gcd) && chkEs sc ro es vs && !es.isEmpty
  | .call n es, .Call (.Name x _) vs [] _ => glB sc x && decide (x = T.nm n) && decide (n < T.nf) && decide (es.length = T.np n) && chkEs sc ro es vs && argB ro (M.bo n) 0 es
  | .callK n es kes perm, .Call (.Name x _) vs kws _ => glB sc x && decide (x = T.nm n) && decide (n < T.nf) && chkEs sc ro es vs && chkEs sc ro kes (kws.map (·.value)) && fulls ro es && fulls ro kes && kws.all (fun k => k.arg.isSome) && M.kws.contains (n, es.length, kws.filterMap (·.arg), perm)
  | .callV i es, .Call (.Name x _) vs [] _ => slotB N sc i x && !ro.contains i && chkEs sc ro es vs && fulls ro es && !es.isEmpty
  | .isi a [t], .Call (.Name x _) [v, .Name y _] [] _ => glB sc x && decide (x = "isinstance") && glB sc y && decide (y = tyName t) && okTy t && (!itx a && chkE sc ro a v)
  | .lc elt tg it ifs own, .ListComp e [⟨tg', it', ifs', as⟩] scope _ => decide (as = 0) && chkE sc ro it it' && full ro it && tgB N (relS scope sc) (fun x => scope.names.lookup x == some .cell) tg tg' && tgSub own tg && (!needT it || isTT tg) && blkC N sc scope (ownOf N own) && decide ((ownOf N own).map (·.2) = own) &&
      (!itx elt && chkE (relS scope sc) ro elt e) && full ro elt && chkEs (relS scope sc) ro ifs ifs' && decide (ifs.length ≤ 1) && ifs.all tst && own.all fun i => !ro.contains i
  | .enum a, .Call (.Name x _) [v] [] _ => glB sc x && decide (x = "enumerate") && (!itx a && chkE sc ro a v) && full ro a
  | .zip a b, .Call (.Name x _) [v, w] [] _ => glB sc x && decide (x = "zip") && (!itx a && chkE sc ro a v) && full ro a && (!itx b && chkE sc ro b w) && full ro b
  | .rng es, .Call (.Name x _) vs [] _ => glB sc x && decide (x = "range") && chkEs sc ro es vs && decide (1 ≤ es.length ∧ es.length ≤ 3)
  | .isi a [t, u], .Call (.Name x _) [v, .Tuple [.Name y _, .Name z _] _ _] [] _ => glB sc x && decide (x = "isinstance") && glB sc y && decide (y = tyName t) && okTy t && glB sc z && decide (z = tyName u) && okTy u && (!itx a && chkE sc ro a v)
  | .callD n es d, .Call (.Name x _) vs [] _ => glB sc x && decide (x = T.nm n) && decide (n < T.nf) && decide (es.length + 1 = T.np n) && chkEs sc ro es vs && argB ro (M.bo n) 0 es && M.dfl.contains (n, d) && !es.isEmpty
  | .sset a, .Call (.Name x _) [.Call (.Name y _) [v] [] _] [] _ => glB sc x && decide (x = "sorted") && glB sc y && decide (y = "set") && (!itx a && chkE sc ro a v)
  | .rev a, .Subscript l (.Slice none none (some (.UnaryOp .USub (.Constant (.int i) _ _) _)) _) _ => decide (i = 1) && (!itx a && chkE sc ro a l)
  | .lsta a es, .List (.Starred e _ :: vs) _ => (!itx a && chkE sc ro a e) && chkEs sc ro es vs && fulls ro es && decide (es.length ≤ 1000)
  | .tupa a es, .Tuple (.Starred e _ :: vs) _ _ => (!itx a && chkE sc ro a e) && chkEs sc ro es vs && fulls ro es && decide (es.length ≤ 1000)
  | .dct0, .Dict ks vs _ => ks.isEmpty && vs.isEmpty
  | .dct1 k e, .Dict ks vs _ => (match ks, vs with | [some (.Constant (.str x) _ _)], [v] => decide (x = k) && !itx e && chkE sc ro e v && full ro e | _, _ => false)
  | _, _ => false
def chkEs (sc : Scope) (ro : List Nat) : List Ex → List Expr → Bool
  | [], [] => true
  | x :: xs, e :: es => !itx x && chkE sc ro x e && chkEs sc ro xs es
  | _, _ => false
end
end
end Fw
/-! Fw: helpers for the soundness of expressions. -/
namespace Fw
open PySem PySem.Spec PyProof.Rows L2

section
variable {X : Cx} {D : Ad} {W : WX} {ow ro : List Nat} {G G' : Gh} {H H' : Hp} {σ : L2.St} {Ep : XQ} {T : Tab} {M : Mk} {N : List Str} {sc : Scope}
theorem vis_of {x : Str} (h : visB sc x = true) : Vis sc x := by
  unfold visB at h
  split at h
  · exact .inl (by assumption)
  · exact .inr (.inl (by assumption))
  · exact .inr (.inr (by assumption))
  · cases h
theorem not_dbg {b : Bool} (h : (!b) = true) : b = false := by cases b <;> simp_all
theorem slot_of {i : Nat} {x : Str} (h : slotB N sc i x = true) : N[i]? = some x ∧ Vis sc x ∧ (x == ("__debug__" : Str)) = false ∧ (x == ("__classdict__" : Str)) = false := by
  unfold slotB at h
  simp only [Bool.and_eq_true, decide_eq_true_eq] at h
  exact ⟨h.1.1.1, vis_of h.1.1.2, not_dbg h.1.2, not_dbg h.2⟩
theorem gl_of {x : Str} (h : glB X.env.scope x = true) : Gl X x ∧ (x == ("__debug__" : Str)) = false := by
  unfold glB at h
  rw [Bool.and_eq_true] at h
  refine ⟨?_, not_dbg h.2⟩
  have h1 := h.1
  split at h1
  · assumption
  · cases h1
theorem star_cons {e : Expr} {es : List Expr} {env : PySem.Env} (h : noStar e = true) : starEach (e :: es) env = (false, eval e env) :: starEach es env := by
  cases e <;> first | rfl | cases h
theorem chk_noStar {x : Ex} {e : Expr} (h : chkE T M N sc ro x e = true) : noStar e = true := by
  cases e <;> first | rfl | (cases x <;> simp [chkE] at h)
theorem chk_star : ∀ {xs : List Ex} {es : List Expr} {env : PySem.Env}, chkEs T M N sc ro xs es = true → (starEach es env).any (·.1) = false
  | [], [], _, _ => rfl
  | x :: xs, e :: es, env, h => by
    simp only [chkEs, Bool.and_eq_true] at h
    rw [star_cons (chk_noStar h.1.2), List.any_cons, chk_star h.2]
    rfl
  | [], _ :: _, _, h => by simp [chkEs] at h
  | _ :: _, [], _, h => by simp [chkEs] at h
theorem back_any {pos : Pos} (l : List (Bool × Sem Value)) (h : l.any (·.1) = false) : (backTo pos l).any (·.1) = false := by
  unfold backTo
  rw [List.any_map]
  exact h
theorem chk_len : ∀ {xs : List Ex} {es : List Expr}, chkEs T M N sc ro xs es = true → xs.length = es.length
  | [], [], _ => rfl
  | x :: xs, e :: es, h => by
    simp only [chkEs, Bool.and_eq_true] at h
    rw [List.length_cons, List.length_cons, chk_len h.2]
  | [], _ :: _, h => by simp [chkEs] at h
  | _ :: _, [], h => by simp [chkEs] at h
/-- the reading of a test that is plain -/
theorem true_plain {x : Ex} {e : Expr} (h : chkE T M N sc ro x e = true) (hx : tst x = true) (h1 : ∀ a, x ≠ .not a) (h2 : ∀ es, x ≠ .and es) (h3 : ∀ es, x ≠ .or es) (h4 : ∀ op a b, x ≠ .cmp op a b) (h5 : ∀ op o2 a b c, x ≠ .chain op o2 a b c) (env : PySem.Env) :
    ∀ whole, isTrue e env whole = (do let v ← whole; standAt e.pos; holding [v] (truthy v)) := by
  intro whole
  have no : ∀ {x : Ex} {e : Expr}, chkE T M N sc ro x e = true → (∀ b vs p, e = .BoolOp b vs p → (∃ es, x = .and es) ∨ ∃ es, x = .or es) ∧ (∀ v p, e = .UnaryOp .Not v p → ∃ a, x = .not a) ∧
      (∀ l os rs p, e = .Compare l os rs p → (∃ op a b, x = .cmp op a b) ∨ ∃ op o2 a b c, x = .chain op o2 a b c) ∧ (∀ t a b p, e = .IfExp t a b p → ∃ u c d, x = .ite u c d) := by
    intro x e h
    refine ⟨?_, ?_, ?_, ?_⟩
    · rintro b vs p rfl
      cases b <;> cases x <;> first | exact .inl ⟨_, rfl⟩ | exact .inr ⟨_, rfl⟩ | (simp [chkE] at h)
    · rintro v p rfl
      cases x <;> first | exact ⟨_, rfl⟩ | (simp [chkE] at h)
    · rintro l os rs p rfl
      cases x <;> first | exact .inl ⟨_, _, _, rfl⟩ | exact .inr ⟨_, _, _, _, _, rfl⟩ | (simp [chkE] at h)
    · rintro t a b p rfl
      cases x <;> first | exact ⟨_, _, _, rfl⟩ | (simp [chkE] at h)
  obtain ⟨n1, n2, n3, n4⟩ := no h
  cases e with
  | BoolOp b vs p =>
    rcases n1 _ _ _ rfl with ⟨_, e⟩ | ⟨_, e⟩
    · exact absurd e (h2 _)
    · exact absurd e (h3 _)
  | UnaryOp op v p =>
    cases op <;> first | rfl | (obtain ⟨_, e⟩ := n2 _ _ rfl; exact absurd e (h1 _))
  | Compare l os rs p =>
    rcases n3 _ _ _ _ rfl with ⟨_, _, _, e⟩ | ⟨_, _, _, _, _, e⟩
    · exact absurd e (h4 _ _ _)
    · exact absurd e (h5 _ _ _ _ _)
  | IfExp t a b p =>
    obtain ⟨_, _, _, e⟩ := n4 _ _ _ _ rfl
    rw [e] at hx
    cases hx
  | _ => rfl
end
end Fw
/-! Fw: each construct reads as wpE says. -/
namespace Fw
open PySem PySem.Spec PyProof.Rows L2

section
variable {T : Tab} {D : Ad} {M : Mk} {lv : Nat} {ow ro : List Nat}
/-- an expression is sound, as a value and as a test -/
def S (T : Tab) (D : Ad) (M : Mk) (lv : Nat) (ow ro : List Nat) (x : Ex) : Prop := ∀ (X : Cx) (W : WX) (e : Expr), Cok X T D M lv W → chkE T M X.N X.env.scope ro x e = true → itx x = false →
  PE X e (Lf X D W ow ro (full ro x) (wpE T x)) ∧ (tst x = true → PT X e (LfT X D W ow ro (wpE T x)))
def special : Ex → Bool
  | .not _ => true
  | .and _ => true
  | .or _ => true
  | .cmp _ _ _ => true
  | .chain _ _ _ _ _ => true
  | _ => false
/-- a test from the value -/
theorem pt_of {X : Cx} {W : WX} {x : Ex} {e : Expr} (hs : special x = false) (h : chkE T M X.N X.env.scope ro x e = true) (ht : tst x = true) {b : Bool} (hp : PE X e (Lf X D W ow ro b (wpE T x))) :
    PT X e (LfT X D W ow ro (wpE T x)) := by
  refine pt_imp (pt_truth hp (true_plain h ht ?_ ?_ ?_ ?_ ?_ X.env)) ?_
  · rintro a rfl; cases hs
  · rintro a rfl; cases hs
  · rintro a rfl; cases hs
  · rintro o a b rfl; cases hs
  · rintro o o2 a b c rfl; cases hs
  rintro σ H Q ⟨G, env, Qp, Ep, g, er, hw, k, kx⟩
  refine ⟨G, env, _, Ep, g, er, hw, ?_, kx⟩
  intro v p H' G' x' g' r q
  obtain ⟨b, e, q⟩ := k p H' G' x' g' q
  exact ⟨b, tru_P r.1 e, q⟩
theorem S_of {x : Ex} (hs : special x = false) (h : ∀ (X : Cx) (W : WX) (e : Expr), Cok X T D M lv W → chkE T M X.N X.env.scope ro x e = true → itx x = false → PE X e (Lf X D W ow ro (full ro x) (wpE T x))) : S T D M lv ow ro x :=
  fun X W e c hc hi => ⟨h X W e c hc hi, fun ht => pt_of hs hc ht (h X W e c hc hi)⟩
theorem itx_of {x : Ex} (h : (!itx x) = true) : itx x = false := by cases hx : itx x <;> simp_all
/-- a constant -/
theorem lf_c {X : Cx} {W : WX} {b : Bool} {e : Expr} {p : P} {v : V} (h : PE X e (tC v)) (r : ∀ G H, Good G H → Rep X.K D.fa G H p v) : PE X e (Lf X D W ow ro b fun _ Q _ => Q p) := by
  refine pe_imp h ?_
  rintro σ H Q ⟨G, env, Qp, Ep, g, er, hw, k, kx⟩
  exact k v p H G Xt.refl g ((r G H g).b g) hw
theorem S_var (i : Nat) : S T D M lv ow ro (.var i) := S_of rfl fun X W e c h _ => by
  cases e <;> simp only [chkE, Bool.false_eq_true] at h
  obtain ⟨h1, h2, h3, h4⟩ := slot_of h
  refine pe_imp (pe_var h1 h2 h3 h4) ?_
  rintro σ H Q ⟨G, env, Qp, Ep, g, er, ⟨p, e1, q⟩, k, kx⟩
  obtain ⟨v, e2, r⟩ := er.val i p e1
  exact ⟨v, e2, k v p H G Xt.refl g r q⟩
theorem S_cst (n : Nat) : S T D M lv ow ro (.cst n) := S_of rfl fun X W e c h _ => by
  cases e <;> simp only [chkE, Bool.false_eq_true, Bool.and_eq_true, decide_eq_true_eq] at h
  obtain ⟨⟨h1, h2⟩, h3⟩ := h
  obtain ⟨gl, db⟩ := gl_of h1
  obtain ⟨u, v, m, r, rep⟩ := c.tok.cn n h3
  exact lf_c (pe_glob gl (by rw [h2]; exact m) r db) fun G H _ => rep G H
theorem S_fnv (n : Nat) : S T D M lv ow ro (.fnv n) := S_of rfl fun X W e c h _ => by
  cases e <;> simp only [chkE, Bool.false_eq_true, Bool.and_eq_true, decide_eq_true_eq] at h
  obtain ⟨⟨h1, h2⟩, h3⟩ := h
  obtain ⟨gl, db⟩ := gl_of h1
  exact lf_c (v := .ref (D.fa n)) (pe_glob gl (by rw [h2]; exact (c.tok.fn n h3).gl) rfl db) fun G H _ => rfl
theorem S_non : S T D M lv ow ro .non := S_of rfl fun X W e c h _ => by
  cases e <;> try (simp [chkE] at h; done)
  rename_i v k pos
  cases v <;> first | exact lf_c pe_non fun _ _ _ => rfl | (simp [chkE] at h; done)
theorem S_bl (b : Bool) : S T D M lv ow ro (.bl b) := S_of rfl fun X W e c h _ => by
  cases e <;> try (simp [chkE] at h; done)
  rename_i v k pos
  cases v <;> try (simp [chkE] at h; done)
  rename_i b'
  have e : b = b' := by simpa [chkE] using h
  subst e
  exact lf_c pe_bl fun _ _ _ => rfl
theorem S_int (n : Int) : S T D M lv ow ro (.int n) := S_of rfl fun X W e c h _ => by
  cases e <;> try (simp [chkE] at h; done)
  rename_i v k pos
  cases v <;> try (simp [chkE] at h; done)
  rename_i b'
  have e : n = b' := by simpa [chkE] using h
  subst e
  exact lf_c pe_int fun _ _ _ => rfl
theorem S_str (n : Str) : S T D M lv ow ro (.str n) := S_of rfl fun X W e c h _ => by
  cases e <;> try (simp [chkE] at h; done)
  rename_i v k pos
  cases v <;> try (simp [chkE] at h; done)
  rename_i b'
  have e : n = b' := by simpa [chkE] using h
  subst e
  exact lf_c pe_str fun _ _ _ => rfl
theorem S_no : S T D M lv ow ro .no := S_of rfl fun X W e c h _ => by
  cases e <;> simp [chkE] at h
/-- two expressions, then an operation -/
theorem lf_op {X : Cx} {W : WX} {b1 b2 b : Bool} {wa wb : Env → PQ → XQ → Prop} {o : P → P → PQ → Prop} {σ : L2.St} {H : Hp} {Q : VK}
    (h : Lf X D W ow ro b (fun env Q E => wa env (fun p => wb env (fun q => o p q Q) E) E) σ H Q) :
    tOp (rP X.K D.fa o) (Lf X D W ow ro b1 wa) (Lf X D W ow ro b2 wb) σ H Q := by
  obtain ⟨G, env, Qp, Ep, g, er, hw, k, kx⟩ := h
  refine ⟨G, env, _, Ep, g, er, hw, ?_, kx⟩
  intro v p H1 G1 x1 g1 r1 q1
  refine ⟨G1, env, _, Ep, g1, er.xt x1 g, q1, ?_, kx.xt x1⟩
  intro u q H2 G2 x2 g2 r2 q2
  exact ⟨G2, p, q, Qp, g2, r1.1.xt x2 g1, r2.1, q2, fun v' p' H3 G3 x3 g3 r3 q3 => k v' p' H3 G3 (x1.trans (x2.trans x3)) g3 (r3.b g3) q3⟩
theorem S_bin {op : Operator} {a b : Ex} (ha : S T D M lv ow ro a) (hb : S T D M lv ow ro b) : S T D M lv ow ro (.bin op a b) := S_of rfl fun X W e c h _ => by
  cases e <;> simp only [chkE, Bool.false_eq_true, Bool.and_eq_true, decide_eq_true_eq] at h
  obtain ⟨⟨h0, h1, h2⟩, h3, h4⟩ := h
  subst h0
  exact pe_imp (pe_op (op_P op) (ha X W _ c h2 (itx_of h1)).1 (hb X W _ c h4 (itx_of h3)).1) fun σ H Q q => lf_op q
theorem S_ix {a b : Ex} (ha : S T D M lv ow ro a) (hb : S T D M lv ow ro b) : S T D M lv ow ro (.ix a b) := S_of rfl fun X W e c h _ => by
  cases e <;> simp only [chkE, Bool.false_eq_true, Bool.and_eq_true, decide_eq_true_eq] at h
  rename_i l r pos
  obtain ⟨⟨⟨h1, h2⟩, h3, h4⟩, h5⟩ := h
  have hp : PlainIx r := by
    intro o i
    cases r <;> try rfl
    rename_i lo hi st p
    cases st <;> first | rfl | cases h5
  exact pe_imp (pe_ix ix_P (ha X W _ c h2 (itx_of h1)).1 (hb X W _ c h4 (itx_of h3)).1 hp) fun σ H Q q => lf_op q
theorem S_neg {a : Ex} (ha : S T D M lv ow ro a) : S T D M lv ow ro (.neg a) := S_of rfl fun X W e c h _ => by
  cases e <;> try (simp [chkE] at h; done)
  rename_i op v pos
  cases op <;> simp only [chkE, Bool.false_eq_true, Bool.and_eq_true] at h
  refine pe_imp (pe_un (un_negP (fa := D.fa)) (ha X W _ c h.2 (itx_of h.1)).1) ?_
  rintro σ H Q ⟨G, env, Qp, Ep, g, er, hw, k, kx⟩
  refine ⟨G, env, _, Ep, g, er, hw, ?_, kx⟩
  intro v p H1 G1 x1 g1 r1 q1
  exact ⟨G1, p, Qp, g1, r1.1, q1, fun v' p' H3 G3 x3 g3 r3 q3 => k v' p' H3 G3 (x1.trans x3) g3 (r3.b g3) q3⟩
theorem hu65 {X : Cx} {k : Nat} (r : Room k X.A) : X.A.units + 65 < cLine := by
  have := r.un
  omega
/-- what a comparison gives is a truth value -/
theorem cmp_bl {op : CmpOp} {p q : P} {Q : PQ} (h : cmpP op p q Q) : cmpP op p q fun r => ∃ b, r = .bl b ∧ Q (.bl b) := by
  cases op
  · exact ⟨h.1, h.2.1, _, rfl, h.2.2⟩
  · exact ⟨h.1, h.2.1, _, rfl, h.2.2⟩
  · cases p <;> cases q <;> first | exact ⟨_, rfl, h⟩ | exact False.elim h
  · cases p <;> cases q <;> first | exact ⟨_, rfl, h⟩ | exact False.elim h
  · cases p <;> cases q <;> first | exact ⟨_, rfl, h⟩ | exact False.elim h
  · cases p <;> cases q <;> first | exact ⟨_, rfl, h⟩ | exact False.elim h
  · cases q <;> cases p <;> first | exact ⟨_, rfl, h⟩ | exact False.elim h
  · cases q <;> cases p <;> first | exact ⟨_, rfl, h⟩ | exact False.elim h
  · cases q <;> first | exact ⟨h.1, h.2.1, _, rfl, h.2.2⟩ | exact False.elim h
  · cases q <;> first | exact ⟨h.1, h.2.1, _, rfl, h.2.2⟩ | exact False.elim h
theorem S_cmp {op : CmpOp} {a b : Ex} (ha : S T D M lv ow ro a) (hb : S T D M lv ow ro b) : S T D M lv ow ro (.cmp op a b) := fun X W e c h _ => by
  cases e <;> try (simp [chkE] at h; done)
  rename_i l ops rs pos
  match ops, rs, h with
  | [op'], [r], h =>
    simp only [chkE, Bool.false_eq_true, Bool.and_eq_true, decide_eq_true_eq] at h
    obtain ⟨⟨⟨h0, h1, h2⟩, h3, h4⟩, h5⟩ := h
    subst h0
    have hm : behindInMarks op r = false := by cases q : behindInMarks op r <;> simp_all
    refine ⟨pe_imp (pe_cmpR (cmp_P (hu65 c.room) op) (ha X W _ c h2 (itx_of h1)).1 (hb X W _ c h4 (itx_of h3)).1 hm) fun σ H Q q => lf_op q, fun _ => ?_⟩
    refine pt_imp (pt_cmpR (cmp_P (fa := D.fa) (hu65 c.room) op) (ha X W _ c h2 (itx_of h1)).1 (hb X W _ c h4 (itx_of h3)).1 hm) ?_
    rintro σ H Q ⟨G, env, Qp, Ep, g, er, hw, k, kx⟩
    refine ⟨G, env, _, Ep, g, er, hw, ?_, kx⟩
    intro v p H1 G1 x1 g1 r1 q1
    refine ⟨G1, env, _, Ep, g1, er.xt x1 g, q1, ?_, kx.xt x1⟩
    intro u q H2 G2 x2 g2 r2 q2
    refine ⟨G2, p, q, _, g2, r1.1.xt x2 g1, r2.1, cmp_bl q2, ?_⟩
    rintro v' p' H3 G3 x3 g3 r3 ⟨b, rfl, q3⟩
    obtain rfl : v' = .bl b := r3
    obtain ⟨b', e, q4⟩ := k (.bl b) H3 G3 (x1.trans (x2.trans x3)) g3 q3
    cases e
    exact ⟨b, rfl, q4⟩
  | [], _, h => simp [chkE] at h
  | [_], [], h => simp [chkE] at h
  | [_], _ :: _ :: _, h => simp [chkE] at h
  | _ :: _ :: _, _, h => simp [chkE] at h
theorem lm2 {o1 o2 : CmpOp} {b r : Expr} (h : behindInMarks o2 r = false) : lastMarks [o1, o2] [b, r] = false := h
theorem S_chain {op o2 : CmpOp} {a b d : Ex} (ha : S T D M lv ow ro a) (hb : S T D M lv ow ro b) (hd : S T D M lv ow ro d) : S T D M lv ow ro (.chain op o2 a b d) := fun X W e c h _ => by
  cases e <;> try (simp [chkE] at h; done)
  rename_i l ops rs pos
  match ops, rs, h with
  | [p1, p2], [r1, r2], h =>
    simp only [chkE, Bool.false_eq_true, Bool.and_eq_true, decide_eq_true_eq] at h
    obtain ⟨⟨⟨⟨⟨h0, h00⟩, h1, h2⟩, h3, h4⟩, h5, h6⟩, h7⟩ := h
    subst h0 h00
    have hm : behindInMarks o2 r2 = false := by cases q : behindInMarks o2 r2 <;> simp_all
    have fin : ∀ {σ : L2.St} {H : Hp} {Qw : Env → PQ → XQ → Prop} {Q : VK} {G : Gh} {env : Env} {Qp : PQ} {Ep : XQ}, Good G H → ER X.K D.fa ow ro G H σ env →
        wpE T (.chain op o2 a b d) env Qp Ep → (∀ b' H' G', Xt G H G' H' → Good G' H' → Qp (.bl b') → Q (.bl b') H') → Xk X D W G H σ Ep →
        tChain (rP X.K D.fa (cmpP op)) (rP X.K D.fa (cmpP o2)) (Lf X D W ow ro (full ro a) (wpE T a)) (Lf X D W ow ro (full ro b) (wpE T b)) (Lf X D W ow ro (full ro d) (wpE T d)) σ H Q := by
      intro σ H Qw Q G env Qp Ep g er hw k kx
      refine ⟨G, env, _, Ep, g, er, hw, ?_, kx⟩
      intro v p H1 G1 x1 g1 r1' q1
      refine ⟨G1, env, _, Ep, g1, er.xt x1 g, q1, ?_, kx.xt x1⟩
      intro u q H2 G2 x2 g2 r2' q2
      refine ⟨G2, p, q, _, g2, r1'.1.xt x2 g1, r2'.1, cmp_bl q2, ?_⟩
      rintro v' p' H3 G3 x3 g3 r3 ⟨b', rfl, k', e', q3⟩
      obtain rfl : v' = .bl b' := r3
      cases e'
      refine ⟨b', rfl, ?_⟩
      cases b' with
      | false => rw [if_neg (by decide)] at q3 ⊢; exact k false H3 G3 (x1.trans (x2.trans x3)) g3 q3
      | true =>
        rw [if_pos rfl] at q3 ⊢
        refine ⟨G3, env, _, Ep, g3, (er.xt (x1.trans (x2.trans x3)) g), q3, ?_, kx.xt (x1.trans (x2.trans x3))⟩
        intro z s H4 G4 x4 g4 r4 q4
        refine ⟨G4, q, s, _, g4, (r2'.1.xt x3 g2).xt x4 g3, r4.1, cmp_bl q4, ?_⟩
        rintro v'' p'' H5 G5 x5 g5 r5 ⟨b5, rfl, q5⟩
        obtain rfl : v'' = .bl b5 := r5
        exact k b5 H5 G5 (x1.trans (x2.trans (x3.trans (x4.trans x5)))) g5 q5
    refine ⟨pe_imp (pe_chain (cmp_P (fa := D.fa) (hu65 c.room) op) (cmp_P (fa := D.fa) (hu65 c.room) o2) (ha X W _ c h2 (itx_of h1)).1 (hb X W _ c h4 (itx_of h3)).1 (hd X W _ c h6 (itx_of h5)).1 (lm2 hm)) ?_, fun _ => ?_⟩
    · rintro σ H Q ⟨G, env, Qp, Ep, g, er, hw, k, kx⟩
      exact fin (Qw := fun _ _ _ => True) g er hw (fun b' H' G' x' g' q => k _ (.bl b') H' G' x' g' (Rep.b (p := .bl b') g' rfl) q) kx
    · refine pt_imp (pt_chain (cmp_P (fa := D.fa) (hu65 c.room) op) (cmp_P (fa := D.fa) (hu65 c.room) o2) (ha X W _ c h2 (itx_of h1)).1 (hb X W _ c h4 (itx_of h3)).1 (hd X W _ c h6 (itx_of h5)).1 (lm2 hm)) ?_
      rintro σ H Q ⟨G, env, Qp, Ep, g, er, hw, k, kx⟩
      refine fin (Qw := fun _ _ _ => True) g er hw ?_ kx
      intro b' H' G' x' g' q
      obtain ⟨b2, e2, q2⟩ := k (.bl b') H' G' x' g' q
      cases e2
      exact ⟨b', rfl, q2⟩
  | [], _, h => simp [chkE] at h
  | [_], [], h => simp [chkE] at h
  | [_], _ :: _, h => simp [chkE] at h
  | [_, _], [], h => simp [chkE] at h
  | [_, _], [_], h => simp [chkE] at h
  | [_, _], _ :: _ :: _ :: _, h => simp [chkE] at h
  | _ :: _ :: _ :: _, _, h => simp [chkE] at h
/-- from a test's reading: the value's truth -/
theorem S_not {a : Ex} (ha : S T D M lv ow ro a) : S T D M lv ow ro (.not a) := fun X W e c h _ => by
  cases e <;> try (simp [chkE] at h; done)
  rename_i op v pos
  cases op <;> simp only [chkE, Bool.false_eq_true, Bool.and_eq_true] at h
  obtain ⟨⟨h1, h2⟩, h3⟩ := h
  refine ⟨pe_imp (pe_notT (ha X W _ c h2 (itx_of h1)).1) ?_, fun _ => pt_imp (pt_not ((ha X W _ c h2 (itx_of h1)).2 h3)) ?_⟩
  · rintro σ H Q ⟨G, env, Qp, Ep, g, er, hw, k, kx⟩
    refine ⟨G, env, _, Ep, g, er, hw, ?_, kx⟩
    rintro v p H1 G1 x1 g1 r1 ⟨b, e, q⟩
    exact ⟨b, tru_P r1.1 e, k _ (.bl (!b)) H1 G1 x1 g1 (Rep.b (p := .bl (!b)) g1 rfl) q⟩
  · rintro σ H Q ⟨G, env, Qp, Ep, g, er, hw, k, kx⟩
    refine ⟨G, env, _, Ep, g, er, hw, ?_, kx⟩
    rintro p H' G' x' g' ⟨b, e, q⟩
    obtain ⟨b', e', q'⟩ := k (.bl (!b)) H' G' x' g' q
    cases e'
    exact ⟨b, e, q'⟩
/-! ### several -/
def Sl (T : Tab) (D : Ad) (M : Mk) (lv : Nat) (ow ro : List Nat) (xs : List Ex) : Prop := ∀ x ∈ xs, S T D M lv ow ro x
theorem S_args {X : Cx} {W : WX} (c : Cok X T D M lv W) : ∀ {xs : List Ex} {es : List Expr}, Sl T D M lv ow ro xs → chkEs T M X.N X.env.scope ro xs es = true → PA X es (LfA X D W ow ro (xs.map (full ro)) (wpEs T xs))
  | [], [], _, _ => by
    refine pa_imp pa_nil ?_
    rintro σ H Q ⟨G, env, Qp, Ep, g, er, hw, k, kx⟩
    exact k [] [] H G Xt.refl g rfl hw
  | x :: xs, e :: es, hs, h => by
    simp only [chkEs, Bool.and_eq_true] at h
    obtain ⟨⟨h1, h2⟩, h3⟩ := h
    refine pa_imp (pa_cons (hs x List.mem_cons_self X W e c h2 (itx_of h1)).1 (S_args c (fun y hy => hs y (List.mem_cons_of_mem _ hy)) h3) (star_cons (chk_noStar h2))) ?_
    rintro σ H Q ⟨G, env, Qp, Ep, g, er, hw, k, kx⟩
    refine ⟨G, env, _, Ep, g, er, hw, ?_, kx⟩
    intro v p H1 G1 x1 g1 r1 q1
    refine ⟨G1, env, _, Ep, g1, er.xt x1 g, q1, ?_, kx.xt x1⟩
    intro vs ps H2 G2 x2 g2 r2 q2
    exact k (v :: vs) (p :: ps) H2 G2 (x1.trans x2) g2 ⟨v, vs, rfl, r1.xt x2 g1, r2⟩ q2
  | [], _ :: _, _, h => by simp [chkEs] at h
  | _ :: _, [], _, h => by simp [chkEs] at h
theorem fulls_all : ∀ {xs : List Ex}, fulls ro xs = true → ∀ b ∈ xs.map (full ro), b = true
  | [], _, b, hb => by cases hb
  | x :: xs, h, b, hb => by
    simp only [fulls, Bool.and_eq_true] at h
    rcases List.mem_cons.mp hb with e | e
    · rw [e]; exact h.1
    · exact fulls_all h.2 b e
theorem RepsB.len {K : PySem.W.Frag} {fa : Nat → Addr} {G : Gh} {H : Hp} {bs : List Bool} {ps : List P} {vs : List V} (h : RepsB K fa G H bs ps vs) : vs.length = ps.length := h.reads.len
theorem RepsB.lenB {K : PySem.W.Frag} {fa : Nat → Addr} {G : Gh} {H : Hp} : ∀ {bs : List Bool} {ps : List P} {vs : List V}, RepsB K fa G H bs ps vs → vs.length = bs.length
  | [], [], _, h => by rw [show _ = [] from h]; rfl
  | _ :: _, _ :: _, _, ⟨v, r, e, h, t⟩ => by rw [e, List.length_cons, List.length_cons, RepsB.lenB t]
  | [], _ :: _, _, h => h.elim
  | _ :: _, [], _, h => h.elim
theorem S_tup {es : List Ex} (hs : Sl T D M lv ow ro es) : S T D M lv ow ro (.tup es) := S_of rfl fun X W e c h _ => by
  cases e <;> simp only [chkE, Bool.false_eq_true, Bool.and_eq_true, decide_eq_true_eq] at h
  obtain ⟨⟨h1, h2⟩, h3⟩ := h
  refine pe_imp (pe_tup (S_args c hs h1)) ?_
  rintro σ H Q ⟨G, env, Qp, Ep, g, er, hw, k, kx⟩
  refine ⟨G, env, _, Ep, g, er, hw, ?_, kx⟩
  intro vs ps H1 G1 x1 g1 r1 q1
  refine ⟨by rw [r1.lenB, List.length_map, sizeLine_eq]; omega, fun p hp => ?_⟩
  have r := r1.full (fulls_all h2)
  exact k _ (.tup ps) _ G1 (x1.trans (Xt.new0 hp _)) (g1.new0 hp _) (Rep.b (g1.new0 hp _) ⟨p, vs, rfl, SqT.of upd_same, ((Xt.new0 hp _).mo g1).reps r⟩) q1
theorem S_lst {es : List Ex} (hs : Sl T D M lv ow ro es) : S T D M lv ow ro (.lst es) := S_of rfl fun X W e c h _ => by
  cases e <;> simp only [chkE, Bool.false_eq_true, Bool.and_eq_true, decide_eq_true_eq] at h
  obtain ⟨⟨h1, h2⟩, h3⟩ := h
  refine pe_imp (pe_lst (S_args c hs h1)) ?_
  rintro σ H Q ⟨G, env, Qp, Ep, g, er, hw, k, kx⟩
  refine ⟨G, env, _, Ep, g, er, hw, ?_, kx⟩
  intro vs ps H1 G1 x1 g1 r1 q1
  refine ⟨by rw [r1.lenB, List.length_map, sizeLine_eq]; omega, fun p hp => ?_⟩
  have r := r1.full (fulls_all h2)
  exact k _ (.lst ps) _ _ (x1.trans (Xt.newI g1 hp _)) (g1.newI hp _) (Rep.b (g1.newI hp _) ⟨p, vs, rfl, upd_same, .inl rfl, ((Xt.newI g1 hp _).mo g1).reps r⟩) q1
/-- a built-in call -/
theorem lf_call {X : Cx} {W : WX} {bs : List Bool} {b : Bool} {w : Env → (List P → Prop) → XQ → Prop} {o : List P → PQ → Prop} {σ : L2.St} {H : Hp} {Q : VK}
    (h : Lf X D W ow ro b (fun env Q E => w env (fun ps => o ps Q) E) σ H Q) : tCB (rCP X.K D.fa o) (LfA X D W ow ro bs w) σ H Q := by
  obtain ⟨G, env, Qp, Ep, g, er, hw, k, kx⟩ := h
  refine ⟨G, env, _, Ep, g, er, hw, ?_, kx⟩
  intro vs ps H1 G1 x1 g1 r1 q1
  exact ⟨G1, ps, Qp, g1, r1.reads, q1, fun v' p' H3 G3 x3 g3 r3 q3 => k v' p' H3 G3 (x1.trans x3) g3 (r3.b g3) q3⟩
theorem S_blt {f : Bn} {es : List Ex} (hs : Sl T D M lv ow ro es) : S T D M lv ow ro (.blt f es) := S_of rfl fun X W e c h _ => by
  cases e <;> try (simp [chkE] at h; done)
  rename_i fn vs kws pos
  cases fn <;> try (simp [chkE] at h; done)
  rename_i x p
  cases kws with
  | cons _ _ => simp [chkE] at h
  | nil =>
    simp only [chkE, Bool.and_eq_true, decide_eq_true_eq] at h
    obtain ⟨⟨⟨⟨h1, h2⟩, h3⟩, h4⟩, h5⟩ := h
    obtain ⟨gl, db⟩ := gl_of h1
    subst h2
    match es, vs, h4, h5, hs with
    | y :: ys, v :: vs, h4, _, hs =>
      have h4' := h4
      simp only [chkEs, Bool.and_eq_true] at h4'
      have st : starEach (v :: vs) X.env = (false, eval v X.env) :: starEach vs X.env := star_cons (chk_noStar h4'.1.2)
      have pl := back_any (pos := pos) _ (chk_star (env := X.env) h4'.2)
      have pa := S_args c hs h4
      have bl := c.tok.bl
      cases f with
      | gcd =>
        have hg : M.gcd = true := by simpa using h3
        exact pe_imp (pe_callBfun (blt_P (fa := D.fa) c.calm .gcd) gl (c.tok.gc hg) pa db st pl) fun σ H Q q => lf_call q
      | len => exact pe_imp (pe_callB (blt_P (fa := D.fa) c.calm .len) gl (bl .len (by decide)) (by decide +kernel) pa (by decide) db st pl) fun σ H Q q => lf_call q
      | abs => exact pe_imp (pe_callB (blt_P (fa := D.fa) c.calm .abs) gl (bl .abs (by decide)) (by decide +kernel) pa (by decide) db st pl) fun σ H Q q => lf_call q
      | all => exact pe_imp (pe_callB (blt_P (fa := D.fa) c.calm .all) gl (bl .all (by decide)) (by decide +kernel) pa (by decide) db st pl) fun σ H Q q => lf_call q
      | any => exact pe_imp (pe_callB (blt_P (fa := D.fa) c.calm .any) gl (bl .any (by decide)) (by decide +kernel) pa (by decide) db st pl) fun σ H Q q => lf_call q
      | max => exact pe_imp (pe_callB (blt_P (fa := D.fa) c.calm .max) gl (bl .max (by decide)) (by decide +kernel) pa (by decide) db st pl) fun σ H Q q => lf_call q
      | min => exact pe_imp (pe_callB (blt_P (fa := D.fa) c.calm .min) gl (bl .min (by decide)) (by decide +kernel) pa (by decide) db st pl) fun σ H Q q => lf_call q
      | divmod => exact pe_imp (pe_callB (blt_P (fa := D.fa) c.calm .divmod) gl (bl .divmod (by decide)) (by decide +kernel) pa (by decide) db st pl) fun σ H Q q => lf_call q
      | sorted => exact pe_imp (pe_callB (blt_P (fa := D.fa) c.calm .sorted) gl (bl .sorted (by decide)) (by decide +kernel) pa (by decide) db st pl) fun σ H Q q => lf_call q
      | int => exact pe_imp (pe_callTy (blt_P (fa := D.fa) c.calm .int) gl (bl .int (by decide)) (by decide +kernel) pa (by decide) db st pl) fun σ H Q q => lf_call q
      | tuple => exact pe_imp (pe_callTy (blt_P (fa := D.fa) c.calm .tuple) gl (bl .tuple (by decide)) (by decide +kernel) pa (by decide) db st pl) fun σ H Q q => lf_call q
      | list => exact pe_imp (pe_callTy (blt_P (fa := D.fa) c.calm .list) gl (bl .list (by decide)) (by decide +kernel) pa (by decide) db st pl) fun σ H Q q => lf_call q
    | _ :: _, [], h4, _, _ => simp [chkEs] at h4
/-- a conditional expression -/
theorem S_ite {t a b : Ex} (ht : S T D M lv ow ro t) (ha : S T D M lv ow ro a) (hb : S T D M lv ow ro b) : S T D M lv ow ro (.ite t a b) := fun X W e c h _ => by
  refine ⟨?_, fun z => by cases z⟩
  cases e <;> simp only [chkE, Bool.false_eq_true, Bool.and_eq_true] at h
  obtain ⟨⟨⟨⟨h1, h2⟩, h3⟩, h4, h5⟩, h6, h7⟩ := h
  refine pe_imp (pe_ifExp ((ht X W _ c h2 (itx_of h1)).2 h3) (ha X W _ c h5 (itx_of h4)).1 (hb X W _ c h7 (itx_of h6)).1) ?_
  rintro σ H Q ⟨G, env, Qp, Ep, g, er, hw, k, kx⟩
  refine ⟨G, env, _, Ep, g, er, hw, ?_, kx⟩
  rintro p H1 G1 x1 g1 ⟨b', e1, q1⟩
  refine ⟨b', e1, ?_⟩
  have weak : ∀ {f1 f2 : Bool} {v p H' G'}, RepB f1 X.K D.fa G' H' p v → (f2 = true → f1 = true) → RepB f2 X.K D.fa G' H' p v := fun r z => ⟨r.1, fun e => r.2 (z e)⟩
  cases b' with
  | true =>
    show Lf X D W ow ro (full ro a) (wpE T a) σ H1 Q
    rw [if_pos rfl] at q1
    refine ⟨G1, env, Qp, Ep, g1, er.xt x1 g, q1, fun v p H2 G2 x2 g2 r2 q2 => k v p H2 G2 (x1.trans x2) g2 (weak r2 fun e => ?_) q2, kx.xt x1⟩
    simp only [full, Bool.and_eq_true] at e
    exact e.1
  | false =>
    show Lf X D W ow ro (full ro b) (wpE T b) σ H1 Q
    rw [if_neg (by decide)] at q1
    refine ⟨G1, env, Qp, Ep, g1, er.xt x1 g, q1, fun v p H2 G2 x2 g2 r2 q2 => k v p H2 G2 (x1.trans x2) g2 (weak r2 fun e => ?_) q2, kx.xt x1⟩
    simp only [full, Bool.and_eq_true] at e
    exact e.2
/-! ### and, or -/
theorem S_ands {X : Cx} {W : WX} (c : Cok X T D M lv W) {pos : Pos} : ∀ {xs : List Ex} {es : List Expr}, Sl T D M lv ow ro xs → chkEs T M X.N X.env.scope ro xs es = true → xs ≠ [] →
    PE X (.BoolOp .And es pos) (Lf X D W ow ro (fulls ro xs) (wpAnd T xs)) ∧ (xs.all tst = true → PW X (.BoolOp .And es pos) (LfT X D W ow ro (wpAnd T xs)))
  | [], _, _, _, h => absurd rfl h
  | _ :: _, [], _, h, _ => by simp [chkEs] at h
  | [x], [e], hs, h, _ => by
    simp only [chkEs, Bool.and_eq_true] at h
    obtain ⟨⟨h1, h2⟩, h3⟩ := h
    have s := hs x List.mem_cons_self X W e c h2 (itx_of h1)
    refine ⟨pe_imp (pe_one s.1) ?_, fun ht => ⟨fun wh pins s' σ H Q I q => (pw_and1 (s.2 (by simpa using ht))).run wh pins s' σ H Q I ?_⟩⟩
    · rintro σ H Q ⟨G, env, Qp, Ep, g, er, hw, k, kx⟩
      exact ⟨G, env, Qp, Ep, g, er, hw, fun v p H' G' x' g' r q => k v p H' G' x' g' ⟨r.1, fun e => r.2 (by simpa [fulls] using e)⟩ q, kx⟩
    · exact q
  | [x], _ :: _ :: _, hs, h, _ => by simp [chkEs] at h
  | x :: y :: ys, [e], hs, h, _ => by simp [chkEs] at h
  | x :: y :: ys, e :: f :: es, hs, h, _ => by
    have h' := h
    rw [chkEs, Bool.and_eq_true, Bool.and_eq_true] at h'
    obtain ⟨⟨h1, h2⟩, h3⟩ := h'
    have s := hs x List.mem_cons_self X W e c h2 (itx_of h1)
    have r := S_ands c (pos := pos) (fun z hz => hs z (List.mem_cons_of_mem _ hz)) h3 (by simp)
    refine ⟨pe_imp (pe_andT s.1 r.1) ?_, fun ht => ?_⟩
    · rintro σ H Q ⟨G, env, Qp, Ep, g, er, hw, k, kx⟩
      refine ⟨G, env, _, Ep, g, er, hw, ?_, kx⟩
      rintro v p H1 G1 x1 g1 r1 ⟨b, e1, q1⟩
      refine ⟨b, tru_P r1.1 e1, ?_⟩
      cases b with
      | true =>
        rw [if_pos rfl] at q1 ⊢
        exact ⟨G1, env, Qp, Ep, g1, er.xt x1 g, q1, fun v p H2 G2 x2 g2 r2 q2 => k v p H2 G2 (x1.trans x2) g2 ⟨r2.1, fun e => r2.2 (by rw [fulls, Bool.and_eq_true] at e; exact e.2)⟩ q2, kx.xt x1⟩
      | false =>
        rw [if_neg (by decide)] at q1 ⊢
        exact k v p H1 G1 x1 g1 ⟨r1.1, fun e => r1.2 (by rw [fulls, Bool.and_eq_true] at e; exact e.1)⟩ q1
    · have ht' : tst x = true ∧ (y :: ys).all tst = true := by simpa [List.all_cons] using ht
      have pw := pw_and (pos := pos) (s.2 ht'.1) (r.2 (by simpa [List.all_cons] using ht'.2))
      refine ⟨fun wh pins s' σ H Q I q => pw.run wh pins s' σ H Q I ?_⟩
      obtain ⟨G, env, Qp, Ep, g, er, hw, k, kx⟩ := q
      refine ⟨G, env, _, Ep, g, er, hw, ?_, kx⟩
      rintro p H1 G1 x1 g1 ⟨b, e1, q1⟩
      refine ⟨b, e1, ?_⟩
      cases b with
      | true =>
        rw [if_pos rfl] at q1 ⊢
        exact ⟨G1, env, Qp, Ep, g1, er.xt x1 g, q1, fun b H2 G2 x2 g2 q2 => k b H2 G2 (x1.trans x2) g2 q2, kx.xt x1⟩
      | false =>
        rw [if_neg (by decide)] at q1 ⊢
        obtain ⟨b', e', q'⟩ := k p H1 G1 x1 g1 q1
        rw [e1] at e'
        cases e'
        exact q'
theorem S_ors {X : Cx} {W : WX} (c : Cok X T D M lv W) {pos : Pos} : ∀ {xs : List Ex} {es : List Expr}, Sl T D M lv ow ro xs → chkEs T M X.N X.env.scope ro xs es = true → xs ≠ [] →
    PE X (.BoolOp .Or es pos) (Lf X D W ow ro (fulls ro xs) (wpOr T xs)) ∧ (xs.all tst = true → PW X (.BoolOp .Or es pos) (LfT X D W ow ro (wpOr T xs)))
  | [], _, _, _, h => absurd rfl h
  | _ :: _, [], _, h, _ => by simp [chkEs] at h
  | [x], [e], hs, h, _ => by
    simp only [chkEs, Bool.and_eq_true] at h
    obtain ⟨⟨h1, h2⟩, h3⟩ := h
    have s := hs x List.mem_cons_self X W e c h2 (itx_of h1)
    refine ⟨pe_imp (pe_one s.1) ?_, fun ht => ⟨fun wh pins s' σ H Q I q => (pw_or1 (s.2 (by simpa using ht))).run wh pins s' σ H Q I ?_⟩⟩
    · rintro σ H Q ⟨G, env, Qp, Ep, g, er, hw, k, kx⟩
      exact ⟨G, env, Qp, Ep, g, er, hw, fun v p H' G' x' g' r q => k v p H' G' x' g' ⟨r.1, fun e => r.2 (by simpa [fulls] using e)⟩ q, kx⟩
    · exact q
  | [x], _ :: _ :: _, hs, h, _ => by simp [chkEs] at h
  | x :: y :: ys, [e], hs, h, _ => by simp [chkEs] at h
  | x :: y :: ys, e :: f :: es, hs, h, _ => by
    have h' := h
    rw [chkEs, Bool.and_eq_true, Bool.and_eq_true] at h'
    obtain ⟨⟨h1, h2⟩, h3⟩ := h'
    have s := hs x List.mem_cons_self X W e c h2 (itx_of h1)
    have r := S_ors c (pos := pos) (fun z hz => hs z (List.mem_cons_of_mem _ hz)) h3 (by simp)
    refine ⟨pe_imp (pe_orT s.1 r.1) ?_, fun ht => ?_⟩
    · rintro σ H Q ⟨G, env, Qp, Ep, g, er, hw, k, kx⟩
      refine ⟨G, env, _, Ep, g, er, hw, ?_, kx⟩
      rintro v p H1 G1 x1 g1 r1 ⟨b, e1, q1⟩
      refine ⟨b, tru_P r1.1 e1, ?_⟩
      cases b with
      | false =>
        rw [if_neg (by decide)] at q1 ⊢
        exact ⟨G1, env, Qp, Ep, g1, er.xt x1 g, q1, fun v p H2 G2 x2 g2 r2 q2 => k v p H2 G2 (x1.trans x2) g2 ⟨r2.1, fun e => r2.2 (by rw [fulls, Bool.and_eq_true] at e; exact e.2)⟩ q2, kx.xt x1⟩
      | true =>
        rw [if_pos rfl] at q1 ⊢
        exact k v p H1 G1 x1 g1 ⟨r1.1, fun e => r1.2 (by rw [fulls, Bool.and_eq_true] at e; exact e.1)⟩ q1
    · have ht' : tst x = true ∧ (y :: ys).all tst = true := by simpa [List.all_cons] using ht
      have pw := pw_or (pos := pos) (s.2 ht'.1) (r.2 (by simpa [List.all_cons] using ht'.2))
      refine ⟨fun wh pins s' σ H Q I q => pw.run wh pins s' σ H Q I ?_⟩
      obtain ⟨G, env, Qp, Ep, g, er, hw, k, kx⟩ := q
      refine ⟨G, env, _, Ep, g, er, hw, ?_, kx⟩
      rintro p H1 G1 x1 g1 ⟨b, e1, q1⟩
      refine ⟨b, e1, ?_⟩
      cases b with
      | false =>
        rw [if_neg (by decide)] at q1 ⊢
        exact ⟨G1, env, Qp, Ep, g1, er.xt x1 g, q1, fun b H2 G2 x2 g2 q2 => k b H2 G2 (x1.trans x2) g2 q2, kx.xt x1⟩
      | true =>
        rw [if_pos rfl] at q1 ⊢
        obtain ⟨b', e', q'⟩ := k p H1 G1 x1 g1 q1
        rw [e1] at e'
        cases e'
        exact q'
theorem S_and {es : List Ex} (hs : Sl T D M lv ow ro es) : S T D M lv ow ro (.and es) := fun X W e c h _ => by
  cases e <;> try (simp [chkE] at h; done)
  rename_i op vs pos
  cases op <;> simp only [chkE, Bool.false_eq_true, Bool.and_eq_true] at h
  have hne : es ≠ [] := by rintro rfl; simp at h
  have r := S_ands c (pos := pos) hs h.2 hne
  exact ⟨r.1, fun _ => (r.2 h.1.2).pt⟩
theorem S_or {es : List Ex} (hs : Sl T D M lv ow ro es) : S T D M lv ow ro (.or es) := fun X W e c h _ => by
  cases e <;> try (simp [chkE] at h; done)
  rename_i op vs pos
  cases op <;> simp only [chkE, Bool.false_eq_true, Bool.and_eq_true] at h
  have hne : es ≠ [] := by rintro rfl; simp at h
  have r := S_ors c (pos := pos) hs h.2 hne
  exact ⟨r.1, fun _ => (r.2 h.1.2).pt⟩
end
end Fw
/-! Fw: calls, slices, comprehensions; all expressions. -/
namespace Fw
open PySem PySem.Spec PyProof.Rows L2
section
variable {T : Tab} {D : Ad} {M : Mk} {lv : Nat} {ow ro : List Nat}
theorem wpEs_len : ∀ {es : List Ex} {env : Env} {Q : List P → Prop} {E : XQ}, wpEs T es env Q E → True := fun _ => trivial
/-! ### slices -/
theorem partP_of {K : PySem.W.Frag} {fa : Nat → Addr} {G : Gh} {H : Hp} {p : P} {v : V} {i : Option Int} (r : RepR K fa G H p v) (h : partP false p = some i) : ∃ j, v = .int j ∧ i = some j := by
  cases p <;> simp [partP] at h
  exact ⟨_, r, h.symm⟩
/-- a bound of a slice -/
theorem S_part {X : Cx} {W : WX} {x : Ex} {e : Option Expr} (c : Cok X T D M lv W) (hs : S T D M lv ow ro x)
    (h : (match e with | none => isNo x | some e => !isNo x && !itx x && chkE T M X.N X.env.scope ro x e) = true) :
    ∃ t : TO, PO X e t ∧ ∀ {σ : L2.St} {H : Hp} {Q : Option Int → Hp → Prop} {G : Gh} {env : Env} {Qp : PQ} {Ep : XQ}, Good G H → ER X.K D.fa ow ro G H σ env →
      wpE T x env Qp Ep → (∀ p H' G', Xt G H G' H' → Good G' H' → Qp p → ∃ i, partP (isNo x) p = some i ∧ Q i H') → Xk X D W G H σ Ep → t σ H Q := by
  cases e with
  | none =>
    have e : x = .no := by cases x <;> first | rfl | cases h
    subst e
    refine ⟨_, po_none, ?_⟩
    intro σ H Q G env Qp Ep g er hw k kx
    obtain ⟨i, e, q⟩ := k _ H G Xt.refl g hw
    cases e
    exact q
  | some e =>
    simp only [Bool.and_eq_true] at h
    obtain ⟨⟨h1, h2⟩, h3⟩ := h
    have h1' : isNo x = false := by cases q : isNo x <;> simp_all
    refine ⟨_, po_some (hs X W e c h3 (itx_of h2)).1, ?_⟩
    intro σ H Q G env Qp Ep g er hw k kx
    refine ⟨G, env, _, Ep, g, er, hw, ?_, kx⟩
    intro v p H' G' x' g' r q
    obtain ⟨i, e1, q⟩ := k p H' G' x' g' q
    rw [h1'] at e1
    obtain ⟨j, e3, e4⟩ := partP_of r.1 e1
    subst e4
    exact ⟨j, e3, q⟩
theorem S_sl {a lo hi : Ex} (ha : S T D M lv ow ro a) (hl : S T D M lv ow ro lo) (hh : S T D M lv ow ro hi) : S T D M lv ow ro (.sl a lo hi) := S_of rfl fun X W e c h _ => by
  cases e <;> try (simp [chkE] at h; done)
  rename_i l r pos
  cases r <;> try (simp [chkE] at h; done)
  rename_i lo' hi' st p2
  cases st with
  | some _ => simp [chkE] at h
  | none =>
    simp only [chkE] at h
    rw [Bool.and_eq_true, Bool.and_eq_true, Bool.and_eq_true] at h
    obtain ⟨⟨⟨h1, h2⟩, h3⟩, h4⟩ := h
    obtain ⟨tl, pl, fl⟩ := S_part c hl h3
    obtain ⟨th, ph, fh⟩ := S_part c hh h4
    refine pe_imp (pe_slice (sl_P (fa := D.fa)) (ha X W _ c h2 (itx_of h1)).1 pl ph) ?_
    rintro σ H Q ⟨G, env, Qp, Ep, g, er, hw, k, kx⟩
    refine ⟨G, env, _, Ep, g, er, hw, ?_, kx⟩
    intro v p H1 G1 x1 g1 r1 q1
    refine fl g1 (er.xt x1 g) q1 ?_ (kx.xt x1)
    rintro l' H2 G2 x2 g2 ⟨i, e1, q2⟩
    refine ⟨i, e1, fh g2 (er.xt (x1.trans x2) g) q2 ?_ (kx.xt (x1.trans x2))⟩
    rintro h' H3 G3 x3 g3 ⟨j, e2, q3⟩
    exact ⟨j, e2, G3, p, Qp, g3, (r1.1.xt x2 g1).xt x3 g2, q3, fun v' p' H4 G4 x4 g4 r4 q4 => k v' p' H4 G4 (x1.trans (x2.trans (x3.trans x4))) g4 (r4.b g4) q4⟩
/-! ### isinstance -/
theorem tyName_boot : ∀ t ∈ ["int", "bool", "str", "tuple", "list", "dict"], bootBuiltins (tyName t) = some (.type t) ∧ tyName t ≠ "__name__" ∧ tyName t ∈ (["range", "enumerate", "zip", "isinstance", "bool", "str", "dict", "int", "tuple", "list"] : List Str) := by decide +kernel
/-- a type's name -/
theorem S_ty {X : Cx} {W : WX} (c : Cok X T D M lv W) {t : String} {y : Str} {py : Pos} (h3 : glB X.env.scope y = true) (h4 : y = tyName t) (h5 : okTy t = true) : PE X (.Name y py) (tC (.ty t)) := by
  obtain ⟨gl2, db2⟩ := gl_of h3
  have ht : t ∈ ["int", "bool", "str", "tuple", "list", "dict"] := by simpa [okTy] using h5
  obtain ⟨b1, b2, b3⟩ := tyName_boot t ht
  have hm : X.mg y = none := by
    rw [h4]
    simp only [List.mem_cons, List.mem_nil_iff, or_false] at ht
    rcases ht with rfl | rfl | rfl | rfl | rfl | rfl
    · exact c.tok.bl .int (by decide)
    · exact c.tok.nm _ (by decide +kernel)
    · exact c.tok.nm _ (by decide +kernel)
    · exact c.tok.bl .tuple (by decide)
    · exact c.tok.bl .list (by decide)
    · exact c.tok.nm _ (by decide +kernel)
  subst h4
  exact pe_bltn gl2 hm b1 rfl b2 db2
theorem kit_none {K : PySem.W.Frag} {t : Value} : PySem.W.kitAny K t [] = some false := by unfold PySem.W.kitAny; rfl
theorem isi2_shape {N : List Str} {sc : Scope} {a : Ex} {t1 t2 : String} {x : Str} {p pos : Pos} {vs : List Expr} {kws : List PySem.Keyword} (h : chkE T M N sc ro (.isi a [t1, t2]) (.Call (.Name x p) vs kws pos) = true) :
    ∃ v y py z pz kt pt, vs = [v, .Tuple [.Name y py, .Name z pz] kt pt] ∧ kws = [] := by
  match vs, kws, h with
  | [], _, h => simp [chkE] at h
  | [_], _, h => simp [chkE] at h
  | _ :: _ :: _ :: _, _, h => simp [chkE] at h
  | [_, e2], _ :: _, h => cases e2 <;> simp [chkE] at h
  | [_, e2], [], h =>
    cases e2 <;> try (simp [chkE] at h; done)
    rename_i es kt pt
    match es, h with
    | [], h => simp [chkE] at h
    | [e3], h => cases e3 <;> simp [chkE] at h
    | [e3, e4], h => cases e3 <;> cases e4 <;> first | exact ⟨_, _, _, _, _, _, _, rfl, rfl⟩ | (simp [chkE] at h; done)
    | _ :: _ :: _ :: _, h => simp [chkE] at h
theorem S_isi2 {a : Ex} {t1 t2 : String} (ha : S T D M lv ow ro a) : S T D M lv ow ro (.isi a [t1, t2]) := S_of rfl fun X W e c h _ => by
  cases e <;> try (simp [chkE] at h; done)
  rename_i fn vs kws pos
  cases fn <;> try (simp [chkE] at h; done)
  rename_i x p
  obtain ⟨v, y, py, z, pz, kt, pt, rfl, rfl⟩ := isi2_shape h
  · simp only [chkE, Bool.and_eq_true, decide_eq_true_eq] at h
    obtain ⟨⟨⟨⟨⟨⟨⟨⟨h1, h2⟩, h3⟩, h4⟩, h5⟩, i3⟩, i4⟩, i5⟩, h6, h7⟩ := h
    obtain ⟨gl, db⟩ := gl_of h1
    have q1 : PE X (.Name y py) (tC (.ty t1)) := S_ty c h3 h4 h5
    have q2 : PE X (.Name z pz) (tC (.ty t2)) := S_ty c i3 i4 i5
    have ptp : PE X (.Tuple [.Name y py, .Name z pz] kt pt) (tTup (tCons (tC (.ty t1)) (tCons (tC (.ty t2)) tNil))) := pe_tup (pa_cons q1 (pa_cons q2 pa_nil))
    subst h2
    have pv := (ha X W _ c h7 (itx_of h6)).1
    have st : starEach (v :: [.Tuple [.Name y py, .Name z pz] kt pt]) X.env = (false, eval v X.env) :: starEach [.Tuple [.Name y py, .Name z pz] kt pt] X.env := star_cons (chk_noStar h7)
    refine pe_imp (pe_callB call_isiT gl (c.tok.nm _ (by decide +kernel)) (by decide +kernel) (pa_cons pv (pa_cons ptp pa_nil) st) (by decide) db st rfl) ?_
    rintro σ H Q ⟨G, env, Qp, Ep, g, er, hw, k, kx⟩
    refine ⟨G, env, _, Ep, g, er, hw, ?_, kx⟩
    rintro v' p' H1 G1 x1 g1 r1 ⟨b, hb, q⟩
    refine ⟨by rw [sizeLine_eq]; show 2 ≤ _; decide, fun tp htp => ?_⟩
    have xn := Xt.new0 (G := G1) htp (.tup [V.ty t1, V.ty t2])
    have gn := g1.new0 htp (.tup [V.ty t1, V.ty t2])
    have r1' := r1.xt xn g1
    have ht1 : t1 ∈ ["int", "bool", "str", "tuple", "list", "dict"] := by simpa [okTy] using h5
    have ht2 : t2 ∈ ["int", "bool", "str", "tuple", "list", "dict"] := by simpa [okTy] using i5
    obtain ⟨t', ht', hk⟩ : ∃ t', tyP p' = some t' ∧ PySem.W.kitAny X.K (.type t') [.type t1, .type t2] = some b := by
      unfold isiAny at hb
      cases e : isiP p' t1 with
      | none => rw [e] at hb; cases hb
      | some d =>
        rw [e] at hb
        obtain ⟨t', ht', e2⟩ := isiP_ty h5 e
        refine ⟨t', ht', ?_⟩
        have k1 : PySem.W.kitOne X.K (.type t') (.type t1) = some d := by rw [e2]; exact kit_ty (kitB_ok t' (tyP_mem ht') t1 ht1)
        cases d with
        | true => exact kitAny_cons k1 (fun z => by cases z) (fun _ => (Option.some.inj hb).symm)
        | false =>
          refine kitAny_cons k1 (fun _ => ?_) (fun z => by cases z)
          have hb : isiAny p' [t2] = some b := hb
          unfold isiAny at hb
          cases e3 : isiP p' t2 with
          | none => rw [e3] at hb; cases hb
          | some d2 =>
            rw [e3] at hb
            obtain ⟨t'', ht'', e4⟩ := isiP_ty i5 e3
            rw [ht'] at ht''
            cases ht''
            have k2 : PySem.W.kitOne X.K (.type t') (.type t2) = some d2 := by rw [e4]; exact kit_ty (kitB_ok t' (tyP_mem ht') t2 ht2)
            cases d2 with
            | true => exact kitAny_cons k2 (fun z => by cases z) (fun _ => (Option.some.inj hb).symm)
            | false =>
              refine kitAny_cons k2 (fun _ => ?_) (fun z => by cases z)
              have hb : some false = some b := hb
              rw [← hb]; exact kit_none
    exact ⟨v', tp, _, .type t', _, b, rfl, upd_same, .cons (.ty t1) (.cons (.ty t2) .nil), tyP_ok r1'.1 ht', hk, k _ (.bl b) _ G1 (x1.trans xn) gn (Rep.b (p := .bl b) gn rfl) q⟩
theorem S_isi1 {a : Ex} {ts : List String} (hts : ts.length ≠ 2) (ha : S T D M lv ow ro a) : S T D M lv ow ro (.isi a ts) := S_of rfl fun X W e c h _ => by
  cases e <;> try (simp [chkE] at h; done)
  rename_i fn vs kws pos
  cases fn <;> try (simp [chkE] at h; done)
  rename_i x p
  match ts, vs, kws, h with
  | [t], [v, e2], [], h =>
    cases e2 <;> try (simp [chkE] at h; done)
    rename_i y py
    simp only [chkE, Bool.and_eq_true, decide_eq_true_eq] at h
    obtain ⟨⟨⟨⟨⟨h1, h2⟩, h3⟩, h4⟩, h5⟩, h6, h7⟩ := h
    obtain ⟨gl, db⟩ := gl_of h1
    obtain ⟨gl2, db2⟩ := gl_of h3
    have ht : t ∈ ["int", "bool", "str", "tuple", "list", "dict"] := by simpa [okTy] using h5
    obtain ⟨b1, b2, b3⟩ := tyName_boot t ht
    have hm : X.mg y = none := by
      rw [h4]
      simp only [List.mem_cons, List.mem_nil_iff, or_false] at ht
      rcases ht with rfl | rfl | rfl | rfl | rfl | rfl
      · exact c.tok.bl .int (by decide)
      · exact c.tok.nm _ (by decide +kernel)
      · exact c.tok.nm _ (by decide +kernel)
      · exact c.tok.bl .tuple (by decide)
      · exact c.tok.bl .list (by decide)
      · exact c.tok.nm _ (by decide +kernel)
    subst h2
    subst h4
    have pt : PE X (.Name (tyName t) py) (tC (.ty t)) := pe_bltn gl2 hm b1 rfl b2 db2
    have pv := (ha X W _ c h7 (itx_of h6)).1
    have st : starEach (v :: [.Name (tyName t) py]) X.env = (false, eval v X.env) :: starEach [.Name (tyName t) py] X.env := star_cons (chk_noStar h7)
    refine pe_imp (pe_callB call_isi gl (c.tok.nm _ (by decide +kernel)) (by decide +kernel) (pa_cons pv (pa_cons pt pa_nil) st) (by decide) db st rfl) ?_
    rintro σ H Q ⟨G, env, Qp, Ep, g, er, hw, k, kx⟩
    refine ⟨G, env, _, Ep, g, er, hw, ?_, kx⟩
    rintro v' p' H1 G1 x1 g1 r1 ⟨b, hb, q⟩
    have hb' : isiP p' t = some b := by
      unfold isiAny at hb
      cases e : isiP p' t with
      | none => rw [e] at hb; cases hb
      | some d => rw [e] at hb; cases d <;> exact hb
    obtain ⟨t', ht', e⟩ := isiP_ty h5 hb'
    refine ⟨v', .ty t, .type t', .type t, b, rfl, .ty t, tyP_ok r1.1 ht', ?_, k _ (.bl b) H1 G1 x1 g1 (Rep.b (p := .bl b) g1 rfl) q⟩
    rw [e]
    exact kit_ty (kitB_ok t' (tyP_mem ht') t ht)
  | [], _, _, h => simp [chkE] at h
  | [_, _], _, _, h => exact absurd rfl hts
  | _ :: _ :: _ :: _, _, _, h => simp [chkE] at h
  | [_], [], _, h => simp [chkE] at h
  | [_], [_], _, h => simp [chkE] at h
  | [_], _ :: _ :: _ :: _, _, h => simp [chkE] at h
  | [_], [_, e], _ :: _, h => cases e <;> simp [chkE] at h
theorem S_isi {a : Ex} {ts : List String} (ha : S T D M lv ow ro a) : S T D M lv ow ro (.isi a ts) := by
  by_cases h : ts.length = 2
  · match ts, h with
    | [t1, t2], _ => exact S_isi2 ha
  · exact S_isi1 h ha
/-! ### calls of the program's defs -/
theorem pe_call0S {X : Cx} {CX : CXT} {k : Nat} {f : Addr} {fd : FuncData} {ps : List Str} {sp : Sp} {E : L2.St → XK} {x : Str} {p pos : Pos} (F : FnOk X.prog X.w X.K X.mg X.base CX k f fd ps sp) (hr : Room k X.A) (hg : Gl X x) (hm : X.mg x = some (.ref f)) (hk : PySem.W.keepIn X.K (.ref f) = true) (hb : Binds X.K fd ps [])
    (hx : ∀ σ, PassesAt CX X σ (E σ)) (hdb : (x == ("__debug__" : Str)) = false) : PE X (.Call (.Name x p) [] [] pos) (tCallS sp E tNil) := by
  refine ⟨fun pins s σ H Q I h => ?_⟩
  refine wpAny_Call_Name_kw (ld_glob I hg hm ?_ hdb)
  exact PySem.W.callWith_K0 I.kIn hk (run_fnS (us := []) F hr hb (hx σ) I .nil h)
theorem pe_callLS {X : Cx} {CX : CXT} {k i : Nat} {f : Addr} {fd : FuncData} {ps : List Str} {sp : Sp} {E : L2.St → XK} {x : Str} {p pos : Pos} {e : Expr} {es : List Expr} {t : TA}
    (hF : FnOk X.prog X.w X.K X.mg X.base CX k f fd ps sp) (hr : Room k X.A) (hN : X.N[i]? = some x) (hv : Vis X.env.scope x) (hk : PySem.W.keepIn X.K (.ref f) = true) (hb : Binds X.K fd ps []) (hx : ∀ σ, PassesAt CX X σ (E σ)) (ha : PA X (e :: es) t)
    (hdb : (x == ("__debug__" : Str)) = false) (hcd : (x == ("__classdict__" : Str)) = false)
    (he : starEach (e :: es) X.env = (false, eval e X.env) :: starEach es X.env) (hpl : (backTo pos (starEach es X.env)).any (·.1) = false) : PE X (.Call (.Name x p) (e :: es) [] pos) (fun σ H Q => σ[i]? = some (some (.ref f)) ∧ tCallS sp E t σ H Q) := by
  refine ⟨fun pins s σ H Q I h => ?_⟩
  obtain ⟨hs, ht⟩ := h
  refine wpAny_Call_Name_kw (thn ((pe_var (pos := p) hN hv hdb hcd).run pins s σ H (fun v H1 => v = .ref f ∧ H1 = H) I ⟨.ref f, hs, rfl, rfl⟩) fun u s1 ⟨v, H1, I1, r1, q1⟩ => ?_)
  obtain ⟨rfl, rfl⟩ := q1
  cases r1
  refine PySem.W.callWith_K (h₀ := X.base) I.ok.mod.kin hk (thn (ha.run pos pins s1 σ _ _ I1 ht) fun us s2 ⟨vs, H2, I2, r, q⟩ => ⟨I2.kIn, ?_⟩) he hpl
  exact run_fnS hF hr hb (hx σ) I2 r q
/-- the reading of a call, from the args' -/
theorem args_bo {K : PySem.W.Frag} {fa : Nat → Addr} {G : Gh} {H : Hp} {bo : List Nat} : ∀ {es : List Ex} {k : Nat} {ps : List P} {vs : List V}, argB ro bo k es = true → RepsB K fa G H (es.map (full ro)) ps vs →
    RepsB K fa G H ((List.range' k es.length).map fun i => !bo.contains i) ps vs
  | [], _, [], _, _, h => h
  | [], _, _ :: _, _, _, h => h.elim
  | _ :: _, _, [], _, _, h => h.elim
  | e :: es, k, p :: ps, _, ha, ⟨v, r, e1, h, t⟩ => by
    simp only [argB, Bool.and_eq_true, Bool.or_eq_true] at ha
    rw [List.length_cons, List.range'_succ, List.map_cons]
    refine ⟨v, r, e1, ⟨h.1, fun z => h.2 ?_⟩, args_bo ha.2 t⟩
    rcases ha.1 with q | q
    · rw [q] at z; cases z
    · exact q
theorem lf_spec {X : Cx} {W : WX} {b : Bool} {es : List Ex} {prm : List Str} {bo : List Nat} {sp : Spec} {σ : L2.St} {H : Hp} {Q : VK} (ha : argB ro bo 0 es = true) (hl : es.length = prm.length)
    (h : Lf X D W ow ro b (fun env Q E => wpEs T es env (fun ps => sp ps Q E) E) σ H Q) :
    tCallS (spOf X.K D prm.length bo sp) (WE W) (LfA X D W ow ro (es.map (full ro)) (wpEs T es)) σ H Q := by
  obtain ⟨G, env, Qp, Ep, g, er, hw, k, kx⟩ := h
  refine ⟨G, env, _, Ep, g, er, hw, ?_, kx⟩
  intro vs ps H1 G1 x1 g1 r1 q1
  refine ⟨G1, ps, Qp, Ep, by rw [r1.lenB, List.length_map, hl], g1, ?_, q1, fun v p H2 G2 x2 g2 r2 q2 => k v p H2 G2 (x1.trans x2) g2 (r2.b g2) q2, fun c xs cls d H2 G2 x2 g2 r2 q2 => kx c xs cls d H2 G2 (x1.trans x2) g2 r2 q2⟩
  have r := args_bo (k := 0) ha r1
  rw [hl, ← List.range_eq_range'] at r
  exact r
theorem S_call {n : Nat} {es : List Ex} (hs : Sl T D M lv ow ro es) : S T D M lv ow ro (.call n es) := S_of rfl fun X W e c h _ => by
  cases e <;> try (simp [chkE] at h; done)
  rename_i fn vs kws pos
  cases fn <;> try (simp [chkE] at h; done)
  rename_i x p
  cases kws with
  | cons _ _ => simp [chkE] at h
  | nil =>
    simp only [chkE, Bool.and_eq_true, decide_eq_true_eq] at h
    obtain ⟨⟨⟨⟨⟨h1, h2⟩, h3⟩, h6⟩, h4⟩, h5⟩ := h
    obtain ⟨gl, db⟩ := gl_of h1
    subst h2
    have ft := c.tok.fn n h3
    obtain ⟨fd, prm, hl0, bi, F, _⟩ := ft.ok
    have hl : es.length = prm.length := h6.trans hl0.symm
    have hx : ∀ σ, PassesAt (L2.CX X.prog X.w) X σ (WE W σ) := fun σ => passAt c.tk σ
    match es, vs, h4, hs, h5, hl with
    | [], [], h4, hs, h5, hl =>
      refine pe_imp (pe_call0S F c.room gl ft.gl ft.kp bi hx db) ?_
      intro σ H Q q
      have := lf_spec (T := T) (prm := prm) h5 hl q
      obtain ⟨G, env, Qp, Ep, g, er, hw, k, kx⟩ := this
      exact k [] [] H G Xt.refl g rfl hw
    | y :: ys, v :: vs, h4, hs, h5, hl =>
      have h4' := h4
      simp only [chkEs, Bool.and_eq_true] at h4'
      exact pe_imp (pe_callS F c.room gl ft.gl ft.kp bi hx (S_args c hs h4) db (star_cons (chk_noStar h4'.1.2)) (back_any _ (chk_star h4'.2))) fun σ H Q q => lf_spec (T := T) (prm := prm) h5 hl q
    | _ :: _, [], h4, _, _, _ => simp [chkEs] at h4
    | [], _ :: _, h4, _, _, _ => simp [chkEs] at h4
theorem RepsB.of_full {K : PySem.W.Frag} {fa : Nat → Addr} {G : Gh} {H : Hp} : ∀ {bs cs : List Bool} {ps : List P} {vs : List V}, bs.length = cs.length → (∀ b ∈ bs, b = true) → RepsB K fa G H bs ps vs → RepsB K fa G H cs ps vs
  | [], [], [], _, _, _, h => h
  | b :: bs, c :: cs, p :: ps, _, hl, q, ⟨v, r, e, h, t⟩ => ⟨v, r, e, ⟨h.1, fun _ => h.2 (q b List.mem_cons_self)⟩, RepsB.of_full (by simpa using hl) (fun c hc => q c (List.mem_cons_of_mem _ hc)) t⟩
  | [], [], _ :: _, _, _, _, h => h.elim
  | _ :: _, _, [], _, _, _, h => h.elim
  | [], _ :: _, _, _, hl, _, _ => by simp at hl
  | _ :: _, [], _, _, hl, _, _ => by simp at hl
theorem S_callV {i : Nat} {es : List Ex} (hs : Sl T D M lv ow ro es) : S T D M lv ow ro (.callV i es) := S_of rfl fun X W e c h _ => by
  cases e <;> try (simp [chkE] at h; done)
  rename_i fn vs kws pos
  cases fn <;> try (simp [chkE] at h; done)
  rename_i x p
  cases kws with
  | cons _ _ => simp [chkE] at h
  | nil =>
    rw [chkE, Bool.and_eq_true, Bool.and_eq_true, Bool.and_eq_true, Bool.and_eq_true] at h
    obtain ⟨⟨⟨⟨h1, h2⟩, h3⟩, h4⟩, h5⟩ := h
    obtain ⟨s1, s2, s3, s4⟩ := slot_of h1
    match es, vs, h3, hs, h4, h5 with
    | y :: ys, v :: vs, h3, hs, h4, _ =>
      have h3' := h3
      simp only [chkEs, Bool.and_eq_true] at h3'
      refine ⟨fun pins s' σ H Q I q => ?_⟩
      obtain ⟨G, env, Qp, Ep, g, er, ⟨f, e1, e2, e3, hw⟩, k, kx⟩ := q
      have ft := c.tok.fn f e2
      obtain ⟨fd, prm, hl0, bi, F, _⟩ := ft.ok
      have hl : (y :: ys).length = prm.length := e3.trans hl0.symm
      have hx : ∀ σ, PassesAt (L2.CX X.prog X.w) X σ (WE W σ) := fun σ => passAt c.tk σ
      obtain ⟨v0, ev, rv⟩ := er.val i _ e1
      obtain rfl : v0 = .ref (D.fa f) := rv.1
      refine (pe_callLS (i := i) F c.room s1 s2 ft.kp bi hx (S_args c hs h3) s3 s4 (star_cons (chk_noStar h3'.1.2)) (back_any _ (chk_star h3'.2))).run pins s' σ H Q I ⟨ev, ?_⟩
      refine ⟨G, env, _, Ep, g, er, hw, ?_, kx⟩
      intro vs' ps H1 G1 x1 g1 r1 q1
      refine ⟨G1, ps, Qp, Ep, by rw [r1.lenB, List.length_map, hl], g1, ?_, q1, fun v p H2 G2 x2 g2 r2 q2 => k v p H2 G2 (x1.trans x2) g2 (r2.b g2) q2, fun c xs cls d H2 G2 x2 g2 r2 q2 => kx c xs cls d H2 G2 (x1.trans x2) g2 r2 q2⟩
      exact RepsB.of_full (by rw [List.length_map, List.length_map, List.length_range, hl]) (fulls_all h4) r1
    | _ :: _, [], h3, _, _, _ => simp [chkEs] at h3
    | [], _, _, _, _, h5 => simp at h5
end
end Fw
/-! Fw: calls with keywords. -/
namespace Fw
open PySem PySem.Spec PyProof.Rows L2
open L2 (RelV)
section
variable {T : Tab} {D : Ad} {M : Mk} {lv : Nat} {ow ro : List Nat}
theorem vals_getD : ∀ {vs : List V} {us : List Value} (i : Nat), Vals vs us → L2.RelV (vs.getD i .non) (us.getD i .none)
  | [], [], i, .nil => rfl
  | v :: vs, u :: us, 0, .cons r _ => r
  | v :: vs, u :: us, i + 1, .cons _ rr => by simpa using vals_getD i rr
theorem vals_perm {vs : List V} {us : List Value} (h : Vals vs us) : ∀ perm : List Nat, Vals (perm.map fun i => vs.getD i .non) (perm.map fun i => us.getD i .none)
  | [] => .nil
  | i :: r => .cons (vals_getD i h) (vals_perm h r)
theorem reps_perm {K : PySem.W.Frag} {fa : Nat → Addr} {G : Gh} {H : Hp} {ps : List P} {vs : List V} (h : Reps K fa G H ps vs) : ∀ perm : List Nat, Reps K fa G H (perm.map fun i => ps.getD i .non) (perm.map fun i => vs.getD i .non)
  | [] => rfl
  | i :: r => by
    refine ⟨_, _, rfl, ?_, reps_perm h r⟩
    by_cases hi : i < ps.length
    · obtain ⟨v, e, q⟩ := h.get (i := i) (p := ps[i]) (by simp [hi])
      show Rep K fa G H (ps.getD i .non) (vs.getD i .non)
      rw [List.getD_eq_getElem?_getD, List.getD_eq_getElem?_getD, e, List.getElem?_eq_getElem hi]
      exact q
    · show Rep K fa G H (ps.getD i .non) (vs.getD i .non)
      rw [List.getD_eq_getElem?_getD, List.getD_eq_getElem?_getD, List.getElem?_eq_none (by omega), List.getElem?_eq_none (by rw [h.length]; omega)]
      rfl
/-- the call of a def with keywords, bound -/
theorem run_fnKS {X : Cx} {CX : CXT} {k n m : Nat} {f : Addr} {fd : FuncData} {ps ks : List Str} {sp : Sp} {E : L2.St → XK} {perm : List Nat} {pins : List (Addr × Obj)} {σ : L2.St} {H : Hp} {s : Shared} {Q : VK} {us ws : List Value} {vs zs : List V}
    (F : FnOk X.prog X.w X.K X.mg X.base CX k f fd ps sp) (hr : Room k X.A)
    (hb : ∀ (s : Shared) (us ws : List Value), X.K.In s.heap → us.length = n → ws.length = m → BindsTo s fd ⟨us, ks.zip ws⟩ (ps.zip (perm.map fun i => (us ++ ws).getD i .none))) (hx : PassesAt CX X σ (E σ)) (I : Inv X pins σ H s) (r : Vals vs us) (rz : Vals zs ws)
    (hn : vs.length = n) (hm : zs.length = m) (h : sp (perm.map fun i => (vs ++ zs).getD i .non) H Q (E σ)) : wpAny (model X.prog X.w) X.A (call (.ref f) us (ks.zip ws)) (EP X pins σ Q) X.xe s := by
  have b := hb s us ws I.kIn (by rw [← r.length]; exact hn) (by rw [← rz.length]; exact hm)
  refine wpAny_call (codeAny_mono (F.run X.A X.stack s H ⟨us, ks.zip ws⟩ (perm.map fun i => (us ++ ws).getD i .none) (perm.map fun i => (vs ++ zs).getD i .non) Q (E σ) hr I.env0 b (vals_perm (r.append rz) perm) h) fun o s' hq => ?_)
  cases o with
  | error e => exact hx pins H s e s' I hq
  | ok fl => cases fl with
    | ret u => exact I.after hq
    | next => exact False.elim hq
    | brk => exact False.elim hq
    | cont => exact False.elim hq
theorem S_kws {X : Cx} {W : WX} (c : Cok X T D M lv W) : ∀ {xs : List Ex} {kws : List Keyword}, Sl T D M lv ow ro xs → chkEs T M X.N X.env.scope ro xs (kws.map (·.value)) = true → PK X kws (LfA X D W ow ro (xs.map (full ro)) (wpEs T xs))
  | [], [], _, _ => ⟨fun pos pins s σ H Q I h => by
      obtain ⟨G, env, Qp, Ep, g, er, hw, k, kx⟩ := h
      exact pk_nil.run pos pins s σ H Q I (k [] [] H G Xt.refl g rfl hw)⟩
  | x :: xs, ⟨nm, e, kp⟩ :: kws, hs, h => by
    simp only [List.map_cons, chkEs, Bool.and_eq_true] at h
    have h1 := (hs x List.mem_cons_self X W e c h.1.2 (itx_of h.1.1)).1
    have h2 := S_kws c (kws := kws) (fun y hy => hs y (List.mem_cons_of_mem _ hy)) h.2
    refine ⟨fun pos pins s σ H Q I q => (pk_cons (nm := nm) (kpos := kp) h1 h2).run pos pins s σ H Q I ?_⟩
    obtain ⟨G, env, Qp, Ep, g, er, hw, k, kx⟩ := q
    refine ⟨G, env, _, Ep, g, er, hw, ?_, kx⟩
    intro v p H1 G1 x1 g1 r1 q1
    refine ⟨G1, env, _, Ep, g1, er.xt x1 g, q1, ?_, kx.xt x1⟩
    intro vs ps H2 G2 x2 g2 r2 q2
    exact k (v :: vs) (p :: ps) H2 G2 (x1.trans x2) g2 ⟨v, vs, rfl, r1.xt x2 g1, r2⟩ q2
  | [], _ :: _, _, h => by simp [chkEs] at h
  | _ :: _, [], _, h => by simp [chkEs] at h
theorem kw_all {pos : Pos} {env : PySem.Env} : ∀ {kws : List Keyword}, kws.all (fun k => k.arg.isSome) = true → (backToKw pos (keywordEach kws env)).all (·.1.isSome) = true ∧ (backToKw pos (keywordEach kws env)).filterMap (·.1) = kws.filterMap (·.arg) ∧ (backToKw pos (keywordEach kws env)).any (·.1.isNone) = false
  | [], _ => ⟨rfl, rfl, rfl⟩
  | ⟨some a, e, p⟩ :: kws, h => by
    rw [List.all_cons, Bool.and_eq_true] at h
    obtain ⟨h1, h2, h3⟩ := kw_all (pos := pos) (env := env) h.2
    refine ⟨?_, ?_, ?_⟩
    · show (true && _) = true
      rw [Bool.true_and]; exact h1
    · show a :: _ = a :: _
      rw [← h2]; rfl
    · show (false || _) = false
      rw [Bool.false_or]; exact h3
  | ⟨none, e, p⟩ :: kws, h => by simp at h
theorem lf_specK {X : Cx} {W : WX} {b : Bool} {es kes : List Ex} {perm bo : List Nat} {np : Nat} {sp : Spec} {σ : L2.St} {H : Hp} {Q : VK} (h1 : fulls ro es = true) (h2 : fulls ro kes = true) (hp : perm.length = np)
    (h : Lf X D W ow ro b (wpE T (.callK n es kes perm)) σ H Q) (hsp : T.fn n = sp) :
    LfA X D W ow ro (es.map (full ro)) (wpEs T es) σ H fun vs H1 => LfA X D W ow ro (kes.map (full ro)) (wpEs T kes) σ H1 fun zs H2 => vs.length = es.length ∧ zs.length = kes.length ∧ spOf X.K D np bo sp (perm.map fun i => (vs ++ zs).getD i .non) H2 Q (WE W σ) := by
  subst hsp
  obtain ⟨G, env, Qp, Ep, g, er, hw, k, kx⟩ := h
  refine ⟨G, env, _, Ep, g, er, hw, ?_, kx⟩
  intro vs ps H1 G1 x1 g1 r1 q1
  refine ⟨G1, env, _, Ep, g1, er.xt x1 g, q1, ?_, kx.xt x1⟩
  intro zs qs H2 G2 x2 g2 r2 q2
  refine ⟨by rw [r1.lenB, List.length_map], by rw [r2.lenB, List.length_map], G2, _, Qp, Ep, by rw [List.length_map, hp], g2, ?_, q2, fun v p H3 G3 x3 g3 r3 q3 => k v p H3 G3 (x1.trans (x2.trans x3)) g3 (r3.b g3) q3,
    fun c xs cls d H3 G3 x3 g3 r3 q3 => kx c xs cls d H3 G3 (x1.trans (x2.trans x3)) g3 r3 q3⟩
  have f1 := (x2.mo g1).reps (r1.full (fulls_all h1))
  have f2 := r2.full (fulls_all h2)
  have f := reps_perm (f1.append f2) perm
  have toB : ∀ {ps : List P} {vs : List V}, Reps X.K D.fa G2 H2 ps vs → RepsB X.K D.fa G2 H2 (ps.map fun _ => true) ps vs := by
    intro ps
    induction ps with
    | nil => intro vs h; exact h
    | cons p ps ih =>
      rintro vs ⟨v, r, e, h, t⟩
      exact ⟨v, r, e, h.b g2, ih t⟩
  refine RepsB.of_full ?_ ?_ (toB f)
  · rw [List.length_map, List.length_map, List.length_map, List.length_range, hp]
  · intro b hb
    rw [List.mem_map] at hb
    obtain ⟨_, _, e⟩ := hb
    exact e.symm
theorem S_callK {n : Nat} {es kes : List Ex} {perm : List Nat} (hs : Sl T D M lv ow ro es) (hk : Sl T D M lv ow ro kes) : S T D M lv ow ro (.callK n es kes perm) := S_of rfl fun X W e c h _ => by
  cases e <;> try (simp [chkE] at h; done)
  rename_i fn vs kws pos
  cases fn <;> try (simp [chkE] at h; done)
  rename_i x p
  simp only [chkE, Bool.and_eq_true, decide_eq_true_eq] at h
  obtain ⟨⟨⟨⟨⟨⟨⟨⟨h1, h2⟩, h3⟩, h4⟩, h5⟩, h6⟩, h7⟩, h8⟩, h9⟩ := h
  obtain ⟨gl, db⟩ := gl_of h1
  subst h2
  have ft := c.tok.fn n h3
  obtain ⟨fd, prm, hl0, bi, F, hkw⟩ := ft.ok
  have hq : (n, es.length, kws.filterMap (·.arg), perm) ∈ M.kws := by simpa using h9
  obtain ⟨a1, a2, a3⟩ := kw_all (pos := pos) (env := X.env) h8
  have hkl : kes.length = kws.length := by rw [chk_len h5, List.length_map]
  have hks : (kws.filterMap (·.arg)).length = kws.length := by
    have : ∀ {l : List Keyword}, l.all (fun k => k.arg.isSome) = true → (l.filterMap (·.arg)).length = l.length := by
      intro l
      induction l with
      | nil => intro _; rfl
      | cons k l ih =>
        intro h
        rw [List.all_cons, Bool.and_eq_true] at h
        obtain ⟨a, ha⟩ := Option.isSome_iff_exists.mp h.1
        rw [List.filterMap_cons, ha]
        simp [ih h.2]
    exact this h8
  have hper : ∀ (s : Shared) (us ws : List Value), X.K.In s.heap → us.length = es.length → ws.length = kws.length → BindsTo s fd ⟨us, (kws.filterMap (·.arg)).zip ws⟩ (prm.zip (perm.map fun i => (us ++ ws).getD i .none)) ∧ perm.length = prm.length :=
    fun s us ws a b d => let z := hkw _ hq rfl s us ws a b (by rw [hks]; exact d); ⟨z.1, z.2.1⟩
  have hx : PassesAt (L2.CX X.prog X.w) X = PassesAt (L2.CX X.prog X.w) X := rfl
  refine ⟨fun pins s σ H Q I q => ?_⟩
  have hp : perm.length = prm.length := (hper s (List.replicate es.length .none) (List.replicate kws.length .none) I.kIn (List.length_replicate ..) (List.length_replicate ..)).2
  have hq := lf_specK (np := prm.length) (bo := M.bo n) h6 h7 hp q rfl
  refine wpAny_Call_Name_kw (ld_glob I gl ft.gl ?_ db)
  have fin : ∀ (us : List Value) (s1 : Shared) (vs' : List V) (H1 : Hp), Inv X pins σ H1 s1 → Vals vs' us → (LfA X D W ow ro (kes.map (full ro)) (wpEs T kes) σ H1 fun zs H2 => vs'.length = es.length ∧ zs.length = kes.length ∧ spOf X.K D prm.length (M.bo n) (T.fn n) (perm.map fun i => (vs' ++ zs).getD i .non) H2 Q (WE W σ)) →
      wpAny (model X.prog X.w) X.A (evalAll ((backToKw pos (keywordEach kws X.env)).map (·.2))) (fun ks s₂ => X.K.In s₂.heap ∧ wpAny (model X.prog X.w) X.A (call (.ref (D.fa n)) us (((backToKw pos (keywordEach kws X.env)).filterMap (·.1)).zip ks)) (EP X pins σ Q) X.xe s₂) X.xe s1 := fun us s1 vs' H1 I1 r hz =>
    thn ((S_kws c hk h5).run pos pins s1 σ H1 _ I1 hz) fun ws s2 ⟨zs, H2, I2, rz, e1, e2, q2⟩ => ⟨I2.kIn, by
      rw [a2]
      exact run_fnKS F c.room (fun s us ws a b d => (hper s us ws a b d).1) (passAt c.tk σ) I2 r rz e1 (e2.trans hkl) q2⟩
  cases es with
  | nil =>
    cases vs with
    | cons _ _ => simp [chkEs] at h4
    | nil =>
      obtain ⟨G, env, Qp, Ep, g, er, hw, k, kx⟩ := hq
      exact PySem.W.callWith_KW0 (h₀ := X.base) I.ok.mod.kin ft.kp a1 (fin [] s [] H I .nil (k [] [] H G Xt.refl g rfl hw)) (by rw [a3]; rfl)
  | cons y ys =>
    cases vs with
    | nil => simp [chkEs] at h4
    | cons v vs =>
      have h4' := h4
      simp only [chkEs, Bool.and_eq_true] at h4'
      refine PySem.W.callWith_KW (h₀ := X.base) I.ok.mod.kin ft.kp a1 (thn ((S_args c hs h4).run pos pins s σ H _ I hq) fun us s1 ⟨vs', H1, I1, r, q1⟩ => fin us s1 vs' H1 I1 r q1) ?_ (star_cons (chk_noStar h4'.1.2))
      rw [a3, Bool.or_false]
      exact back_any _ (chk_star h4)
end
end Fw
/-! Fw: written dicts. -/
namespace Fw
open PySem PySem.Spec PyProof.Rows L2
section
variable {T : Tab} {D : Ad} {M : Mk} {lv : Nat} {ow ro : List Nat}
/-- what was laid empty is filled, then kept -/
theorem late_new {G1 G : Gh} {H1 H : Hp} {d : Addr} {kvs : List (Key × V)} (x : Xt G1 H1 G H) (hd : H1 d = none) (g : Good G H) (h : H d = some (.dK [])) (n1 : ¬ G.imm d) (n2 : ¬ G.pool d) (n3 : ∀ j, G.own j ≠ some d) :
    Xt G1 H1 (G.addI d) (upd H d (.dK kvs)) ∧ Good (G.addI d) (upd H d (.dK kvs)) ∧ Mo G H (G.addI d) (upd H d (.dK kvs)) := by
  have ne : ∀ a, H1 a ≠ none → a ≠ d := fun a h z => h (z ▸ hd)
  refine ⟨⟨fun a o e n => ?_, fun a e => ?_, fun a i => .inr (x.imm a i), x.pool, fun a e n z => ?_, x.npool, x.own⟩, ⟨fun a i => ?_, fun a i => ?_, fun a i => ?_, fun i a e => ?_, g.inj⟩, ⟨fun a us e => ?_, fun a o u e => ?_, fun a o i e => ?_, fun _ h => .inr h, fun _ h => h⟩⟩
  · rw [upd_ne (ne a (by rw [e]; exact Option.some_ne_none _))]; exact x.std a o e n
  · rw [upd_ne (ne a e)]; exact x.there a e
  · rcases z with z | z
    · exact ne a e z
    · exact x.nimm a e n z
  · by_cases e : a = d
    · subst e; rw [upd_same]; exact Option.some_ne_none _
    · rw [upd_ne e]
      rcases i with i | i
      · exact absurd i e
      · exact g.immH a i
  · rcases i with i | i
    · rw [i]; exact n2
    · exact g.immP a i
  · have : a ≠ d := fun z => n2 (z ▸ i)
    rw [upd_ne this]; exact g.pool a i
  · have : a ≠ d := fun z => n3 i (z ▸ e)
    obtain ⟨h1, h2, us, h3⟩ := g.own i a e
    refine ⟨fun z => ?_, h2, us, by rw [upd_ne this]; exact h3⟩
    rcases z with z | z
    · exact this z
    · exact h1 z
  · have : a ≠ d := fun z => by rw [z, h] at e; cases e
    rw [upd_ne this]; exact e
  · have : a ≠ d := fun z => by rw [z, h] at e; cases e
    rw [upd_ne this]; exact e
  · have : a ≠ d := fun z => n1 (z ▸ i)
    rw [upd_ne this]; exact e
theorem S_dct0 : S T D M lv ow ro .dct0 := S_of rfl fun X W e c h _ => by
  cases e <;> try (simp [chkE] at h; done)
  rename_i ks vs pos
  simp only [chkE, Bool.and_eq_true, List.isEmpty_iff] at h
  obtain ⟨rfl, rfl⟩ := h
  refine pe_imp pe_dnewK ?_
  rintro σ H Q ⟨G, env, Qp, Ep, g, er, hw, k, kx⟩
  intro p hp
  exact k (.ref p) (.dct [] []) _ _ (Xt.newI g hp _) (g.newI hp _) (Rep.b (g.newI hp _) ⟨p, [], rfl, upd_same, .inl rfl, rfl, rfl⟩) hw
theorem S_dct1 {k : Str} {a : Ex} (ha : S T D M lv ow ro a) : S T D M lv ow ro (.dct1 k a) := S_of rfl fun X W e c h _ => by
  cases e <;> try (simp [chkE] at h; done)
  rename_i ks vs pos
  simp only [chkE] at h
  split at h
  · rename_i x j p2 v
    simp only [Bool.and_eq_true, decide_eq_true_eq] at h
    obtain ⟨⟨⟨h1, h2⟩, h3⟩, h4⟩ := h
    subst h1
    have he := (ha X W v c h3 (itx_of h2)).1
    rw [h4] at he
    refine pe_imp (pe_disp (pps_cons pe_str he pps_nil) (by rfl) (by rfl) (fun z => by cases z) (by show 1 ≤ 15; decide)) ?_
    rintro σ H Q ⟨G, env, Qp, Ep, g, er, hw, kk, kx⟩
    intro p hp
    have x0 : Xt G H G (upd H p (.dK [])) := Xt.new0 hp _
    have g0 : Good G (upd H p (.dK [])) := g.new0 hp _
    refine ⟨G, env, _, Ep, g0, er.xt x0 g, hw, ?_, kx.xt x0⟩
    intro v1 p1 H1 G1 x1 g1 r1 q1
    have e0 : (upd H p (.dK [])) p ≠ none := by rw [upd_same]; exact Option.some_ne_none _
    have np : ¬ G.pool p := fresh_pool g hp
    have hd : H1 p = some (.dK []) := x1.std p _ upd_same np
    obtain ⟨a1, a2, a3⟩ := late_new (kvs := [(.inr x, v1)]) (x0.trans x1) hp g1 hd (x1.nimm p e0 (fresh_imm g hp)) (x1.npool p e0 np) (fun j => by rw [x1.own]; exact fresh_own g hp j)
    refine ⟨hd, [(.inr x, v1)], rfl, by show 1 ≤ 15; decide, ?_⟩
    exact kk (.ref p) (.dct [.inr x] [p1]) _ _ a1 a2 (Rep.b a2 ⟨p, [v1], rfl, upd_same, .inl rfl, rfl, ⟨v1, [], rfl, a3.rep (r1.2 rfl), rfl⟩⟩) q1
  · cases h
end
end Fw
/-! Fw: xs[::-1]; displays that begin with a star. -/
namespace Fw
open PySem PySem.Spec PyProof.Rows L2 StX
section
variable {T : Tab} {D : Ad} {M : Mk} {lv : Nat} {ow ro : List Nat}
theorem rev_shape {N : List Str} {sc : Scope} {a : Ex} {e : Expr} (h : chkE T M N sc ro (.rev a) e = true) : ∃ l k p1 p2 p3 p4, e = .Subscript l (.Slice none none (some (.UnaryOp .USub (.Constant (.int 1) k p1) p2)) p3) p4 ∧ itx a = false ∧ chkE T M N sc ro a l = true := by
  cases e <;> try (simp [chkE] at h; done)
  rename_i l r p4
  cases r <;> try (simp [chkE] at h; done)
  rename_i lo hi st p3
  cases lo <;> cases hi <;> cases st <;> try (simp [chkE] at h; done)
  rename_i s
  cases s <;> try (simp [chkE] at h; done)
  rename_i op v p2
  cases op <;> cases v <;> try (simp [chkE] at h; done)
  rename_i c k p1
  cases c <;> simp [chkE] at h
  obtain ⟨rfl, h1, h2⟩ := h
  exact ⟨_, _, _, _, _, _, rfl, h1, h2⟩
theorem S_rev {a : Ex} (ha : S T D M lv ow ro a) : S T D M lv ow ro (.rev a) := S_of rfl fun X W e c h _ => by
  obtain ⟨l, k, p1, p2, p3, p4, rfl, h1, h2⟩ := rev_shape h
  refine pe_imp (pe_rv (rv_P (fa := D.fa)) (ha X W _ c h2 h1).1) ?_
  rintro σ H Q ⟨G, env, Qp, Ep, g, er, hw, k, kx⟩
  refine ⟨G, env, _, Ep, g, er, hw, ?_, kx⟩
  intro v p H1 G1 x1 g1 r1 q1
  exact ⟨G1, p, Qp, g1, r1.1, q1, fun v' p' H4 G4 x4 g4 r4 q4 => k v' p' H4 G4 (x1.trans x4) g4 (r4.b g4) q4⟩
theorem star_shape {N : List Str} {sc : Scope} {a : Ex} {es : List Ex} {e : Expr} (h : chkE T M N sc ro (.lsta a es) e = true) : ∃ l vs p1 p2, e = .List (.Starred l p1 :: vs) p2 ∧ itx a = false ∧ chkE T M N sc ro a l = true ∧ chkEs T M N sc ro es vs = true ∧ fulls ro es = true := by
  cases e <;> try (simp [chkE] at h; done)
  rename_i xs pos
  match xs, h with
  | [], h => simp [chkE] at h
  | x :: vs, h =>
    cases x <;> try (simp [chkE] at h; done)
    simp only [chkE, Bool.and_eq_true, Bool.not_eq_true', decide_eq_true_eq] at h
    obtain ⟨⟨⟨⟨h1, h2⟩, h3⟩, h4⟩, h5⟩ := h
    exact ⟨_, _, _, _, rfl, h1, h2, h3, h4⟩
theorem starT_shape {N : List Str} {sc : Scope} {a : Ex} {es : List Ex} {e : Expr} (h : chkE T M N sc ro (.tupa a es) e = true) : ∃ l vs p1 k p2, e = .Tuple (.Starred l p1 :: vs) k p2 ∧ itx a = false ∧ chkE T M N sc ro a l = true ∧ chkEs T M N sc ro es vs = true ∧ fulls ro es = true := by
  cases e <;> try (simp [chkE] at h; done)
  rename_i xs kt pos
  match xs, h with
  | [], h => simp [chkE] at h
  | x :: vs, h =>
    cases x <;> try (simp [chkE] at h; done)
    simp only [chkE, Bool.and_eq_true, Bool.not_eq_true', decide_eq_true_eq] at h
    obtain ⟨⟨⟨⟨h1, h2⟩, h3⟩, h4⟩, h5⟩ := h
    exact ⟨_, _, _, _, _, rfl, h1, h2, h3, h4⟩
/-- the items of what stands behind a star -/
theorem star_items {K : PySem.W.Frag} {fa : Nat → Addr} {G : Gh} {H : Hp} {p : P} {v : V} {xs : List P} (r : RepR K fa G H p v) (h : elems p = some xs) (hs : isStr p = false) : ∃ a vs, v = .ref a ∧ (SqT K H a vs ∨ SqL K H a vs) ∧ Reps K fa G H xs vs := by
  cases p <;> try (cases h; done)
  · cases hs
  · obtain ⟨a, vs, rfl, ha, ra⟩ := repR_tup r
    cases h
    exact ⟨a, vs, rfl, .inl ha, ra⟩
  · obtain ⟨a, vs, rfl, ha, ra⟩ := repR_lst r
    cases h
    exact ⟨a, vs, rfl, .inr (SqL.of ha), ra⟩
theorem star_read {X : Cx} {W : WX} {a : Ex} {es : List Ex} {mk : List P → P} {new : List V → HO} {b : Bool}
    (hn : ∀ {G : Gh} {H : Hp} {p : Addr} {ps : List P} {vs : List V}, Good G H → H p = none → Reps X.K D.fa G H ps vs → ∃ G', Xt G H G' (upd H p (new vs)) ∧ Good G' (upd H p (new vs)) ∧ Rep X.K D.fa G' (upd H p (new vs)) (mk ps) (.ref p))
    (h4 : fulls ro es = true) {σ : L2.St} {H : Hp} {Q : VK}
    (h : Lf X D W ow ro b (fun env Q E => wpE T a env (fun p => ∃ xs, elems p = some xs ∧ isStr p = false ∧ wpEs T es env (fun ps => xs.length + ps.length ≤ sizeLine ∧ Q (mk (xs ++ ps))) E) E) σ H Q) :
    tStar X.K (Lf X D W ow ro (full ro a) (wpE T a)) (LfA X D W ow ro (es.map (full ro)) (wpEs T es)) σ H fun vs H1 => vs.length ≤ sizeLine ∧ ∀ p, H1 p = none → Q (.ref p) (upd H1 p (new vs)) := by
  obtain ⟨G, env, Qp, Ep, g, er, hw, k, kx⟩ := h
  refine ⟨G, env, _, Ep, g, er, hw, ?_, kx⟩
  rintro v p H1 G1 x1 g1 r1 ⟨xs, e1, e2, q1⟩
  obtain ⟨d, ws, rfl, hd, rs⟩ := star_items r1.1 e1 e2
  refine ⟨d, ws, rfl, hd, G1, env, _, Ep, g1, er.xt x1 g, q1, ?_, kx.xt x1⟩
  rintro vs ps H2 G2 x2 g2 r2 ⟨l2, q2⟩
  have rr := ((x2.mo g1).reps rs).append (r2.full (fulls_all h4))
  refine ⟨by rw [rr.length, List.length_append]; exact l2, fun p hp => ?_⟩
  obtain ⟨G3, x3, g3, r3⟩ := hn g2 hp rr
  exact k _ (mk (xs ++ ps)) _ G3 (x1.trans (x2.trans x3)) g3 (r3.b g3) q2
theorem S_lsta {a : Ex} {es : List Ex} (ha : S T D M lv ow ro a) (hs : Sl T D M lv ow ro es) : S T D M lv ow ro (.lsta a es) := S_of rfl fun X W e c h _ => by
  obtain ⟨l, vs, p1, p2, rfl, h1, h2, h3, h4⟩ := star_shape h
  refine pe_imp (pe_lst (pa_star (ha X W _ c h2 h1).1 (S_args c hs h3))) fun σ H Q q => ?_
  exact star_read (mk := .lst) (new := .lst) (fun {G H p ps vs} g hp rs => ⟨G.addI p, Xt.newI g hp _, g.newI hp _, p, vs, rfl, upd_same, .inl rfl, ((Xt.newI g hp _).mo g).reps rs⟩) h4 q
theorem S_tupa {a : Ex} {es : List Ex} (ha : S T D M lv ow ro a) (hs : Sl T D M lv ow ro es) : S T D M lv ow ro (.tupa a es) := S_of rfl fun X W e c h _ => by
  obtain ⟨l, vs, p1, kt, p2, rfl, h1, h2, h3, h4⟩ := starT_shape h
  refine pe_imp (pe_tup (pa_star (ha X W _ c h2 h1).1 (S_args c hs h3))) fun σ H Q q => ?_
  exact star_read (mk := .tup) (new := .tup) (fun {G H p ps vs} g hp rs => ⟨G, Xt.new0 hp _, g.new0 hp _, p, vs, rfl, SqT.of upd_same, ((Xt.new0 hp _).mo g).reps rs⟩) h4 q
/-- a call whose last parameter is left out -/
theorem RepsB.snoc {K : PySem.W.Frag} {fa : Nat → Addr} {G : Gh} {H : Hp} {b : Bool} {p : P} {v : V} (r : RepB b K fa G H p v) : ∀ {bs : List Bool} {ps : List P} {vs : List V}, RepsB K fa G H bs ps vs → RepsB K fa G H (bs ++ [b]) (ps ++ [p]) (vs ++ [v])
  | [], [], _, h => by
    rw [show _ = [] from h]
    exact ⟨v, [], rfl, r, rfl⟩
  | _ :: _, _ :: _, _, ⟨u, t, e, h, q⟩ => ⟨u, t ++ [v], by rw [e]; rfl, h, RepsB.snoc r q⟩
  | [], _ :: _, _, h => h.elim
  | _ :: _, [], _, h => h.elim
theorem lf_specD {X : Cx} {W : WX} {b : Bool} {es : List Ex} {prm : List Str} {bo : List Nat} {sp : Spec} {d : Int} {σ : L2.St} {H : Hp} {Q : VK} (ha : argB ro bo 0 es = true) (hl : es.length + 1 = prm.length)
    (h : Lf X D W ow ro b (fun env Q E => wpEs T es env (fun ps => sp (ps ++ [.int d]) Q E) E) σ H Q) :
    tCallSD (spOf X.K D prm.length bo sp) [V.int d] (WE W) (LfA X D W ow ro (es.map (full ro)) (wpEs T es)) σ H Q := by
  obtain ⟨G, env, Qp, Ep, g, er, hw, k, kx⟩ := h
  refine ⟨G, env, _, Ep, g, er, hw, ?_, kx⟩
  intro vs ps H1 G1 x1 g1 r1 q1
  refine ⟨G1, ps ++ [.int d], Qp, Ep, by rw [List.length_append, r1.lenB, List.length_map]; exact hl, g1, ?_, q1, fun v p H2 G2 x2 g2 r2 q2 => k v p H2 G2 (x1.trans x2) g2 (r2.b g2) q2, fun c xs cls d H2 G2 x2 g2 r2 q2 => kx c xs cls d H2 G2 (x1.trans x2) g2 r2 q2⟩
  have r := args_bo (k := 0) ha r1
  rw [← List.range_eq_range'] at r
  rw [← hl, List.range_succ, List.map_append, List.map_cons, List.map_nil]
  exact r.snoc (Rep.b (p := .int d) g1 rfl)
theorem S_callD {n : Nat} {es : List Ex} {d : Int} (hs : Sl T D M lv ow ro es) : S T D M lv ow ro (.callD n es d) := S_of rfl fun X W e c h _ => by
  cases e <;> try (simp [chkE] at h; done)
  rename_i fn vs kws pos
  cases fn <;> try (simp [chkE] at h; done)
  rename_i x p
  cases kws with
  | cons _ _ => simp [chkE] at h
  | nil =>
    simp only [chkE, Bool.and_eq_true, decide_eq_true_eq] at h
    obtain ⟨⟨⟨⟨⟨⟨⟨h1, h2⟩, h3⟩, h6⟩, h4⟩, h5⟩, h7⟩, h8⟩ := h
    obtain ⟨gl, db⟩ := gl_of h1
    subst h2
    have ft := c.tok.fn n h3
    obtain ⟨fd, prm, ds, hl0, hv, bi, F⟩ := ft.dfl (n, d) (by simpa using h7) rfl
    have hl : es.length + 1 = prm.length := h6.trans hl0.symm
    have hx : ∀ σ, PassesAt (L2.CX X.prog X.w) X σ (WE W σ) := fun σ => passAt c.tk σ
    match es, vs, h4, hs, h5, hl with
    | y :: ys, v :: vs, h4, hs, h5, hl =>
      have h4' := h4
      simp only [chkEs, Bool.and_eq_true] at h4'
      exact pe_imp (pe_callSD F c.room gl ft.gl ft.kp bi hv hx (S_args c hs h4) db (star_cons (chk_noStar h4'.1.2)) (back_any _ (chk_star h4'.2))) fun σ H Q q => lf_specD (T := T) (prm := prm) h5 hl q
    | [], _, _, _, _, _ => simp at h8
    | _ :: _, [], h4, _, _, _ => simp [chkEs] at h4
end
end Fw
/-! Fw: sorted(set(a list of whole numbers)). -/
namespace Fw
open PySem PySem.Spec PyProof.Rows L2
/-- a set that has just been made -/
abbrev madeSet (w : World) : Obj := { cls := .type "set", dict := none, data := .set #[] 0 (.fresh 0 0 (!w.params.followText "set-order")) }
abbrev pushSet (w : World) (h : Heap) : Heap := h.push (madeSet w)
section
variable {P : Program} {w : World} {A : Around} {E : Value → Shared → Prop} {s : Shared}
 set_option maxHeartbeats 3200000 in
theorem set_of_ints {l : Addr} {its : Array Value} (ns : List Int) {Q : Value → Shared → Prop} (free : A.handled = none) (lst : s.heap.IsList l its) (numd : IntsAre its.toList ns) (few : ns.length + 1 < scanBound)
    (fin : ∀ (g : Heap) (tk c : Nat), SetR w g s.heap.objs.size (fun j => decide (j ∈ ns)) c → c ≤ ns.length → (∀ b o, s.heap.get? b = some o → g.get? b = some o) → Q (.ref s.heap.objs.size) { s with heap := g, toks := tk }) :
    wpAny (model P w) A (call (.type "set") [.ref l]) Q E s := by
  have size : its.size = ns.length := by
    rw [← Array.length_toList]; exact IntsAre.length numd
  obtain ⟨_, _, mro⟩ := F.called_set.mro
  have made := F.called_set.made
  have subs := F.called_set.sub
  refine wpAny_call (codeAny_of_tree ?_)
  show wpAny _ _ (callAny (.type "set") _) _ _ _
  refine wpAny_pure ⟨Code.quiet_builtin _ (by decide +kernel), codeAny_builtin F.entry_type_call ?_⟩
  rw [Around.under_plain (weight_type_call_type "set" [.ref l] []) rfl]
  have n1 := F.called_set.notType
  have n2 := F.called_set.canCreate
  have n3 := F.typeCall_set_1 (.ref l)
  repeat (any_goals (first | assumption | wp_step))

  refine codeAny_mono (code_set_led1 (.ref l) (E := E) (Q₁ := fun x t => x = .ref s.heap.objs.size ∧ t = { s with heap := pushSet w s.heap }) ⟨rfl, rfl⟩) fun out t made2 => ?_
  cases out with
  | error e => exact made2
  | ok fl =>
    cases fl with
    | ret x =>
      obtain ⟨rfl, rfl⟩ := made2
      have there : (pushSet w s.heap).get? s.heap.objs.size = some (madeSet w) := Heap.get?_push_size _ rfl
      have isSet : Shared.TypeIs { s with heap := pushSet w s.heap } (.ref s.heap.objs.size) "set" := ⟨_, there, rfl⟩
      have i1 := F.called_set.init.lookup
      have i2 := F.called_set.init.bind (.ref s.heap.objs.size)
      repeat (any_goals (first | assumption | wp_step))

      refine codeAny_mono (codeAny_call_builtin (R := wants (fun r t2 => r = .none ∧ ∃ g tk c, t2 = { s with heap := g, toks := tk } ∧ SetR w g s.heap.objs.size (fun j => decide (j ∈ ns)) c ∧ c ≤ ns.length ∧
          (∀ b o, s.heap.get? b = some o → g.get? b = some o)) E) F.called_set.init.plain F.entry_set_init (check_set_init_1 isSet ?_)) fun out2 t2 done => ?_
      · obtain ⟨⟨oc, od, oa, os⟩, gl, cl, c0, da⟩ := lst
        simp only at cl da
        subst cl; subst da
        have gl2 : (pushSet w s.heap).get? l = some { cls := .type "list", dict := od, data := .seq its c0, slots := os } := Heap.get?_push_of_some _ gl
        have s1 := F.sub_list_set
        have s2 := F.sub_list_frozenset
        have nd : (Value.type "list" == Value.type "dict") = false := by decide
        have lst2 : (pushSet w s.heap).IsList l its := ⟨_, gl2, rfl, c0, rfl⟩
        unfold Builtin.«set.__init__» noKeywords Builtin.Frozenset.updateFrom
        generalize keep : pyIter = it
        wp_walk
        subst keep

        refine wpAny_pyIter_list lst2 ?_
        refine wpAny_bind (wpAny_runValue ?_)
        have lt : l < s.heap.objs.size := Heap.lt_size gl
        have free3 : A.in1.in1.in1.handled = none := by simp [free]
        have one : (pushSet w s.heap).objs.size = s.heap.objs.size + 1 := Heap.size_push ..
        have apart : l ≠ (pushSet w s.heap).objs.size := by
          rw [one]; exact Nat.ne_of_lt (Nat.lt_succ_of_lt lt)
        have out3 : s.heap.objs.size ∉ [(pushSet w s.heap).objs.size, l] := by
          rw [one]; simp only [List.mem_cons, List.mem_singleton, List.not_mem_nil, or_false, not_or]
          exact ⟨Nat.ne_of_lt (Nat.lt_succ_self _), Nat.ne_of_gt lt⟩
        have each : ∀ (i : Nat) (v : Value), its[i]? = some v → ∃ k t, ns[i]? = some k ∧ v = .int k t := fun i v hv => by
          have hi : i < ns.length := by rw [← size]; exact (Array.getElem?_eq_some_iff.mp hv).1
          obtain ⟨t, e⟩ := PyProof.Rows.IntsAre.int_at numd i v (by rw [Array.getElem?_toList]; exact hv)
          refine ⟨ns[i], t, List.getElem?_eq_getElem hi, ?_⟩
          rw [e, List.getD_eq_getElem?_getD, List.getElem?_eq_getElem hi] <;> rfl
        refine set_update_ints ((Walks.list free3 _ l apart its).toS) s.heap.objs.size out3 ns size few each (its.size - 0) 0 _ (by omega) (Nat.zero_le _) ⟨⟨_, Heap.get?_push_size _ rfl, rfl, rfl⟩, (lst2.push _)⟩ ?first ?last
        case first =>
          exact ⟨0, Nat.le_refl 0, setR_new_at (Heap.get?_push_of_some _ there)⟩
        case last =>
          intro t3 c moved hc R
          obtain ⟨g, g2, d2, tk, os2⟩ := t3
          have e1 : g2 = s.gens := moved.gens
          have e2 : d2 = s.drawn := moved.drawn
          have e3 : os2 = s.os := moved.os
          subst e1; subst e2; subst e3
          show wpAny _ _ _ _ _ _
          refine wpAny_pure ?_
          show wpAny _ _ (ret Value.none) _ _ _
          rw [size] at hc
          refine wpAny_pure ⟨rfl, g, tk, c, rfl, R, hc, fun b o e => ?_⟩
          have b0 : b < s.heap.objs.size := Heap.lt_size e
          have b2 : b ≠ (pushSet w s.heap).objs.size := by
            rw [one]; exact Nat.ne_of_lt (Nat.lt_succ_of_lt b0)
          exact moved.heap b o (by simp only [List.mem_cons, List.mem_singleton, List.not_mem_nil, or_false, not_or]; exact ⟨Nat.ne_of_lt b0, b2⟩) (Heap.get?_push_of_some _ (Heap.get?_push_of_some _ e))

      · cases out2 with
        | error e => exact done
        | ok fl2 =>
          cases fl2 with
          | ret r =>
            obtain ⟨rfl, g, tk, c, rfl, R, hc, kept⟩ := done
            repeat (any_goals (first | assumption | wp_step))
            exact fin _ _ _ R hc kept
          | _ => exact done.elim
    | _ => exact made2.elim
end
/-- set(a list of whole numbers) -/
def fwSetL (X : Cx) : List V → Hp → VK → Prop := fun xs H Q => ∃ (p : Addr) (ns : List Int), xs = [.ref p] ∧ SqL X.K H p (ns.map V.int) ∧ ns.length < 60 ∧ ∀ a n, n ≤ ns.length → H a = none → Q (.ref a) (upd H a (SetO X.w a (fun j => decide (j ∈ ns)) n))
theorem cr_setL {X : Cx} (hc : X.calm = true) : CallR X (.type "set") (fwSetL X) := by
  intro pins s σ H xs us Q I r h
  obtain ⟨p, ns, rfl, hq, hl, q⟩ := h
  obtain ⟨u, rfl, rx⟩ := vals1 r
  cases rx
  obtain ⟨its, rv, pl, hz⟩ := I.list hq
  refine set_of_ints ns (I.ok.hd hc) pl.isList (ints_of_vals rv) (by unfold scanBound; omega) fun g tk c R hcn k => ?_
  exact ⟨.ref s.heap.objs.size, upd H s.heap.objs.size (SetO X.w s.heap.objs.size (fun j => decide (j ∈ ns)) c), I.laid (t' := tk) k (Nat.le_refl _) (setO_new R), rfl, q _ _ hcn (I.hok.fresh (Nat.le_refl _))⟩
section
variable {T : Tab} {D : Ad} {M : Mk} {lv : Nat} {ow ro : List Nat}
theorem sset_shape {N : List Str} {sc : Scope} {a : Ex} {e : Expr} (h : chkE T M N sc ro (.sset a) e = true) : ∃ x p1 y p2 v p3 p4, e = .Call (.Name x p1) [.Call (.Name y p2) [v] [] p3] [] p4 ∧ glB sc x = true ∧ x = "sorted" ∧ glB sc y = true ∧ y = "set" ∧ itx a = false ∧ chkE T M N sc ro a v = true := by
  cases e <;> try (simp [chkE] at h; done)
  rename_i fn vs kws pos
  cases fn <;> try (simp [chkE] at h; done)
  rename_i x p1
  rcases kws with _ | ⟨_, _⟩
  rotate_left
  · simp [chkE] at h
  rcases vs with _ | ⟨c, _ | ⟨_, _⟩⟩
  · simp [chkE] at h
  rotate_left
  · simp [chkE] at h
  cases c <;> try (simp [chkE] at h; done)
  rename_i fn2 vs2 kws2 p3
  cases fn2 <;> try (simp [chkE] at h; done)
  rename_i y p2
  rcases kws2 with _ | ⟨_, _⟩
  rotate_left
  · simp [chkE] at h
  rcases vs2 with _ | ⟨v, _ | ⟨_, _⟩⟩
  · simp [chkE] at h
  rotate_left
  · simp [chkE] at h
  simp only [chkE, Bool.and_eq_true, decide_eq_true_eq, Bool.not_eq_true'] at h
  obtain ⟨⟨⟨⟨h1, h2⟩, h3⟩, h4⟩, h5, h6⟩ := h
  exact ⟨_, _, _, _, _, _, _, rfl, h1, h2, h3, h4, h5, h6⟩
theorem S_sset {a : Ex} (ha : S T D M lv ow ro a) : S T D M lv ow ro (.sset a) := S_of rfl fun X W e c h _ => by
  obtain ⟨x, p1, y, p2, v, p3, p4, rfl, h1, rfl, h3, rfl, h5, h6⟩ := sset_shape h
  obtain ⟨gl1, db1⟩ := gl_of h1
  obtain ⟨gl2, db2⟩ := gl_of h3
  have hv := (ha X W v c h6 h5).1
  have st : starEach [v] X.env = (false, eval v X.env) :: starEach [] X.env := star_cons (chk_noStar h6)
  have inner : PE X (.Call (.Name "set" p2) [v] [] p3) (tCB (fwSetL X) (tCons (Lf X D W ow ro (full ro a) (wpE T a)) tNil)) :=
    pe_callTy (cr_setL c.calm) gl2 (c.tok.nm "set" (by decide)) (by decide +kernel) (pa_cons hv pa_nil st) (by decide) db2 st (by rfl)
  refine pe_imp (pe_callB (cr_sortedSet c.calm) gl1 (c.tok.bl .sorted (by decide)) (by decide +kernel) (pa_cons inner pa_nil (star_cons (by rfl))) (by decide) db1 (star_cons (by rfl)) (by rfl)) ?_
  rintro σ H Q ⟨G, env, Qp, Ep, g, er, hw, k, kx⟩
  refine ⟨G, env, _, Ep, g, er, hw, ?_, kx⟩
  rintro u p H1 G1 x1 g1 r1 ⟨ns, rfl, hl, q1⟩
  obtain ⟨b, vs, rfl, hb, rb⟩ := repR_lst r1.1
  obtain rfl := ints_reps rb
  refine ⟨b, ns, rfl, SqL.of hb, hl, fun d n hn hd => ?_⟩
  refine ⟨d, fun j => decide (j ∈ ns), n, rfl, upd_same, by omega, fun ms z hs hm hlen hz => ?_⟩
  have x2 := Xt.new0 (G := G1) hd (SetO X.w d (fun j => decide (j ∈ ns)) n)
  have g2 := g1.new0 hd (SetO X.w d (fun j => decide (j ∈ ns)) n)
  have g3 := g2.newI hz (.lst (ms.map V.int))
  refine k (.ref z) (.lst (ms.map P.int)) _ _ (x1.trans (x2.trans (Xt.newI g2 hz _))) g3 (Rep.b g3 ⟨z, _, rfl, upd_same, .inl rfl, reps_ints ms⟩) (q1 ms hs fun k => ?_)
  rw [hm k, decide_eq_true_eq]
end
end Fw
/-! Fw: enumerate of a tuple. -/
namespace Fw
open PySem PySem.Spec PyProof.Rows L2
theorem meets_enumerate_newB1 {v : Value} {o : Obj} {H : Heap → Prop} (B : Begins v o H) :
    Meets (Builtin.«enumerate.__new__» ⟨[.type "enumerate", v], []⟩) (fun _ R s => H s.heap ∧
      R (.ok (.ret (.ref (s.heap.push o).objs.size))) { s with heap := (s.heap.push o).push { cls := .type "enumerate", data := .fields #[.none, .bool false, .ref s.heap.objs.size, rawInt 0, .none, .none] } }) :=
  .of_wp fun prog w A R s h => by
    obtain ⟨hp, g, d, tk, os⟩ := s; obtain ⟨h1, h⟩ := h
    have hsub := sub_enumerate
    have q1 : ∀ {A' : Around} {E : Value → Shared → Prop} {Q : Value → Shared → Prop}, Q (.ref hp.objs.size) ⟨hp.push o, g, d, tk, os⟩ → wpAny (model prog w) A' (pyIter v) Q E ⟨hp, g, d, tk, os⟩ :=
      fun q => B.iter prog w _ _ ⟨hp, g, d, tk, os⟩ _ h1 q
    wp_walk using q1
    refine wpAny_stack_any fun st => wpAny_pure ?_
    split
    · rename_i c _ _ _ _ _
      cases (c == Value.type "enumerate")
      · wp_walk using q1
        exact ⟨_, rfl, h⟩
      · wp_walk using q1
        exact ⟨_, rfl, h⟩
    · wp_walk using q1
      exact ⟨_, rfl, h⟩
section
variable {prog : Program} {w : World} {A : Around} {E : Value → Shared → Prop} {s : Shared}
theorem call_enumB {v : Value} {o : Obj} {H : Heap → Prop} {Q : Value → Shared → Prop} (B : Begins v o H) (h1 : H s.heap)
    (h : ∀ h', IsEnum h' (s.heap.objs.size + 1) s.heap.objs.size 0 .none → h'.get? s.heap.objs.size = some o → h'.objs.size = s.heap.objs.size + 2 →
      (∀ b o, s.heap.get? b = some o → h'.get? b = some o) → Q (.ref (s.heap.objs.size + 1)) { s with heap := h' }) :
    wpAny (model prog w) A (call (.type "enumerate") [v]) Q E s := by
  refine callType_new F.called_enumerate (by decide) (F.typeCall_enumerate_1 _) (F.newCall_enumerate_1 _) (fun obj => F.args_object_init_2 obj _) F.entry_enumerate_new
    (meets_enumerate_newB1 B) ⟨h1, ?_⟩
  have hz : (s.heap.push o).objs.size = s.heap.objs.size + 1 := Heap.size_push ..
  show _ ∧ _
  rw [hz]
  have he : IsEnum ((s.heap.push o).push { cls := .type "enumerate", data := .fields #[.none, .bool false, .ref s.heap.objs.size, rawInt 0, .none, .none] }) (s.heap.objs.size + 1) s.heap.objs.size 0 .none := by
    have := Heap.get?_push_size (s.heap.push o) (o := { cls := .type "enumerate", data := .fields #[.none, .bool false, .ref s.heap.objs.size, rawInt 0, .none, .none] }) rfl
    rw [hz] at this; exact this
  refine ⟨⟨_, he, rfl⟩, h _ he (Heap.get?_push_of_some _ (Heap.get?_push_size _ B.free)) (by rw [Heap.size_push, hz]) fun b o x => Heap.get?_push_of_some _ (Heap.get?_push_of_some _ x)⟩
end
/-- the tuple at a, each item in a new pair -/
def IteT (K : PySem.W.Frag) (a : Addr) : It :=
  ⟨fun i H => ∃ (xs : List V) (x : V), SqT K H a xs ∧ xs[i]? = some x, fun i H v H' => ∃ T x, v = .ref T ∧ H T = none ∧ H' = upd H T (.tup [.int (i : Nat), x]) ∧ ∀ xs, SqT K H a xs → xs[i]? = some x, fun i H => ∃ xs : List V, SqT K H a xs ∧ xs.length = i⟩
theorem turn_enumT {P : Program} {w : World} {K : PySem.W.Frag} {elts : List Expr} {kk : Nat} {tpos : Pos} (a e it : Addr) (items : Array Value) :
    Turn P w K (.Tuple elts kk tpos) (IteT K a) [e, it] e (fun i h => (∃ old, IsEnum h e it ((i : Nat) : Int) old) ∧ h.IsTupleIter it a i ∧ e ≠ it ∧ a ≠ it ∧ a ≠ e) where
  mem := by simp
  obj := fun i h st b hb => by
    obtain ⟨⟨old, he⟩, ⟨o, ho, hc, hd⟩, _⟩ := st
    have e' : b = e ∨ b = it := by simpa using hb
    rcases e' with z | z
    · rw [z]; exact ⟨_, he, fun v q => nomatch q⟩
    · rw [z]; exact ⟨o, ho, fun v q => by rw [hd] at q; cases q⟩
  keep := fun i h h' st k => let ⟨⟨old, he⟩, hi, hne⟩ := st; ⟨⟨old, k e (by simp) _ he⟩, hi.at fun o q => k it (by simp) o q, hne⟩
  item := by
    intro X hP hw hK hc i pins s σ H E I hf st hg
    subst hP hw hK
    obtain ⟨⟨old, he⟩, hit, hne, ha1, ha2⟩ := st
    obtain ⟨xs, x, hq, hx⟩ := hg
    obtain ⟨its, rv, p, hz⟩ := I.tuple hq
    obtain ⟨u, hu, ru⟩ := rv.get hx
    have hel : e < s.heap.objs.size := Heap.lt_size he
    have hil : it < s.heap.objs.size := by obtain ⟨_, q, _⟩ := hit; exact Heap.lt_size q
    have D := Draws.tuple (prog := X.prog) (w := X.w) (A := X.A.in1) (I.ok.hd hc) it a ha1 its.toArray
    have hlt : i < its.toArray.size := by
      have := rv.length
      have := (List.getElem?_eq_some_iff.mp hx).1
      rw [List.size_toArray]; omega
    refine wpAny_pyNext_enum_itemD D he ⟨hit, (show s.heap.IsTuple a its.toArray from p)⟩ hlt hne (by simp [hne, Ne.symm ha2]) fun x' h' tk hP ho hst hT hsz hk => ?_
    have ex : x' = u := by
      have h1 : its.toArray[i]? = some u := by simpa using hu
      have h2 : its.toArray[i]? = some x' := hP
      rw [h1] at h2
      exact (Option.some.inj h2).symm
    subst ex
    refine ⟨_, rfl, wpAny_letOwnedTupleGo_enum (s := { s with heap := h', toks := tk + 1 }) ho fun h'' he' sb => ?_⟩
    have hT2 : h''.get? s.heap.objs.size = some { cls := .type "tuple", data := .seq #[.int i tk, x'] } := (sb.2 _ (Nat.ne_of_gt hel)).trans hT
    have new : ObjOk X.prog X.w (upd H s.heap.objs.size (.tup [.int (i : Nat), x])) h'' s.heap.objs.size (.tup [.int (i : Nat), x]) :=
      ⟨by show 2 ≤ sizeLine; decide, [.int i tk, x'], .cons ⟨_, rfl⟩ (.cons ru .nil), ⟨_, hT2, rfl, _, rfl⟩⟩
    have I1 : Inv X pins σ (upd H s.heap.objs.size (.tup [.int (i : Nat), x])) { s with heap := h'', toks := tk + 1 } :=
      I.turnedNew (ch := [e, it]) (fun b ob hb q => (sb.2 b (fun z => hb (by simp [z]))).trans (hk b ob (fun z => hb (by simp [z])) (fun z => hb (by simp [z])) q)) hf (Nat.le_refl _) new
    refine ⟨.ref s.heap.objs.size, _, I1, rfl, ⟨_, x, rfl, I.hok.fresh (Nat.le_refl _), rfl, fun ys hy => by rw [I.tuple_inj hy hq]; exact hx⟩, ⟨⟨x', ?_⟩, hst.1.at fun o q => (sb.2 it (Ne.symm hne)).trans q, hne, ha1, ha2⟩, fun b hb => ?_⟩
    · have e1 : ((i + 1 : Nat) : Int) = (i : Int) + 1 := by omega
      rw [e1]; exact he'
    · have hb' : b < s.heap.objs.size := by
        have e' : b = e ∨ b = it := by simpa using hb
        rcases e' with z | z
        · rw [z]; exact hel
        · rw [z]; exact hil
      rw [upd_ne (Nat.ne_of_lt hb')]
      exact (hf b hb).1
  done := by
    intro X hP hw hK hc i pins s σ H E I hf st hg
    subst hP hw hK
    obtain ⟨⟨old, he⟩, hit, hne, ha1, ha2⟩ := st
    obtain ⟨xs, hq, hx⟩ := hg
    obtain ⟨its, rv, p, hz⟩ := I.tuple hq
    obtain ⟨f0, f1, f2, f3, f4, f5⟩ := hf it (by simp)
    have hl := rv.length
    have D := Draws.tuple (prog := X.prog) (w := X.w) (A := X.A.in1) (I.ok.hd hc) it a ha1 its.toArray
    have e1 : i = its.toArray.size := by rw [List.size_toArray]; omega
    subst e1
    exact wpAny_pyNext_enum_endD D he ⟨hit, (show s.heap.IsTuple a its.toArray from p)⟩ fun h' eb => ⟨rfl, I.turned (t' := s.toks) (fun b o hb q => eb b o hb q) f0 f1 f3 f4 f5⟩
  self := fun A i s Q E st h => let ⟨⟨_, he⟩, _⟩ := st; wpAny_pyIter_enum he h
/-- enumerate of a list or of a tuple -/
def iEnumA (K : PySem.W.Frag) (ta : TA) : TI := fun σ H R => ta σ H fun vs H1 => ∃ a, vs = [.ref a] ∧ ((∃ xs, SqL K H1 a xs ∧ R (Ite K a) H1) ∨ ∃ xs, SqT K H1 a xs ∧ R (IteT K a) H1)
theorem pi_enumA {X : Cx} {e : Expr} {ta : TA} {p pos tpos : Pos} {elts : List Expr} {kk : Nat} (hg : Gl X "enumerate") (hm : X.mg "enumerate" = none) (ha : PA X [e] ta) (hs : starEach [e] X.env = [(false, eval e X.env)]) :
    PI X (.Tuple elts kk tpos) (.Call (.Name "enumerate" p) [e] [] pos) (iEnumA X.K ta) := by
  refine ⟨fun pins s σ H R I h => ?_⟩
  refine Call_ (ld_blt I hg hm boot_enumerate (PyProof.Rows.callWith_type1 (thn (ha.run pos pins s σ H _ I h) fun us s1 ⟨vs, H1, I1, r1, q1⟩ => ?_) hs rfl))
  obtain ⟨a, ex, q1⟩ := q1
  subst ex
  cases r1 with
  | cons r rr =>
    cases rr
    cases r
    have fr : ∀ b ∈ [s1.heap.objs.size + 1, s1.heap.objs.size], FpOk X pins H1 b := fun b hb => by
      have e' : b = s1.heap.objs.size + 1 ∨ b = s1.heap.objs.size := by simpa using hb
      have hle : s1.heap.objs.size ≤ b := by
        rcases e' with z | z
        · rw [z]; exact Nat.le_add_right _ _
        · rw [z]; exact Nat.le_refl _
      exact I1.fpOk hle (I1.hok.fresh hle)
    rcases q1 with ⟨xs, hq, q⟩ | ⟨xs, hq, q⟩
    · obtain ⟨its, rv, p', hz⟩ := I1.list hq
      refine call_enumerate_list p'.isList fun h' he hit hsz hk => wpAny_pyIter_enum he ?_
      have I2 : Inv X pins σ H1 { s1 with heap := h' } := I1.kept (t' := s1.toks) hk
      exact ⟨s1.heap.objs.size + 1, [s1.heap.objs.size + 1, s1.heap.objs.size], _, _, H1, rfl, I2, turn_enum a (s1.heap.objs.size + 1) s1.heap.objs.size, ⟨⟨.none, he⟩, hit, Nat.succ_ne_self _⟩, fr, q⟩
    · obtain ⟨its, rv, p', hz⟩ := I1.tuple hq
      have hal : a < s1.heap.objs.size := by obtain ⟨o, ho, _⟩ := id p'; exact Heap.lt_size ho
      refine call_enumB (begins_tuple a its.toArray) (show s1.heap.IsTuple a its.toArray from p') fun h' he hit hsz hk => wpAny_pyIter_enum he ?_
      have I2 : Inv X pins σ H1 { s1 with heap := h' } := I1.kept (t' := s1.toks) hk
      exact ⟨s1.heap.objs.size + 1, [s1.heap.objs.size + 1, s1.heap.objs.size], _, _, H1, rfl, I2, turn_enumT a (s1.heap.objs.size + 1) s1.heap.objs.size its.toArray, ⟨⟨.none, he⟩, ⟨_, hit, rfl, rfl⟩, Nat.succ_ne_self _, Nat.ne_of_lt hal, Nat.ne_of_lt (Nat.lt_succ_of_lt hal)⟩, fr, q⟩
end Fw
/-! Fw: zip of a list and a tuple. -/
namespace Fw
open PySem PySem.Spec PyProof.Rows L2
/-- a list, or (t) a tuple; what walks over it -/
def Sq2 (t : Bool) (h : Heap) (l : Addr) (xs : Array Value) : Prop := if t = true then h.IsTuple l xs else h.IsList l xs
def It2 (t : Bool) (h : Heap) (i l : Addr) (k : Nat) : Prop := if t = true then h.IsTupleIter i l k else h.IsListIter i l k
theorem Sq2.keep {t : Bool} {h h' : Heap} {l : Addr} {xs : Array Value} (q : Sq2 t h l xs) (k : ∀ o, h.get? l = some o → h'.get? l = some o) : Sq2 t h' l xs := by
  cases t
  · exact (show h.IsList l xs from q).at k
  · obtain ⟨o, e, r⟩ := (show h.IsTuple l xs from q)
    exact ⟨o, k o e, r⟩
theorem It2.keep {t : Bool} {h h' : Heap} {i l : Addr} {n : Nat} (q : It2 t h i l n) (k : ∀ o, h.get? i = some o → h'.get? i = some o) : It2 t h' i l n := by
  cases t
  · exact (show h.IsListIter i l n from q).at k
  · exact (show h.IsTupleIter i l n from q).at k
theorem It2.obj {t : Bool} {h : Heap} {i l : Addr} {n : Nat} (q : It2 t h i l n) : ∃ o, h.get? i = some o ∧ ∀ v, o.data ≠ .cell v := by
  cases t
  · obtain ⟨o, e, _, d⟩ := (show h.IsListIter i l n from q)
    exact ⟨o, e, fun v z => by rw [d] at z; cases z⟩
  · obtain ⟨o, e, _, d⟩ := (show h.IsTupleIter i l n from q)
    exact ⟨o, e, fun v z => by rw [d] at z; cases z⟩
theorem It2.lt {t : Bool} {h : Heap} {i l : Addr} {n : Nat} (q : It2 t h i l n) : i < h.objs.size := by
  obtain ⟨o, e, _⟩ := q.obj
  exact Heap.lt_size e
section
variable {prog : Program} {w : World} {A : Around} {E : Value → Shared → Prop} {s : Shared}
theorem nx2_item {t : Bool} {i l : Addr} {k : Nat} {xs : Array Value} {x : Value} {Q : Value → Shared → Prop} (q : It2 t s.heap i l k) (g : Sq2 t s.heap l xs) (e : xs[k]? = some x)
    (fin : ∀ h', It2 t h' i l (k + 1) → Heap.SameBut i s.heap h' → Q x { s with heap := h' }) : wpAny (model prog w) A (Builtin.SmallTypes.nextOf (.ref i)) Q E s := by
  cases t
  · exact wpAny_nextOf_list_item q g e fin
  · exact RZ.nextOf_tuple_item q g e fin
theorem nx2_end {t : Bool} {i l : Addr} {k : Nat} {xs : Array Value} {Q : Value → Shared → Prop} (h0 : A.handled = none) (q : It2 t s.heap i l k) (g : Sq2 t s.heap l xs) (e : xs[k]? = none)
    (fin : ∀ h' e, Heap.ExtBut i s.heap h' → (∃ o, h'.get? e = some o ∧ o.cls = .type "StopIteration") → E (.ref e) { s with heap := h' }) : wpAny (model prog w) A (Builtin.SmallTypes.nextOf (.ref i)) Q E s := by
  cases t
  · exact wpAny_nextOf_list_end h0 q g e fin
  · exact RZ.nextOf_tuple_end h0 q g e fin
/-- what is not touched by a turn of a zip -/
def But4 (z O i j : Addr) (h h' : Heap) : Prop := ∀ c o, c ≠ z → c ≠ O → c ≠ i → c ≠ j → h.get? c = some o → h'.get? c = some o
theorem zm_item {ta tb : Bool} {z TI O i j l m : Addr} {k n : Nat} {xs ys : Array Value} {x y a b : Value} {Q : Value → Shared → Prop} (D : ZipApart z TI O i j l m)
    (gz : IsZip s.heap z TI O .none) (gI : IsPair s.heap TI (.ref i) (.ref j)) (gO : IsPair s.heap O a b)
    (q1 : It2 ta s.heap i l k) (q2 : It2 tb s.heap j m n) (w1 : Sq2 ta s.heap l xs) (w2 : Sq2 tb s.heap m ys) (ex : xs[k]? = some x) (ey : ys[n]? = some y)
    (fin : ∀ h', IsZip h' z TI O (rawInt s.heap.objs.size) → IsPair h' O x y → It2 ta h' i l (k + 1) → It2 tb h' j m (n + 1) → IsPair h' s.heap.objs.size x y → h'.objs.size = s.heap.objs.size + 1 → But4 z O i j s.heap h' → Q (.ref s.heap.objs.size) { s with heap := h' }) :
    wpAny (model prog w) A (Builtin.«zip.__next__» ⟨[.ref z], []⟩) (fun f s' => ∃ v, f = .done (.ret v) ∧ Q v s') E s := by
  refine wpAny_bind (m := field (.ref z) 2) (wpAny_field gz rfl (x := .bool false) rfl ?_)
  refine wpAny_bind (m := field (.ref z) 3) (wpAny_field gz rfl (x := .ref TI) rfl ?_)
  refine wpAny_bind (wpAny_seqItems gI rfl ?_)
  refine wpAny_bind (m := Builtin.SmallTypes.ownedTupleIsFree (.ref z)) ?_
  unfold Builtin.SmallTypes.ownedTupleIsFree
  refine wpAny_bind (wpAny_field gz rfl (x := .none) rfl (wpAny_pure ?_))
  simp only [if_true]
  refine wpAny_bind (wpAny_rule (wpAny_bind (wpAny_field gz rfl (x := .ref O) rfl ?_)))
  refine wpAny_bind (wpAny_setField_rec gz (by simp) fun h1 gz1 e1 => wpAny_bind ?_)
  replace gz1 : IsZip h1 z TI O .ellipsis := gz1
  simp only [List.forIn_cons, List.forIn_nil, List.zipIdx_cons, List.zipIdx_nil]
  refine wpAny_bind (wpAny_bind (wpAny_onRaise (wpAny_bind (m := Builtin.SmallTypes.nextOf (.ref i)) ?_)))
  refine nx2_item (q1.keep fun o q => e1.extBut _ _ D.i1z q) (w1.keep fun o q => e1.extBut _ _ D.l1z q) ex fun h2 r1 e2 => wpAny_pure ?_
  have gO2 : IsPair h2 O a b := e2.extBut _ _ D.TOi1 (e1.extBut _ _ D.TOz gO)
  refine wpAny_bind (wpAny_seqItems gO2 rfl (wpAny_bind (wpAny_updateSeq_pair gO2 fun h3 gO3 e3 => ?_)))
  replace gO3 : IsPair h3 O x b := gO3
  refine wpAny_bind (wpAny_letGo (wpAny_pure (wpAny_bind (wpAny_bind (wpAny_onRaise (wpAny_bind (m := Builtin.SmallTypes.nextOf (.ref j)) ?_))))))
  refine nx2_item (q2.keep fun o q => e3.extBut _ _ D.TOi2.symm (e2.extBut _ _ D.i12.symm (e1.extBut _ _ D.i2z q))) (w2.keep fun o q => e3.extBut _ _ D.l2TO (e2.extBut _ _ D.l2i1 (e1.extBut _ _ D.l2z q))) ey fun h4 r2 e4 => wpAny_pure ?_
  have gO4 : IsPair h4 O x b := e4.extBut _ _ D.TOi2 gO3
  refine wpAny_bind (wpAny_seqItems gO4 rfl (wpAny_bind (wpAny_updateSeq_pair gO4 fun h5 gO5 e5 => ?_)))
  replace gO5 : IsPair h5 O x y := gO5
  refine wpAny_bind (wpAny_letGo (wpAny_pure (wpAny_pure (wpAny_bind (wpAny_seqItems gO5 rfl (wpAny_bind (wpAny_newTuple ?_)))))))
  have sz : h5.objs.size = s.heap.objs.size := by rw [e5.1, e4.1, e3.1, e2.1, e1.1]
  have gz5 : IsZip h5 z TI O .ellipsis := e5.extBut _ _ D.TOz.symm (e4.extBut _ _ D.i2z.symm (e3.extBut _ _ D.TOz.symm (e2.extBut _ _ D.i1z.symm gz1)))
  have k5 : But4 z O i j s.heap h5 := fun c o c1 c2 c3 c4 q => e5.extBut _ _ c2 (e4.extBut _ _ c4 (e3.extBut _ _ c2 (e2.extBut _ _ c3 (e1.extBut _ _ c1 q))))
  have r15 : It2 ta h5 i l (k + 1) := r1.keep fun o q => e5.extBut _ _ D.TOi1.symm (e4.extBut _ _ D.i12 (e3.extBut _ _ D.TOi1.symm q))
  have r25 : It2 tb h5 j m (n + 1) := r2.keep fun o q => e5.extBut _ _ D.TOi2.symm q
  have lz : z < h5.objs.size := Heap.lt_size gz5
  refine wpAny_bind (m := Builtin.SmallTypes.ownedTupleHandOut (.ref z) (.ref h5.objs.size)) ?_
  unfold Builtin.SmallTypes.ownedTupleHandOut
  have gz6 : IsZip (h5.push { cls := .type "tuple", data := .seq #[x, y] }) z TI O .ellipsis := Heap.get?_push_of_some _ gz5
  refine wpAny_bind (wpAny_setField_rec gz6 (by simp) fun h7 gz7 e7 => ?_)
  replace gz7 : IsZip h7 z TI O (rawInt h5.objs.size) := gz7
  refine wpAny_setField_rec gz7 (by simp) fun h8 gz8 e8 => ?_
  replace gz8 : IsZip h8 z TI O (rawInt h5.objs.size) := gz8
  have up : ∀ c o, c ≠ z → h5.get? c = some o → h8.get? c = some o := fun c o c1 q => e8.extBut _ _ c1 (e7.extBut _ _ c1 (Heap.get?_push_of_some _ q))
  have gT : IsPair h8 h5.objs.size x y := e8.extBut _ _ (Nat.ne_of_gt lz) (e7.extBut _ _ (Nat.ne_of_gt lz) (Heap.get?_push_size _ rfl))
  have sz8 : h8.objs.size = h5.objs.size + 1 := by rw [e8.1, e7.1, Heap.size_push]
  rw [sz] at gz8 gT sz8
  refine wpAny_pure ⟨_, rfl, (show Q (.ref h5.objs.size) _ from ?_)⟩
  rw [sz]
  exact fin h8 gz8 (up _ _ D.TOz gO5) (r15.keep fun o q => up _ o D.i1z q) (r25.keep fun o q => up _ o D.i2z q) gT sz8 fun c o c1 c2 c3 c4 q => up c o c1 (k5 c o c1 c2 c3 c4 q)
theorem zm_end {ta tb : Bool} {z TI O i j l m : Addr} {k n : Nat} {xs ys : Array Value} {a b : Value} {Q : Fin → Shared → Prop} (h0 : A.handled = none) (D : ZipApart z TI O i j l m)
    (gz : IsZip s.heap z TI O .none) (gI : IsPair s.heap TI (.ref i) (.ref j)) (gO : IsPair s.heap O a b)
    (q1 : It2 ta s.heap i l k) (q2 : It2 tb s.heap j m n) (w1 : Sq2 ta s.heap l xs) (w2 : Sq2 tb s.heap m ys) (he : xs[k]? = none ∨ ys[n]? = none)
    (fin : ∀ h' e, But4 z O i j s.heap h' → (∃ o, h'.get? e = some o ∧ o.cls = .type "StopIteration") → E (.ref e) { s with heap := h' }) :
    wpAny (model prog w) A (Builtin.«zip.__next__» ⟨[.ref z], []⟩) Q E s := by
  refine wpAny_bind (m := field (.ref z) 2) (wpAny_field gz rfl (x := .bool false) rfl ?_)
  refine wpAny_bind (m := field (.ref z) 3) (wpAny_field gz rfl (x := .ref TI) rfl ?_)
  refine wpAny_bind (wpAny_seqItems gI rfl ?_)
  refine wpAny_bind (m := Builtin.SmallTypes.ownedTupleIsFree (.ref z)) ?_
  unfold Builtin.SmallTypes.ownedTupleIsFree
  refine wpAny_bind (wpAny_field gz rfl (x := .none) rfl (wpAny_pure ?_))
  simp only [if_true]
  refine wpAny_bind (wpAny_rule (wpAny_bind (wpAny_field gz rfl (x := .ref O) rfl ?_)))
  refine wpAny_bind (wpAny_setField_rec gz (by simp) fun h1 gz1 e1 => wpAny_bind ?_)
  replace gz1 : IsZip h1 z TI O .ellipsis := gz1
  simp only [List.forIn_cons, List.forIn_nil, List.zipIdx_cons, List.zipIdx_nil]
  refine wpAny_bind (wpAny_bind (wpAny_onRaise (wpAny_bind (m := Builtin.SmallTypes.nextOf (.ref i)) ?_)))
  have no : ∀ {e : Addr} {h : Heap} {f : Value}, IsZip h z TI O f → (∃ o, h.get? e = some o ∧ o.cls = .type "StopIteration") → e ≠ z := fun g ⟨o, p, c⟩ q => by
    subst q; rw [g] at p; cases p; simp at c
  cases ex : xs[k]? with
  | none =>
    refine nx2_end h0 (q1.keep fun o q => e1.extBut _ _ D.i1z q) (w1.keep fun o q => e1.extBut _ _ D.l1z q) ex fun h2 e e2 st => ?_
    have gz2 : IsZip h2 z TI O .ellipsis := e2 _ _ D.i1z.symm gz1
    have ne := no gz2 st
    obtain ⟨o, p, c⟩ := st
    exact wpAny_setField_rec gz2 (by simp) fun h3 _ e3 => fin h3 e (fun c o c1 _ c3 _ q => e3.extBut _ _ c1 (e2 _ _ c3 (e1.extBut _ _ c1 q))) ⟨o, e3.extBut _ _ ne p, c⟩
  | some x =>
    have ey : ys[n]? = none := he.resolve_left (by rw [ex]; exact Option.some_ne_none _)
    refine nx2_item (q1.keep fun o q => e1.extBut _ _ D.i1z q) (w1.keep fun o q => e1.extBut _ _ D.l1z q) ex fun h2 r1 e2 => wpAny_pure ?_
    have gO2 : IsPair h2 O a b := e2.extBut _ _ D.TOi1 (e1.extBut _ _ D.TOz gO)
    refine wpAny_bind (wpAny_seqItems gO2 rfl (wpAny_bind (wpAny_updateSeq_pair gO2 fun h3 gO3 e3 => ?_)))
    refine wpAny_bind (wpAny_letGo (wpAny_pure (wpAny_bind (wpAny_bind (wpAny_onRaise (wpAny_bind (m := Builtin.SmallTypes.nextOf (.ref j)) ?_))))))
    refine nx2_end h0 (q2.keep fun o q => e3.extBut _ _ D.TOi2.symm (e2.extBut _ _ D.i12.symm (e1.extBut _ _ D.i2z q))) (w2.keep fun o q => e3.extBut _ _ D.l2TO (e2.extBut _ _ D.l2i1 (e1.extBut _ _ D.l2z q))) ey fun h4 e e4 st => ?_
    have gz4 : IsZip h4 z TI O .ellipsis := e4 _ _ D.i2z.symm (e3.extBut _ _ D.TOz.symm (e2.extBut _ _ D.i1z.symm gz1))
    have ne := no gz4 st
    obtain ⟨o, p, c⟩ := st
    exact wpAny_setField_rec gz4 (by simp) fun h5 _ e5 => fin h5 e (fun c o c1 c2 c3 c4 q => e5.extBut _ _ c1 (e4 _ _ c4 (e3.extBut _ _ c2 (e2.extBut _ _ c3 (e1.extBut _ _ c1 q))))) ⟨o, e5.extBut _ _ ne p, c⟩
theorem nextm_item {ta tb : Bool} {z TI O i j l m : Addr} {k n : Nat} {xs ys : Array Value} {x y a b : Value} {Q : Option Value → Shared → Prop} (D : ZipApart z TI O i j l m)
    (gz : IsZip s.heap z TI O .none) (gI : IsPair s.heap TI (.ref i) (.ref j)) (gO : IsPair s.heap O a b)
    (q1 : It2 ta s.heap i l k) (q2 : It2 tb s.heap j m n) (w1 : Sq2 ta s.heap l xs) (w2 : Sq2 tb s.heap m ys) (ex : xs[k]? = some x) (ey : ys[n]? = some y)
    (fin : ∀ h', IsZip h' z TI O (rawInt s.heap.objs.size) → IsPair h' O x y → It2 ta h' i l (k + 1) → It2 tb h' j m (n + 1) → IsPair h' s.heap.objs.size x y → h'.objs.size = s.heap.objs.size + 1 → But4 z O i j s.heap h' → Q (some (.ref s.heap.objs.size)) { s with heap := h' }) :
    wpAny (model prog w) A (pyNext (.ref z)) Q E s := by
  have ty : s.TypeIs (.ref z) "zip" := ⟨_, gz, rfl⟩
  unfold pyNext
  refine wpAny_bind (wpAny_attempt (wpAny_callSpecial?_slot (name := Str.ofString "__next__") ty F.slot_zip_next (wpAny_call_entry F.slot_zip_next ty F.entry_zip_next ?_ (F.args_zip_next_1 _))))
  exact zm_item D gz gI gO q1 q2 w1 w2 ex ey fun h' a1 a2 a3 a4 a5 a6 a7 => wpAny_pure (fin h' a1 a2 a3 a4 a5 a6 a7)
theorem nextm_end {ta tb : Bool} {z TI O i j l m : Addr} {k n : Nat} {xs ys : Array Value} {a b : Value} {Q : Option Value → Shared → Prop} (h0 : A.handled = none) (D : ZipApart z TI O i j l m)
    (gz : IsZip s.heap z TI O .none) (gI : IsPair s.heap TI (.ref i) (.ref j)) (gO : IsPair s.heap O a b)
    (q1 : It2 ta s.heap i l k) (q2 : It2 tb s.heap j m n) (w1 : Sq2 ta s.heap l xs) (w2 : Sq2 tb s.heap m ys) (he : xs[k]? = none ∨ ys[n]? = none)
    (fin : ∀ h', But4 z O i j s.heap h' → Q none { s with heap := h' }) : wpAny (model prog w) A (pyNext (.ref z)) Q E s := by
  have ty : s.TypeIs (.ref z) "zip" := ⟨_, gz, rfl⟩
  unfold pyNext
  refine wpAny_bind (wpAny_attempt (wpAny_callSpecial?_slot (name := Str.ofString "__next__") ty F.slot_zip_next (wpAny_call_entry F.slot_zip_next ty F.entry_zip_next ?_ (F.args_zip_next_1 _))))
  refine zm_end h0 D gz gI gO q1 q2 w1 w2 he fun h' e hk st => ?_
  obtain ⟨o, p, c⟩ := st
  exact wpAny_bind (wpAny_isInstance (T := "StopIteration") (b := true) ⟨o, p, c⟩ isSubtype_stop (wpAny_pure (fin _ hk)))
end
/-! zip(a, b) itself -/
def itN (t : Bool) : String := if t = true then "tuple_iterator" else "list_iterator"
abbrev zmIt (t : Bool) (l : Addr) : Obj := { cls := .type (itN t), data := .fields #[.ref l, .int 0 0] }
abbrev zm1 (t : Bool) (h : Heap) (l : Addr) : Heap := h.push (zmIt t l)
abbrev zm2 (t u : Bool) (h : Heap) (l m : Addr) : Heap := (zm1 t h l).push (zmIt u m)
abbrev zm3 (t u : Bool) (h : Heap) (l m : Addr) : Heap := (zm2 t u h l m).push { cls := .type "tuple", data := .seq #[.ref h.objs.size, .ref (zm1 t h l).objs.size] }
abbrev zm4 (t u : Bool) (h : Heap) (l m : Addr) : Heap := (zm3 t u h l m).push { cls := .type "tuple", data := .seq #[.none, .none] }
abbrev zm5 (t u : Bool) (h : Heap) (l m : Addr) : Heap := (zm4 t u h l m).push { cls := .type "zip", data := .fields #[.none, .bool false, .bool false, .ref (zm2 t u h l m).objs.size, .ref (zm3 t u h l m).objs.size] }
theorem meets_zm_tl (l m : Addr) (xs ys : Array Value) :
    Meets (Builtin.«zip.__new__» ⟨[.type "zip", .ref l, .ref m], []⟩) (fun _ R s => s.heap.IsTuple l xs ∧ s.heap.IsList m ys ∧ R (.ok (.ret (.ref (zm4 true false s.heap l m).objs.size))) { s with heap := zm5 true false s.heap l m }) :=
  .of_wp fun prog w A R s h => by
    obtain ⟨hp, g, d, tk, os⟩ := s
    obtain ⟨u1, u2, h⟩ := h
    have hsub := sub_zip
    have g1 : Heap.IsTuple (Shared.heap ⟨hp, g, d, tk, os⟩) l xs := u1
    have g2 : Heap.IsList (Shared.heap ⟨hp.push { cls := .type "tuple_iterator", data := .fields #[.ref l, .int 0 0] }, g, d, tk, os⟩) m ys := Heap.IsList.push u2 _
    wp_walk using wpAny_pyIter_tuple g1, wpAny_pyIter_list g2
    exact ⟨_, rfl, h⟩
theorem meets_zm_lt (l m : Addr) (xs ys : Array Value) :
    Meets (Builtin.«zip.__new__» ⟨[.type "zip", .ref l, .ref m], []⟩) (fun _ R s => s.heap.IsList l xs ∧ s.heap.IsTuple m ys ∧ R (.ok (.ret (.ref (zm4 false true s.heap l m).objs.size))) { s with heap := zm5 false true s.heap l m }) :=
  .of_wp fun prog w A R s h => by
    obtain ⟨hp, g, d, tk, os⟩ := s
    obtain ⟨u1, u2, h⟩ := h
    have hsub := sub_zip
    have g1 : Heap.IsList (Shared.heap ⟨hp, g, d, tk, os⟩) l xs := u1
    have g2 : Heap.IsTuple (Shared.heap ⟨hp.push { cls := .type "list_iterator", data := .fields #[.ref l, .int 0 0] }, g, d, tk, os⟩) m ys := Heap.IsTuple.push u2 _
    wp_walk using wpAny_pyIter_list g1, wpAny_pyIter_tuple g2
    exact ⟨_, rfl, h⟩
section
variable {prog : Program} {w : World} {A : Around} {E : Value → Shared → Prop} {s : Shared}
theorem It2.new {t : Bool} {h : Heap} {i l : Addr} (e : h.get? i = some (zmIt t l)) : It2 t h i l 0 := by
  cases t
  · exact ⟨_, e, rfl, rfl⟩
  · exact ⟨_, e, rfl, rfl⟩
theorem zm_made {t u : Bool} {l m : Addr} {Q : Value → Shared → Prop}
    (fin : ∀ h', IsZip h' (s.heap.objs.size + 4) (s.heap.objs.size + 2) (s.heap.objs.size + 3) .none → IsPair h' (s.heap.objs.size + 2) (.ref s.heap.objs.size) (.ref (s.heap.objs.size + 1)) →
      IsPair h' (s.heap.objs.size + 3) .none .none → It2 t h' s.heap.objs.size l 0 → It2 u h' (s.heap.objs.size + 1) m 0 → (∀ c o, s.heap.get? c = some o → h'.get? c = some o) → Q (.ref (s.heap.objs.size + 4)) { s with heap := h' }) :
    (∃ o, (zm5 t u s.heap l m).get? (zm4 t u s.heap l m).objs.size = some o ∧ o.cls = .type "zip") ∧ Q (.ref (zm4 t u s.heap l m).objs.size) { s with heap := zm5 t u s.heap l m } := by
  have z1 : (zm1 t s.heap l).objs.size = s.heap.objs.size + 1 := Heap.size_push ..
  have z2 : (zm2 t u s.heap l m).objs.size = s.heap.objs.size + 2 := by rw [Heap.size_push, z1]
  have z3 : (zm3 t u s.heap l m).objs.size = s.heap.objs.size + 3 := by rw [Heap.size_push, z2]
  have z4 : (zm4 t u s.heap l m).objs.size = s.heap.objs.size + 4 := by rw [Heap.size_push, z3]
  have g5 : (zm5 t u s.heap l m).get? (zm4 t u s.heap l m).objs.size = some _ := Heap.get?_push_size _ rfl
  have g4 : (zm5 t u s.heap l m).get? (zm3 t u s.heap l m).objs.size = some _ := Heap.get?_push_of_some _ (Heap.get?_push_size _ rfl)
  have g3 : (zm5 t u s.heap l m).get? (zm2 t u s.heap l m).objs.size = some _ := Heap.get?_push_of_some _ (Heap.get?_push_of_some _ (Heap.get?_push_size _ rfl))
  have g2 : (zm5 t u s.heap l m).get? (zm1 t s.heap l).objs.size = some (zmIt u m) := Heap.get?_push_of_some _ (Heap.get?_push_of_some _ (Heap.get?_push_of_some _ (Heap.get?_push_size _ rfl)))
  have g1 : (zm5 t u s.heap l m).get? s.heap.objs.size = some (zmIt t l) := Heap.get?_push_of_some _ (Heap.get?_push_of_some _ (Heap.get?_push_of_some _ (Heap.get?_push_of_some _ (Heap.get?_push_size _ rfl))))
  rw [z2, z3, z4] at g5
  rw [z1, z2] at g3
  rw [z3] at g4
  rw [z1] at g2
  rw [z4]
  exact ⟨⟨_, g5, rfl⟩, fin _ g5 g3 g4 (.new g1) (.new g2) fun c o q => Heap.get?_push_of_some _ (Heap.get?_push_of_some _ (Heap.get?_push_of_some _ (Heap.get?_push_of_some _ (Heap.get?_push_of_some _ q))))⟩
theorem zm_call {t u : Bool} {l m : Addr} {xs ys : Array Value} {Q : Value → Shared → Prop} (q1 : Sq2 t s.heap l xs) (q2 : Sq2 u s.heap m ys) (ne : t ≠ u)
    (fin : ∀ h', IsZip h' (s.heap.objs.size + 4) (s.heap.objs.size + 2) (s.heap.objs.size + 3) .none → IsPair h' (s.heap.objs.size + 2) (.ref s.heap.objs.size) (.ref (s.heap.objs.size + 1)) →
      IsPair h' (s.heap.objs.size + 3) .none .none → It2 t h' s.heap.objs.size l 0 → It2 u h' (s.heap.objs.size + 1) m 0 → (∀ c o, s.heap.get? c = some o → h'.get? c = some o) → Q (.ref (s.heap.objs.size + 4)) { s with heap := h' }) :
    wpAny (model prog w) A (call (.type "zip") [.ref l, .ref m]) Q E s := by
  have mk := zm_made fin
  cases t <;> cases u
  · exact absurd rfl ne
  · exact callType_new F.called_zip (by decide) (F.typeCall_zip_2 _ _) (F.newCall_zip_2 _ _) (fun obj => F.args_object_init_3 obj _ _) F.entry_zip_new (meets_zm_lt l m xs ys) ⟨q1, q2, mk⟩
  · exact callType_new F.called_zip (by decide) (F.typeCall_zip_2 _ _) (F.newCall_zip_2 _ _) (fun obj => F.args_object_init_3 obj _ _) F.entry_zip_new (meets_zm_tl l m xs ys) ⟨q1, q2, mk⟩
  · exact absurd rfl ne
end
/-! as a walk -/
def SqB (t : Bool) (K : PySem.W.Frag) (H : Hp) (a : Addr) (xs : List V) : Prop := if t = true then SqT K H a xs else SqL K H a xs
theorem inv_sqB {t : Bool} {X : Cx} {pins : List (Addr × Obj)} {σ : L2.St} {H : Hp} {s : Shared} {a : Addr} {xs : List V} (I : Inv X pins σ H s) (q : SqB t X.K H a xs) : ∃ its : List Value, Vals xs its ∧ Sq2 t s.heap a its.toArray ∧ a < s.heap.objs.size := by
  cases t
  · obtain ⟨its, rv, p, _⟩ := I.list (show SqL X.K H a xs from q)
    exact ⟨its, rv, p.isList, p.lt⟩
  · obtain ⟨its, rv, p, _⟩ := I.tuple (show SqT X.K H a xs from q)
    have p2 : s.heap.IsTuple a its.toArray := p
    obtain ⟨o, e, _⟩ := id p2
    exact ⟨its, rv, p2, Heap.lt_size e⟩
theorem sqB_inj {t : Bool} {X : Cx} {pins : List (Addr × Obj)} {σ : L2.St} {H : Hp} {s : Shared} {a : Addr} {xs ys : List V} (I : Inv X pins σ H s) (h : SqB t X.K H a xs) (g : SqB t X.K H a ys) : xs = ys := by
  cases t
  · exact I.list_inj h g
  · exact I.tuple_inj h g
def Itm (t u : Bool) (K : PySem.W.Frag) (a b : Addr) : It :=
  ⟨fun i H => ∃ xs ys x y, SqB t K H a xs ∧ SqB u K H b ys ∧ xs[i]? = some x ∧ ys[i]? = some y,
    fun i H v H' => ∃ T x y, v = .ref T ∧ H T = none ∧ H' = upd H T (.tup [x, y]) ∧ (∀ xs, SqB t K H a xs → xs[i]? = some x) ∧ ∀ ys, SqB u K H b ys → ys[i]? = some y,
    fun i H => ∃ xs ys, SqB t K H a xs ∧ SqB u K H b ys ∧ (xs.length ≤ i ∨ ys.length ≤ i)⟩
theorem turn_zm {t u : Bool} {P : Program} {w : World} {K : PySem.W.Frag} {elts : List Expr} {kk : Nat} {tpos : Pos} {a b z TI O i j : Addr} (D : ZipApart z TI O i j a b) :
    Turn P w K (.Tuple elts kk tpos) (Itm t u K a b) [z, TI, O, i, j] z (fun n h => IsZip h z TI O .none ∧ IsPair h TI (.ref i) (.ref j) ∧ (∃ x y, IsPair h O x y) ∧ It2 t h i a n ∧ It2 u h j b n) where
  mem := by simp
  obj := fun n h st c hc => by
    obtain ⟨gz, gI, ⟨x, y, gO⟩, r1, r2⟩ := st
    simp only [List.mem_cons, List.not_mem_nil, or_false] at hc
    rcases hc with rfl | rfl | rfl | rfl | rfl
    · exact ⟨_, gz, fun v q => nomatch q⟩
    · exact ⟨_, gI, fun v q => nomatch q⟩
    · exact ⟨_, gO, fun v q => nomatch q⟩
    · exact r1.obj
    · exact r2.obj
  keep := fun n h h' st k => by
    obtain ⟨gz, gI, ⟨x, y, gO⟩, r1, r2⟩ := st
    exact ⟨k z (by simp) _ gz, k TI (by simp) _ gI, ⟨x, y, k O (by simp) _ gO⟩, r1.keep fun o q => k i (by simp) o q, r2.keep fun o q => k j (by simp) o q⟩
  item := by
    intro X hP hw hK hc n pins s σ H E I hf st hg
    subst hP hw hK
    obtain ⟨gz, gI, ⟨x0, y0, gO⟩, r1, r2⟩ := st
    obtain ⟨xs, ys, x, y, qx, qy, ex, ey⟩ := hg
    obtain ⟨its, rv, p, _⟩ := inv_sqB I qx
    obtain ⟨its2, rv2, p2, _⟩ := inv_sqB I qy
    obtain ⟨f, ef, rf⟩ := rv.get ex
    obtain ⟨f2, ef2, rf2⟩ := rv2.get ey
    have lz : z < s.heap.objs.size := Heap.lt_size gz
    have lts : ∀ c ∈ [z, TI, O, i, j], c < s.heap.objs.size := fun c hc => by
      simp only [List.mem_cons, List.not_mem_nil, or_false] at hc
      rcases hc with rfl | rfl | rfl | rfl | rfl
      · exact lz
      · exact Heap.lt_size gI
      · exact Heap.lt_size gO
      · exact r1.lt
      · exact r2.lt
    refine nextm_item D gz gI gO r1 r2 p p2 (x := f) (y := f2) (by simpa using ef) (by simpa using ef2) fun h' gz' gO' r1' r2' gT sz hk => ?_
    refine ⟨_, rfl, wpAny_letOwnedTupleGo_zip (s := { s with heap := h' }) gz' fun h2 gz2 sb => ?_⟩
    have gT2 : h2.get? s.heap.objs.size = some { cls := .type "tuple", data := .seq #[f, f2] } := (sb.2 _ (Nat.ne_of_gt lz)).trans gT
    have new : ObjOk X.prog X.w (upd H s.heap.objs.size (.tup [x, y])) h2 s.heap.objs.size (.tup [x, y]) := ⟨by show 2 ≤ sizeLine; decide, [f, f2], .cons rf (.cons rf2 .nil), ⟨_, gT2, rfl, _, rfl⟩⟩
    have up : ∀ c o, ¬ c ∈ [z, TI, O, i, j] → s.heap.get? c = some o → h2.get? c = some o := fun c o hb q => by
      simp only [List.mem_cons, List.not_mem_nil, or_false, not_or] at hb
      exact (sb.2 c hb.1).trans (hk c o hb.1 hb.2.2.1 hb.2.2.2.1 hb.2.2.2.2 q)
    have I1 : Inv X pins σ (upd H s.heap.objs.size (.tup [x, y])) { s with heap := h2 } := I.turnedNew (t' := s.toks) (ch := [z, TI, O, i, j]) up hf (Nat.le_refl _) new
    refine ⟨.ref s.heap.objs.size, _, I1, rfl, ⟨_, x, y, rfl, I.hok.fresh (Nat.le_refl _), rfl, fun l hl => by rw [sqB_inj I hl qx]; exact ex, fun l hl => by rw [sqB_inj I hl qy]; exact ey⟩, ⟨gz2, ?_, ⟨f, f2, ?_⟩, ?_, ?_⟩, fun c hcm => ?_⟩
    · exact (sb.2 _ D.TIz).trans (hk _ _ D.TIz D.TITO D.TIi1 D.TIi2 gI)
    · exact (sb.2 _ D.TOz).trans gO'
    · exact r1'.keep fun o q => (sb.2 _ D.i1z).trans q
    · exact r2'.keep fun o q => (sb.2 _ D.i2z).trans q
    · rw [upd_ne (Nat.ne_of_lt (lts c hcm))]
      exact (hf c hcm).1
  done := by
    intro X hP hw hK hc n pins s σ H E I hf st hg
    subst hP hw hK
    obtain ⟨gz, gI, ⟨x0, y0, gO⟩, r1, r2⟩ := st
    obtain ⟨xs, ys, qx, qy, en⟩ := hg
    obtain ⟨its, rv, p, _⟩ := inv_sqB I qx
    obtain ⟨its2, rv2, p2, _⟩ := inv_sqB I qy
    have c1 := rv.length
    have c2 := rv2.length
    refine nextm_end (I.ok.hd hc) D gz gI gO r1 r2 p p2 (en.imp (fun q => by simp; omega) fun q => by simp; omega) fun h' hk => ?_
    refine ⟨rfl, I.turnedL (t' := s.toks) (ch := [z, TI, O, i, j]) (fun c o hb q => ?_) hf⟩
    simp only [List.mem_cons, List.not_mem_nil, or_false, not_or] at hb
    exact hk c o hb.1 hb.2.2.1 hb.2.2.2.1 hb.2.2.2.2 q
  self := fun A n s Q E st h => wpAny_pyIter_zip st.1 h
/-- zip of any two of lists and tuples -/
def iZipM (K : PySem.W.Frag) (ta : TA) : TI := fun σ H R => ta σ H fun vs H1 => ∃ a b xs ys, vs = [.ref a, .ref b] ∧
  ((SqL K H1 a xs ∧ SqL K H1 b ys ∧ R (Itz K a b) H1) ∨ (SqT K H1 a xs ∧ SqT K H1 b ys ∧ R (RZ.ItzT K a b) H1) ∨ ∃ t u, t ≠ u ∧ SqB t K H1 a xs ∧ SqB u K H1 b ys ∧ R (Itm t u K a b) H1)
theorem pi_zipM {X : Cx} {e e2 : Expr} {ta : TA} {p pos tpos : Pos} {elts : List Expr} {kk : Nat} (hg : Gl X "zip") (hm : X.mg "zip" = none) (ha : PA X [e, e2] ta)
    (hs : starEach [e, e2] X.env = (false, eval e X.env) :: starEach [e2] X.env := by rfl) (hpl : (backTo pos (starEach [e2] X.env)).any (·.1) = false := by rfl) :
    PI X (.Tuple elts kk tpos) (.Call (.Name "zip" p) [e, e2] [] pos) (iZipM X.K ta) := by
  refine ⟨fun pins s σ H R I h => ?_⟩
  refine Call_ (ld_blt I hg hm PyProof.Rows.boot_zip (PyProof.Rows.callWith_type1 (thn (ha.run pos pins s σ H _ I h) fun us s1 ⟨vs, H1, I1, r1, q1⟩ => ?_) hs hpl))
  obtain ⟨a, b, xs, ys, ev, q1⟩ := q1
  subst ev
  obtain ⟨f1, f2, rfl, ra, rb⟩ := vals2 r1
  obtain rfl : f1 = Value.ref a := ra
  obtain rfl : f2 = Value.ref b := rb
  have new5 : ∀ c, c ∈ [s1.heap.objs.size + 4, s1.heap.objs.size + 2, s1.heap.objs.size + 3, s1.heap.objs.size, s1.heap.objs.size + 1] → FpOk X pins H1 c := fun c hc => by
    have le : s1.heap.objs.size ≤ c := by
      simp only [List.mem_cons, List.not_mem_nil, or_false] at hc
      rcases hc with rfl | rfl | rfl | rfl | rfl <;> first | exact Nat.le_add_right _ _ | exact Nat.le_refl _
    exact I1.fpOk le (I1.hok.fresh le)
  rcases q1 with ⟨qx, qy, q⟩ | ⟨qx, qy, q⟩ | ⟨t, u, ne, qx, qy, q⟩
  · obtain ⟨its, rv, p1, _⟩ := I1.list qx
    obtain ⟨its2, rv2, p2, _⟩ := I1.list qy
    exact call_zip_2 p1.isList p2.isList fun h' gz gI gO r1 r2 _ hk => wpAny_pyIter_zip gz
      ⟨s1.heap.objs.size + 4, _, _, _, H1, rfl, I1.kept (t' := s1.toks) hk, turn_zip (PySem.W.ktu_apart s1.heap.objs.size a b p1.lt p2.lt), ⟨gz, gI, ⟨_, _, gO⟩, r1, r2⟩, new5, q⟩
  · obtain ⟨its, rv, p1, l1⟩ := inv_sqB (t := true) I1 qx
    obtain ⟨its2, rv2, p2, l2⟩ := inv_sqB (t := true) I1 qy
    exact RZ.call_zipT p1 p2 fun h' gz gI gO r1 r2 _ hk => wpAny_pyIter_zip gz
      ⟨s1.heap.objs.size + 4, _, _, _, H1, rfl, I1.kept (t' := s1.toks) hk, RZ.turn_zipT (PySem.W.ktu_apart s1.heap.objs.size a b l1 l2), ⟨gz, gI, ⟨_, _, gO⟩, r1, r2⟩, new5, q⟩
  · obtain ⟨its, rv, p1, l1⟩ := inv_sqB I1 qx
    obtain ⟨its2, rv2, p2, l2⟩ := inv_sqB I1 qy
    exact zm_call p1 p2 ne fun h' gz gI gO r1 r2 hk => wpAny_pyIter_zip gz
      ⟨s1.heap.objs.size + 4, _, _, _, H1, rfl, I1.kept (t' := s1.toks) hk, turn_zm (PySem.W.ktu_apart s1.heap.objs.size a b l1 l2), ⟨gz, gI, ⟨_, _, gO⟩, r1, r2⟩, new5, q⟩
section
variable {K : PySem.W.Frag} {fa : Nat → Addr} {G : Gh} {H : Hp}
end
end Fw
/-! Fw: what is walked; comprehensions; all expressions. -/
namespace Fw
open PySem PySem.Spec PyProof.Rows L2
section
variable {T : Tab} {D : Ad} {M : Mk} {lv : Nat} {ow ro : List Nat}
/-- the walk J gives xs, as long as what stands is kept -/
structure WalkP (K : PySem.W.Frag) (fa : Nat → Addr) (J : It) (xs : List P) (G : Gh) (H : Hp) : Prop where
  goes : ∀ i G2 H2, Mo G H G2 H2 → i < xs.length → J.go i H2
  stops : ∀ G2 H2, Mo G H G2 H2 → J.stop xs.length H2
  yields : ∀ i G2 H2 v H3, i < xs.length → Mo G H G2 H2 → Good G2 H2 → J.yld i H2 v H3 → ∃ p, xs[i]? = some p ∧ Xt G2 H2 G2 H3 ∧ Good G2 H3 ∧ Rep K fa G2 H3 p v
def LfI (X : Cx) (D : Ad) (W : WX) (ow ro : List Nat) (w : Env → PQ → XQ → Prop) : TI := fun σ H R => ∃ G env Qp Ep, Good G H ∧ ER X.K D.fa ow ro G H σ env ∧ w env Qp Ep ∧
  (∀ J p H' G', Xt G H G' H' → Good G' H' → Qp p → ∃ xs, elems p = some xs ∧ (WalkP X.K D.fa J xs G' H' → R J H')) ∧ Xk X D W G H σ Ep
theorem pi_imp {X : Cx} {tg e : Expr} {t t' : TI} (h : PI X tg e t) (k : ∀ σ H R, t' σ H R → t σ H R) : PI X tg e t' := ⟨fun pins s σ H R I q => h.run pins s σ H R I (k σ H R q)⟩
/-- a list, a tuple or a text -/
def tAny (K : PySem.W.Frag) (tl : TE) : TI := fun σ H R => tl σ H fun x H1 => (∃ a, x = .ref a ∧ (∃ xs, SqL K H1 a xs) ∧ R (Itl K a) H1) ∨ (∃ a, x = .ref a ∧ (∃ xs, SqT K H1 a xs) ∧ R (Itt K a) H1) ∨ ∃ z, x = .str z ∧ R (Its z) H1
theorem pi_any {X : Cx} {tg l : Expr} {tl : TE} (hl : PE X l tl) : PI X tg l (tAny X.K tl) := by
  refine ⟨fun pins s σ H R I h => ?_⟩
  refine thn (hl.run pins s σ H _ I h) fun v s1 ⟨x, H1, I1, r1, q1⟩ => ?_
  rcases q1 with ⟨a, e, ⟨xs, hq⟩, q⟩ | ⟨a, e, ⟨xs, hq⟩, q⟩ | ⟨z, e, q⟩
  · subst e
    cases r1
    obtain ⟨its, rv, p, hz⟩ := I1.list hq
    refine wpAny_pyIter_list p.isList ?_
    refine ⟨s1.heap.objs.size, [s1.heap.objs.size], _, _, H1, rfl, I1.kept (t' := s1.toks) fun b o e => Heap.get?_push_of_some _ e, turn_list a _, ⟨_, Heap.get?_push_size _ rfl, rfl, rfl⟩, fun b hb => ?_, q⟩
    have e : b = s1.heap.objs.size := by simpa using hb
    subst e
    exact I1.fpOk (Nat.le_refl _) (I1.hok.fresh (Nat.le_refl _))
  · subst e
    cases r1
    obtain ⟨its, rv, p, hz⟩ := I1.tuple hq
    refine wpAny_pyIter_tuple (show s1.heap.IsTuple a its.toArray from p) ?_
    refine ⟨s1.heap.objs.size, [s1.heap.objs.size], _, _, H1, rfl, I1.kept (t' := s1.toks) fun b o e => Heap.get?_push_of_some _ e, turn_tuple a _, ⟨_, Heap.get?_push_size _ rfl, rfl, rfl⟩, fun b hb => ?_, q⟩
    have e : b = s1.heap.objs.size := by simpa using hb
    subst e
    exact I1.fpOk (Nat.le_refl _) (I1.hok.fresh (Nat.le_refl _))
  · subst e
    obtain ⟨t, rfl⟩ := r1
    cases ha : z.cps.all (· < 128)
    · exact wpAny_pyIter_wide ha (pi_one (tk := s1.toks) I1 _ (turn_str _ z t "str_iterator" (.inr rfl)) ⟨_, Heap.get?_push_size _ rfl, rfl, rfl⟩ q)
    · exact wpAny_pyIter_ascii ha (pi_one (tk := s1.toks) I1 _ (turn_str _ z t "str_ascii_iterator" (.inl rfl)) ⟨_, Heap.get?_push_size _ rfl, rfl, rfl⟩ q)
/-! ### the walks -/
section
variable {K : PySem.W.Frag} {fa : Nat → Addr} {G : Gh} {H : Hp}
theorem sqL_inj {a : Addr} {xs ys : List V} (h : H a = some (.lst xs)) : SqL K H a xs := SqL.of h
theorem walkP_list {a : Addr} {vs : List V} {ps : List P} (h : H a = some (.lst vs)) (i : G.imm a) (r : Reps K fa G H ps vs) : WalkP K fa (Itl K a) ps G H := by
  have hl := r.length
  refine ⟨fun j G2 H2 m hj => ⟨vs, vs[j]'(by omega), SqL.of (m.immH a _ i h), by simp [show j < vs.length by omega]⟩, fun G2 H2 m => ⟨vs, SqL.of (m.immH a _ i h), by omega⟩, fun j G2 H2 v H3 hj m g y => ?_⟩
  obtain ⟨e, y⟩ := y
  subst e
  obtain ⟨p, h1, h2⟩ := r.getV (y vs (SqL.of (m.immH a _ i h)))
  exact ⟨p, h1, Xt.refl, g, m.rep h2⟩
theorem walkP_tup {a : Addr} {vs : List V} {ps : List P} (h : SqT K H a vs) (r : Reps K fa G H ps vs) : WalkP K fa (Itt K a) ps G H := by
  have hl := r.length
  refine ⟨fun j G2 H2 m hj => ⟨vs, vs[j]'(by omega), m.sqT h, by simp [show j < vs.length by omega]⟩, fun G2 H2 m => ⟨vs, m.sqT h, by omega⟩, fun j G2 H2 v H3 hj m g y => ?_⟩
  obtain ⟨e, y⟩ := y
  subst e
  obtain ⟨p, h1, h2⟩ := r.getV (y vs (m.sqT h))
  exact ⟨p, h1, Xt.refl, g, m.rep h2⟩
theorem walkP_str {z : Str} : WalkP K fa (Its z) (z.cps.toList.map fun c => P.str ⟨#[c]⟩) G H := by
  refine ⟨fun j G2 H2 m hj => by show j < z.cps.size; simpa using hj, fun G2 H2 m => by simp [Its], fun j G2 H2 v H3 hj m g y => ?_⟩
  obtain ⟨e, c, hc, e2⟩ := y
  subst e
  refine ⟨.str ⟨#[c]⟩, ?_, Xt.refl, g, e2⟩
  rw [List.getElem?_map, Array.getElem?_toList, hc]
  rfl
theorem walkP_range {lo : Int} {n : Nat} : WalkP K fa (Itr lo n) ((List.range n).map fun (k : Nat) => P.int (lo + (k : Int))) G H := by
  refine ⟨fun j G2 H2 m hj => by show j < n; simpa using hj, fun G2 H2 m => by simp [Itr], fun j G2 H2 v H3 hj m g y => ?_⟩
  obtain ⟨e, e2⟩ := y
  subst e
  have hj' : j < n := by simpa using hj
  refine ⟨.int (lo + (j : Int)), ?_, Xt.refl, g, e2⟩
  rw [List.getElem?_map, List.getElem?_range hj']
  rfl
theorem enumFrom_get : ∀ {ps : List P} {k i : Nat} {p : P}, ps[i]? = some p → (enumFrom k ps)[i]? = some (.tup [.int ((k + i : Nat) : Int), p])
  | [], _, _, _, h => by simp at h
  | x :: r, k, 0, p, h => by
    have e : x = p := by simpa using h
    subst e
    rfl
  | x :: r, k, i + 1, p, h => by
    have := enumFrom_get (k := k + 1) (i := i) (p := p) (by simpa using h)
    rw [show k + 1 + i = k + (i + 1) by omega] at this
    simpa [enumFrom] using this
theorem enumFrom_len : ∀ (ps : List P) (k : Nat), (enumFrom k ps).length = ps.length
  | [], _ => rfl
  | _ :: r, k => by rw [enumFrom, List.length_cons, List.length_cons, enumFrom_len r]
theorem pair_new {G2 : Gh} {H2 H3 : Hp} {T : Addr} {v : V} {x y : V} {p q : P} (g : Good G2 H2) (hT : H2 T = none) (e : H3 = upd H2 T (.tup [x, y])) (rx : Rep K fa G2 H2 p x) (ry : Rep K fa G2 H2 q y) :
    Xt G2 H2 G2 H3 ∧ Good G2 H3 ∧ Rep K fa G2 H3 (.tup [p, q]) (.ref T) := by
  subst e
  have m := (Xt.new0 (G := G2) hT (.tup [x, y])).mo g
  exact ⟨Xt.new0 hT _, g.new0 hT _, T, [x, y], rfl, SqT.of upd_same, x, [y], rfl, m.rep rx, y, [], rfl, m.rep ry, rfl⟩
theorem walkP_enumL {a : Addr} {vs : List V} {ps : List P} (h : H a = some (.lst vs)) (i : G.imm a) (r : Reps K fa G H ps vs) : WalkP K fa (Ite K a) (enumFrom 0 ps) G H := by
  have hl := r.length
  have el := enumFrom_len ps 0
  refine ⟨fun j G2 H2 m hj => ⟨vs, vs[j]'(by omega), SqL.of (m.immH a _ i h), by simp [show j < vs.length by omega]⟩, fun G2 H2 m => ⟨vs, SqL.of (m.immH a _ i h), by omega⟩, fun j G2 H2 v H3 hj m g y => ?_⟩
  obtain ⟨T, x, e1, e2, e3, y⟩ := y
  obtain ⟨p, h1, h2⟩ := r.getV (y vs (SqL.of (m.immH a _ i h)))
  subst e1
  obtain ⟨q1, q2, q3⟩ := pair_new (v := .non) g e2 e3 (p := .int (j : Nat)) (rfl : Rep K fa G2 H2 (.int (j : Nat)) (.int (j : Nat))) (m.rep h2)
  exact ⟨_, by rw [enumFrom_get h1, Nat.zero_add], q1, q2, q3⟩
theorem walkP_enumT {a : Addr} {vs : List V} {ps : List P} (h : SqT K H a vs) (r : Reps K fa G H ps vs) : WalkP K fa (IteT K a) (enumFrom 0 ps) G H := by
  have hl := r.length
  have el := enumFrom_len ps 0
  refine ⟨fun j G2 H2 m hj => ⟨vs, vs[j]'(by omega), m.sqT h, by simp [show j < vs.length by omega]⟩, fun G2 H2 m => ⟨vs, m.sqT h, by omega⟩, fun j G2 H2 v H3 hj m g y => ?_⟩
  obtain ⟨T, x, e1, e2, e3, y⟩ := y
  obtain ⟨p, h1, h2⟩ := r.getV (y vs (m.sqT h))
  subst e1
  obtain ⟨q1, q2, q3⟩ := pair_new (v := .non) g e2 e3 (p := .int (j : Nat)) (rfl : Rep K fa G2 H2 (.int (j : Nat)) (.int (j : Nat))) (m.rep h2)
  exact ⟨_, by rw [enumFrom_get h1, Nat.zero_add], q1, q2, q3⟩
theorem zipP_get : ∀ {ps qs : List P} {i : Nat} {p q : P}, ps[i]? = some p → qs[i]? = some q → (zipP ps qs)[i]? = some (.tup [p, q])
  | [], _, _, _, _, h, _ => by simp at h
  | _ :: _, [], _, _, _, _, h => by simp at h
  | x :: r, y :: t, 0, p, q, h, h2 => by
    have e : x = p := by simpa using h
    have e2 : y = q := by simpa using h2
    subst e e2
    rfl
  | x :: r, y :: t, i + 1, p, q, h, h2 => by
    have := zipP_get (i := i) (p := p) (q := q) (by simpa using h) (by simpa using h2)
    simpa [zipP] using this
theorem zipP_len : ∀ (ps qs : List P), (zipP ps qs).length = min ps.length qs.length
  | [], _ => by simp [zipP]
  | _ :: _, [] => by simp [zipP]
  | _ :: r, _ :: t => by rw [zipP, List.length_cons, List.length_cons, List.length_cons, zipP_len r t]; omega
theorem walkP_zipL {a b : Addr} {vs ws : List V} {ps qs : List P} (h : H a = some (.lst vs)) (i : G.imm a) (r : Reps K fa G H ps vs) (h' : H b = some (.lst ws)) (i' : G.imm b) (r' : Reps K fa G H qs ws) : WalkP K fa (Itz K a b) (zipP ps qs) G H := by
  have hl := r.length
  have hl' := r'.length
  have el := zipP_len ps qs
  refine ⟨fun j G2 H2 m hj => ⟨vs, ws, vs[j]'(by omega), ws[j]'(by omega), SqL.of (m.immH a _ i h), SqL.of (m.immH b _ i' h'), by simp [show j < vs.length by omega], by simp [show j < ws.length by omega]⟩,
    fun G2 H2 m => ⟨vs, ws, SqL.of (m.immH a _ i h), SqL.of (m.immH b _ i' h'), by omega⟩, fun j G2 H2 v H3 hj m g y => ?_⟩
  obtain ⟨T, x, z, e1, e2, e3, y1, y2⟩ := y
  obtain ⟨p, h1, h2⟩ := r.getV (y1 vs (SqL.of (m.immH a _ i h)))
  obtain ⟨q, h3, h4⟩ := r'.getV (y2 ws (SqL.of (m.immH b _ i' h')))
  subst e1
  obtain ⟨q1, q2, q3⟩ := pair_new (v := .non) g e2 e3 (m.rep h2) (m.rep h4)
  exact ⟨_, zipP_get h1 h3, q1, q2, q3⟩
theorem walkP_zipT {a b : Addr} {vs ws : List V} {ps qs : List P} (h : SqT K H a vs) (r : Reps K fa G H ps vs) (h' : SqT K H b ws) (r' : Reps K fa G H qs ws) : WalkP K fa (RZ.ItzT K a b) (zipP ps qs) G H := by
  have hl := r.length
  have hl' := r'.length
  have el := zipP_len ps qs
  refine ⟨fun j G2 H2 m hj => ⟨vs, ws, vs[j]'(by omega), ws[j]'(by omega), m.sqT h, m.sqT h', by simp [show j < vs.length by omega], by simp [show j < ws.length by omega]⟩,
    fun G2 H2 m => ⟨vs, ws, m.sqT h, m.sqT h', by omega⟩, fun j G2 H2 v H3 hj m g y => ?_⟩
  obtain ⟨T, x, z, e1, e2, e3, y1, y2⟩ := y
  obtain ⟨p, h1, h2⟩ := r.getV (y1 vs (m.sqT h))
  obtain ⟨q, h3, h4⟩ := r'.getV (y2 ws (m.sqT h'))
  subst e1
  obtain ⟨q1, q2, q3⟩ := pair_new (v := .non) g e2 e3 (m.rep h2) (m.rep h4)
  exact ⟨_, zipP_get h1 h3, q1, q2, q3⟩
/-- stands, and is not changed any more -/
def KeptB (t : Bool) (K : PySem.W.Frag) (G : Gh) (H : Hp) (a : Addr) (vs : List V) : Prop := (t = false ∧ H a = some (.lst vs) ∧ G.imm a) ∨ (t = true ∧ SqT K H a vs)
theorem KeptB.at {t : Bool} {a : Addr} {vs : List V} {G2 : Gh} {H2 : Hp} (h : KeptB t K G H a vs) (m : Mo G H G2 H2) : SqB t K H2 a vs := by
  rcases h with ⟨rfl, h, i⟩ | ⟨rfl, h⟩
  · exact SqL.of (m.immH a _ i h)
  · exact m.sqT h
theorem walkP_zipM0 {t u : Bool} {a b : Addr} {vs ws : List V} {ps qs : List P} (h : KeptB t K G H a vs) (r : Reps K fa G H ps vs) (h' : KeptB u K G H b ws) (r' : Reps K fa G H qs ws) : WalkP K fa (Itm t u K a b) (zipP ps qs) G H := by
  have hl := r.length
  have hl' := r'.length
  have el := zipP_len ps qs
  refine ⟨fun j G2 H2 m hj => ⟨vs, ws, vs[j]'(by omega), ws[j]'(by omega), h.at m, h'.at m, by simp [show j < vs.length by omega], by simp [show j < ws.length by omega]⟩,
    fun G2 H2 m => ⟨vs, ws, h.at m, h'.at m, by omega⟩, fun j G2 H2 v H3 hj m g y => ?_⟩
  obtain ⟨T, x, z, e1, e2, e3, y1, y2⟩ := y
  obtain ⟨p, h1, h2⟩ := r.getV (y1 vs (h.at m))
  obtain ⟨q, h3, h4⟩ := r'.getV (y2 ws (h'.at m))
  subst e1
  obtain ⟨q1, q2, q3⟩ := pair_new (v := .non) g e2 e3 (m.rep h2) (m.rep h4)
  exact ⟨_, zipP_get h1 h3, q1, q2, q3⟩
theorem walkP_zipM {t u : Bool} {a b : Addr} {vs ws : List V} {ps qs : List P} (h : (H a = some (.lst vs) ∧ G.imm a ∧ t = false) ∨ (SqT K H a vs ∧ t = true)) (r : Reps K fa G H ps vs) (h' : (H b = some (.lst ws) ∧ G.imm b ∧ u = false) ∨ (SqT K H b ws ∧ u = true)) (r' : Reps K fa G H qs ws) : WalkP K fa (Itm t u K a b) (zipP ps qs) G H :=
  walkP_zipM0 (h.elim (fun ⟨x, y, z⟩ => .inl ⟨z, x, y⟩) fun ⟨x, z⟩ => .inr ⟨z, x⟩) r (h'.elim (fun ⟨x, y, z⟩ => .inl ⟨z, x, y⟩) fun ⟨x, z⟩ => .inr ⟨z, x⟩) r'
theorem walkP_rangeC {lo c : Int} {n : Nat} : WalkP K fa (Itc lo c n) ((List.range n).map fun (k : Nat) => P.int (lo + (k : Int) * c)) G H := by
  refine ⟨fun j G2 H2 m hj => by show j < n; simpa using hj, fun G2 H2 m => by simp [Itc], fun j G2 H2 v H3 hj m g y => ?_⟩
  obtain ⟨e, e2⟩ := y
  subst e
  have hj' : j < n := by simpa using hj
  exact ⟨.int (lo + (j : Int) * c), by rw [List.getElem?_map, List.getElem?_range hj']; rfl, Xt.refl, g, e2⟩
end
/-! ### what a for or a comprehension walks -/
theorem S_iter_plain {X : Cx} {W : WX} {x : Ex} {e tg : Expr} (c : Cok X T D M lv W) (hs : S T D M lv ow ro x) (h : chkE T M X.N X.env.scope ro x e = true) (hi : itx x = false) (hf : full ro x = true) :
    PI X tg e (LfI X D W ow ro (wpE T x)) := by
  refine pi_imp (pi_any (hs X W e c h hi).1) ?_
  rintro σ H R ⟨G, env, Qp, Ep, g, er, hw, k, kx⟩
  refine ⟨G, env, _, Ep, g, er, hw, ?_, kx⟩
  intro v p H1 G1 x1 g1 r1 q1
  have r := r1.2 hf
  cases p with
  | lst xs =>
    obtain ⟨a, vs, rfl, h1, h2, h3⟩ := r
    obtain ⟨xs', e1, kk⟩ := k (Itl X.K a) _ H1 G1 x1 g1 q1
    cases e1
    exact .inl ⟨a, rfl, ⟨vs, SqL.of h1⟩, kk (walkP_list h1 h2 h3)⟩
  | tup xs =>
    obtain ⟨a, vs, rfl, h1, h3⟩ := r
    obtain ⟨xs', e1, kk⟩ := k (Itt X.K a) _ H1 G1 x1 g1 q1
    cases e1
    exact .inr (.inl ⟨a, rfl, ⟨vs, h1⟩, kk (walkP_tup h1 h3)⟩)
  | str z =>
    obtain rfl := r
    obtain ⟨xs', e1, kk⟩ := k (Its z) _ H1 G1 x1 g1 q1
    cases e1
    exact .inr (.inr ⟨z, rfl, kk walkP_str⟩)
  | _ =>
    obtain ⟨xs', e1, _⟩ := k (Itl X.K 0) _ H1 G1 x1 g1 q1
    cases e1
def q1 (R : P → Prop) : List P → Prop
  | [p] => R p
  | _ => False
def q2 (R : P → P → Prop) : List P → Prop
  | [p, q] => R p q
  | _ => False
def q3 (R : P → P → P → Prop) : List P → Prop
  | [p, q, r] => R p q r
  | _ => False
theorem q3_of {R : P → P → P → Prop} {ps : List P} (h : q3 R ps) : ∃ p q r, ps = [p, q, r] ∧ R p q r := by
  match ps, h with
  | [p, q, r], h => exact ⟨p, q, r, rfl, h⟩
theorem q1_of {R : P → Prop} {ps : List P} (h : q1 R ps) : ∃ p, ps = [p] ∧ R p := by
  match ps, h with
  | [p], h => exact ⟨p, rfl, h⟩
theorem q2_of {R : P → P → Prop} {ps : List P} (h : q2 R ps) : ∃ p q, ps = [p, q] ∧ R p q := by
  match ps, h with
  | [p, q], h => exact ⟨p, q, rfl, h⟩
theorem one_arg {X : Cx} {W : WX} {x : Ex} {e : Expr} (c : Cok X T D M lv W) (hs : S T D M lv ow ro x) (h : chkE T M X.N X.env.scope ro x e = true) (hi : itx x = false) :
    PA X [e] (LfA X D W ow ro [full ro x] (wpEs T [x])) := S_args (xs := [x]) c (fun y hy => by rw [List.mem_singleton.mp hy]; exact hs) (by simp [chkEs, h, hi])
theorem S_iter_enum {X : Cx} {W : WX} {a : Ex} {e : Expr} {elts : List Expr} {kk : Nat} {tp : Pos} (c : Cok X T D M lv W) (hs : S T D M lv ow ro a) (h : chkE T M X.N X.env.scope ro (.enum a) e = true) :
    PI X (.Tuple elts kk tp) e (LfI X D W ow ro (wpE T (.enum a))) := by
  cases e <;> try (simp [chkE] at h; done)
  rename_i fn vs kws pos
  cases fn <;> try (simp [chkE] at h; done)
  rename_i y p
  match vs, kws, h with
  | [v], [], h =>
    simp only [chkE, Bool.and_eq_true, decide_eq_true_eq] at h
    obtain ⟨⟨⟨h1, h2⟩, h3, h4⟩, h5⟩ := h
    obtain ⟨gl, db⟩ := gl_of h1
    subst h2
    refine pi_imp (pi_enumA gl (c.tok.nm _ (by decide +kernel)) (one_arg c hs h4 (itx_of h3)) (star_cons (chk_noStar h4))) ?_
    rintro σ H R ⟨G, env, Qp, Ep, g, er, hw, k, kx⟩
    refine ⟨G, env, q1 fun p => ∃ xs, (p = .lst xs ∨ p = .tup xs) ∧ Qp (.lst (enumFrom 0 xs)), Ep, g, er, hw, ?_, kx⟩
    intro vs' ps H1 G1 x1 g1 r1 hq
    replace hq := q1_of hq
    obtain ⟨p, rfl, xs, e1, hq⟩ := hq
    obtain ⟨v1, _, rfl, rb, rn⟩ := r1
    have r := rb.2 h5
    obtain rfl := (show _ = [] from rn)
    rcases e1 with rfl | rfl
    · obtain ⟨b, ws, rfl, b1, b2, b3⟩ := r
      obtain ⟨xs', e1, kk⟩ := k (Ite X.K b) _ H1 G1 x1 g1 hq
      cases e1
      exact ⟨b, rfl, .inl ⟨ws, SqL.of b1, kk (walkP_enumL b1 b2 b3)⟩⟩
    · obtain ⟨b, ws, rfl, b1, b3⟩ := r
      obtain ⟨xs', e1, kk⟩ := k (IteT X.K b) _ H1 G1 x1 g1 hq
      cases e1
      exact ⟨b, rfl, .inr ⟨ws, b1, kk (walkP_enumT b1 b3)⟩⟩
  | [], _, h => simp [chkE] at h
  | [_], _ :: _, h => simp [chkE] at h
  | _ :: _ :: _, _, h => simp [chkE] at h
theorem two_args {X : Cx} {W : WX} {x y : Ex} {e f : Expr} (c : Cok X T D M lv W) (hs : S T D M lv ow ro x) (hs2 : S T D M lv ow ro y) (h : chkE T M X.N X.env.scope ro x e = true) (hi : itx x = false) (h2 : chkE T M X.N X.env.scope ro y f = true) (hi2 : itx y = false) :
    PA X [e, f] (LfA X D W ow ro [full ro x, full ro y] (wpEs T [x, y])) := S_args (xs := [x, y]) c (fun z hz => by
      rcases List.mem_cons.mp hz with q | q
      · rw [q]; exact hs
      · rw [List.mem_singleton.mp q]; exact hs2) (by simp [chkEs, h, hi, h2, hi2])
theorem S_iter_zip {X : Cx} {W : WX} {a b : Ex} {e : Expr} {elts : List Expr} {kk : Nat} {tp : Pos} (c : Cok X T D M lv W) (hs : S T D M lv ow ro a) (hs2 : S T D M lv ow ro b) (h : chkE T M X.N X.env.scope ro (.zip a b) e = true) :
    PI X (.Tuple elts kk tp) e (LfI X D W ow ro (wpE T (.zip a b))) := by
  cases e <;> try (simp [chkE] at h; done)
  rename_i fn vs kws pos
  cases fn <;> try (simp [chkE] at h; done)
  rename_i y p
  match vs, kws, h with
  | [v, w], [], h =>
    simp only [chkE, Bool.and_eq_true, decide_eq_true_eq] at h
    obtain ⟨⟨⟨⟨⟨h1, h2⟩, h3, h4⟩, h5⟩, h6, h7⟩, h8⟩ := h
    obtain ⟨gl, db⟩ := gl_of h1
    subst h2
    have st2 := star_cons (es := []) (env := X.env) (chk_noStar h7)
    refine pi_imp (pi_zipM gl (c.tok.nm _ (by decide +kernel)) (two_args c hs hs2 h4 (itx_of h3) h7 (itx_of h6)) (star_cons (chk_noStar h4)) (back_any _ (by rw [st2]; rfl))) ?_
    rintro σ H R ⟨G, env, Qp, Ep, g, er, hw, k, kx⟩
    refine ⟨G, env, q2 fun p q => ∃ xs ys, (p = .lst xs ∧ q = .lst ys ∨ p = .tup xs ∧ q = .tup ys ∨ p = .lst xs ∧ q = .tup ys ∨ p = .tup xs ∧ q = .lst ys) ∧ Qp (.lst (zipP xs ys)), Ep, g, er, hw, ?_, kx⟩
    intro vs' ps H1 G1 x1 g1 r1 hq
    replace hq := q2_of hq
    obtain ⟨p, q, rfl, xs, ys, e1, hq⟩ := hq
    obtain ⟨v1, _, rfl, rb, v2, _, rfl, rb2, rn⟩ := r1
    have r := rb.2 h5
    have r2 := rb2.2 h8
    obtain rfl := (show _ = [] from rn)
    rcases e1 with ⟨rfl, rfl⟩ | ⟨rfl, rfl⟩ | ⟨rfl, rfl⟩ | ⟨rfl, rfl⟩
    · obtain ⟨b, ws, rfl, b1, b2, b3⟩ := r
      obtain ⟨d, us, rfl, d1, d2, d3⟩ := r2
      obtain ⟨xs', e1, kk⟩ := k (Itz X.K b d) _ H1 G1 x1 g1 hq
      cases e1
      exact ⟨b, d, ws, us, rfl, .inl ⟨SqL.of b1, SqL.of d1, kk (walkP_zipL b1 b2 b3 d1 d2 d3)⟩⟩
    · obtain ⟨b, ws, rfl, b1, b3⟩ := r
      obtain ⟨d, us, rfl, d1, d3⟩ := r2
      obtain ⟨xs', e1, kk⟩ := k (RZ.ItzT X.K b d) _ H1 G1 x1 g1 hq
      cases e1
      exact ⟨b, d, ws, us, rfl, .inr (.inl ⟨b1, d1, kk (walkP_zipT b1 b3 d1 d3)⟩)⟩
    · obtain ⟨b, ws, rfl, b1, b2, b3⟩ := r
      obtain ⟨d, us, rfl, d1, d3⟩ := r2
      obtain ⟨xs', e1, kk⟩ := k (Itm false true X.K b d) _ H1 G1 x1 g1 hq
      cases e1
      exact ⟨b, d, ws, us, rfl, .inr (.inr ⟨false, true, by decide, SqL.of b1, d1, kk (walkP_zipM (.inl ⟨b1, b2, rfl⟩) b3 (.inr ⟨d1, rfl⟩) d3)⟩)⟩
    · obtain ⟨b, ws, rfl, b1, b3⟩ := r
      obtain ⟨d, us, rfl, d1, d2, d3⟩ := r2
      obtain ⟨xs', e1, kk⟩ := k (Itm true false X.K b d) _ H1 G1 x1 g1 hq
      cases e1
      exact ⟨b, d, ws, us, rfl, .inr (.inr ⟨true, false, by decide, b1, SqL.of d1, kk (walkP_zipM (.inr ⟨b1, rfl⟩) b3 (.inl ⟨d1, d2, rfl⟩) d3)⟩)⟩
  | [], _, h => simp [chkE] at h
  | [_], _, h => simp [chkE] at h
  | [_, _], _ :: _, h => simp [chkE] at h
  | _ :: _ :: _ :: _, _, h => simp [chkE] at h
theorem star2 {e f : Expr} {env : PySem.Env} (h : noStar e = true) (h2 : noStar f = true) : starEach [e, f] env = [(false, eval e env), (false, eval f env)] := by
  rw [star_cons h, star_cons h2]; rfl
theorem star3 {e f g : Expr} {env : PySem.Env} (h : noStar e = true) (h2 : noStar f = true) (h3 : noStar g = true) : starEach [e, f, g] env = [(false, eval e env), (false, eval f env), (false, eval g env)] := by
  rw [star_cons h, star2 h2 h3]
theorem S_iter_rng {X : Cx} {W : WX} {es : List Ex} {e tg : Expr} (c : Cok X T D M lv W) (hs : Sl T D M lv ow ro es) (h : chkE T M X.N X.env.scope ro (.rng es) e = true) :
    PI X tg e (LfI X D W ow ro (wpE T (.rng es))) := by
  cases e <;> try (simp [chkE] at h; done)
  rename_i fn vs kws pos
  cases fn <;> try (simp [chkE] at h; done)
  rename_i y p
  cases kws with
  | cons _ _ => simp [chkE] at h
  | nil =>
    simp only [chkE, Bool.and_eq_true, decide_eq_true_eq] at h
    obtain ⟨⟨⟨h1, h2⟩, h3⟩, h4⟩ := h
    obtain ⟨gl, db⟩ := gl_of h1
    subst h2
    have hm := c.tok.nm "range" (by decide +kernel)
    match es, vs, h3, hs, h4 with
    | [x], [v], h3, hs, _ =>
      have pa := S_args c hs h3
      simp only [chkEs, Bool.and_eq_true] at h3
      refine pi_imp (pi_range1 gl hm pa (star_cons (chk_noStar h3.1.2))) ?_
      rintro σ H R ⟨G, env, Qp, Ep, g, er, hw, k, kx⟩
      refine ⟨G, env, q1 fun p => rngP [p] Qp, Ep, g, er, hw, ?_, kx⟩
      intro vs' ps H1 G1 x1 g1 r1 hq
      replace hq := q1_of hq
      obtain ⟨p, rfl, hq⟩ := hq
      obtain ⟨v1, _, rfl, rb, rn⟩ := r1
      obtain rfl := (show _ = [] from rn)
      cases p <;> try exact False.elim hq
      rename_i j
      obtain rfl : v1 = .int j := rb.1
      obtain ⟨⟨j1, j2⟩, hq⟩ := hq
      obtain ⟨xs', e1, kk⟩ := k (Itr 0 j.toNat) _ H1 G1 x1 g1 hq
      cases e1
      refine ⟨j, rfl, j1, j2, kk ?_⟩
      have := walkP_range (K := X.K) (fa := D.fa) (G := G1) (H := H1) (lo := 0) (n := j.toNat)
      unfold rangeP
      rw [Int.sub_zero]
      exact this
    | [x, z], [v, w], h3, hs, _ =>
      have pa := S_args c hs h3
      simp only [chkEs, Bool.and_eq_true] at h3
      refine pi_imp (pi_range2 gl hm pa (star2 (chk_noStar h3.1.2) (chk_noStar h3.2.1.2)) (star_cons (chk_noStar h3.2.1.2))) ?_
      rintro σ H R ⟨G, env, Qp, Ep, g, er, hw, k, kx⟩
      refine ⟨G, env, q2 fun p q => rngP [p, q] Qp, Ep, g, er, hw, ?_, kx⟩
      intro vs' ps H1 G1 x1 g1 r1 hq
      replace hq := q2_of hq
      obtain ⟨p, q, rfl, hq⟩ := hq
      obtain ⟨v1, _, rfl, rb, v2, _, rfl, rb2, rn⟩ := r1
      obtain rfl := (show _ = [] from rn)
      cases p <;> try exact False.elim hq
      cases q <;> try exact False.elim hq
      rename_i i j
      obtain rfl : v1 = .int i := rb.1
      obtain rfl : v2 = .int j := rb2.1
      obtain ⟨⟨⟨i1, i2⟩, j1, j2⟩, hq⟩ := hq
      obtain ⟨xs', e1, kk⟩ := k (Itr i (j - i).toNat) _ H1 G1 x1 g1 hq
      cases e1
      exact ⟨i, j, rfl, ⟨i1, i2, j1, j2⟩, kk walkP_range⟩
    | [x, z, y2], [v, w, t], h3, hs, _ =>
      have pa := S_args c hs h3
      simp only [chkEs, Bool.and_eq_true] at h3
      have st2 := star2 (env := X.env) (chk_noStar h3.2.1.2) (chk_noStar h3.2.2.1.2)
      refine pi_imp (pi_range3 gl hm pa (star_cons (chk_noStar h3.1.2)) (back_any _ (by rw [st2]; rfl))) ?_
      rintro σ H R ⟨G, env, Qp, Ep, g, er, hw, k, kx⟩
      refine ⟨G, env, q3 fun p q r => rngP [p, q, r] Qp, Ep, g, er, hw, ?_, kx⟩
      intro vs' ps H1 G1 x1 g1 r1 hq
      replace hq := q3_of hq
      obtain ⟨p, q, r, rfl, hq⟩ := hq
      obtain ⟨v1, _, rfl, rb, v2, _, rfl, rb2, v3, _, rfl, rb3, rn⟩ := r1
      obtain rfl := (show _ = [] from rn)
      cases p <;> try exact False.elim hq
      cases q <;> try exact False.elim hq
      cases r <;> try exact False.elim hq
      rename_i i j s
      obtain rfl : v1 = .int i := rb.1
      obtain rfl : v2 = .int j := rb2.1
      obtain rfl : v3 = .int s := rb3.1
      obtain ⟨n, hn, hq⟩ := hq
      obtain ⟨xs', e1, kk⟩ := k (Itc i s n) _ H1 G1 x1 g1 hq
      cases e1
      exact ⟨i, j, s, n, rfl, hn, kk walkP_rangeC⟩
    | [], _, _, _, h4 => simp at h4
    | [_, _, _], [], h3, _, _ => simp [chkEs] at h3
    | [_, _, _], [_], h3, _, _ => simp [chkEs] at h3
    | [_, _, _], [_, _], h3, _, _ => simp [chkEs] at h3
    | [_, _, _], _ :: _ :: _ :: _ :: _, h3, _, _ => simp [chkEs] at h3
    | [_], [], h3, _, _ => simp [chkEs] at h3
    | [_], _ :: _ :: _, h3, _, _ => simp [chkEs] at h3
    | [_, _], [], h3, _, _ => simp [chkEs] at h3
    | [_, _], [_], h3, _, _ => simp [chkEs] at h3
    | [_, _], _ :: _ :: _ :: _, h3, _, _ => simp [chkEs] at h3
    | _ :: _ :: _ :: _ :: _, _, _, _, h4 => first | (simp at h4; done) | (simp at h4; omega)
end
end Fw
/-! Fw: targets, comprehensions, all expressions. -/
namespace Fw
open PySem PySem.Spec PyProof.Rows L2
section
variable {T : Tab} {D : Ad} {M : Mk} {lv : Nat} {ow ro : List Nat}
/-! ### targets -/
mutual
def gTg (K : PySem.W.Frag) : Tg → TG
  | .n i => gName i
  | .t ts => gTup K ts.length (gTgs K ts)
  | .p i k => gSub (tVar i) (tC (.int (k : Int))) rSetL
def gTgs (K : PySem.W.Frag) : List Tg → TGs
  | [] => gNil
  | t :: ts => gCons (gTg K t) (gTgs K ts)
end
theorem tgs_len {N : List Str} {sc : Scope} {fl : Str → Bool} : ∀ {ts : List Tg} {es : List Expr}, tgsB N sc fl ts es = true → ts.length = es.length
  | [], [], _ => rfl
  | t :: ts, e :: es, h => by
    rw [tgsB, Bool.and_eq_true] at h
    rw [List.length_cons, List.length_cons, tgs_len h.2]
  | [], _ :: _, h => by simp [tgsB] at h
  | _ :: _, [], h => by simp [tgsB] at h
theorem asg_cons {e : Expr} {es : List Expr} {env : PySem.Env} (h : noStarT e = true) : assignEach (e :: es) env = (false, assign e env) :: assignEach es env := by
  cases e <;> first | rfl | cases h
theorem asg_len {env : PySem.Env} : ∀ {es : List Expr}, es.all noStarT = true → (assignEach es env).length = es.length ∧ (assignEach es env).findIdx? (·.1) = none
  | [], _ => ⟨rfl, rfl⟩
  | e :: es, h => by
    rw [List.all_cons, Bool.and_eq_true] at h
    obtain ⟨h1, h2⟩ := asg_len (env := env) h.2
    rw [asg_cons h.1]
    refine ⟨by rw [List.length_cons, List.length_cons, h1], ?_⟩
    rw [List.findIdx?_cons]
    simp [h2]
mutual
theorem tg_ok {X : Cx} {fl : Str → Bool} (hN : X.N.Nodup) (hc : X.calm = true) (hf : ∀ x, fl x = true → X.fn x = true) : ∀ {t : Tg} {e : Expr}, tgB X.N X.env.scope fl t e = true → PG X e (gTg X.K t)
  | .n i, e, h => by
    cases e <;> try (simp [tgB] at h; done)
    rename_i x p
    rw [tgB, Bool.and_eq_true, decide_eq_true_eq] at h
    obtain ⟨h1, h2⟩ := h
    split at h2
    · exact pg_name hN h1 (.inl (by assumption)) (.inr (by assumption))
    · exact pg_name hN h1 (.inr (by assumption)) (.inl (hf x h2))
    · cases h2
  | .t ts, e, h => by
    cases e <;> try (simp [tgB] at h; done)
    rename_i es k p
    rw [tgB, Bool.and_eq_true] at h
    obtain ⟨a1, a2⟩ := asg_len (env := X.env) h.2
    exact pg_tup hc (tgs_ok hN hc hf h.1 h.2) (by rw [a1, tgs_len h.1]) a2
  | .p i k, e, h => by
    cases e <;> try (simp [tgB] at h; done)
    rename_i l r p
    cases l <;> try (simp [tgB] at h; done)
    cases r <;> try (simp [tgB] at h; done)
    rename_i c _ _
    cases c <;> try (simp [tgB] at h; done)
    rw [tgB, Bool.and_eq_true, decide_eq_true_eq] at h
    obtain ⟨h1, rfl⟩ := h
    obtain ⟨s1, s2, s3, s4⟩ := slot_of h1
    exact pg_sub (pe_var s1 s2 s3 s4) pe_int set_list
theorem tgs_ok {X : Cx} {fl : Str → Bool} (hN : X.N.Nodup) (hc : X.calm = true) (hf : ∀ x, fl x = true → X.fn x = true) : ∀ {ts : List Tg} {es : List Expr}, tgsB X.N X.env.scope fl ts es = true → es.all noStarT = true → PGs X es (gTgs X.K ts)
  | [], [], _, _ => pgs_nil
  | t :: ts, e :: es, h, h2 => by
    rw [tgsB, Bool.and_eq_true] at h
    rw [List.all_cons, Bool.and_eq_true] at h2
    exact pgs_cons (tg_ok hN hc hf h.1) (tgs_ok hN hc hf h.2 h2.2) (by rw [asg_cons h2.1]; rfl)
  | [], _ :: _, h, _ => by simp [tgsB] at h
  | _ :: _, [], h, _ => by simp [tgsB] at h
end
theorem ER.set {K : PySem.W.Frag} {fa : Nat → Addr} {G : Gh} {H : Hp} {σ : L2.St} {env : Env} (er : ER K fa ow ro G H σ env) {i : Nat} {p : P} {v : V} (hi : ro.contains i = false) (ho : ow.contains i = false) (r : Rep K fa G H p v) (g : Good G H) :
    ER K fa ow ro G H (σ.set i (some v)) (env.set i (some p)) := by
  refine ⟨by rw [List.length_set, List.length_set, er.len], fun j q e => ?_, fun j oj q e => ?_, fun j xs a m rj oj e s => ?_⟩
  · by_cases hj : i = j
    · subst hj
      by_cases hl : i < env.length
      · rw [List.getElem?_set_self hl] at e
        cases e
        rw [List.getElem?_set_self (by rw [← er.len]; exact hl)]
        exact ⟨v, rfl, r.b g⟩
      · rw [List.getElem?_eq_none (by simpa using hl)] at e; cases e
    · rw [List.getElem?_set_ne hj] at e ⊢
      exact er.val j q e
  · have hj : i ≠ j := fun z => by rw [z, oj] at ho; cases ho
    rw [List.getElem?_set_ne hj] at e ⊢
    exact er.own j oj q e
  · have hj : i ≠ j := fun z => by rw [z, rj] at hi; cases hi
    rw [List.getElem?_set_ne hj] at e s
    exact er.bor j xs a m rj oj e s
theorem wipe_set : ∀ {vs : List Nat} {i : Nat} {σ : L2.St} {x : Option V}, i ∈ vs → wipe (σ.set i x) vs = wipe σ vs
  | v :: vs, i, σ, x, h => by
    unfold wipe
    by_cases hv : i ∈ vs
    · rw [wipe_set hv]
    · have e : i = v := by
        rcases List.mem_cons.mp h with q | q
        · exact q
        · exact absurd q hv
      subst e
      have w : ∀ {us : List Nat}, i ∉ us → wipe (σ.set i x) us = (wipe σ us).set i x := by
        intro us hu
        induction us with
        | nil => rfl
        | cons u us ih =>
          have h1 : i ≠ u := fun z => hu (z ▸ List.mem_cons_self)
          have h2 : i ∉ us := fun z => hu (List.mem_cons_of_mem _ z)
          unfold wipe
          rw [ih h2, List.set_comm _ _ h1]
      rw [w hv, List.set_set]
/-! the slots that a target names are none of the read-only ones -/
mutual
def tgFree (ro : List Nat) : Tg → Bool
  | .n i => !ro.contains i
  | .t ts => tgsFree ro ts
  | .p _ _ => true
def tgsFree (ro : List Nat) : List Tg → Bool
  | [] => true
  | t :: ts => tgFree ro t && tgsFree ro ts
end
theorem pool_set {G : Gh} {H : Hp} (g : Good G H) {a : Addr} (ha : G.pool a) {x y z : Int} (h0 : PoolIn 0 x) (h1 : PoolIn 1 y) (h2 : PoolIn 2 z) :
    Xt G H G (upd H a (.lst [.int x, .int y, .int z])) ∧ Good G (upd H a (.lst [.int x, .int y, .int z])) := by
  refine ⟨⟨fun b o e n => ?_, fun b e => ?_, fun _ h => h, fun _ h => h, fun _ _ n => n, fun _ _ n => n, rfl⟩, ⟨fun b i => ?_, g.immP, fun b i => ?_, fun i b e => ?_, g.inj⟩⟩
  · have : b ≠ a := fun z => n (z ▸ ha)
    rw [upd_ne this]; exact e
  · by_cases z : b = a
    · subst z; rw [upd_same]; exact Option.some_ne_none _
    · rw [upd_ne z]; exact e
  · have : b ≠ a := fun z => g.immP b i (z ▸ ha)
    rw [upd_ne this]; exact g.immH b i
  · by_cases q : b = a
    · subst q; exact ⟨_, upd_same, x, y, z, rfl, h0, h1, h2⟩
    · rw [upd_ne q]; exact g.pool b i
  · obtain ⟨n1, n2, vs, e2⟩ := g.own i b e
    have : b ≠ a := fun z => n2 (z ▸ ha)
    exact ⟨n1, n2, vs, by rw [upd_ne this]; exact e2⟩
mutual
theorem bind_ok {K : PySem.W.Frag} {fa : Nat → Addr} {G : Gh} (hsub : ∀ i, ow.contains i = true → ro.contains i = true) : ∀ {t : Tg} {p : P} {v : V} {H : Hp} {σ : L2.St} {env : Env} {k : Env → Prop} {Q : L2.St → Hp → Prop}, Good G H → tgFree ro t = true → ER K fa ow ro G H σ env → Rep K fa G H p v →
    bindT t p env k → (∀ σ' env' H', Xt G H G H' → Good G H' → ER K fa ow ro G H' σ' env' → k env' → (∀ vs, tgSub vs t = true → wipe σ' vs = wipe σ vs) → Q σ' H') → gTg K t v σ H Q
  | .n i, p, v, H, σ, env, k, Q, g, hf, er, r, hb, hk => by
    have hi : ro.contains i = false := by cases q : ro.contains i <;> simp_all [tgFree]
    have ho : ow.contains i = false := by
      cases q : ow.contains i with
      | false => rfl
      | true => rw [hsub i q] at hi; cases hi
    refine hk _ _ _ Xt.refl g (er.set hi ho r g) hb fun vs hv => ?_
    exact wipe_set (by simpa [tgSub] using hv)
  | .t ts, p, v, H, σ, env, k, Q, g, hf, er, r, ⟨xs, e, hl, hb⟩, hk => by
    subst e
    obtain ⟨a, vs, rfl, ha, rs⟩ := r
    exact ⟨a, vs, rfl, ha, by rw [rs.length, hl], binds_ok hsub g hf er rs hb hk⟩
  | .p i j, p, v, H, σ, env, k, Q, g, hf, er, r, ⟨x, e, e1, hj, hx, hb⟩, hk => by
    subst e
    obtain rfl : v = .int x := r
    obtain ⟨w, e2, rw'⟩ := er.val i _ e1
    obtain ⟨a, rfl, ha⟩ : ∃ a, w = .ref a ∧ G.pool a := rw'.1
    obtain ⟨o, e3, x0, x1, x2, e4, q0, q1, q2⟩ := g.pool a ha
    subst e4
    have fin : ∀ {y0 y1 y2 : Int}, PoolIn 0 y0 → PoolIn 1 y1 → PoolIn 2 y2 → Q σ (upd H a (.lst [.int y0, .int y1, .int y2])) := fun p0 p1 p2 => by
      obtain ⟨xx, gg⟩ := pool_set g ha p0 p1 p2
      exact hk σ env _ xx gg (er.xt xx g) hb fun _ _ => rfl
    have h3 : j = 0 ∨ j = 1 ∨ j = 2 := by omega
    rcases h3 with rfl | rfl | rfl
    · exact ⟨_, e2, a, _, 0, 0, rfl, rfl, e3, rfl, fin hx q1 q2⟩
    · exact ⟨_, e2, a, _, 1, 1, rfl, rfl, e3, rfl, fin q0 hx q2⟩
    · exact ⟨_, e2, a, _, 2, 2, rfl, rfl, e3, rfl, fin q0 q1 hx⟩
theorem binds_ok {K : PySem.W.Frag} {fa : Nat → Addr} {G : Gh} (hsub : ∀ i, ow.contains i = true → ro.contains i = true) : ∀ {ts : List Tg} {ps : List P} {vs : List V} {H : Hp} {σ : L2.St} {env : Env} {k : Env → Prop} {Q : L2.St → Hp → Prop}, Good G H → tgsFree ro ts = true → ER K fa ow ro G H σ env → Reps K fa G H ps vs →
    bindTs ts ps env k → (∀ σ' env' H', Xt G H G H' → Good G H' → ER K fa ow ro G H' σ' env' → k env' → (∀ us, tgsSub us ts = true → wipe σ' us = wipe σ us) → Q σ' H') → gTgs K ts vs σ H Q
  | [], ps, vs, H, σ, env, k, Q, g, hf, er, rs, ⟨e, hb⟩, hk => by
    subst e
    exact ⟨rs, hk _ _ _ Xt.refl g er hb fun _ _ => rfl⟩
  | t :: ts, ps, vs, H, σ, env, k, Q, g, hf, er, rs, ⟨x, r, e, hb⟩, hk => by
    subst e
    obtain ⟨v, us, e2, rv, rs'⟩ := rs
    rw [tgsFree, Bool.and_eq_true] at hf
    refine ⟨v, us, e2, bind_ok hsub g hf.1 er rv hb fun σ1 env1 H1 x1 g1 er1 hb1 w1 => ?_⟩
    exact binds_ok hsub g1 hf.2 er1 ((x1.mo g).reps rs') hb1 fun σ2 env2 H2 x2 g2 er2 hk2 w2 => hk σ2 env2 H2 (x1.trans x2) g2 er2 hk2 fun us hu => by
      rw [tgsSub, Bool.and_eq_true] at hu
      rw [w2 us hu.2, w1 us hu.1]
end
mutual
theorem tgFree_of {own : List Nat} (ho : own.all (fun i => !ro.contains i) = true) : ∀ {t : Tg}, tgSub own t = true → tgFree ro t = true
  | .n i, h => List.all_eq_true.mp ho i (by simpa [tgSub] using h)
  | .t ts, h => tgsFree_of ho (by simpa [tgSub] using h)
  | .p _ _, _ => rfl
theorem tgsFree_of {own : List Nat} (ho : own.all (fun i => !ro.contains i) = true) : ∀ {ts : List Tg}, tgsSub own ts = true → tgsFree ro ts = true
  | [], _ => rfl
  | t :: ts, h => by
    rw [tgsSub, Bool.and_eq_true] at h
    rw [tgsFree, Bool.and_eq_true]
    exact ⟨tgFree_of ho h.1, tgsFree_of ho h.2⟩
end
theorem ER.wipe {K : PySem.W.Frag} {fa : Nat → Addr} {G : Gh} {H : Hp} {σ : L2.St} {env : Env} (er : ER K fa ow ro G H σ env) (hsub : ∀ i, ow.contains i = true → ro.contains i = true) :
    ∀ {own : List Nat}, own.all (fun i => !ro.contains i) = true → ER K fa ow ro G H (wipe σ own) (wipeE env own)
  | [], _ => er
  | i :: own, h => by
    rw [List.all_cons, Bool.and_eq_true] at h
    have e0 := ER.wipe er hsub h.2
    have hi : ro.contains i = false := by cases q : ro.contains i <;> simp_all
    have ho : ow.contains i = false := by
      cases q : ow.contains i with
      | false => rfl
      | true => rw [hsub i q] at hi; cases hi
    unfold L2.wipe wipeE
    refine ⟨by rw [List.length_set, List.length_set, e0.len], fun j q e => ?_, fun j oj q e => ?_, fun j xs a m rj oj e s => ?_⟩
    · by_cases hj : i = j
      · subst hj
        by_cases hl : i < (wipeE env own).length
        · rw [List.getElem?_set_self hl] at e; cases e
        · rw [List.getElem?_eq_none (by simpa using hl)] at e; cases e
      · rw [List.getElem?_set_ne hj] at e ⊢
        exact e0.val j q e
    · have hj : i ≠ j := fun z => by rw [z, oj] at ho; cases ho
      rw [List.getElem?_set_ne hj] at e ⊢
      exact e0.own j oj q e
    · have hj : i ≠ j := fun z => by rw [z, rj] at hi; cases hi
      rw [List.getElem?_set_ne hj] at e s
      exact e0.bor j xs a m rj oj e s
/-- the new list of a comprehension, at d: not seen by what stood -/
theorem app_new {G1 G : Gh} {H1 H : Hp} {d : Addr} {vs ws : List V} (x : Xt G1 H1 G H) (hd : H1 d = none) (g : Good G H) (h : H d = some (.lst vs)) (n1 : ¬ G.imm d) (n2 : ¬ G.pool d) (n3 : ∀ j, G.own j ≠ some d) :
    Xt G1 H1 G (upd H d (.lst ws)) ∧ Good G (upd H d (.lst ws)) ∧ Mo G H G (upd H d (.lst ws)) := by
  have ne : ∀ a, H1 a ≠ none → a ≠ d := fun a h z => h (z ▸ hd)
  refine ⟨⟨fun a o e n => ?_, fun a e => ?_, x.imm, x.pool, x.nimm, x.npool, x.own⟩, ⟨fun a i => ?_, g.immP, fun a i => ?_, fun i a e => ?_, g.inj⟩, ⟨fun a us e => ?_, fun a o u e => ?_, fun a o i e => ?_, fun _ h => h, fun _ h => h⟩⟩
  · rw [upd_ne (ne a (by rw [e]; exact Option.some_ne_none _))]; exact x.std a o e n
  · rw [upd_ne (ne a e)]; exact x.there a e
  · have : a ≠ d := fun z => n1 (z ▸ i)
    rw [upd_ne this]; exact g.immH a i
  · have : a ≠ d := fun z => n2 (z ▸ i)
    rw [upd_ne this]; exact g.pool a i
  · have : a ≠ d := fun z => n3 i (z ▸ e)
    obtain ⟨h1, h2, us, h3⟩ := g.own i a e
    exact ⟨h1, h2, us, by rw [upd_ne this]; exact h3⟩
  · have : a ≠ d := fun z => by rw [z, h] at e; cases e
    rw [upd_ne this]; exact e
  · have : a ≠ d := fun z => by rw [z, h] at e; cases e
    rw [upd_ne this]; exact e
  · have : a ≠ d := fun z => n1 (z ▸ i)
    rw [upd_ne this]; exact e
theorem Cok.blk {X : Cx} {W : WX} (c : Cok X T D M lv W) (s : Shared) (H : Hp) (scope : Scope) (cl : List (Str × Addr)) (C : Addr) (fp : List Addr) : Cok (X.blk s H scope (compEnvC scope cl C X.env) fp) T D M lv (fun _ _ _ _ => False) :=
  ⟨c.tok, c.nd, c.room, c.calm, takes0⟩
variable {ifs : List Ex}
/-- the tests of a clause -/
def tIfs (X : Cx) (D : Ad) (ow ro : List Nat) (T : Tab) : List Ex → TT
  | [] => tYes
  | x :: _ => LfT X D (fun _ _ _ _ => False) ow ro (wpE T x)
theorem wipe_wipe : ∀ {vs : List Nat} {σ : L2.St}, wipe (wipe σ vs) vs = wipe σ vs
  | [], _ => rfl
  | v :: vs, σ => by
    show (wipe ((wipe σ vs).set v none) vs).set v none = (wipe σ vs).set v none
    have w : ∀ {us : List Nat} {τ : L2.St}, (wipe (τ.set v none) us).set v none = (wipe τ us).set v none := by
      intro us
      induction us with
      | nil => intro τ; show (τ.set v none).set v none = τ.set v none; rw [List.set_set]
      | cons u us ih =>
        intro τ
        show ((wipe (τ.set v none) us).set u none).set v none = ((wipe τ us).set u none).set v none
        by_cases e : u = v
        · subst e
          rw [List.set_set, List.set_set, ih]
        · rw [List.set_comm _ _ e, ih, List.set_comm _ _ (Ne.symm e)]
    rw [w, wipe_wipe]
/-- what is walked is sound -/
def SI (T : Tab) (D : Ad) (M : Mk) (lv : Nat) (ow ro : List Nat) (x : Ex) : Prop := ∀ (X : Cx) (W : WX) (e tg : Expr), Cok X T D M lv W → chkE T M X.N X.env.scope ro x e = true → full ro x = true →
  (needT x = true → ∃ es k p, tg = .Tuple es k p) → PI X tg e (LfI X D W ow ro (wpE T x))
theorem isTT_tup {N : List Str} {sc : Scope} {fl : Str → Bool} {t : Tg} {e : Expr} (h : tgB N sc fl t e = true) (ht : isTT t = true) : ∃ es k p, e = .Tuple es k p := by
  cases t with
  | n i => cases ht
  | t ts =>
    cases e <;> try (simp [tgB] at h; done)
    exact ⟨_, _, _, rfl⟩
  | p i k => cases ht
theorem fold_plain {X : Cx} {x : Ex} {e : Expr} (h : chkE T M X.N X.env.scope ro x e = true) (env : PySem.Env) : ∀ v, foldedSetIterable e env v = pure v := by
  intro v
  cases e <;> first | rfl | (cases x <;> simp [chkE] at h)
theorem ifs_ok {X : Cx} (hs : Sl T D M lv ow ro ifs) {W : WX} (c : Cok X T D M lv W) {es : List Expr} (h : chkEs T M X.N X.env.scope ro ifs es = true) (h1 : ifs.length ≤ 1) (ht : ifs.all tst = true) (hW : W = fun _ _ _ _ => False) : PTs X es (tIfs X D ow ro T ifs) := by
  match ifs, es, h, h1, ht, hs with
  | [], [], _, _, _, _ => exact pts_nil
  | [x], [e], h, _, ht, hs =>
    simp only [chkEs, Bool.and_eq_true] at h
    subst hW
    exact pts_one ((hs x List.mem_cons_self X _ e c h.1.2 (itx_of h.1.1)).2 (by simpa using ht))
  | [], _ :: _, h, _, _, _ => simp [chkEs] at h
  | _ :: _, [], h, _, _, _ => simp [chkEs] at h
  | [_], _ :: _ :: _, h, _, _, _ => simp [chkEs] at h
  | _ :: _ :: _, _, _, h1, _, _ => simp at h1
/-- the tests of a clause, then either way -/
theorem ifs_read {X : Cx} {G : Gh} {H : Hp} {σ : L2.St} {env : Env} (g : Good G H) (er : ER X.K D.fa ow ro G H σ env) (h1 : ifs.length ≤ 1) {R : Bool → Prop} (hw : wpIfs T ifs env R NoX) {Q : Bool → Hp → Prop}
    (k : ∀ b G' H', Xt G H G' H' → Good G' H' → R b → Q b H') : tIfs X D ow ro T ifs σ H Q := by
  match ifs, h1, hw with
  | [], _, hw => exact k true G H Xt.refl g hw
  | [x], _, hw =>
    refine ⟨G, env, _, NoX, g, er, hw, ?_, fun c ps cls d H' G' _ _ _ z => z.elim⟩
    rintro p H' G' x' g' ⟨b, e, q⟩
    exact ⟨b, e, k b G' H' x' g' q⟩
  | _ :: _ :: _, h1, _ => simp at h1
/-- a comprehension's reading -/
theorem lc_readF {X : Cx} {W : WX} {elt it : Ex} {tg : Tg} {ifs : List Ex} {own : List Nat} (hsub : ∀ i, ow.contains i = true → ro.contains i = true) (h4 : tgSub own tg = true) (h10 : full ro elt = true) (h12 : ifs.length ≤ 1)
    (h14 : own.all (fun i => !ro.contains i) = true) : ∀ (σ : L2.St) (H : Hp) (Q : VK), LfF X D W ow ro (wpE T (.lc elt tg it ifs own)) σ H Q →
      tLc (LfI X D W ow ro (wpE T it)) (gTg X.K tg) (tIfs X D ow ro T ifs) (Lf X D (fun _ _ _ _ => False) ow ro (full ro elt) (wpE T elt)) own σ H Q := by
  rintro σ H Q ⟨G, env, Qp, Ep, g, er, hw, k, kx⟩
  refine ⟨G, env, _, Ep, g, er, hw, ?_, kx⟩
  rintro J p H1 G1 x1 g1 ⟨xs, ex, hz, hgo⟩
  refine ⟨xs, ex, fun wk d hd => ?_⟩
  have er1 := (er.xt x1 g).wipe hsub h14
  refine ⟨fun i m H2 => m = xs.length - i ∧ i ≤ xs.length ∧ ∃ G2 acc vs, Xt G1 H1 G2 H2 ∧ Good G2 H2 ∧ H2 d = some (.lst vs) ∧ ¬ G2.imm d ∧ ¬ G2.pool d ∧ (∀ j, G2.own j ≠ some d) ∧ Reps X.K D.fa G2 H2 acc vs ∧ acc.length ≤ i ∧
    lcGo (fun x acc k => bindT tg x (wipeE env own) fun env' => wpIfs T ifs env' (fun b => if b = true then wpE T elt env' (fun y => k (acc ++ [y])) NoX else k acc) NoX) (xs.drop i) acc (fun ys => Qp (.lst ys)), ?_, ?_⟩
  · refine ⟨xs.length, by simp, Nat.zero_le _, G1, [], [], Xt.new0 hd _, g1.new0 hd _, upd_same, fresh_imm g1 hd, fresh_pool g1 hd, fresh_own g1 hd, rfl, Nat.zero_le _, ?_⟩
    rw [List.drop_zero]
    exact hgo
  · rintro i m H2 ⟨rfl, hi2, G2, acc, vs, x2, g2, hd2, n1, n2, n3, rs, la, go⟩
    have mo2 := x2.mo g1
    by_cases hlt : i < xs.length
    · refine .inr ⟨wk.goes i G2 H2 mo2 hlt, _, fun H' q => ⟨xs.length - (i + 1), by omega, q⟩, fun v H3 y => ?_⟩
      obtain ⟨p3, hp3, x3, g3, r3⟩ := wk.yields i G2 H2 v H3 hlt mo2 g2 y
      have hdr : xs.drop i = p3 :: xs.drop (i + 1) := by
        have e1 : xs[i] = p3 := by
          rw [List.getElem?_eq_getElem hlt] at hp3
          exact Option.some.inj hp3
        rw [← e1]
        exact List.drop_eq_getElem_cons hlt
      rw [hdr] at go
      have go' : bindT tg p3 (wipeE env own) (fun env' => wpIfs T ifs env' (fun b => if b = true then wpE T elt env' (fun y => lcGo _ (xs.drop (i + 1)) (acc ++ [y]) (fun ys => Qp (.lst ys))) NoX else lcGo _ (xs.drop (i + 1)) acc (fun ys => Qp (.lst ys))) NoX) := go
      refine bind_ok hsub g3 (tgFree_of h14 h4) ((er1.xt x2 g1).xt x3 g2) r3 go' fun σ4 env4 H4 x4 g4 er4 q4 w4 => ⟨?_, ?_⟩
      · rw [w4 own h4]
        exact wipe_wipe
      refine ifs_read g4 er4 h12 q4 fun b G5 H5 x45 g5 q5 => ?_
      have x5 := x4.trans x45
      have hd3 : H3 d = some (.lst vs) := x3.std d _ hd2 n2
      have hd5 : H5 d = some (.lst vs) := x5.std d _ hd3 n2
      have hn3 : H3 d ≠ none := by rw [hd3]; exact Option.some_ne_none _
      cases b with
      | false =>
        rw [if_neg (by decide)] at q5 ⊢
        exact ⟨rfl, by omega, G5, acc, vs, x2.trans (x3.trans x5), g5, hd5, x5.nimm d hn3 n1, x5.npool d hn3 n2, fun j => by rw [x5.own]; exact n3 j, (x5.mo g3).reps ((x3.mo g2).reps rs), by omega, q5⟩
      | true =>
        rw [if_pos rfl] at q5 ⊢
        refine ⟨G5, env4, _, NoX, g5, er4.xt x45 g4, q5, ?_, fun c ps cls d H' G' _ _ _ z => z.elim⟩
        intro v6 p6 H6 G6 x6 g6 r6 q6
        have hn5 : H5 d ≠ none := by rw [hd5]; exact Option.some_ne_none _
        have np5 := x5.npool d hn3 n2
        have hd6 : H6 d = some (.lst vs) := x6.std d _ hd5 np5
        have ni6 := x6.nimm d hn5 (x5.nimm d hn3 n1)
        have np6 := x6.npool d hn5 np5
        have no6 : ∀ j, G6.own j ≠ some d := fun j => by rw [x6.own, x5.own]; exact n3 j
        have rs6 := (x6.mo g5).reps ((x5.mo g3).reps ((x3.mo g2).reps rs))
        have x16 := x2.trans (x3.trans (x5.trans x6))
        obtain ⟨a1, a2, a3⟩ := app_new (ws := vs ++ [v6]) x16 hd g6 hd6 ni6 np6 no6
        refine ⟨vs, hd6, by rw [rs.length]; omega, ?_⟩
        refine ⟨rfl, by omega, G6, acc ++ [p6], vs ++ [v6], a1, a2, upd_same, ni6, np6, no6, ?_, by rw [List.length_append, List.length_singleton]; omega, q6⟩
        exact (a3.reps rs6).append ⟨v6, [], rfl, a3.rep (r6.2 h10), rfl⟩
    · have e : i = xs.length := by omega
      subst e
      refine .inl ⟨wk.stops G2 H2 mo2, ?_⟩
      rw [List.drop_length] at go
      have go' : Qp (.lst acc) := go
      have hdn : H d = none := by
        cases e : H d with
        | none => rfl
        | some o => exact absurd hd (x1.there d (by rw [e]; exact Option.some_ne_none _))
      exact k d (.lst acc) H2 G2 (x1.trans x2) g2 ⟨hdn, ⟨_, hd2, vs, rfl, rs⟩, n1, n2, n3⟩ go'
theorem lc_read {X : Cx} {W : WX} {elt it : Ex} {tg : Tg} {ifs : List Ex} {own : List Nat} (hsub : ∀ i, ow.contains i = true → ro.contains i = true) (h4 : tgSub own tg = true) (h10 : full ro elt = true) (h12 : ifs.length ≤ 1)
    (h14 : own.all (fun i => !ro.contains i) = true) : ∀ (σ : L2.St) (H : Hp) (Q : VK), Lf X D W ow ro true (wpE T (.lc elt tg it ifs own)) σ H Q →
      tLc (LfI X D W ow ro (wpE T it)) (gTg X.K tg) (tIfs X D ow ro T ifs) (Lf X D (fun _ _ _ _ => False) ow ro (full ro elt) (wpE T elt)) own σ H Q :=
  fun σ H Q h => lc_readF hsub h4 h10 h12 h14 σ H Q (lff_of h)
theorem S_lc {elt it : Ex} {tg : Tg} {ifs : List Ex} {own : List Nat} (hsub : ∀ i, ow.contains i = true → ro.contains i = true) (hi : SI T D M lv ow ro it) (he : S T D M lv ow ro elt) (hs : Sl T D M lv ow ro ifs) :
    S T D M lv ow ro (.lc elt tg it ifs own) := S_of rfl fun X W e c h _ => by
  cases e <;> try (simp [chkE] at h; done)
  rename_i e' gens scope pos
  match gens, h with
  | [⟨tg', it', ifs', as⟩], h =>
    simp only [chkE, Bool.and_eq_true, decide_eq_true_eq] at h
    obtain ⟨⟨⟨⟨⟨⟨⟨⟨⟨⟨⟨⟨⟨h0, h1⟩, h2⟩, h3⟩, h4⟩, h5⟩, h6⟩, h7⟩, h8, h9⟩, h10⟩, h11⟩, h12⟩, h13⟩, h14⟩ := h
    subst h0
    have hnt : needT it = true → ∃ es k p, tg' = .Tuple es k p := fun z => by
      rw [z] at h5
      exact isTT_tup h3 (by simpa using h5)
    have hb := blkOk_by h6
    have cb := c.blk
    have hpe : PE X (.ListComp e' [⟨tg', it', ifs', 0⟩] scope pos) (tLc (LfI X D W ow ro (wpE T it)) (gTg X.K tg) (tIfs X D ow ro T ifs) (Lf X D (fun _ _ _ _ => False) ow ro (full ro elt) (wpE T elt)) ((ownOf X.N own).map (·.2))) :=
      pe_lc c.calm c.nd (hi X W it' tg' c h1 h2 hnt) hb
        (fun s H C cl fp => tg_ok (X := X.blk s H scope (compEnvC scope cl C X.env) fp) (fl := fun x => scope.names.lookup x == some .cell) c.nd c.calm (fun x hx => hx) h3)
        (fun s H C cl fp => ifs_ok (X := X.blk s H scope (compEnvC scope cl C X.env) fp) hs (c.blk s H scope cl C fp) h11 h12 h13 rfl)
        (fun s H C cl fp => (he (X.blk s H scope (compEnvC scope cl C X.env) fp) _ e' (c.blk s H scope cl C fp) h9 (itx_of h8)).1)
        (fold_plain h1 X.env)
    rw [h7] at hpe
    refine pe_imp hpe ?_
    exact lc_read hsub h4 h10 h12 h14
  | [], h => simp [chkE] at h
  | _ :: _ :: _, h => simp [chkE] at h
end
end Fw
/-! Fw: all expressions are sound. -/
namespace Fw
open PySem PySem.Spec PyProof.Rows L2
section
variable {T : Tab} {D : Ad} {M : Mk} {lv : Nat} {ow ro : List Nat}
theorem SI_of {x : Ex} (h : S T D M lv ow ro x) (hi : itx x = false) : SI T D M lv ow ro x := fun X W e tg c hc hf _ => S_iter_plain c h hc hi hf
theorem S_none {x : Ex} (h : ∀ (N : List Str) (sc : Scope) (e : Expr), chkE T M N sc ro x e = false) : S T D M lv ow ro x := fun X W e c hc _ => by
  rw [h] at hc; cases hc
theorem S_itx {x : Ex} (h : itx x = true) : S T D M lv ow ro x := fun X W e c _ hi => by rw [h] at hi; cases hi
variable (hsub : ∀ i, ow.contains i = true → ro.contains i = true)
include hsub
mutual
theorem all_E : (x : Ex) → S T D M lv ow ro x ∧ SI T D M lv ow ro x
  | .var i => ⟨S_var i, SI_of (S_var i) rfl⟩
  | .rd i => have h : S T D M lv ow ro (.rd i) := S_none fun N sc e => by cases e <;> simp [chkE]
    ⟨h, SI_of h rfl⟩
  | .cst n => ⟨S_cst n, SI_of (S_cst n) rfl⟩
  | .fnv n => ⟨S_fnv n, SI_of (S_fnv n) rfl⟩
  | .non => ⟨S_non, SI_of S_non rfl⟩
  | .bl b => ⟨S_bl b, SI_of (S_bl b) rfl⟩
  | .int n => ⟨S_int n, SI_of (S_int n) rfl⟩
  | .str x => ⟨S_str x, SI_of (S_str x) rfl⟩
  | .bin op a b => have h := S_bin (op := op) (all_E a).1 (all_E b).1
    ⟨h, SI_of h rfl⟩
  | .neg a => have h := S_neg (all_E a).1
    ⟨h, SI_of h rfl⟩
  | .cmp op a b => have h := S_cmp (op := op) (all_E a).1 (all_E b).1
    ⟨h, SI_of h rfl⟩
  | .chain op o2 a b c => have h := S_chain (op := op) (o2 := o2) (all_E a).1 (all_E b).1 (all_E c).1
    ⟨h, SI_of h rfl⟩
  | .and es => have h := S_and (all_Es es)
    ⟨h, SI_of h rfl⟩
  | .or es => have h := S_or (all_Es es)
    ⟨h, SI_of h rfl⟩
  | .not a => have h := S_not (all_E a).1
    ⟨h, SI_of h rfl⟩
  | .ite t a b => have h := S_ite (all_E t).1 (all_E a).1 (all_E b).1
    ⟨h, SI_of h rfl⟩
  | .tup es => have h := S_tup (all_Es es)
    ⟨h, SI_of h rfl⟩
  | .lst es => have h := S_lst (all_Es es)
    ⟨h, SI_of h rfl⟩
  | .ix a b => have h := S_ix (all_E a).1 (all_E b).1
    ⟨h, SI_of h rfl⟩
  | .sl a lo hi => have h := S_sl (all_E a).1 (all_E lo).1 (all_E hi).1
    ⟨h, SI_of h rfl⟩
  | .no => ⟨S_no, SI_of S_no rfl⟩
  | .blt f es => have h := S_blt (f := f) (all_Es es)
    ⟨h, SI_of h rfl⟩
  | .call f es => have h := S_call (n := f) (all_Es es)
    ⟨h, SI_of h rfl⟩
  | .callK f es kes perm => have h := S_callK (n := f) (perm := perm) (all_Es es) (all_Es kes)
    ⟨h, SI_of h rfl⟩
  | .callV i es => have h := S_callV (i := i) (all_Es es)
    ⟨h, SI_of h rfl⟩
  | .isi a ts => have h := S_isi (ts := ts) (all_E a).1
    ⟨h, SI_of h rfl⟩
  | .lc elt tg it ifs own => have h := S_lc (tg := tg) (own := own) hsub (all_E it).2 (all_E elt).1 (all_Es ifs)
    ⟨h, SI_of h rfl⟩
  | .enum a => ⟨S_itx rfl, fun X W e tg c hc hf ht => by
      obtain ⟨es, k, p, rfl⟩ := ht rfl
      exact S_iter_enum c (all_E a).1 hc⟩
  | .zip a b => ⟨S_itx rfl, fun X W e tg c hc hf ht => by
      obtain ⟨es, k, p, rfl⟩ := ht rfl
      exact S_iter_zip c (all_E a).1 (all_E b).1 hc⟩
  | .rng es => ⟨S_itx rfl, fun X W e tg c hc hf _ => S_iter_rng c (all_Es es) hc⟩
  | .dct0 => ⟨S_dct0, SI_of S_dct0 rfl⟩
  | .callD n es d => have h := S_callD (n := n) (d := d) (all_Es es)
    ⟨h, SI_of h rfl⟩
  | .sset a => have h := S_sset (all_E a).1
    ⟨h, SI_of h rfl⟩
  | .rev a => have h := S_rev (all_E a).1
    ⟨h, SI_of h rfl⟩
  | .lsta a es => have h := S_lsta (all_E a).1 (all_Es es)
    ⟨h, SI_of h rfl⟩
  | .tupa a es => have h := S_tupa (all_E a).1 (all_Es es)
    ⟨h, SI_of h rfl⟩
  | .dct1 k e => have h := S_dct1 (k := k) (all_E e).1
    ⟨h, SI_of h rfl⟩
theorem all_Es : (xs : List Ex) → Sl T D M lv ow ro xs
  | [] => fun _ h => by cases h
  | x :: xs => fun y h => by
    rcases List.mem_cons.mp h with e | e
    · rw [e]; exact (all_E x).1
    · exact all_Es xs y e
end
end
end Fw
/-! Fw: statements: readings, what is kept of the frame's own lists, the checker. -/
namespace Fw
open PySem PySem.Spec PyProof.Rows L2

/-! ### own lists are given up -/
def Gh.keep (G : Gh) (ow : List Nat) : Gh := { imm := fun a => G.imm a ∨ ∃ i, ow.contains i = false ∧ G.own i = some a, pool := G.pool, own := fun i => if ow.contains i = true then G.own i else none }
section
variable {K : PySem.W.Frag} {fa : Nat → Addr} {G G' : Gh} {H H' : Hp} {ow ow' bo : List Nat} {σ : L2.St} {env : Env}
theorem keep_own {i : Nat} {a : Addr} (h : (G.keep ow).own i = some a) : ow.contains i = true ∧ G.own i = some a := by
  have h : (if ow.contains i = true then G.own i else none) = some a := h
  split at h
  · exact ⟨by assumption, h⟩
  · cases h
theorem Good.keep (g : Good G H) (ow : List Nat) : Good (G.keep ow) H := by
  refine ⟨fun a h => ?_, fun a h => ?_, g.pool, fun i a h => ?_, fun i j a h1 h2 => g.inj i j a (keep_own h1).2 (keep_own h2).2⟩
  · rcases h with h | ⟨i, _, h⟩
    · exact g.immH a h
    · obtain ⟨_, _, vs, e, _⟩ := g.own i a h
      rw [e]; exact Option.some_ne_none _
  · rcases h with h | ⟨i, _, h⟩
    · exact g.immP a h
    · exact (g.own i a h).2.1
  · obtain ⟨c, h⟩ := keep_own h
    obtain ⟨h1, h2, h3⟩ := g.own i a h
    refine ⟨fun z => ?_, h2, h3⟩
    rcases z with z | ⟨j, cj, z⟩
    · exact h1 z
    · rw [g.inj i j a h z, cj] at c
      cases c
theorem Xs.keep (ow : List Nat) : Xs G H (G.keep ow) H := by
  refine ⟨fun _ _ h _ _ => h, fun _ h => h, fun _ h => .inl h, fun _ h => h, fun a h n o z => ?_, fun _ _ n => n, fun i a h => .inl ⟨i, (keep_own h).2⟩⟩
  rcases z with z | ⟨i, _, z⟩
  · exact n z
  · exact o i z
theorem Mo.keep (ow : List Nat) : Mo G H (G.keep ow) H := ⟨fun _ _ h => h, fun _ _ _ h => h, fun _ _ _ h => h, fun _ h => .inl h, fun _ h => h⟩
theorem cont_app {ow bo : List Nat} {i : Nat} : (ow ++ bo).contains i = (ow.contains i || bo.contains i) := by
  rw [Bool.eq_iff_iff, Bool.or_eq_true, List.contains_iff_mem, List.contains_iff_mem, List.contains_iff_mem, List.mem_append]
theorem RepR.keep (g : Good G H) {p : P} {v : V} (h : RepR K fa G H p v) : RepR K fa (G.keep ow) H p v := by
  exact h.mv (Mo.keep ow) fun a o q n _ _ => ⟨q, n⟩
theorem ER.keep (g : Good G H) (h : ER K fa ow (ow ++ bo) G H σ env) (hs : ∀ i, ow'.contains i = true → ow.contains i = true) : ER K fa ow' (ow' ++ bo) (G.keep ow') H σ env := by
  refine ⟨h.len, fun i p e => ?_, fun i o p e => ?_, fun i xs a m r o e s j z => ?_⟩
  · obtain ⟨v, e2, r1, r2⟩ := h.val i p e
    refine ⟨v, e2, r1.keep g, fun hb => ?_⟩
    rw [cont_app, Bool.not_eq_true', Bool.or_eq_false_iff] at hb
    by_cases ho : ow.contains i = true
    · obtain ⟨a, e3, e4⟩ := h.own i ho p e
      rw [e2] at e3; cases e3
      have hi : (G.keep ow').imm a := .inr ⟨i, hb.1, e4⟩
      cases m : mutP p with
      | false => exact (Mo.keep ow').rep (fa := fa) (r1.im m)
      | true =>
        obtain ⟨a', o, e5, e6, n, rs⟩ := r1.cont m
        cases e5
        exact ((Mo.keep ow').cont rs).rep e6 hi
    · refine (Mo.keep ow').rep (r2 ?_)
      rw [cont_app, hb.2]
      simpa using ho
  · obtain ⟨a, e2, e3⟩ := h.own i (hs i o) p e
    refine ⟨a, e2, ?_⟩
    show (if ow'.contains i = true then G.own i else none) = some a
    rw [if_pos o]; exact e3
  · rw [cont_app, o, Bool.false_or] at r
    obtain ⟨_, z⟩ := keep_own z
    by_cases ho : ow.contains i = true
    · obtain ⟨a', e2, e3⟩ := h.own i ho _ e
      rw [s] at e2; cases e2
      have := g.inj i j a e3 z
      subst this
      exact absurd (keep_own (by assumption)).1 (by rw [o]; decide)
    · exact h.bor i xs a m (by rw [cont_app, r, Bool.or_true]) (by simpa using ho) e s j z
theorem sub_app (ow bo : List Nat) : ∀ i, ow.contains i = true → (ow ++ bo).contains i = true := fun i h => by rw [cont_app, h, Bool.true_or]

/-! ### readings of statements -/
structure Kon (X : Cx) (D : Ad) (W : WX) (bo ow' owl : List Nat) (G : Gh) (H : Hp) (Dp : Ds) (Dn : Ends) : Prop where
  nx : ∀ σ' env' H' G', Xs G H G' H' → Good G' H' → ER X.K D.fa ow' (ow' ++ bo) G' H' σ' env' → Dp.nx env' → Dn.nx σ' H'
  bk : ∀ σ' env' H' G', Xs G H G' H' → Good G' H' → ER X.K D.fa owl (owl ++ bo) G' H' σ' env' → Dp.bk env' → Dn.bk σ' H'
  ct : ∀ σ' env' H' G', Xs G H G' H' → Good G' H' → ER X.K D.fa owl (owl ++ bo) G' H' σ' env' → Dp.ct env' → Dn.ct σ' H'
  rt : ∀ v p H' G', Xs G H G' H' → Good G' H' → Rep X.K D.fa G' H' p v → Dp.rt p → Dn.rt v H'
  ex : ∀ c ps cls d σ' H' G', Xs G H G' H' → Good G' H' → XRep X.K D G' H' cls d c ps → Dp.ex c ps → W cls d σ' H'
def LfS (X : Cx) (D : Ad) (W : WX) (bo ow ow' owl : List Nat) (w : Env → Ds → Prop) : TS := fun Dn σ H => ∃ G env Dp, Good G H ∧ ER X.K D.fa ow (ow ++ bo) G H σ env ∧ w env Dp ∧ Kon X D W bo ow' owl G H Dp Dn
variable {X : Cx} {D : Ad} {W : WX} {owl : List Nat} {Dp : Ds} {Dn : Ends}
theorem Kon.xs (x : Xs G H G' H') (k : Kon X D W bo ow' owl G H Dp Dn) : Kon X D W bo ow' owl G' H' Dp Dn :=
  ⟨fun σ e H2 G2 x2 => k.nx σ e H2 G2 (x.trans x2), fun σ e H2 G2 x2 => k.bk σ e H2 G2 (x.trans x2), fun σ e H2 G2 x2 => k.ct σ e H2 G2 (x.trans x2), fun v p H2 G2 x2 => k.rt v p H2 G2 (x.trans x2), fun c ps cls d σ H2 G2 x2 => k.ex c ps cls d σ H2 G2 (x.trans x2)⟩
theorem Kon.xk (k : Kon X D W bo ow' owl G H Dp Dn) (σ : L2.St) : Xk X D W G H σ Dp.ex := fun c ps cls d H2 G2 x2 g r q => k.ex c ps cls d σ H2 G2 x2.s g r q
theorem ps_imp {st : Stmt} {t t' : TS} (h : PS X st t) (k : ∀ Dn σ H, t' Dn σ H → t Dn σ H) : PS X st t' := ⟨fun pins s σ H D I q => h.run pins s σ H D I (k D σ H q)⟩
theorem pss_imp {st : List Stmt} {t t' : TS} (h : PSs X st t) (k : ∀ Dn σ H, t' Dn σ H → t Dn σ H) : PSs X st t' := ⟨fun pins s σ H D I q => h.run pins s σ H D I (k D σ H q)⟩
/-- fewer own lists behind it -/
theorem lfs_keep {w : Env → Ds → Prop} {ow1 : List Nat} (hs : ∀ i, ow'.contains i = true → ow1.contains i = true) (Dn : Ends) (σ : L2.St) (H : Hp) (h : LfS X D W bo ow ow' owl w Dn σ H) : LfS X D W bo ow ow1 owl w Dn σ H := by
  obtain ⟨G, env, Dp, g, er, hw, k⟩ := h
  exact ⟨G, env, Dp, g, er, hw, ⟨fun σ' e H2 G2 x2 g2 er2 q => k.nx σ' e H2 _ (x2.trans (Xs.keep ow')) (g2.keep ow') (er2.keep g2 hs) q, k.bk, k.ct, k.rt, k.ex⟩⟩
end

/-! ### the checker of statements -/
/-- are the stores of a tuple swapped? -/
def localAt (sc : Scope) (line : Nat) : Expr → Option Str
  | .Name id pos => if sc.names.lookup id == some .local && pos.line == line then some id else none
  | _ => none
def lineOf (ts : List Expr) : Nat := (ts.head?.map (·.pos.line)).getD 0
def noSwap (sc : Scope) (tg v : Expr) : Bool := match tg, v with
  | .Tuple ts _ _, .Tuple vs _ _ => !(ts.length == 2 || ts.length == 3) || vs.length != ts.length || decide ((ts.filterMap (localAt sc (lineOf ts))).length ≠ ts.length) || vs.all (foldedForSure 8)
  | .List ts _, _ => false
  | _, _ => true
def isLc : Expr → Bool
  | .ListComp _ _ _ _ => true
  | .SetComp _ _ _ _ => true
  | .DictComp _ _ _ _ _ => true
  | _ => false
def nameOf : Expr → Option (Str × Pos)
  | .Name x p => some (x, p)
  | _ => none
/-- an expression that makes a new list -/
def freshB : Ex → Bool
  | .lst _ => true
  | .lc _ _ _ _ _ => true
  | .blt .list [_] => true
  | .dct0 => true
  | _ => false
/-- by kind: what is to be own is a new list, the others may be kept -/
def okK (ro : List Nat) : List Bool → List Ex → Bool
  | b :: bs, e :: es => (if b = true then freshB e else full ro e) && okK ro bs es
  | [], [] => true
  | _, _ => false
def addO (ow : List Nat) (i : Nat) (b : Bool) : List Nat := if b = true then (if ow.contains i then ow else i :: ow) else ow
def addOs (ow : List Nat) : List (Nat × Bool) → List Nat
  | [] => ow
  | (i, b) :: is => addOs (addO ow i b) is
def outS (ow : List Nat) : Sx → List Nat
  | .par is _ => addOs ow is
  | .own i _ => if ow.contains i then ow else i :: ow
  | .frz i => ow.filter (fun j => j != i)
  | _ => ow
def outSs (ow : List Nat) : List Sx → List Nat
  | [] => ow
  | s :: r => outSs (outS ow s) r
def subB (a b : List Nat) : Bool := a.all fun i => b.contains i
section
variable (T : Tab) (M : Mk) (N : List Str) (sc : Scope) (bo : List Nat)
def retB (e : Ex) (v : Option Expr) : Bool := match v with
  | some v => !itx e && chkE T M N sc bo e v && full bo e
  | none => false
def retPB (e : Ex) (v : Option Expr) : Bool := match e, v with
  | .lst es, some (.List vs _) => chkEs T M N sc bo es vs && fulls bo es && decide (es.length = 3)
  | _, _ => false
def lcAsgB (t : Tg) (tg v : Expr) : Bool := match t, tg, v with
  | .n _, .Name y py, .ListComp _ _ scope pos => sc.names.lookup y == some .local && py.line == pos.line && !(scope.names.any fun (n, k) => n == y && (k == .local || k == .cell))
  | _, _, _ => false
def asgB (ow : List Nat) (t : Tg) (e : Ex) (tgs : List Expr) (v : Expr) : Bool := match tgs with
  | [tg] => tgB N sc (fun _ => true) t tg && tgFree (ow ++ bo) t && !itx e && chkE T M N sc (ow ++ bo) e v && full (ow ++ bo) e && noSwap sc tg v && (!isLc v || (nameOf tg).isNone || lcAsgB sc t tg v)
  | _ => false
def ownB (ow : List Nat) (i : Nat) (e : Ex) (tgs : List Expr) (v : Expr) : Bool := match tgs with
  | [.Name x px] => !itx e && chkE T M N sc (ow ++ bo) e v && freshB e && decide (N[i]? = some x) && (sc.names.lookup x == some .local) && !bo.contains i && (!isLc v || lcAsgB sc (.n i) (.Name x px) v)
  | _ => false
def freeK (ow : List Nat) (i : Nat) (b : Bool) : Bool := if b = true then !bo.contains i else !(ow ++ bo).contains i
def par2B (ow : List Nat) (i j : Nat) (b1 b2 : Bool) (es : List Ex) (tgs : List Expr) (v : Expr) : Bool := match tgs, v with
  | [.Tuple [.Name x px, .Name y py] _ _], .Tuple [u, v] _ _ =>
      decide (N[i]? = some x) && decide (N[j]? = some y) && decide (i ≠ j) && (sc.names.lookup x == some .local) && (sc.names.lookup y == some .local) && px.line == py.line && ![u, v].all (foldedForSure 8) && ![u, v].all (constantsAlone 8) && !(x == y) &&
      chkEs T M N sc (ow ++ bo) es [u, v] && okK (ow ++ bo) [b1, b2] es && freeK bo ow i b1 && freeK bo ow j b2 && noStar u && noStar v
  | _, _ => false
def par3B (ow : List Nat) (i j l : Nat) (b1 b2 b3 : Bool) (es : List Ex) (tgs : List Expr) (v : Expr) : Bool := match tgs, v with
  | [.Tuple [.Name x px, .Name y py, .Name z pz] _ _], .Tuple [u, v, w] _ _ =>
      decide (N[i]? = some x) && decide (N[j]? = some y) && decide (N[l]? = some z) && decide (i ≠ j) && decide (i ≠ l) && decide (j ≠ l) && (sc.names.lookup x == some .local) && (sc.names.lookup y == some .local) && (sc.names.lookup z == some .local) &&
      px.line == py.line && px.line == pz.line && ![u, v, w].all (foldedForSure 8) && ![u, v, w].all (constantsAlone 8) && !(x == y) && !(x == z) && !(y == z) &&
      chkEs T M N sc (ow ++ bo) es [u, v, w] && okK (ow ++ bo) [b1, b2, b3] es && freeK bo ow i b1 && freeK bo ow j b2 && freeK bo ow l b3 && noStar u && noStar v && noStar w
  | _, _ => false
/-- two names at once, one of them captured -/
def par2C (ow : List Nat) (i j : Nat) (b1 b2 : Bool) (es : List Ex) (tgs : List Expr) (v : Expr) : Bool := match tgs, v with
  | [.Tuple [.Name x px, .Name y py] kt pt], .Tuple [u, v] _ _ =>
      tgB N sc (fun _ => true) (.t [.n i, .n j]) (.Tuple [.Name x px, .Name y py] kt pt) && decide (i ≠ j) && ((sc.names.lookup x == some .local) && (sc.names.lookup y == some .cell) || (sc.names.lookup x == some .cell) && (sc.names.lookup y == some .local)) &&
      chkEs T M N sc (ow ++ bo) es [u, v] && okK (ow ++ bo) [b1, b2] es && freeK bo ow i b1 && freeK bo ow j b2 && noStar u && noStar v
  | _, _ => false
def parB (ow : List Nat) (is : List (Nat × Bool)) (es : List Ex) (tgs : List Expr) (v : Expr) : Bool := match is with
  | [(i, b1), (j, b2)] => par2B T M N sc bo ow i j b1 b2 es tgs v || par2C T M N sc bo ow i j b1 b2 es tgs v
  | [(i, b1), (j, b2), (l, b3)] => par3B T M N sc bo ow i j l b1 b2 b3 es tgs v
  | _ => false
def appB (ow : List Nat) (i : Nat) (e : Ex) (v : Expr) : Bool := match v with
  | .Call (.Attribute (.Name x _) nm apos) [v] [] cpos => decide (nm = "append") && slotB N sc i x && ow.contains i && !itx e && chkE T M N sc (ow ++ bo) e v && full (ow ++ bo) e && apos.endLine == cpos.line
  | _ => false
/-- xs[k] = e, xs own -/
def setB (ow : List Nat) (i : Nat) (k e : Ex) (tgs : List Expr) (v : Expr) : Bool := match tgs with
  | [.Subscript (.Name x px) kx pos] => slotB N sc i x && ow.contains i && !itx k && chkE T M N sc (ow ++ bo) k kx && plainIxB kx && !itx e && chkE T M N sc (ow ++ bo) e v && full (ow ++ bo) e && noSwap sc (.Subscript (.Name x px) kx pos) v
  | _ => false
/-- d[k] = e, d own -/
def extB (ow : List Nat) (i : Nat) (e : Ex) (v : Expr) : Bool := match v with
  | .Call (.Attribute (.Name x _) nm apos) [v] [] cpos => decide (nm = "extend") && slotB N sc i x && ow.contains i && !itx e && chkE T M N sc (ow ++ bo) e v && full (ow ++ bo) e && apos.endLine == cpos.line
  | _ => false
/-- raise X() -/
def raiseB (c : Nat) (es : List Ex) (v : Option Expr) : Bool := match es, v with
  | [], some (.Call (.Name x _) [] [] _) => decide (x = T.xn c) && glB sc x && M.rz.contains c && decide (c < M.nx)
  | _, _ => false
mutual
/-- a constant -/
def cB : Ex → Expr → Bool
  | .non, .Constant .none _ _ => true
  | .bl b, .Constant (.bool c) _ _ => b == c
  | .int n, .Constant (.int m) _ _ => decide (n = m)
  | .str x, .Constant (.str y) _ _ => decide (x = y)
  | .tup es, .Tuple vs _ _ => cBs es vs && decide (es.length ≤ 1000)
  | _, _ => false
def cBs : List Ex → List Expr → Bool
  | [], [] => true
  | x :: xs, e :: es => cB x e && noStar e && cBs xs es
  | _, _ => false
end
/-- except X: return a constant -/
def hdsB : List Hd → List ExceptHandler → Bool
  | [], [] => true
  | .ret c e :: r, .ExceptHandler (some (.Name x _)) none [.Return (some v) _] _ :: hs => decide (x = T.xn c) && glB sc x && decide (c < M.nx) && cB e v && hdsB r hs
  | _, _ => false
/-! a body that changes no name: return, a call, if -/
mutual
def tyB : Sx → Bool
  | .ret _ => true
  | .expr _ => true
  | .never => true
  | .ite _ a b => tyBs a && tyBs b
  | _ => false
def tyBs : List Sx → Bool
  | [] => true
  | s :: r => tyB s && tyBs r
end
mutual
def chkS (ow owl : List Nat) : Sx → Stmt → Bool
  | .ret e, .Return v _ => retB T M N sc bo e v
  | .retN, .Return v _ => v.isNone
  | .retP e, .Return v _ => retPB T M N sc bo e v
  | .asg t e, .Assign tgs v _ => asgB T M N sc bo ow t e tgs v
  | .own i e, .Assign tgs v _ => ownB T M N sc bo ow i e tgs v
  | .par is es, .Assign tgs v _ => parB T M N sc bo ow is es tgs v
  | .never, _ => true
  | .expr e, .Expr v _ => !itx e && chkE T M N sc (ow ++ bo) e v && !isLc v
  | .ite t a b, .If c p q _ => !itx t && chkE T M N sc (ow ++ bo) t c && tst t && chkSs ow owl a p && subB ow (outSs ow a) && chkSs ow owl b q && subB ow (outSs ow b)
  | .for_ t it b, .For tg iter body els _ => chkE T M N sc (ow ++ bo) it iter && full (ow ++ bo) it && tgB N sc (fun _ => true) t tg && tgFree (ow ++ bo) t && (!needT it || isTT t) && chkSs ow ow b body && subB ow (outSs ow b) && els.isEmpty
  | .whl t b, .While c body els _ => !itx t && chkE T M N sc (ow ++ bo) t c && tst t && chkSs ow ow b body && subB ow (outSs ow b) && els.isEmpty
  | .pass, .Pass _ => true
  | .brk, .Break _ => subB owl ow
  | .cnt, .Continue _ => subB owl ow
  | .app i e, .Expr v _ => appB T M N sc bo ow i e v
  | .seti i k e, .Assign tgs v _ => setB T M N sc bo ow i k e tgs v
  | .setd i k e, .Assign tgs v _ => setB T M N sc bo ow i k e tgs v
  | .ext i e, .Expr v _ => extB T M N sc bo ow i e v
  | .raise c es, .Raise v none _ => raiseB T M sc c es v
  | .try_ b hs, .Try body hds [] [] _ => tyBs b && chkSs ow owl b body && hdsB T M sc hs hds && !hds.isEmpty
  | _, _ => false
def chkSs (ow owl : List Nat) : List Sx → List Stmt → Bool
  | [], sts => sts.isEmpty
  | s :: r, sts => match s with
    | .frz i => chkSs (ow.filter (fun j => j != i)) owl r sts
    | s => match sts with
      | [] => false
      | st :: sts => chkS ow owl s st && chkSs (outS ow s) owl r sts
end
end
end Fw
/-! Fw: statements are sound. -/
namespace Fw
open PySem PySem.Spec PyProof.Rows L2

/-- a context in which statements are read -/
structure Cos (X : Cx) (T : Tab) (D : Ad) (M : Mk) (lv : Nat) (W : WX) : Prop extends Cok X T D M lv W where
  kind : X.env.scope.kind = .function
  fn : ∀ x, X.fn x = true
  own : PassesOwn (model X.prog X.w) X.A X.env X.xe
  stk : X.stack = X.env :: X.outer
  frm : X.env.frame = some X.env.locals
section
variable {T : Tab} {D : Ad} {M : Mk} {lv : Nat} {X : Cx} {W : WX} {bo ow ow' owl : List Nat}
theorem subB_of {a b : List Nat} (h : subB a b = true) : ∀ i, a.contains i = true → b.contains i = true := fun i hi => List.all_eq_true.mp h i (by simpa using hi)
theorem chkS_none {s : Sx} {st : Stmt} {pos : Pos} : True := trivial

/-- target = e, no list of its own, no exchange of the stores -/
theorem sw_not {v : Expr} {tg : Option Expr} {l : Nat} {env : PySem.Env} (h : isLc v = false) : swapsWith v tg l env = pure false := by
  cases v <;> first | rfl | cases h
theorem sw_noname {v tg : Expr} {l : Nat} {env : PySem.Env} (h : nameOf tg = none) : swapsWith v (some tg) l env = pure false := by
  cases v <;> first | rfl | (cases tg <;> first | rfl | cases h)
theorem swapped_none {tg v : Expr} {env : PySem.Env} (h : noSwap env.scope tg v = true) : swappedStores [tg] v env = pure none := by
  cases tg with
  | Tuple ts k p =>
    cases v with
    | Tuple vs k2 p2 =>
      simp only [noSwap, Bool.or_eq_true] at h
      unfold swappedStores
      simp only []
      rcases h with ((h | h) | h) | h
      · rw [if_pos (by simp_all)]
      · rw [if_pos (by simp_all)]
      · split
        · rfl
        · split
          · rfl
          · split
            · rfl
            · rename_i hn
              refine absurd ?_ hn
              rw [Bool.or_eq_true]
              refine .inl ?_
              rw [bne_iff_ne]
              exact of_decide_eq_true h
      · repeat' (first | rfl | split)
        all_goals simp_all
    | _ => rfl
  | List ts p => cases v <;> first | rfl | cases h
  | _ => cases v <;> rfl
theorem each_one {fl : Str → Bool} {N : List Str} {sc : Scope} {t : Tg} {tg : Expr} {env : PySem.Env} (h : tgB N sc fl t tg = true) : (assignEach [tg] env).map (·.2) = [assign tg env] := by
  cases tg <;> first | rfl | (cases t <;> simp [tgB] at h)
/-- e, then bound to a target -/
theorem asg_read {t : Tg} {x : Ex} {Dn : Ends} {σ : L2.St} {H : Hp} (hf : tgFree (ow ++ bo) t = true) (h : LfS X D W bo ow ow owl (wpS T (.asg t x)) Dn σ H) {te : TE} (k : ∀ Q, Lf X D W ow (ow ++ bo) true (wpE T x) σ H Q → te σ H Q) :
    te σ H fun v H1 => gTg X.K t v σ H1 Dn.nx := by
  obtain ⟨G, env, Dp, g, er, hw, kn⟩ := h
  refine k _ ⟨G, env, _, Dp.ex, g, er, hw, fun v p H1 G1 x1 g1 r1 q1 => ?_, kn.xk σ⟩
  exact bind_ok (sub_app ow bo) g1 hf (er.xt x1 g) (r1.2 rfl) q1 fun σ' env' H2 x2 g2 er2 q2 _ => kn.nx σ' env' H2 G1 (x1.trans x2).s g2 er2 q2
def SS (T : Tab) (D : Ad) (M : Mk) (lv : Nat) (bo : List Nat) (s : Sx) : Prop := ∀ (X : Cx) (W : WX) (ow owl : List Nat) (st : Stmt), Cos X T D M lv W → chkS T M X.N X.env.scope bo ow owl s st = true → PS X st (LfS X D W bo ow (outS ow s) owl (wpS T s))
def SSs (T : Tab) (D : Ad) (M : Mk) (lv : Nat) (bo : List Nat) (ss : List Sx) : Prop := ∀ (X : Cx) (W : WX) (ow owl : List Nat) (sts : List Stmt), Cos X T D M lv W → chkSs T M X.N X.env.scope bo ow owl ss sts = true → PSs X sts (LfS X D W bo ow (outSs ow ss) owl (wpSs T ss))
theorem eE (ow bo : List Nat) (x : Ex) : S T D M lv ow (ow ++ bo) x := (all_E (sub_app ow bo) x).1
theorem eI (ow bo : List Nat) (x : Ex) : SI T D M lv ow (ow ++ bo) x := (all_E (sub_app ow bo) x).2
theorem SS_ret (e : Ex) : SS T D M lv bo (.ret e) := fun X W ow owl st c h => by
  cases st <;> try (simp [chkS] at h; done)
  rename_i v pos
  cases v with
  | none => simp [chkS, retB] at h
  | some v =>
    simp only [chkS, retB, Bool.and_eq_true] at h
    refine ps_imp (ps_ret ((eE [] bo e X W v c.toCok h.1.2 (itx_of h.1.1)).1)) ?_
    rintro Dn σ H ⟨G, env, Dp, g, er, hw, k⟩
    refine ⟨G.keep [], env, _, Dp.ex, g.keep [], er.keep g (fun i hi => by cases hi), hw, fun v p H1 G1 x1 g1 r1 q1 => ?_, fun c ps cls d H1 G1 x1 g1 r q => ?_⟩
    · exact k.rt v p H1 G1 ((Xs.keep []).trans x1.s) g1 (r1.2 h.2) q1
    · exact k.ex c ps cls d σ H1 G1 ((Xs.keep []).trans x1.s) g1 r q
theorem SS_retN : SS T D M lv bo .retN := fun X W ow owl st c h => by
  cases st <;> try (simp [chkS] at h; done)
  rename_i v pos
  cases v with
  | some v => simp [chkS] at h
  | none =>
    refine ps_imp ps_retN ?_
    rintro Dn σ H ⟨G, env, Dp, g, er, hw, k⟩
    exact k.rt .non .non H G Xs.refl g rfl hw
theorem SS_retP (e : Ex) : SS T D M lv bo (.retP e) := fun X W ow owl st c h => by
  cases st <;> try (simp [chkS] at h; done)
  rename_i v pos
  simp only [chkS] at h
  unfold retPB at h
  split at h
  · rename_i es vs q
    simp only [Bool.and_eq_true, decide_eq_true_eq] at h
    obtain ⟨⟨h1, h2⟩, h3⟩ := h
    refine ps_imp (ps_ret (pe_lst (S_args c.toCok (fun x _ => eE [] bo x) h1))) ?_
    rintro Dn σ H ⟨G, env, Dp, g, er, hw, k⟩
    refine ⟨G.keep [], env, _, Dp.ex, g.keep [], er.keep g (fun i hi => by cases hi), hw, fun vs ps H1 G1 x1 g1 r1 q1 => ?_, fun c ps cls d H1 G1 x1 g1 r q => ?_⟩
    · refine ⟨by rw [r1.lenB, List.length_map, sizeLine_eq]; omega, fun p hp => ?_⟩
      have r := r1.full (fulls_all h2)
      obtain ⟨x, y, z, e, px, py, pz, q⟩ := q1
      cases e
      obtain ⟨v1, r1, e1, a1, r⟩ := r
      obtain ⟨v2, r2, e2, a2, r⟩ := r
      obtain ⟨v3, r3, e3, a3, r⟩ := r
      cases r
      cases a1; cases a2; cases a3
      subst e3; subst e2; subst e1
      have ne : ∀ a, H1 a ≠ none → a ≠ p := fun a h z => h (z ▸ hp)
      have npool : ¬ G1.pool p := fresh_pool g1 hp
      have nimm : ¬ G1.imm p := fresh_imm g1 hp
      have gg : Good { G1 with pool := fun a => a = p ∨ G1.pool a } (upd H1 p (.lst [.int x, .int y, .int z])) := by
        refine ⟨fun a i => ?_, fun a i z => ?_, fun a i => ?_, fun i a o => ?_, g1.inj⟩
        · rw [upd_ne (ne a (g1.immH a i))]; exact g1.immH a i
        · rcases z with z | z
          · exact nimm (z ▸ i)
          · exact g1.immP a i z
        · by_cases e : a = p
          · subst e
            exact ⟨_, upd_same, x, y, z, rfl, px, py, pz⟩
          · rcases i with i | i
            · exact absurd i e
            · rw [upd_ne e]; exact g1.pool a i
        · obtain ⟨o1, o2, vs, o3⟩ := g1.own i a o
          have e : a ≠ p := ne a (by rw [o3.1]; exact Option.some_ne_none _)
          refine ⟨o1, fun z => ?_, vs, by rw [upd_ne e]; exact o3⟩
          rcases z with z | z
          · exact e z
          · exact o2 z
      have xx : Xt G1 H1 { G1 with pool := fun a => a = p ∨ G1.pool a } (upd H1 p (.lst [.int x, .int y, .int z])) := by
        refine ⟨fun a o e n => ?_, fun a e => ?_, fun _ h => h, fun _ h => .inr h, fun _ _ n => n, fun a e n z => ?_, rfl⟩
        · rw [upd_ne (ne a (by rw [e]; exact Option.some_ne_none _))]; exact e
        · rw [upd_ne (ne a e)]; exact e
        · rcases z with z | z
          · exact ne a e z
          · exact n z
      exact k.rt (.ref p) .pool _ _ ((Xs.keep []).trans (x1.trans xx).s) gg ⟨p, rfl, .inl rfl⟩ q
    · exact k.ex c ps cls d σ H1 G1 ((Xs.keep []).trans x1.s) g1 r q
  · cases h
theorem SS_asg (t : Tg) (e : Ex) : SS T D M lv bo (.asg t e) := fun X W ow owl st c h => by
  cases st <;> try (simp [chkS] at h; done)
  rename_i tgs v pos
  simp only [chkS] at h
  unfold asgB at h
  split at h
  · rename_i tg
    simp only [Bool.and_eq_true] at h
    obtain ⟨⟨⟨⟨⟨⟨h1, h2⟩, h3⟩, h4⟩, h5⟩, h6⟩, h7⟩ := h
    have hg := tg_ok (X := X) (fl := fun _ => true) c.nd c.calm (fun x _ => c.fn x) h1
    have gen : swapsWith v (some tg) pos.line X.env = pure false → PS X (.Assign [tg] v pos) (LfS X D W bo ow (outS ow (.asg t e)) owl (wpS T (.asg t e))) := fun hs => by
      have he := (eE ow bo e X W v c.toCok h4 (itx_of h3)).1
      rw [h5] at he
      refine ps_imp (ps_asg he hg hs (swapped_none h6) (each_one h1)) ?_
      intro Dn σ H q
      exact asg_read h2 q fun Q z => z
    simp only [Bool.or_eq_true] at h7
    rcases h7 with (h7 | h7) | h7
    · exact gen (sw_not (by simpa using h7))
    · exact gen (sw_noname (by simpa using h7))
    · unfold lcAsgB at h7
      split at h7
      · rename_i i y py elt gens scope p2
        simp only [Bool.and_eq_true, beq_iff_eq, Bool.not_eq_true'] at h7
        obtain ⟨⟨h8, h9⟩, h10⟩ := h7
        cases e <;> try (simp [chkE] at h4; done)
        rename_i elt' tg' it' ifs' own'
        match gens, h4 with
        | [⟨tg2, it2, ifs2, as⟩], h4 =>
          simp only [chkE, Bool.and_eq_true, decide_eq_true_eq] at h4
          obtain ⟨⟨⟨⟨⟨⟨⟨⟨⟨⟨⟨⟨⟨c0, c1⟩, c2⟩, c3⟩, c4⟩, c5⟩, c6⟩, c7⟩, c8, c9⟩, c10⟩, c11⟩, c12⟩, c13⟩, c14⟩ := h4
          subst c0
          have hnt : needT it' = true → ∃ es k p, tg2 = .Tuple es k p := fun z => by
            rw [z] at c5
            exact isTT_tup c3 (by simpa using c5)
          have hb := blkOk_by c6
          have hi : X.N[i]? = some y := by
            simp only [tgB, Bool.and_eq_true, decide_eq_true_eq] at h1
            exact h1.1
          have hps : PS X (.Assign [.Name y py] (.ListComp elt [⟨tg2, it2, ifs2, 0⟩] scope p2) pos) (tAsg (tLc (LfI X D W ow (ow ++ bo) (wpE T it')) (gTg X.K tg') (tIfs X D ow (ow ++ bo) T ifs') (Lf X D (fun _ _ _ _ => False) ow (ow ++ bo) (full (ow ++ bo) elt') (wpE T elt')) ((ownOf X.N own').map (·.2))) (gName i)) := ps_setLc (X := X) (spos := pos) (py := py) c.calm c.nd hi h8 (sw_true c.kind h8 (by simpa using h9) h10) (eI ow bo it' X W it2 tg2 c.toCok c1 c2 hnt) hb
            (fun s H C cl fp => tg_ok (X := X.blk s H scope (compEnvC scope cl C X.env) fp) (fl := fun x => scope.names.lookup x == some .cell) c.nd c.calm (fun x hx => hx) c3)
            (fun s H C cl fp => ifs_ok (X := X.blk s H scope (compEnvC scope cl C X.env) fp) (fun x _ => eE ow bo x) (c.toCok.blk s H scope cl C fp) c11 c12 c13 rfl)
            (fun s H C cl fp => (eE ow bo elt' (X.blk s H scope (compEnvC scope cl C X.env) fp) _ elt (c.toCok.blk s H scope cl C fp) c9 (itx_of c8)).1)
            (fold_plain c1 X.env)
          rw [c7] at hps
          refine ps_imp hps ?_
          intro Dn σ H q
          exact asg_read h2 q fun Q z => lc_read (sub_app ow bo) c4 c10 c12 c14 σ H Q z
        | [], h4 => simp [chkE] at h4
        | _ :: _ :: _, h4 => simp [chkE] at h4
      · cases h7
  · cases h
end
end Fw
/-! Fw: new lists; several values of which some are new lists that become the frame's own. -/
namespace Fw
open PySem PySem.Spec PyProof.Rows L2
section
variable {T : Tab} {D : Ad} {M : Mk} {lv : Nat} {ow ro bo : List Nat}
def SF (T : Tab) (D : Ad) (M : Mk) (lv : Nat) (ow ro : List Nat) (x : Ex) : Prop := ∀ (X : Cx) (W : WX) (e : Expr), Cok X T D M lv W → chkE T M X.N X.env.scope ro x e = true → freshB x = true → PE X e (LfF X D W ow ro (wpE T x))
/-- what is made at a place that was free -/
theorem fr_new {K : PySem.W.Frag} {fa : Nat → Addr} {G G1 : Gh} {H H1 : Hp} {d : Addr} {ps : List P} {vs : List V} (x : Xt G H G1 H1) (g1 : Good G1 H1) (hd : H1 d = none) (rs : Reps K fa G1 H1 ps vs) :
    Xt G H G1 (upd H1 d (.lst vs)) ∧ Good G1 (upd H1 d (.lst vs)) ∧ Fr K fa H G1 (upd H1 d (.lst vs)) (.lst ps) d := by
  refine ⟨x.trans (Xt.new0 hd _), g1.new0 hd _, ?_, ⟨_, upd_same, vs, rfl, ((Xt.new0 hd _).mo g1).reps rs⟩, fresh_imm g1 hd, fresh_pool g1 hd, fresh_own g1 hd⟩
  cases e : H d with
  | none => rfl
  | some o => exact absurd hd (x.there d (by rw [e]; exact Option.some_ne_none _))
theorem SF_all (hsub : ∀ i, ow.contains i = true → ro.contains i = true) (x : Ex) : SF T D M lv ow ro x := fun X W e c h hf => by
  cases x <;> try (cases hf; done)
  · rename_i es
    cases e <;> simp only [chkE, Bool.false_eq_true, Bool.and_eq_true, decide_eq_true_eq] at h
    obtain ⟨⟨h1, h2⟩, h3⟩ := h
    refine pe_imp (pe_lst (S_args c (fun x _ => (all_E hsub x).1) h1)) ?_
    rintro σ H Q ⟨G, env, Qp, Ep, g, er, hw, k, kx⟩
    refine ⟨G, env, _, Ep, g, er, hw, ?_, kx⟩
    intro vs ps H1 G1 x1 g1 r1 q1
    refine ⟨by rw [r1.lenB, List.length_map, sizeLine_eq]; omega, fun p hp => ?_⟩
    obtain ⟨a1, a2, a3⟩ := fr_new x1 g1 hp (r1.full (fulls_all h2))
    exact k p (.lst ps) _ G1 a1 a2 a3 q1
  · rename_i f es
    cases f <;> try (cases hf; done)
    match es, hf with
    | [y], _ =>
      cases e <;> try (simp [chkE] at h; done)
      rename_i fn vs kws pos
      cases fn <;> try (simp [chkE] at h; done)
      rename_i x p
      cases kws with
      | cons _ _ => simp [chkE] at h
      | nil =>
        simp only [chkE, Bool.and_eq_true, decide_eq_true_eq] at h
        obtain ⟨⟨⟨⟨h1, h2⟩, h3⟩, h4⟩, h5⟩ := h
        obtain ⟨gl, db⟩ := gl_of h1
        subst h2
        match vs, h4 with
        | v :: vs, h4 =>
          have h4' := h4
          simp only [chkEs, Bool.and_eq_true] at h4'
          have st : starEach (v :: vs) X.env = (false, eval v X.env) :: starEach vs X.env := star_cons (chk_noStar h4'.1.2)
          have pl := back_any (pos := pos) _ (chk_star (env := X.env) h4'.2)
          have pa := S_args c (fun x _ => (all_E hsub x).1) h4
          refine pe_imp (pe_callTy (call_listA c.calm) gl (c.tok.bl .list (by decide)) (by decide +kernel) pa (by decide) db st pl) ?_
          rintro σ H Q ⟨G, env, Qp, Ep, g, er, hw, k, kx⟩
          refine ⟨G, env, _, Ep, g, er, hw, ?_, kx⟩
          intro us ps H1 G1 x1 g1 r1 q1
          have r1 := r1.reads
          have q1 : bltP .list ps Qp := q1
          match ps, q1 with
          | [.lst ys], ho =>
            obtain ⟨v, rfl, r⟩ := r1.one
            obtain ⟨a, ws, rfl, ha, ra⟩ := repR_lst r
            refine .inl ⟨a, ws, rfl, .inl (SqL.of ha), fun l hl => ?_⟩
            obtain ⟨a1, a2, a3⟩ := fr_new x1 g1 hl ra
            exact k l (.lst ys) _ G1 a1 a2 a3 ho
          | [.tup ys], ho =>
            obtain ⟨v, rfl, r⟩ := r1.one
            obtain ⟨a, ws, rfl, ha, ra⟩ := repR_tup r
            refine .inl ⟨a, ws, rfl, .inr ha, fun l hl => ?_⟩
            obtain ⟨a1, a2, a3⟩ := fr_new x1 g1 hl ra
            exact k l (.lst ys) _ G1 a1 a2 a3 ho
          | [.dct ks qs], ho =>
            obtain ⟨v, rfl, r⟩ := r1.one
            obtain ⟨a, ws, rfl, ha, _, l0, ra⟩ := r
            refine .inr ⟨a, _, rfl, .inl ha, fun l hl => ?_⟩
            rw [zip_keys (by rw [ra.length, l0])]
            obtain ⟨a1, a2, a3⟩ := fr_new x1 g1 hl (reps_keys ks)
            exact k l (.lst _) _ G1 a1 a2 a3 ho
        | [], h4 => simp [chkEs] at h4
  · rename_i elt tg it ifs own
    cases e <;> try (simp [chkE] at h; done)
    rename_i e' gens scope pos
    match gens, h with
    | [⟨tg', it', ifs', as⟩], h =>
      simp only [chkE, Bool.and_eq_true, decide_eq_true_eq] at h
      obtain ⟨⟨⟨⟨⟨⟨⟨⟨⟨⟨⟨⟨⟨h0, h1⟩, h2⟩, h3⟩, h4⟩, h5⟩, h6⟩, h7⟩, h8, h9⟩, h10⟩, h11⟩, h12⟩, h13⟩, h14⟩ := h
      subst h0
      have hnt : needT it = true → ∃ es k p, tg' = .Tuple es k p := fun z => by
        rw [z] at h5
        exact isTT_tup h3 (by simpa using h5)
      have hb := blkOk_by h6
      have cb := c.blk
      have hpe : PE X (.ListComp e' [⟨tg', it', ifs', 0⟩] scope pos) (tLc (LfI X D W ow ro (wpE T it)) (gTg X.K tg) (tIfs X D ow ro T ifs) (Lf X D (fun _ _ _ _ => False) ow ro (full ro elt) (wpE T elt)) ((ownOf X.N own).map (·.2))) :=
        pe_lc c.calm c.nd ((all_E hsub it).2 X W it' tg' c h1 h2 hnt) hb
          (fun s H C cl fp => tg_ok (X := X.blk s H scope (compEnvC scope cl C X.env) fp) (fl := fun x => scope.names.lookup x == some .cell) c.nd c.calm (fun x hx => hx) h3)
          (fun s H C cl fp => ifs_ok (X := X.blk s H scope (compEnvC scope cl C X.env) fp) (fun x _ => (all_E hsub x).1) (c.blk s H scope cl C fp) h11 h12 h13 rfl)
          (fun s H C cl fp => ((all_E hsub elt).1 (X.blk s H scope (compEnvC scope cl C X.env) fp) _ e' (c.blk s H scope cl C fp) h9 (itx_of h8)).1)
          (fold_plain h1 X.env)
      rw [h7] at hpe
      refine pe_imp hpe ?_
      exact lc_readF hsub h4 h10 h12 h14
    | [], h => simp [chkE] at h
    | _ :: _ :: _, h => simp [chkE] at h
  · cases e <;> try (simp [chkE] at h; done)
    rename_i ks vs pos
    simp only [chkE, Bool.and_eq_true, List.isEmpty_iff] at h
    obtain ⟨rfl, rfl⟩ := h
    refine pe_imp pe_dnewK ?_
    rintro σ H Q ⟨G, env, Qp, Ep, g, er, hw, k, kx⟩
    intro p hp
    exact k p (.dct [] []) _ G (Xt.new0 hp _) (g.new0 hp _) ⟨hp, ⟨_, upd_same, [], rfl, rfl, rfl⟩, fresh_imm g hp, fresh_pool g hp, fresh_own g hp⟩ hw
end
/-! ### several values, by kind -/
section
variable {K : PySem.W.Frag} {fa : Nat → Addr}
def RepsK (K : PySem.W.Frag) (fa : Nat → Addr) (G : Gh) (H : Hp) : (Addr → Prop) → List Bool → List P → List V → Prop
  | old, true :: ks, p :: ps, vs => ∃ d r, vs = .ref d :: r ∧ ¬ old d ∧ (∃ o, H d = some o ∧ Cont K fa G H p o) ∧ ¬ G.imm d ∧ ¬ G.pool d ∧ (∀ j, G.own j ≠ some d) ∧ RepsK K fa G H (fun a => old a ∨ a = d) ks ps r
  | old, false :: ks, p :: ps, vs => ∃ v r, vs = v :: r ∧ Rep K fa G H p v ∧ RepsK K fa G H old ks ps r
  | _, [], [], vs => vs = []
  | _, _, _, _ => False
theorem RepsK.anti {G : Gh} {H : Hp} : ∀ {ks : List Bool} {ps : List P} {vs : List V} {old old' : Addr → Prop}, (∀ a, old' a → old a) → RepsK K fa G H old ks ps vs → RepsK K fa G H old' ks ps vs
  | true :: ks, p :: ps, vs, old, old', h, ⟨d, r, e1, n0, e3, n1, n2, n3, t⟩ => ⟨d, r, e1, fun z => n0 (h d z), e3, n1, n2, n3, RepsK.anti (fun a z => z.imp (h a) id) t⟩
  | false :: ks, p :: ps, vs, old, old', h, ⟨v, r, e1, rp, t⟩ => ⟨v, r, e1, rp, RepsK.anti h t⟩
  | [], [], _, _, _, _, e => e
  | [], _ :: _, _, _, _, _, e => e.elim
  | true :: _, [], _, _, _, _, e => e.elim
  | false :: _, [], _, _, _, _, e => e.elim
/-- another list has become own -/
theorem RepsK.own {G G' : Gh} {H : Hp} (hm : Mo G H G' H) (hi : G'.imm = G.imm) (hp : G'.pool = G.pool) : ∀ {ks : List Bool} {ps : List P} {vs : List V} {old : Addr → Prop}, (∀ d, ¬ old d → (∀ j, G.own j ≠ some d) → ∀ j, G'.own j ≠ some d) → RepsK K fa G H old ks ps vs → RepsK K fa G' H old ks ps vs
  | true :: ks, p :: ps, vs, old, h, ⟨d, r, e1, n0, ⟨ws, e3, e4⟩, n1, n2, n3, t⟩ => ⟨d, r, e1, n0, ⟨ws, e3, hm.cont e4⟩, by rw [hi]; exact n1, by rw [hp]; exact n2, h d n0 n3, RepsK.own hm hi hp (fun d' z q => h d' (fun w => z (.inl w)) q) t⟩
  | false :: ks, p :: ps, vs, old, h, ⟨v, r, e1, rp, t⟩ => ⟨v, r, e1, hm.rep rp, RepsK.own hm hi hp h t⟩
  | [], [], _, _, _, e => e
  | [], _ :: _, _, _, _, e => e.elim
  | true :: _, [], _, _, _, e => e.elim
  | false :: _, [], _, _, _, e => e.elim
theorem RepsK.len {G : Gh} {H : Hp} : ∀ {ks : List Bool} {ps : List P} {vs : List V} {old : Addr → Prop}, RepsK K fa G H old ks ps vs → ps.length = ks.length ∧ vs.length = ks.length
  | true :: ks, p :: ps, vs, old, ⟨d, r, e1, _, _, _, _, _, t⟩ => by
    have := t.len
    rw [e1, List.length_cons, List.length_cons, List.length_cons, this.1, this.2]
    exact ⟨rfl, rfl⟩
  | false :: ks, p :: ps, vs, old, ⟨v, r, e1, _, t⟩ => by
    have := t.len
    rw [e1, List.length_cons, List.length_cons, List.length_cons, this.1, this.2]
    exact ⟨rfl, rfl⟩
  | [], [], _, _, e => by rw [show _ = [] from e]; exact ⟨rfl, rfl⟩
  | [], _ :: _, _, _, e => e.elim
  | true :: _, [], _, _, e => e.elim
  | false :: _, [], _, _, e => e.elim
end
section
variable {T : Tab} {D : Ad} {M : Mk} {lv : Nat} {ow ro bo : List Nat}
def LfAK (X : Cx) (D : Ad) (W : WX) (ow ro : List Nat) (ks : List Bool) (w : Env → (List P → Prop) → XQ → Prop) : TA := fun σ H Q => ∃ G env Qp Ep, Good G H ∧ ER X.K D.fa ow ro G H σ env ∧ w env Qp Ep ∧
  (∀ vs ps H' G', Xt G H G' H' → Good G' H' → RepsK X.K D.fa G' H' (fun a => H a ≠ none) ks ps vs → Qp ps → Q vs H') ∧ Xk X D W G H σ Ep
theorem S_argsK (hsub : ∀ i, ow.contains i = true → ro.contains i = true) {X : Cx} {W : WX} (c : Cok X T D M lv W) : ∀ {ks : List Bool} {xs : List Ex} {es : List Expr}, okK ro ks xs = true → chkEs T M X.N X.env.scope ro xs es = true → PA X es (LfAK X D W ow ro ks (wpEs T xs))
  | [], [], [], _, _ => by
    refine pa_imp pa_nil ?_
    rintro σ H Q ⟨G, env, Qp, Ep, g, er, hw, k, kx⟩
    exact k [] [] H G Xt.refl g rfl hw
  | true :: ks, x :: xs, e :: es, ok, h => by
    simp only [okK, if_true, Bool.and_eq_true] at ok
    simp only [chkEs, Bool.and_eq_true] at h
    obtain ⟨⟨h1, h2⟩, h3⟩ := h
    refine pa_imp (pa_cons (SF_all hsub x X W e c h2 ok.1) (S_argsK hsub c ok.2 h3) (star_cons (chk_noStar h2))) ?_
    rintro σ H Q ⟨G, env, Qp, Ep, g, er, hw, k, kx⟩
    refine ⟨G, env, _, Ep, g, er, hw, ?_, kx⟩
    rintro d ps0 H1 G1 x1 g1 ⟨hn, ⟨ws, hd, rs⟩, n1, n2, n3⟩ q1
    refine ⟨G1, env, _, Ep, g1, er.xt x1 g, q1, ?_, kx.xt x1⟩
    intro vs ps H2 G2 x2 g2 r2 q2
    have hd1 : H1 d ≠ none := by rw [hd]; exact Option.some_ne_none _
    refine k (.ref d :: vs) (ps0 :: ps) H2 G2 (x1.trans x2) g2 ⟨d, vs, rfl, fun z => z hn, ⟨ws, x2.std d _ hd n2, (x2.mo g1).cont rs⟩, x2.nimm d hd1 n1, x2.npool d hd1 n2, fun j => by rw [x2.own]; exact n3 j, r2.anti fun a z => ?_⟩ q2
    rcases z with z | z
    · exact x1.there a z
    · rw [z]; exact hd1
  | false :: ks, x :: xs, e :: es, ok, h => by
    simp only [okK, Bool.false_eq_true, if_false, Bool.and_eq_true] at ok
    simp only [chkEs, Bool.and_eq_true] at h
    obtain ⟨⟨h1, h2⟩, h3⟩ := h
    refine pa_imp (pa_cons ((all_E hsub x).1 X W e c h2 (itx_of h1)).1 (S_argsK hsub c ok.2 h3) (star_cons (chk_noStar h2))) ?_
    rintro σ H Q ⟨G, env, Qp, Ep, g, er, hw, k, kx⟩
    refine ⟨G, env, _, Ep, g, er, hw, ?_, kx⟩
    intro v p H1 G1 x1 g1 r1 q1
    refine ⟨G1, env, _, Ep, g1, er.xt x1 g, q1, ?_, kx.xt x1⟩
    intro vs ps H2 G2 x2 g2 r2 q2
    exact k (v :: vs) (p :: ps) H2 G2 (x1.trans x2) g2 ⟨v, vs, rfl, (x2.mo g1).rep (r1.2 ok.1), r2.anti fun a z => x1.there a z⟩ q2
  | [], _ :: _, _, ok, _ => by simp [okK] at ok
  | _ :: _, [], _, ok, _ => by simp [okK] at ok
  | [], [], _ :: _, _, h => by simp [chkEs] at h
  | _ :: _, _ :: _, [], _, h => by simp [chkEs] at h
/-- behind some stores of a statement that began at G0, H0 -/
structure Stp (K : PySem.W.Frag) (fa : Nat → Addr) (bo ow : List Nat) (G0 : Gh) (H0 : Hp) (G : Gh) (H : Hp) (σ : L2.St) (env : Env) : Prop where
  xs : Xs G0 H0 G H
  gd : Good G H
  er : ER K fa ow (ow ++ bo) G H σ env
  bor : ∀ k p b, mutP p = true → bo.contains k = true → ow.contains k = false → env[k]? = some (some p) → σ[k]? = some (some (.ref b)) → H0 b ≠ none
variable {K : PySem.W.Frag} {fa : Nat → Addr} {G0 G : Gh} {H0 H : Hp} {σ : L2.St} {env : Env}
theorem Stp.start {H1 : Hp} {G1 : Gh} (g : Good G0 H0) (er : ER K fa ow (ow ++ bo) G0 H0 σ env) (x : Xt G0 H0 G1 H1) (g1 : Good G1 H1) : Stp K fa bo ow G0 H0 G1 H1 σ env :=
  ⟨x.s, g1, er.xt x g, fun k xs b m hb ho e s => by
    obtain ⟨v, e2, r, _⟩ := er.val k _ e
    rw [s] at e2; cases e2
    obtain ⟨a, vs, e3, e4, _⟩ := r.cont m
    cases e3
    rw [e4]; exact Option.some_ne_none _⟩
theorem Stp.set (s : Stp K fa bo ow G0 H0 G H σ env) {i : Nat} {p : P} {v : V} (hi : (ow ++ bo).contains i = false) (r : Rep K fa G H p v) : Stp K fa bo ow G0 H0 G H (σ.set i (some v)) (env.set i (some p)) := by
  have h1 : ow.contains i = false := by
    rw [cont_app, Bool.or_eq_false_iff] at hi; exact hi.1
  refine ⟨s.xs, s.gd, s.er.set hi h1 r s.gd, fun k xs b m hb ho e s2 => ?_⟩
  have hk : i ≠ k := fun z => by
    rw [cont_app, Bool.or_eq_false_iff, z, hb] at hi
    cases hi.2
  rw [List.getElem?_set_ne hk] at e s2
  exact s.bor k xs b m hb ho e s2
def Gh.cl (G : Gh) (i : Nat) (d : Addr) : Gh := { G with own := fun j => if j = i then some d else G.own j }
theorem Mo.cl {i : Nat} {d : Addr} : Mo G H (G.cl i d) H := ⟨fun _ _ h => h, fun _ _ _ h => h, fun _ _ _ h => h, fun _ h => h, fun _ h => h⟩
/-- a new list becomes own -/
theorem Stp.claim (s : Stp K fa bo ow G0 H0 G H σ env) {i : Nat} {d : Addr} {p0 : P} (hd : H0 d = none) (h : ∃ o, H d = some o ∧ Cont K fa G H p0 o) (n1 : ¬ G.imm d) (n2 : ¬ G.pool d) (n3 : ∀ j, G.own j ≠ some d) (hi : bo.contains i = false) :
    Stp K fa bo (addO ow i true) G0 H0 (G.cl i d) H (σ.set i (some (.ref d))) (env.set i (some p0)) := by
  obtain ⟨vs, hv, rs⟩ := h
  have hc : ∀ j, (addO ow i true).contains j = (ow.contains j || j == i) := fun j => by
    unfold addO
    rw [if_pos rfl]
    split
    · rename_i hh
      cases e : j == i with
      | false => rw [Bool.or_false]
      | true => rw [eq_of_beq e, hh]; rfl
    · rw [List.contains_cons, Bool.or_comm]
  have gg : Good (G.cl i d) H := by
    refine ⟨s.gd.immH, s.gd.immP, s.gd.pool, fun j b h => ?_, fun j l b h1 h2 => ?_⟩
    · have h : (if j = i then some d else G.own j) = some b := h
      split at h
      · cases h
        exact ⟨n1, n2, vs, hv, rs.own⟩
      · exact s.gd.own j b h
    · have h1 : (if j = i then some d else G.own j) = some b := h1
      have h2 : (if l = i then some d else G.own l) = some b := h2
      split at h1 <;> split at h2
      · rw [‹j = i›, ‹l = i›]
      · cases h1; exact absurd h2 (n3 l)
      · cases h2; exact absurd h1 (n3 j)
      · exact s.gd.inj j l b h1 h2
  have kr : ∀ {q : P} {v : V}, RepR K fa G H q v → RepR K fa (G.cl i d) H q v := fun {q v} r => by
    exact r.mv Mo.cl fun a o q n _ _ => ⟨q, n⟩
  refine ⟨⟨s.xs.std, s.xs.there, s.xs.imm, s.xs.pool, s.xs.nimm, s.xs.npool, fun j b h => ?_⟩, gg, ⟨by rw [List.length_set, List.length_set, s.er.len], fun j q e => ?_, fun j oj q e => ?_, fun j xs b m rj oj e sg l z => ?_⟩, fun k xs b m hb ho e s2 => ?_⟩
  · have h : (if j = i then some d else G.own j) = some b := h
    split at h
    · cases h; exact .inr hd
    · exact s.xs.own j b h
  · by_cases hj : i = j
    · subst hj
      by_cases hl : i < env.length
      · rw [List.getElem?_set_self hl] at e
        cases e
        rw [List.getElem?_set_self (by rw [← s.er.len]; exact hl)]
        refine ⟨_, rfl, (Mo.cl.cont rs).r hv n2, fun z => ?_⟩
        rw [cont_app, hc] at z
        simp at z
      · rw [List.getElem?_eq_none (by simpa using hl)] at e; cases e
    · rw [List.getElem?_set_ne hj] at e ⊢
      obtain ⟨v, e2, r1, r2⟩ := s.er.val j q e
      refine ⟨v, e2, kr r1, fun z => Mo.cl.rep (r2 ?_)⟩
      rw [cont_app, hc] at z
      rw [cont_app]
      simp only [Bool.not_eq_true', Bool.or_eq_false_iff] at z ⊢
      exact ⟨z.1.1, z.2⟩
  · by_cases hj : i = j
    · subst hj
      by_cases hl : i < env.length
      · rw [List.getElem?_set_self (by rw [← s.er.len]; exact hl)]
        exact ⟨d, rfl, if_pos rfl⟩
      · rw [List.getElem?_eq_none (by simpa using hl)] at e; cases e
    · rw [List.getElem?_set_ne hj] at e ⊢
      have oj' : ow.contains j = true := by
        rw [hc, Bool.or_eq_true] at oj
        rcases oj with oj | oj
        · exact oj
        · exact absurd (eq_of_beq oj).symm hj
      obtain ⟨b, e2, e3⟩ := s.er.own j oj' q e
      refine ⟨b, e2, ?_⟩
      show (if j = i then some d else G.own j) = some b
      rw [if_neg (Ne.symm hj)]; exact e3
  · have hj : i ≠ j := fun z => by
      rw [hc, ← z] at oj
      simp at oj
    rw [List.getElem?_set_ne hj] at e sg
    have oj' : ow.contains j = false := by
      rw [hc, Bool.or_eq_false_iff] at oj
      exact oj.1
    have rj' : bo.contains j = true := by rw [cont_app, oj, Bool.false_or] at rj; exact rj
    have z : (if l = i then some d else G.own l) = some b := z
    split at z
    · cases z
      exact s.bor j xs d m rj' oj' e sg hd
    · exact s.er.bor j xs b m (by rw [cont_app, rj', Bool.or_true]) oj' e sg l z
  · have hk : i ≠ k := fun z => by rw [z, hb] at hi; cases hi
    rw [List.getElem?_set_ne hk] at e s2
    have ho' : ow.contains k = false := by
      rw [hc, Bool.or_eq_false_iff] at ho
      exact ho.1
    exact s.bor k xs b m hb ho' e s2
theorem addO_false {ow : List Nat} {i : Nat} : addO ow i false = ow := rfl
/-- one store by its kind -/
theorem Stp.one (s : Stp K fa bo ow G0 H0 G H σ env) {i : Nat} {b : Bool} {ks : List Bool} {ps : List P} {p : P} {vs : List V} {old : Addr → Prop} (ho : ∀ a, H0 a ≠ none → old a) (hf : freeK bo ow i b = true) (r : RepsK K fa G H old (b :: ks) (p :: ps) vs) :
    ∃ v r' G' old', vs = v :: r' ∧ Stp K fa bo (addO ow i b) G0 H0 G' H (σ.set i (some v)) (env.set i (some p)) ∧ (∀ a, H0 a ≠ none → old' a) ∧ RepsK K fa G' H old' ks ps r' := by
  cases b with
  | true =>
    obtain ⟨d, r', rfl, n0, h, n1, n2, n3, t⟩ := r
    have hi : bo.contains i = false := by simpa [freeK] using hf
    have hd : H0 d = none := by
      cases e : H0 d with
      | none => rfl
      | some o => exact absurd (ho d (by rw [e]; exact Option.some_ne_none _)) n0
    refine ⟨.ref d, r', G.cl i d, _, rfl, s.claim hd h n1 n2 n3 hi, fun a z => .inl (ho a z), t.own Mo.cl rfl rfl fun d' z q j w => ?_⟩
    have w : (if j = i then some d else G.own j) = some d' := w
    split at w
    · cases w; exact z (.inr rfl)
    · exact q j w
  | false =>
    obtain ⟨v, r', rfl, rp, t⟩ := r
    have hi : (ow ++ bo).contains i = false := by simpa [freeK] using hf
    exact ⟨v, r', G, old, rfl, s.set hi rp, ho, t⟩
theorem freeK_add {i j : Nat} {b1 b2 : Bool} (hij : i ≠ j) (h : freeK bo ow j b2 = true) : freeK bo (addO ow i b1) j b2 = true := by
  cases b2 with
  | true => exact h
  | false =>
    cases b1 with
    | false => exact h
    | true =>
      have h : (!(ow ++ bo).contains j) = true := h
      show (!(addO ow i true ++ bo).contains j) = true
      rw [cont_app] at h ⊢
      unfold addO
      rw [if_pos rfl]
      split
      · exact h
      · rw [List.contains_cons]
        have : (j == i) = false := by simpa using (Ne.symm hij)
        rw [this, Bool.false_or]; exact h
end
end Fw
/-! Fw: raise X(), try: a body that changes no name, except X: return a constant. -/
namespace Fw
open PySem PySem.Spec PyProof.Rows L2
theorem pmk_own0 {X : Cx} {C : Addr} {bmB : List Value} {B newId initId : String} {x : Str} {p pos : Pos} (F : ExcBaseFacts B newId initId bmB) (q : PySem.W.excIn X.K C bmB newId = true) (gC : X.mg x = some (.ref C)) (kC : PySem.W.keepIn X.K (.ref C) = true) (r : Raises X (.ref C)) (hg : Gl X x) (hdb : (x == ("__debug__" : Str)) = false) :
    PMk X (.Call (.Name x p) [] [] pos) (fun _ H Q => Q (.ref C) none H) := by
  intro pins s σ H Q I h
  refine wpAny_Call_Name_kw (ld_glob I hg gC ?_ hdb)
  refine PySem.W.callWith_K0 I.kIn kC ?_
  show wpAny _ _ (call (.ref C) []) _ _ _
  obtain ⟨bm, N, nm, qn, bs, hdct, sn, sub, ab, col, dd, k0, k1, k2, k3, k5, mN, hC, hN, hni, T⟩ := exc_obj I.kIn q
  refine wpAny_call_exc_subT F T hC hN hni (fun h' e hm => ?_) (Nat.zero_le _)
  exact mk_of I hm r h (I.hok.gone hm.new)
section
variable {T : Tab} {D : Ad} {M : Mk} {lv : Nat} {X : Cx} {W : WX} {bo ow owl : List Nat}
theorem SS_raise (n : Nat) (es : List Ex) : SS T D M lv bo (.raise n es) := fun X W ow owl st c h => by
  cases st <;> try (simp [chkS] at h; done)
  rename_i v cause pos
  cases cause with
  | some _ => simp [chkS] at h
  | none =>
  simp only [chkS] at h
  unfold raiseB at h
  split at h
  · rename_i x p cpos
    simp only [Bool.and_eq_true, decide_eq_true_eq] at h
    obtain ⟨⟨⟨h1, h2⟩, h3⟩, h4⟩ := h
    obtain ⟨gl, db⟩ := gl_of h2
    obtain ⟨xf, e1, e2, e3, e4⟩ := c.tok.xr n h3
    refine ps_imp (ps_raise c.calm c.tk (pmk_own0 PySem.F.excBase_ValueError e1 (by rw [h1]; exact c.tok.xg n h4) e2 (raises_own e3 e4) gl db)) ?_
    rintro Dn σ H ⟨G, env, Dp, g, er, hw, k⟩
    exact k.ex n [] _ _ σ H G Xs.refl g ⟨rfl, by rw [xf]⟩ hw
  · cases h
/-! constants in any frame -/
mutual
theorem cB_ok {X : Cx} : ∀ {e : Ex} {v : Expr}, cB e v = true → ∃ p, cval e = some p ∧ PE X v (fun σ H Q => ∃ G, Good G H ∧ ∀ v H' G', Xt G H G' H' → Good G' H' → Rep X.K D.fa G' H' p v → Q v H')
  | .non, .Constant .none _ _, _ => ⟨_, rfl, pe_imp pe_non fun σ H Q ⟨G, g, k⟩ => k .non H G Xt.refl g rfl⟩
  | .bl b, .Constant (.bool c) _ _, h => by
    have e : b = c := by simpa [cB] using h
    subst e
    exact ⟨_, rfl, pe_imp pe_bl fun σ H Q ⟨G, g, k⟩ => k (.bl b) H G Xt.refl g rfl⟩
  | .int n, .Constant (.int m) _ _, h => by
    have e : n = m := by simpa [cB] using h
    subst e
    exact ⟨_, rfl, pe_imp pe_int fun σ H Q ⟨G, g, k⟩ => k (.int n) H G Xt.refl g rfl⟩
  | .str x, .Constant (.str y) _ _, h => by
    have e : x = y := by simpa [cB] using h
    subst e
    exact ⟨_, rfl, pe_imp pe_str fun σ H Q ⟨G, g, k⟩ => k (.str x) H G Xt.refl g rfl⟩
  | .tup es, .Tuple vs _ _, h => by
    simp only [cB, Bool.and_eq_true, decide_eq_true_eq] at h
    obtain ⟨h1, h2⟩ := h
    obtain ⟨ps, e1, hl, r⟩ := cBs_ok (X := X) (es := es) (vs := vs) h1
    refine ⟨.tup ps, by unfold cval; rw [e1]; rfl, pe_imp (pe_tup r) ?_⟩
    rintro σ H Q ⟨G, g, k⟩
    refine ⟨G, g, fun us H1 G1 x1 g1 r1 => ⟨by rw [r1.length, hl, sizeLine_eq]; omega, fun p hp => ?_⟩⟩
    exact k _ _ G1 (x1.trans (Xt.new0 hp _)) (g1.new0 hp _) ⟨p, us, rfl, SqT.of upd_same, ((Xt.new0 hp _).mo g1).reps r1⟩
theorem cBs_ok {X : Cx} : ∀ {es : List Ex} {vs : List Expr}, cBs es vs = true → ∃ ps, cvals es = some ps ∧ ps.length = es.length ∧ PA X vs (fun σ H Q => ∃ G, Good G H ∧ ∀ us H' G', Xt G H G' H' → Good G' H' → Reps X.K D.fa G' H' ps us → Q us H')
  | [], [], _ => ⟨[], rfl, rfl, pa_imp pa_nil fun σ H Q ⟨G, g, k⟩ => k [] H G Xt.refl g rfl⟩
  | x :: xs, e :: es, h => by
    simp only [cBs, Bool.and_eq_true] at h
    obtain ⟨⟨h1, h2⟩, h3⟩ := h
    obtain ⟨p, e1, r1⟩ := cB_ok (X := X) (e := x) (v := e) h1
    obtain ⟨ps, e2, hl, r2⟩ := cBs_ok (X := X) (es := xs) (vs := es) h3
    refine ⟨p :: ps, by unfold cvals; rw [e1, e2], by rw [List.length_cons, List.length_cons, hl], pa_imp (pa_cons r1 r2 (star_cons h2)) ?_⟩
    rintro σ H Q ⟨G, g, k⟩
    refine ⟨G, g, fun v H1 G1 x1 g1 r1 => ⟨G1, g1, fun us H2 G2 x2 g2 r2 => k (v :: us) H2 G2 (x1.trans x2) g2 ⟨v, us, rfl, (x2.mo g1).rep r1, r2⟩⟩⟩
end
/-! statements that change no name: what leaves them leaves at the same slots -/
structure Kon0 (X : Cx) (D : Ad) (W : WX) (bo ow : List Nat) (G : Gh) (H : Hp) (Dp : Ds) (Dn : Ends) (σ : L2.St) (env : Env) : Prop where
  nx : ∀ H' G', Xs G H G' H' → Good G' H' → ER X.K D.fa ow (ow ++ bo) G' H' σ env → Dp.nx env → Dn.nx σ H'
  rt : ∀ v p H' G', Xs G H G' H' → Good G' H' → Rep X.K D.fa G' H' p v → Dp.rt p → Dn.rt v H'
  ex : ∀ c ps cls d H' G', Xs G H G' H' → Good G' H' → XRep X.K D G' H' cls d c ps → Dp.ex c ps → W cls d σ H'
def LfS0 (X : Cx) (D : Ad) (W : WX) (bo ow : List Nat) (w : Env → Ds → Prop) : TS := fun Dn σ H => ∃ G env Dp, Good G H ∧ ER X.K D.fa ow (ow ++ bo) G H σ env ∧ w env Dp ∧ Kon0 X D W bo ow G H Dp Dn σ env
theorem Kon0.xs {G G' : Gh} {H H' : Hp} {Dp : Ds} {Dn : Ends} {σ : L2.St} {env : Env} (x : Xs G H G' H') (k : Kon0 X D W bo ow G H Dp Dn σ env) : Kon0 X D W bo ow G' H' Dp Dn σ env :=
  ⟨fun H2 G2 x2 => k.nx H2 G2 (x.trans x2), fun v p H2 G2 x2 => k.rt v p H2 G2 (x.trans x2), fun c ps cls d H2 G2 x2 => k.ex c ps cls d H2 G2 (x.trans x2)⟩
theorem Kon0.xk {G : Gh} {H : Hp} {Dp : Ds} {Dn : Ends} {σ : L2.St} {env : Env} (k : Kon0 X D W bo ow G H Dp Dn σ env) : Xk X D W G H σ Dp.ex := fun c ps cls d H2 G2 x2 g r q => k.ex c ps cls d H2 G2 x2.s g r q
def St (T : Tab) (D : Ad) (M : Mk) (lv : Nat) (bo : List Nat) (s : Sx) : Prop := tyB s = true → ∀ (X : Cx) (W : WX) (ow owl : List Nat) (st : Stmt), Cok X T D M lv W → chkS T M X.N X.env.scope bo ow owl s st = true → PS X st (LfS0 X D W bo ow (wpS T s))
def Sts (T : Tab) (D : Ad) (M : Mk) (lv : Nat) (bo : List Nat) (ss : List Sx) : Prop := tyBs ss = true → ∀ (X : Cx) (W : WX) (ow owl : List Nat) (sts : List Stmt), Cok X T D M lv W → chkSs T M X.N X.env.scope bo ow owl ss sts = true → PSs X sts (LfS0 X D W bo ow (wpSs T ss))
theorem St_ret (e : Ex) : St T D M lv bo (.ret e) := fun _ X W ow owl st c h => by
  cases st <;> try (simp [chkS] at h; done)
  rename_i v pos
  cases v with
  | none => simp [chkS, retB] at h
  | some v =>
    simp only [chkS, retB, Bool.and_eq_true] at h
    refine ps_imp (ps_ret ((eE [] bo e X W v c h.1.2 (itx_of h.1.1)).1)) ?_
    rintro Dn σ H ⟨G, env, Dp, g, er, hw, k⟩
    refine ⟨G.keep [], env, _, Dp.ex, g.keep [], er.keep g (fun i hi => by cases hi), hw, fun v p H1 G1 x1 g1 r1 q1 => ?_, fun c ps cls d H1 G1 x1 g1 r q => ?_⟩
    · exact k.rt v p H1 G1 ((Xs.keep []).trans x1.s) g1 (r1.2 h.2) q1
    · exact k.ex c ps cls d H1 G1 ((Xs.keep []).trans x1.s) g1 r q
theorem St_expr (e : Ex) : St T D M lv bo (.expr e) := fun _ X W ow owl st c h => by
  cases st <;> try (simp [chkS] at h; done)
  rename_i v pos
  simp only [chkS, Bool.and_eq_true] at h
  refine ps_imp (ps_expr ((eE ow bo e X W v c h.1.2 (itx_of h.1.1)).1) (sw_not (by simpa using h.2))) ?_
  rintro Dn σ H ⟨G, env, Dp, g, er, hw, k⟩
  exact ⟨G, env, _, Dp.ex, g, er, hw, fun v p H1 G1 x1 g1 r1 q1 => k.nx H1 G1 x1.s g1 (er.xt x1 g) q1, k.xk⟩
theorem St_never : St T D M lv bo .never := fun _ X W ow owl st c h => ps_imp ps_never fun Dn σ H ⟨_, _, _, _, _, hw, _⟩ => hw.elim
theorem St_ite {t : Ex} {a b : List Sx} (ha : Sts T D M lv bo a) (hb : Sts T D M lv bo b) : St T D M lv bo (.ite t a b) := fun ty X W ow owl st c h => by
  cases st <;> try (simp [chkS] at h; done)
  rename_i cc p q pos
  simp only [tyB, Bool.and_eq_true] at ty
  simp only [chkS, Bool.and_eq_true] at h
  obtain ⟨⟨⟨⟨⟨⟨h1, h2⟩, h3⟩, h4⟩, h5⟩, h6⟩, h7⟩ := h
  refine ps_imp (ps_if ((eE ow bo t X W cc c h2 (itx_of h1)).2 h3) (ha ty.1 X W ow owl p c h4) (hb ty.2 X W ow owl q c h6)) ?_
  rintro Dn σ H ⟨G, env, Dp, g, er, hw, k⟩
  refine ⟨G, env, _, Dp.ex, g, er, hw, ?_, k.xk⟩
  rintro p1 H1 G1 x1 g1 ⟨cb, e, q1⟩
  refine ⟨cb, e, ?_⟩
  cases cb with
  | true =>
    rw [if_pos rfl] at q1 ⊢
    exact ⟨G1, env, Dp, g1, er.xt x1 g, q1, k.xs x1.s⟩
  | false =>
    rw [if_neg (by decide)] at q1 ⊢
    exact ⟨G1, env, Dp, g1, er.xt x1 g, q1, k.xs x1.s⟩
theorem Sts_nil : Sts T D M lv bo [] := fun _ X W ow owl sts c h => by
  cases sts with
  | cons _ _ => simp [chkSs] at h
  | nil =>
    refine pss_imp pss_nil ?_
    rintro Dn σ H ⟨G, env, Dp, g, er, hw, k⟩
    exact k.nx H G Xs.refl g er hw
theorem Sts_cons {s : Sx} {r : List Sx} (hs : St T D M lv bo s) (hr : Sts T D M lv bo r) : Sts T D M lv bo (s :: r) := fun ty X W ow owl sts c h => by
  simp only [tyBs, Bool.and_eq_true] at ty
  have hf : ∀ i, s ≠ .frz i := fun i e => by subst e; exact absurd ty.1 (by simp [tyB])
  have ho : outS ow s = ow := by
    obtain ⟨ty, _⟩ := ty
    cases s <;> first | rfl | (simp [tyB] at ty; done)
  cases sts with
  | nil =>
    unfold chkSs at h
    cases s <;> first | exact absurd rfl (hf _) | cases h
  | cons st sts =>
    have h : (chkS T M X.N X.env.scope bo ow owl s st && chkSs T M X.N X.env.scope bo (outS ow s) owl r sts) = true := by
      unfold chkSs at h
      cases s <;> first | exact absurd rfl (hf _) | exact h
    rw [Bool.and_eq_true, ho] at h
    refine pss_imp (pss_cons (hs ty.1 X W ow owl st c h.1) (hr ty.2 X W ow owl sts c h.2)) ?_
    rintro Dn σ H ⟨G, env, Dp, g, er, hw, k⟩
    refine ⟨G, env, _, g, er, hw, ⟨fun H' G' x' g' er' q => ?_, k.rt, k.ex⟩⟩
    exact ⟨G', env, Dp, g', er', q, k.xs x'⟩
mutual
theorem all_St : (s : Sx) → St T D M lv bo s
  | .ret e => St_ret e
  | .expr e => St_expr e
  | .never => St_never
  | .ite t a b => St_ite (all_Sts a) (all_Sts b)
  | .retN | .asg _ _ | .own _ _ | .par _ _ | .retP _ | .for_ _ _ _ | .whl _ _ | .pass | .brk | .cnt | .raise _ _ | .app _ _ | .frz _ | .seti _ _ _ | .setd _ _ _ | .ext _ _ | .try_ _ _ => fun ty => by simp [tyB] at ty
theorem all_Sts : (ss : List Sx) → Sts T D M lv bo ss
  | [] => Sts_nil
  | s :: r => Sts_cons (all_St s) (all_Sts r)
end
/-- the clauses' readings -/
def hdV (T : Tab) (D : Ad) (K : PySem.W.Frag) : List Hd → List (Value × (Addr → Value → Option Addr → TS))
  | [] => []
  | .ret c e :: r => (.ref (D.xa c), fun _ _ _ => tRet (fun _ H Q => ∃ p, cval e = some p ∧ ∃ G, Good G H ∧ ∀ v H' G', Xt G H G' H' → Good G' H' → Rep K D.fa G' H' p v → Q v H')) :: hdV T D K r
  | .fld c _ _ :: r => (.ref (D.xa c), fun _ _ _ _ _ _ => False) :: hdV T D K r
theorem hdsB_ret {n : Nat} {e : Ex} {r : List Hd} {hds : List ExceptHandler} {sc : Scope} (h : hdsB T M sc (.ret n e :: r) hds = true) :
    ∃ x np v pos pos2 hs2, hds = .ExceptHandler (some (.Name x np)) none [.Return (some v) pos] pos2 :: hs2 ∧ x = T.xn n ∧ glB sc x = true ∧ n < M.nx ∧ cB e v = true ∧ hdsB T M sc r hs2 = true := by
  unfold hdsB at h
  split at h
  · rename_i e2
    cases e2
  · rename_i e2
    cases e2
    simp only [Bool.and_eq_true, decide_eq_true_eq] at h
    obtain ⟨⟨⟨⟨h1, h2⟩, h3⟩, h4⟩, h5⟩ := h
    exact ⟨_, _, _, _, _, _, rfl, h1, h2, h3, h4, h5⟩
  · cases h
theorem hds_ok (c : Cos X T D M lv W) : ∀ {hs : List Hd} {hds : List ExceptHandler}, hdsB T M X.env.scope hs hds = true → HdsOk X hds (hdV T D X.K hs)
  | [], [], _ => .nil
  | [], _ :: _, h => by simp [hdsB] at h
  | .fld _ _ _ :: _, hds, h => by cases hds <;> simp [hdsB] at h
  | .ret n e :: r, hds, h => by
    obtain ⟨x, np, v, pos, pos2, hs2, rfl, h1, h2, h3, h4, h5⟩ := hdsB_ret h
    obtain ⟨gl, db⟩ := gl_of h2
    refine .cons ⟨gl, db, .inl (by rw [h1]; exact c.tok.xg n h3)⟩ (fun a oe cls d pn _ _ => ?_) (hds_ok c h5)
    obtain ⟨p, ep, r⟩ := cB_ok (D := D) (X := X.suite a ((a, oe) :: pn)) h4
    exact pss_one (ps_imp (ps_ret r) fun Dn σ H ⟨p', e', G, g, k⟩ => by
      rw [ep] at e'
      cases e'
      exact ⟨G, g, k⟩)
theorem SS_try {b : List Sx} {hs : List Hd} : SS T D M lv bo (.try_ b hs) := fun X W ow owl st c h => by
  cases st <;> try (simp [chkS] at h; done)
  rename_i body hds els fin pos
  cases els with
  | cons _ _ => simp [chkS] at h
  | nil =>
  cases fin with
  | cons _ _ => simp [chkS] at h
  | nil =>
  simp only [chkS, Bool.and_eq_true] at h
  obtain ⟨⟨⟨h1, h2⟩, h3⟩, h4⟩ := h
  cases hds with
  | nil => simp at h4
  | cons h0 hds =>
  refine ps_imp (ps_try_many c.stk c.frm c.tk (tb := fun W' => LfS0 X D W' bo ow (wpSs T b)) (fun W' pn xe tk' _ => pss_imp (all_Sts b h1 (X.tr pn xe) W' ow owl body ⟨c.tok, c.nd, c.room, c.calm, tk'⟩ h2) fun Dn σ H ⟨G, env, Dp, g, er, hw, k⟩ => ⟨G, env, Dp, g, er, hw, ⟨k.nx, k.rt, k.ex⟩⟩) (hds_ok c h3)) ?_
  rintro Dn σ H ⟨G, env, Dp, g, er, hw, k⟩
  refine ⟨G, env, _, g, er, hw, ⟨fun H' G' x' g' er' q => k.nx σ env H' G' x' g' er' q, k.rt, fun n ps cls d H' G' x' g' r q => ?_⟩⟩
  have go : ∀ (hs : List Hd) (hds : List ExceptHandler), hdsB T M X.env.scope hs hds = true → hdP T Dp n ps hs → wMany X.K W Dn (hdV T D X.K hs) cls d σ H' := by
    intro hs
    induction hs with
    | nil => exact fun _ _ q => k.ex n ps cls d σ H' G' x' g' r q
    | cons h0 hs ih =>
      intro hds hh q
      cases h0 with
      | ret n2 e =>
        obtain ⟨b, eb, q⟩ := q
        refine ⟨b, by rw [r.1]; exact c.tok.xs n n2 b eb, fun hb a na => ?_, fun hb => ?_⟩
        · rw [if_pos hb] at q
          obtain ⟨p, ep, q⟩ := q
          exact ⟨p, ep, G', g', fun v H2 G2 x2 g2 r2 => k.rt v p H2 G2 (x'.trans x2.s) g2 r2 q⟩
        · rw [if_neg (by rw [hb]; decide)] at q
          obtain ⟨x, np, v, pos, pos2, hs2, rfl, h1, h2, h3, h4, h5⟩ := hdsB_ret hh
          exact ih _ h5 q
      | fld n2 i tag =>
        cases hds <;> simp [hdsB] at hh
  exact go hs _ h3 q
end
end Fw
/-! Fw: statements are sound: loops, blocks. -/
namespace Fw
open PySem PySem.Spec PyProof.Rows L2
section
variable {T : Tab} {D : Ad} {M : Mk} {lv : Nat} {X : Cx} {W : WX} {bo ow ow' owl : List Nat}
theorem SS_never : SS T D M lv bo .never := fun X W ow owl st c h => ps_imp ps_never fun Dn σ H ⟨_, _, _, _, _, hw, _⟩ => hw.elim
theorem SS_pass : SS T D M lv bo .pass := fun X W ow owl st c h => by
  cases st <;> try (simp [chkS] at h; done)
  refine ps_imp ps_pass ?_
  rintro Dn σ H ⟨G, env, Dp, g, er, hw, k⟩
  exact k.nx σ env H G Xs.refl g er hw
theorem SS_brk : SS T D M lv bo .brk := fun X W ow owl st c h => by
  cases st <;> try (simp [chkS] at h; done)
  simp only [chkS] at h
  refine ps_imp ps_break ?_
  rintro Dn σ H ⟨G, env, Dp, g, er, hw, k⟩
  exact k.bk σ env H _ (Xs.keep owl) (g.keep owl) (er.keep g (subB_of h)) hw
theorem SS_cnt : SS T D M lv bo .cnt := fun X W ow owl st c h => by
  cases st <;> try (simp [chkS] at h; done)
  simp only [chkS] at h
  refine ps_imp ps_continue ?_
  rintro Dn σ H ⟨G, env, Dp, g, er, hw, k⟩
  exact k.ct σ env H _ (Xs.keep owl) (g.keep owl) (er.keep g (subB_of h)) hw
theorem SS_expr (e : Ex) : SS T D M lv bo (.expr e) := fun X W ow owl st c h => by
  cases st <;> try (simp [chkS] at h; done)
  rename_i v pos
  simp only [chkS, Bool.and_eq_true] at h
  refine ps_imp (ps_expr ((eE ow bo e X W v c.toCok h.1.2 (itx_of h.1.1)).1) (sw_not (by simpa using h.2))) ?_
  rintro Dn σ H ⟨G, env, Dp, g, er, hw, k⟩
  exact ⟨G, env, _, Dp.ex, g, er, hw, fun v p H1 G1 x1 g1 r1 q1 => k.nx σ env H1 G1 x1.s g1 (er.xt x1 g) q1, k.xk σ⟩
theorem SS_ite {t : Ex} {a b : List Sx} (ha : SSs T D M lv bo a) (hb : SSs T D M lv bo b) : SS T D M lv bo (.ite t a b) := fun X W ow owl st c h => by
  cases st <;> try (simp [chkS] at h; done)
  rename_i cc p q pos
  simp only [chkS, Bool.and_eq_true] at h
  obtain ⟨⟨⟨⟨⟨⟨h1, h2⟩, h3⟩, h4⟩, h5⟩, h6⟩, h7⟩ := h
  refine ps_imp (ps_if ((eE ow bo t X W cc c.toCok h2 (itx_of h1)).2 h3) (pss_imp (ha X W ow owl p c h4) (lfs_keep (subB_of h5))) (pss_imp (hb X W ow owl q c h6) (lfs_keep (subB_of h7)))) ?_
  rintro Dn σ H ⟨G, env, Dp, g, er, hw, k⟩
  refine ⟨G, env, _, Dp.ex, g, er, hw, ?_, k.xk σ⟩
  rintro p1 H1 G1 x1 g1 ⟨cb, e, q1⟩
  refine ⟨cb, e, ?_⟩
  cases cb with
  | true =>
    rw [if_pos rfl] at q1 ⊢
    exact ⟨G1, env, Dp, g1, er.xt x1 g, q1, k.xs x1.s⟩
  | false =>
    rw [if_neg (by decide)] at q1 ⊢
    exact ⟨G1, env, Dp, g1, er.xt x1 g, q1, k.xs x1.s⟩
theorem SS_whl {t : Ex} {b : List Sx} (hb : SSs T D M lv bo b) : SS T D M lv bo (.whl t b) := fun X W ow owl st c h => by
  cases st <;> try (simp [chkS] at h; done)
  rename_i cc body els pos
  cases els with
  | cons _ _ => simp [chkS] at h
  | nil =>
  simp only [chkS, Bool.and_eq_true] at h
  obtain ⟨⟨⟨⟨⟨h1, h2⟩, h3⟩, h4⟩, h5⟩, _⟩ := h
  refine ps_imp (ps_while c.own ((eE ow bo t X W cc c.toCok h2 (itx_of h1)).2 h3) (pss_imp (hb X W ow ow body c h4) (lfs_keep (subB_of h5)))) ?_
  rintro Dn σ H ⟨G, env, Dp, g, er, ⟨Wp, ⟨m0, w0⟩, turn⟩, k⟩
  refine ⟨fun m σ' H' => ∃ G' env', Xs G H G' H' ∧ Good G' H' ∧ ER X.K D.fa ow (ow ++ bo) G' H' σ' env' ∧ Wp m env', ⟨m0, G, env, Xs.refl, g, er, w0⟩, ?_⟩
  rintro m σ' H' ⟨G', env', x', g', er', w'⟩
  have hw := turn m env' w'
  refine ⟨G', env', _, Dp.ex, g', er', hw, ?_, (k.xs x').xk σ'⟩
  rintro p1 H1 G1 x1 g1 ⟨cb, e, q1⟩
  refine ⟨cb, e, ?_⟩
  have x2 := x'.trans x1.s
  cases cb with
  | true =>
    rw [if_pos rfl] at q1
    refine (if_pos rfl).mpr ?_
    refine ⟨fun σ2 H2 => ∃ m', m' < m ∧ ∃ G2 env2, Xs G H G2 H2 ∧ Good G2 H2 ∧ ER X.K D.fa ow (ow ++ bo) G2 H2 σ2 env2 ∧ Wp m' env2, fun σ2 H2 q => q, ?_⟩
    refine ⟨G1, env', _, g1, er'.xt x1 g', q1, ⟨?_, ?_, ?_, ?_, ?_⟩⟩
    · rintro σ2 env2 H2 G2 x3 g2 er2 ⟨m', lt, q⟩
      exact ⟨m', lt, G2, env2, x2.trans x3, g2, er2, q⟩
    · intro σ2 env2 H2 G2 x3 g2 er2 q
      exact k.nx σ2 env2 H2 G2 (x2.trans x3) g2 er2 q
    · rintro σ2 env2 H2 G2 x3 g2 er2 ⟨m', lt, q⟩
      exact ⟨m', lt, G2, env2, x2.trans x3, g2, er2, q⟩
    · exact (k.xs x2).rt
    · exact (k.xs x2).ex
  | false =>
    rw [if_neg (by decide)] at q1
    refine (if_neg (by decide)).mpr ?_
    exact k.nx σ' env' H1 G1 x2 g1 (er'.xt x1 g') q1
theorem SS_for {t : Tg} {it : Ex} {b : List Sx} (hb : SSs T D M lv bo b) : SS T D M lv bo (.for_ t it b) := fun X W ow owl st c h => by
  cases st <;> try (simp [chkS] at h; done)
  rename_i tg iter body els pos
  cases els with
  | cons _ _ => simp [chkS] at h
  | nil =>
  simp only [chkS, Bool.and_eq_true] at h
  obtain ⟨⟨⟨⟨⟨⟨⟨h1, h2⟩, h3⟩, h4⟩, h5⟩, h6⟩, h7⟩, _⟩ := h
  have hnt : needT it = true → ∃ es k p, tg = .Tuple es k p := fun z => by
    rw [z] at h5
    exact isTT_tup h3 (by simpa using h5)
  refine ps_imp (ps_for c.own c.calm (eI ow bo it X W iter tg c.toCok h1 h2 hnt) (tg_ok (X := X) (fl := fun _ => true) c.nd c.calm (fun x _ => c.fn x) h3) (pss_imp (hb X W ow ow body c h6) (lfs_keep (subB_of h7))) (fold_plain h1 X.env)) ?_
  rintro Dn σ H ⟨G, env, Dp, g, er, hw, k⟩
  refine ⟨G, env, _, Dp.ex, g, er, hw, ?_, k.xk σ⟩
  rintro J p H1 G1 x1 g1 ⟨xs, ex, hgo⟩
  refine ⟨xs, ex, fun wk => ?_⟩
  refine ⟨fun i m σ2 H2 => m = xs.length - i ∧ i ≤ xs.length ∧ ∃ G2 env2, Xs G1 H1 G2 H2 ∧ Good G2 H2 ∧ ER X.K D.fa ow (ow ++ bo) G2 H2 σ2 env2 ∧
    forGo (fun x env k => bindT t x env fun env' => wpSs T b env' { Dp with nx := k, ct := k, bk := Dp.nx }) (xs.drop i) env2 Dp.nx, ?_, ?_⟩
  · refine ⟨xs.length, by simp, Nat.zero_le _, G1, env, Xs.refl, g1, er.xt x1 g, ?_⟩
    rw [List.drop_zero]
    exact hgo
  · rintro i m σ2 H2 ⟨rfl, hi2, G2, env2, x2, g2, er2, go⟩
    have mo2 := x2.mo g1
    by_cases hlt : i < xs.length
    · refine .inr ⟨wk.goes i G2 H2 mo2 hlt, fun σ' H' => i + 1 ≤ xs.length ∧ ∃ G2 env2, Xs G1 H1 G2 H' ∧ Good G2 H' ∧ ER X.K D.fa ow (ow ++ bo) G2 H' σ' env2 ∧
        forGo (fun x env k => bindT t x env fun env' => wpSs T b env' { Dp with nx := k, ct := k, bk := Dp.nx }) (xs.drop (i + 1)) env2 Dp.nx, fun σ' H' q => ⟨xs.length - (i + 1), by omega, rfl, q⟩, fun v H3 y => ?_⟩
      obtain ⟨p3, hp3, x3, g3, r3⟩ := wk.yields i G2 H2 v H3 hlt mo2 g2 y
      have hdr : xs.drop i = p3 :: xs.drop (i + 1) := by
        have e1 : xs[i] = p3 := by
          rw [List.getElem?_eq_getElem hlt] at hp3
          exact Option.some.inj hp3
        rw [← e1]
        exact List.drop_eq_getElem_cons hlt
      rw [hdr] at go
      refine bind_ok (sub_app ow bo) g3 h4 (er2.xt x3 g2) r3 go fun σ4 env4 H4 x4 g4 er4 q4 _ => ?_
      have x14 := x2.trans (x3.trans x4).s
      refine ⟨G2, env4, _, g4, er4, q4, ⟨?_, ?_, ?_, ?_, ?_⟩⟩
      · intro σ5 env5 H5 G5 x5 g5 er5 q
        exact ⟨by omega, G5, env5, x14.trans x5, g5, er5, q⟩
      · intro σ5 env5 H5 G5 x5 g5 er5 q
        exact k.nx σ5 env5 H5 G5 (x1.s.trans (x14.trans x5)) g5 er5 q
      · intro σ5 env5 H5 G5 x5 g5 er5 q
        exact ⟨by omega, G5, env5, x14.trans x5, g5, er5, q⟩
      · exact (k.xs (x1.s.trans x14)).rt
      · exact (k.xs (x1.s.trans x14)).ex
    · have e : i = xs.length := by omega
      subst e
      refine .inl ⟨wk.stops G2 H2 mo2, ?_⟩
      rw [List.drop_length] at go
      exact k.nx σ2 env2 H2 G2 (x1.s.trans x2) g2 er2 go
theorem SS_own (i : Nat) (e : Ex) : SS T D M lv bo (.own i e) := fun X W ow owl st c h => by
  cases st <;> try (simp [chkS] at h; done)
  rename_i tgs v pos
  simp only [chkS] at h
  unfold ownB at h
  split at h
  · rename_i x px
    simp only [Bool.and_eq_true, decide_eq_true_eq, beq_iff_eq, Bool.not_eq_true'] at h
    obtain ⟨⟨⟨⟨⟨⟨h1, h2⟩, h3⟩, h4⟩, h5⟩, h6⟩, h7⟩ := h
    have fin : ∀ {Dn : Ends} {σ : L2.St} {H : Hp}, LfS X D W bo ow (outS ow (.own i e)) owl (wpS T (.own i e)) Dn σ H → tAsg (LfF X D W ow (ow ++ bo) (wpE T e)) (gName i) Dn σ H := by
      rintro Dn σ H ⟨G, env, Dp, g, er, hw, k⟩
      refine ⟨G, env, _, Dp.ex, g, er, hw, fun d ps H1 G1 x1 g1 fr q1 => ?_, k.xk σ⟩
      have st := (Stp.start g er x1 g1).claim (i := i) fr.new fr.rep fr.n1 fr.n2 fr.n3 h6
      refine k.nx _ _ _ _ st.xs st.gd ?_ q1
      have e : outS ow (.own i e) = addO ow i true := by unfold addO; rw [if_pos rfl]; rfl
      rw [e]; exact st.er
    rw [Bool.or_eq_true] at h7
    rcases h7 with h7 | h7
    · refine ps_imp (ps_set c.nd h4 (.inl h5) (SF_all (sub_app ow bo) e X W v c.toCok h2 h3) (sw_not (by simpa using h7)) (.inr h5)) fun Dn σ H q => fin q
    · unfold lcAsgB at h7
      split at h7
      · rename_i i' y py elt gens scope p2 et1 et2
        cases et1
        cases et2
        simp only [Bool.and_eq_true, beq_iff_eq, Bool.not_eq_true'] at h7
        obtain ⟨⟨h8, h9⟩, h10⟩ := h7
        cases e <;> try (simp [chkE] at h2; done)
        rename_i elt' tg' it' ifs' own'
        match gens, h2 with
        | [⟨tg2, it2, ifs2, as⟩], h4' =>
          simp only [chkE, Bool.and_eq_true, decide_eq_true_eq] at h4'
          obtain ⟨⟨⟨⟨⟨⟨⟨⟨⟨⟨⟨⟨⟨c0, c1⟩, c2⟩, c3⟩, c4⟩, c5⟩, c6⟩, c7⟩, c8, c9⟩, c10⟩, c11⟩, c12⟩, c13⟩, c14⟩ := h4'
          subst c0
          have hnt : needT it' = true → ∃ es k p, tg2 = .Tuple es k p := fun z => by
            rw [z] at c5
            exact isTT_tup c3 (by simpa using c5)
          have hb := blkOk_by c6
          have hps : PS X (.Assign [.Name x px] (.ListComp elt [⟨tg2, it2, ifs2, 0⟩] scope p2) pos) (tAsg (tLc (LfI X D W ow (ow ++ bo) (wpE T it')) (gTg X.K tg') (tIfs X D ow (ow ++ bo) T ifs') (Lf X D (fun _ _ _ _ => False) ow (ow ++ bo) (full (ow ++ bo) elt') (wpE T elt')) ((ownOf X.N own').map (·.2))) (gName i)) := ps_setLc (X := X) (spos := pos) (py := px) c.calm c.nd h4 h8 (sw_true c.kind h8 (by simpa using h9) h10) (eI ow bo it' X W it2 tg2 c.toCok c1 c2 hnt) hb
            (fun s H C cl fp => tg_ok (X := X.blk s H scope (compEnvC scope cl C X.env) fp) (fl := fun x => scope.names.lookup x == some .cell) c.nd c.calm (fun x hx => hx) c3)
            (fun s H C cl fp => ifs_ok (X := X.blk s H scope (compEnvC scope cl C X.env) fp) (fun x _ => eE ow bo x) (c.toCok.blk s H scope cl C fp) c11 c12 c13 rfl)
            (fun s H C cl fp => (eE ow bo elt' (X.blk s H scope (compEnvC scope cl C X.env) fp) _ elt (c.toCok.blk s H scope cl C fp) c9 (itx_of c8)).1)
            (fold_plain c1 X.env)
          rw [c7] at hps
          refine ps_imp hps ?_
          intro Dn σ H q
          obtain ⟨G, env, Qp, Ep, g, er, hw, k, kx⟩ := fin q
          exact lc_readF (sub_app ow bo) c4 c10 c12 c14 σ H _ ⟨G, env, Qp, Ep, g, er, hw, k, kx⟩
        | [], h4' => simp [chkE] at h4'
        | _ :: _ :: _, h4' => simp [chkE] at h4'
      · cases h7
  · cases h
/-- two local names at once -/
theorem ER.set2 {K : PySem.W.Frag} {fa : Nat → Addr} {G : Gh} {H : Hp} {σ : L2.St} {env : Env} {ro : List Nat} (hsub : ∀ i, ow.contains i = true → ro.contains i = true) (er : ER K fa ow ro G H σ env) {i : Nat} {p : P} {v : V} (hi : ro.contains i = false) (r : Rep K fa G H p v) (g : Good G H) :
    ER K fa ow ro G H (σ.set i (some v)) (env.set i (some p)) := er.set hi (by
      cases q : ow.contains i with
      | false => rfl
      | true => rw [hsub i q] at hi; cases hi) r g
theorem par2_swapped {x y : Str} {px py pt pt2 : Pos} {kt k2 : Nat} {u v : Expr} {env : PySem.Env} (hk : env.scope.kind = .function) (h1 : env.scope.names.lookup x = some .local) (h2 : env.scope.names.lookup y = some .local) (hl : px.line = py.line)
    (hf : [u, v].all (foldedForSure 8) = false) (hc : [u, v].all (constantsAlone 8) = false) (hxy : (x == y) = false) (s1 : noStar u = true) (s2 : noStar v = true) :
    swappedStores [.Tuple [.Name x px, .Name y py] kt pt] (.Tuple [u, v] k2 pt2) env = pure (some [x, y]) := by
  have hb : env.blockKind = .function := by unfold PySem.Env.blockKind; rw [hk]; rfl
  have k1 : env.kindOf x = some .local := h1
  have k2 : env.kindOf y = some .local := h2
  have st : ∀ {e : Expr}, noStar e = true → (match e with | .Starred .. => true | _ => false) = false := by
    intro e h; cases e <;> first | rfl | cases h
  have n : (y == x) = false := by rw [BEq.comm]; exact hxy
  have hd : ([x, y].eraseDups).length = 2 := by
    simp [List.eraseDups_cons, n]
  unfold swappedStores
  simp only [hb, hf, hc, List.any_cons, List.any_nil, st s1, st s2, List.filterMap_cons, List.filterMap_nil, k1, k2, List.head?_cons, Option.map_some, Option.getD_some, Expr.pos, hl, hd, List.length_cons, List.length_nil]
  simp
  rw [if_neg, if_pos]
  · simp [List.eraseDups_cons, n]
  · intro h
    rcases h with h | h
    · split at h
      · cases s1
      · cases h
    · split at h
      · cases s2
      · cases h
theorem par3_swapped {x y z : Str} {px py pz pt pt2 : Pos} {kt k2 : Nat} {u v w : Expr} {env : PySem.Env} (hk : env.scope.kind = .function) (h1 : env.scope.names.lookup x = some .local) (h2 : env.scope.names.lookup y = some .local) (h3 : env.scope.names.lookup z = some .local) (hl : px.line = py.line) (hl2 : px.line = pz.line)
    (hf : [u, v, w].all (foldedForSure 8) = false) (hc : [u, v, w].all (constantsAlone 8) = false) (hxy : (x == y) = false) (hxz : (x == z) = false) (hyz : (y == z) = false) (s1 : noStar u = true) (s2 : noStar v = true) (s3 : noStar w = true) :
    swappedStores [.Tuple [.Name x px, .Name y py, .Name z pz] kt pt] (.Tuple [u, v, w] k2 pt2) env = pure (some [x, y, z]) := by
  have hb : env.blockKind = .function := by unfold PySem.Env.blockKind; rw [hk]; rfl
  have k1 : env.kindOf x = some .local := h1
  have k2 : env.kindOf y = some .local := h2
  have k3 : env.kindOf z = some .local := h3
  have n1 : (y == x) = false := by rw [BEq.comm]; exact hxy
  have n2 : (z == x) = false := by rw [BEq.comm]; exact hxz
  have n3 : (z == y) = false := by rw [BEq.comm]; exact hyz
  unfold swappedStores
  simp only [hb, hf, hc, List.any_cons, List.any_nil, List.filterMap_cons, List.filterMap_nil, k1, k2, k3, List.head?_cons, Option.map_some, Option.getD_some, Expr.pos, ← hl, ← hl2, List.length_cons, List.length_nil]
  simp
  rw [if_neg, if_pos]
  · simp [List.eraseDups_cons, n1, n2, n3]
  · intro h
    rcases h with h | h | h
    · split at h
      · cases s1
      · cases h
    · split at h
      · cases s2
      · cases h
    · split at h
      · cases s3
      · cases h
theorem par2_none {x y : Str} {px py pt pt2 : Pos} {kt k2 : Nat} {u v : Expr} {env : PySem.Env} (hk : env.scope.kind = .function) (h12 : env.scope.names.lookup x = some .local ∧ env.scope.names.lookup y = some .cell ∨ env.scope.names.lookup x = some .cell ∧ env.scope.names.lookup y = some .local) (s1 : noStar u = true) (s2 : noStar v = true) :
    swappedStores [.Tuple [.Name x px, .Name y py] kt pt] (.Tuple [u, v] k2 pt2) env = pure none := by
  have hb : env.blockKind = .function := by unfold PySem.Env.blockKind; rw [hk]; rfl
  have kc : (some NameKind.cell == some NameKind.local) = false := by decide
  rcases h12 with ⟨h1, h2⟩ | ⟨h1, h2⟩
  all_goals
    have k1 : env.kindOf x = _ := h1
    have k2 : env.kindOf y = _ := h2
    unfold swappedStores
    simp only [hb, List.any_cons, List.any_nil, List.filterMap_cons, List.filterMap_nil, k1, k2, kc, List.head?_cons, Option.map_some, Option.getD_some, Expr.pos, List.length_cons, List.length_nil]
    simp
    all_goals (intro _ _ h; exfalso; revert h; by_cases hl : py.line = px.line <;> simp [hl])
theorem RepsK.ext {K : PySem.W.Frag} {fa : Nat → Addr} {G : Gh} {H H' : Hp} (g : Good G H) (x : Xt G H G H') : ∀ {ks : List Bool} {ps : List P} {vs : List V} {old : Addr → Prop}, RepsK K fa G H old ks ps vs → RepsK K fa G H' old ks ps vs
  | true :: ks, p :: ps, vs, old, ⟨d, r, e1, n0, ⟨ws, e3, e4⟩, n1, n2, n3, t⟩ => ⟨d, r, e1, n0, ⟨ws, x.std d _ e3 n2, (x.mo g).cont e4⟩, n1, n2, n3, RepsK.ext g x t⟩
  | false :: ks, p :: ps, vs, old, ⟨v, r, e1, rp, t⟩ => ⟨v, r, e1, (x.mo g).rep rp, RepsK.ext g x t⟩
  | [], [], vs, old, h => h
  | [], _ :: _, _, _, h => False.elim h
  | true :: _, [], _, _, h => False.elim h
  | false :: _, [], _, _, h => False.elim h
theorem SS_par (is : List (Nat × Bool)) (es : List Ex) : SS T D M lv bo (.par is es) := fun X W ow owl st c h => by
  cases st <;> try (simp [chkS] at h; done)
  rename_i tgs v pos
  simp only [chkS] at h
  unfold parB at h
  split at h
  · rename_i i b1 j b2
    rw [Bool.or_eq_true] at h
    rcases h with h | h
    · unfold par2B at h
      split at h
      · rename_i x px y py kt pt u v k2 pt2
        simp only [Bool.and_eq_true, decide_eq_true_eq, beq_iff_eq, Bool.not_eq_true'] at h
        obtain ⟨⟨⟨⟨⟨⟨⟨⟨⟨⟨⟨⟨⟨⟨h1, h2⟩, h3⟩, h4⟩, h5⟩, h6⟩, h7⟩, h8⟩, h9⟩, h10⟩, h11⟩, h12⟩, h13⟩, h14⟩, h15⟩ := h
        refine ps_imp (ps_par c.calm c.nd h1 h2 h3 h4 h5 (S_argsK (sub_app ow bo) c.toCok h11 h10) (par2_swapped c.kind h4 h5 h6 h7 h8 h9 h14 h15) (by rfl)) ?_
        rintro Dn σ H ⟨G, env, Dp, g, er, hw, k⟩
        refine ⟨G, env, _, Dp.ex, g, er, hw, fun us ps H1 G1 x1 g1 r1 q1 => ?_, k.xk σ⟩
        have hn := r1.len
        match ps, us, hn.1, r1, q1 with
        | [p, q], us, _, r1, q1 =>
          have s0 := Stp.start g er x1 g1
          obtain ⟨v1, us1, G2, o2, rfl, s1, ho1, t1⟩ := s0.one (i := i) (fun a z => z) h12 r1
          obtain ⟨v2, us2, G3, o3, rfl, s2, ho2, t2⟩ := s1.one (i := j) ho1 (freeK_add h3 h13) t1
          cases (show us2 = [] from t2)
          exact ⟨v1, v2, rfl, k.nx _ _ _ _ s2.xs s2.gd s2.er q1⟩
      · cases h
    · unfold par2C at h
      split at h
      · rename_i x px y py kt pt u v k2 pt2
        simp only [Bool.and_eq_true, decide_eq_true_eq, beq_iff_eq, Bool.not_eq_true'] at h
        obtain ⟨⟨⟨⟨⟨⟨⟨⟨h1, h3⟩, h4⟩, h10⟩, h11⟩, h12⟩, h13⟩, h14⟩, h15⟩ := h
        have h4 : X.env.scope.names.lookup x = some .local ∧ X.env.scope.names.lookup y = some .cell ∨ X.env.scope.names.lookup x = some .cell ∧ X.env.scope.names.lookup y = some .local := by
          simpa only [Bool.or_eq_true, Bool.and_eq_true, beq_iff_eq] using h4
        refine ps_imp (ps_asg (pe_tup (S_argsK (sub_app ow bo) c.toCok h11 h10)) (tg_ok (X := X) (fl := fun _ => true) c.nd c.calm (fun x _ => c.fn x) h1) (by rfl) (par2_none c.kind h4 h14 h15)) ?_
        rintro Dn σ H ⟨G, env, Dp, g, er, hw, k⟩
        refine ⟨G, env, _, Dp.ex, g, er, hw, fun us ps H1 G1 x1 g1 r1 q1 => ?_, k.xk σ⟩
        have hn := r1.len
        refine ⟨by rw [hn.2, sizeLine_eq]; simp, fun a ha => ?_⟩
        have x2 : Xt G1 H1 G1 (upd H1 a (.tup us)) := Xt.new0 ha _
        have g2 := g1.new0 ha (.tup us)
        match ps, us, hn.1, hn.2, r1, q1, x2, g2 with
        | [p, q], us, _, h2us, r1, q1, x2, g2 =>
          have s0 := Stp.start g er (x1.trans x2) g2
          obtain ⟨v1, us1, G2, o2, e1, s1, ho1, t1⟩ := s0.one (i := i) (fun a z => z) h12 (r1.ext g1 x2)
          obtain ⟨v2, us2, G3, o3, e2, s2, ho2, t2⟩ := s1.one (i := j) ho1 (freeK_add h3 h13) t1
          cases (show us2 = [] from t2)
          subst e2
          subst e1
          exact ⟨a, _, rfl, SqT.of upd_same, rfl, _, _, rfl, _, _, rfl, rfl, k.nx _ _ _ _ s2.xs s2.gd s2.er q1⟩
      · cases h
  · rename_i i b1 j b2 l b3
    unfold par3B at h
    split at h
    · rename_i x px y py z pz kt pt u v w k2 pt2
      simp only [Bool.and_eq_true, decide_eq_true_eq, beq_iff_eq, Bool.not_eq_true'] at h
      obtain ⟨⟨⟨⟨⟨⟨⟨⟨⟨⟨⟨⟨⟨⟨⟨⟨⟨⟨⟨⟨⟨⟨⟨h1, h2⟩, h3⟩, i1⟩, i2⟩, i3⟩, h4⟩, h5⟩, h55⟩, h6⟩, h66⟩, h7⟩, h8⟩, n1⟩, n2⟩, n3⟩, h10⟩, h11⟩, h12⟩, h13⟩, h133⟩, h14⟩, h15⟩, h16⟩ := h
      refine ps_imp (ps_par3 c.calm c.nd h1 h2 h3 i1 i2 i3 h4 h5 h55 (S_argsK (sub_app ow bo) c.toCok h11 h10) (par3_swapped c.kind h4 h5 h55 h6 h66 h7 h8 n1 n2 n3 h14 h15 h16) (by rfl)) ?_
      rintro Dn σ H ⟨G, env, Dp, g, er, hw, k⟩
      refine ⟨G, env, _, Dp.ex, g, er, hw, fun us ps H1 G1 x1 g1 r1 q1 => ?_, k.xk σ⟩
      have hn := r1.len
      match ps, us, hn.1, r1, q1 with
      | [p, q, o], us, _, r1, q1 =>
        have s0 := Stp.start g er x1 g1
        obtain ⟨v1, us1, G2, o2, rfl, s1, ho1, t1⟩ := s0.one (i := i) (fun a z => z) h12 r1
        obtain ⟨v2, us2, G3, o3, rfl, s2, ho2, t2⟩ := s1.one (i := j) ho1 (freeK_add i1 h13) t1
        obtain ⟨v3, us3, G4, o4, rfl, s3, ho3, t3⟩ := s2.one (i := l) ho2 (freeK_add i3 (freeK_add i2 h133)) t2
        cases (show us3 = [] from t3)
        exact ⟨v1, v2, v3, rfl, k.nx _ _ _ _ s3.xs s3.gd s3.er q1⟩
    · cases h
  · cases h
theorem app_set {K : PySem.W.Frag} {fa : Nat → Addr} {G : Gh} {H : Hp} {σ : L2.St} {env : Env} {i : Nat} {a : Addr} {ws : HO} {p0 : P} (g : Good G H) (er : ER K fa ow (ow ++ bo) G H σ env) (hi : ow.contains i = true) (hs : σ[i]? = some (some (.ref a))) (ha : G.own i = some a) (rs : Cont K fa G H p0 ws) :
    Xs G H G (upd H a ws) ∧ Good G (upd H a ws) ∧ ER K fa ow (ow ++ bo) G (upd H a ws) σ (env.set i (some p0)) := by
  obtain ⟨n1, n2, vs, h, hv⟩ := g.own i a ha
  have gg : Good G (upd H a ws) := by
    refine ⟨fun b i => ?_, g.immP, fun b i => ?_, fun j b e => ?_, g.inj⟩
    · have : b ≠ a := fun z => n1 (z ▸ i)
      rw [upd_ne this]; exact g.immH b i
    · have : b ≠ a := fun z => n2 (z ▸ i)
      rw [upd_ne this]; exact g.pool b i
    · obtain ⟨h1, h2, us, h3⟩ := g.own j b e
      by_cases z : b = a
      · subst z; exact ⟨h1, h2, ws, upd_same, rs.own⟩
      · exact ⟨h1, h2, us, by rw [upd_ne z]; exact h3⟩
  have mo : Mo G H G (upd H a ws) := by
    refine ⟨fun b us e => ?_, fun b o u e => ?_, fun b o i e => ?_, fun _ h => h, fun _ h => h⟩
    · have : b ≠ a := fun z => by rw [z, h] at e; cases e; exact hv
      rw [upd_ne this]; exact e
    · have : b ≠ a := fun z => by rw [z, h] at e; cases e; exact hv
      rw [upd_ne this]; exact e
    · have : b ≠ a := fun z => n1 (z ▸ i)
      rw [upd_ne this]; exact e
  refine ⟨⟨fun b o e n o2 => ?_, fun b e => ?_, fun _ h => h, fun _ h => h, fun _ _ n _ => n, fun _ _ n => n, fun j b e => .inl ⟨j, e⟩⟩, gg, ⟨by rw [List.length_set, er.len], fun j q e => ?_, fun j oj q e => ?_, fun j xs b m rj oj e s l z => ?_⟩⟩
  · have : b ≠ a := fun z => o2 i (z ▸ ha)
    rw [upd_ne this]; exact e
  · by_cases z : b = a
    · subst z; rw [upd_same]; exact Option.some_ne_none _
    · rw [upd_ne z]; exact e
  · by_cases hj : i = j
    · subst hj
      by_cases hl : i < env.length
      · rw [List.getElem?_set_self hl] at e
        cases e
        refine ⟨_, hs, (mo.cont rs).r upd_same n2, fun z => ?_⟩
        rw [cont_app, hi] at z; cases z
      · rw [List.getElem?_eq_none (by simpa using hl)] at e; cases e
    · rw [List.getElem?_set_ne hj] at e
      obtain ⟨v, e2, r1, r2⟩ := er.val j q e
      refine ⟨v, e2, ?_, fun z => mo.rep (r2 z)⟩
      refine r1.mv mo fun b o qb nb e3 m => ?_
      have nb2 : b ≠ a := fun z => by
          by_cases oj : ow.contains j = true
          · obtain ⟨b', e4, e5⟩ := er.own j oj _ e
            rw [e2, e3] at e4; cases e4
            exact hj (g.inj i j b (z ▸ ha) e5)
          · by_cases rj : bo.contains j = true
            · exact er.bor j q b m (by rw [cont_app, rj, Bool.or_true]) (by simpa using oj) e (by rw [e2, e3]) i (z ▸ ha)
            · have r3 := r2 (by rw [cont_app]; simp only [Bool.not_eq_true', Bool.or_eq_false_iff]; exact ⟨by simpa using oj, by simpa using rj⟩)
              have im : G.imm b := by
                cases q <;> first | (cases m; done) | (obtain ⟨b', us', e4, _, im, _⟩ := r3; rw [e3] at e4; cases e4; exact im)
              exact n1 (z ▸ im)
      exact ⟨by rw [upd_ne nb2]; exact qb, nb⟩
  · by_cases hj : i = j
    · subst hj
      exact ⟨a, hs, ha⟩
    · rw [List.getElem?_set_ne hj] at e
      exact er.own j oj q e
  · have hj : i ≠ j := fun z => by rw [← z, hi] at oj; cases oj
    rw [List.getElem?_set_ne hj] at e
    exact er.bor j xs b m rj oj e s l z
theorem SS_app (i : Nat) (e : Ex) : SS T D M lv bo (.app i e) := fun X W ow owl st c h => by
  cases st <;> try (simp [chkS] at h; done)
  rename_i v pos
  simp only [chkS] at h
  unfold appB at h
  split at h
  · rename_i x p nm apos v cpos
    simp only [Bool.and_eq_true, decide_eq_true_eq, beq_iff_eq] at h
    obtain ⟨⟨⟨⟨⟨⟨h1, h2⟩, h3⟩, h4⟩, h5⟩, h6⟩, h7⟩ := h
    subst h1
    obtain ⟨s1, s2, s3, s4⟩ := slot_of h2
    have hstar : noStar v = true := chk_noStar h5
    have he := (eE ow bo e X W v c.toCok h5 (itx_of h4)).1
    rw [h6] at he
    have hlt : starEach [v] X.env = (false, eval v X.env) :: starEach [] X.env := star_cons hstar
    refine ps_imp (ps_expr (pe_bm PySem.F.plainAttrs_list PySem.F.slot_list_append PySem.F.type_list_append mt_append (pe_var s1 s2 s3 s4) (pa_cons he pa_nil (by exact hlt)) (by rfl) (by rw [hlt]; rfl) (by rw [h7]; exact beq_self_eq_true _) (by exact hlt) (by rfl)) (by rfl)) ?_
    rintro Dn σ H ⟨G, env, Dp, g, er, hw, k⟩
    obtain ⟨xs, hx, hw⟩ := hw
    obtain ⟨a, e2, e3⟩ := er.own i h3 _ hx
    obtain ⟨v0, e4, r0, _⟩ := er.val i _ hx
    rw [e2] at e4
    cases e4
    obtain ⟨a', vs, e5, e6, np, rs⟩ := r0
    cases e5
    refine ⟨_, e2, .inl ⟨rfl, _, .inl (.inl e6)⟩, ?_⟩
    refine ⟨G, env, _, Dp.ex, g, er, hw, ?_, k.xk σ⟩
    rintro v1 p1 H1 G1 x1 g1 r1 ⟨hl, q1⟩
    have e7 : H1 a = some (.lst vs) := x1.std a _ e6 np
    refine ⟨a, vs, v1, rfl, rfl, e7, by rw [rs.length]; exact hl, ?_⟩
    obtain ⟨xx, gg, ee⟩ := app_set (ws := .lst (vs ++ [v1])) (p0 := .lst (xs ++ [p1])) g1 (er.xt x1 g) h3 e2 (by rw [x1.own]; exact e3) ⟨_, rfl, ((x1.mo g).reps rs).append ⟨v1, [], rfl, r1.2 rfl, rfl⟩⟩
    exact k.nx σ _ _ _ (x1.s.trans xx) gg ee q1
  · cases h
theorem SS_seti (i : Nat) (kk e : Ex) : SS T D M lv bo (.seti i kk e) := fun X W ow owl st c h => by
  cases st <;> try (simp [chkS] at h; done)
  rename_i tgs v pos
  simp only [chkS] at h
  unfold setB at h
  split at h
  · rename_i x px kx pos2
    simp only [Bool.and_eq_true] at h
    obtain ⟨⟨⟨⟨⟨⟨⟨⟨h1, h2⟩, h3⟩, h4⟩, h5⟩, h6⟩, h7⟩, h8⟩, h9⟩ := h
    obtain ⟨s1, s2, s3, s4⟩ := slot_of h1
    have he := (eE ow bo e X W v c.toCok h7 (itx_of h6)).1
    rw [h8] at he
    have hk := (eE ow bo kk X W kx c.toCok h4 (itx_of h3)).1
    have hs : swapsWith v (some (.Subscript (.Name x px) kx pos2)) pos.line X.env = pure false := sw_noname rfl
    have hsl : ∀ a b d p, kx ≠ .Slice a b d p := fun a b d p z => by
      subst z
      cases kk <;> simp [chkE] at h4
    refine ps_imp (ps_asg he (pg_sub (pe_var s1 s2 s3 s4) hk set_list (by cases kx <;> first | (intro _; rfl) | exact absurd rfl (hsl _ _ _ _))) hs (swapped_none h9) (by rfl)) ?_
    rintro Dn σ H ⟨G, env, Dp, g, er, hw, k⟩
    refine ⟨G, env, _, Dp.ex, g, er, hw, ?_, k.xk σ⟩
    rintro v1 p1 H1 G1 x1 g1 r1 ⟨xs, hx, hw1⟩
    obtain ⟨a, e2, e3⟩ := er.own i h2 _ hx
    obtain ⟨v0, e4, r0, _⟩ := er.val i _ hx
    rw [e2] at e4
    cases e4
    obtain ⟨a', vs, e5, e6, np, rs⟩ := r0
    cases e5
    refine ⟨_, e2, ?_⟩
    refine ⟨G1, env, _, Dp.ex, g1, er.xt x1 g, hw1, ?_, (k.xs x1.s).xk σ⟩
    rintro v2 p2 H2 G2 x2 g2 r2 ⟨n, j, rfl, hj, q1⟩
    have x12 := x1.trans x2
    have e7 : H2 a = some (.lst vs) := x12.std a _ e6 np
    obtain rfl : v2 = .int n := r2.1
    refine ⟨a, vs, n, j, rfl, rfl, e7, by rw [rs.length]; exact hj, ?_⟩
    obtain ⟨xx, gg, ee⟩ := app_set (ws := .lst (vs.set j v1)) (p0 := .lst (xs.set j p1)) g2 (er.xt x12 g) h2 e2 (by rw [x12.own]; exact e3) ⟨_, rfl, ((x12.mo g).reps rs).set j ((x2.mo g1).rep (r1.2 rfl))⟩
    exact k.nx σ _ _ _ (x12.s.trans xx) gg ee q1
  · cases h
theorem zip_put : ∀ {ks : List Key} {vs : List V} {k : Key} {v : V}, vs.length = ks.length → (ks.zip vs).map (fun kv => if kv.1 = k then (kv.1, v) else kv) = ks.zip (List.zipWith (fun k' w => if k' = k then v else w) ks vs)
  | [], _, _, _, _ => rfl
  | _ :: _, [], _, _, h => by simp at h
  | k' :: ks, w :: vs, k, v, h => by
    rw [List.zip_cons_cons, List.map_cons, List.zipWith_cons_cons, List.zip_cons_cons, zip_put (by simpa using h)]
    by_cases e : k' = k
    · simp only [e, if_true]
    · simp only [e, if_false]
theorem zip_any : ∀ {ks : List Key} {vs : List V} {k : Key}, vs.length = ks.length → ((ks.zip vs).any fun kv => decide (kv.1 = k)) = hasK ks k
  | [], _, _, _ => rfl
  | _ :: _, [], _, h => by simp at h
  | k' :: ks, w :: vs, k, h => by
    unfold hasK
    rw [List.zip_cons_cons, List.any_cons, List.any_cons, zip_any (by simpa using h)]
    rfl
theorem reps_put {K : PySem.W.Frag} {fa : Nat → Addr} {G : Gh} {H : Hp} {k : Key} {p : P} {v : V} (hp : Rep K fa G H p v) : ∀ {ks : List Key} {ps : List P} {vs : List V}, ks.length = ps.length → Reps K fa G H ps vs → Reps K fa G H (List.zipWith (fun k' q => if k' = k then p else q) ks ps) (List.zipWith (fun k' w => if k' = k then v else w) ks vs)
  | [], [], _, _, h => by rw [show _ = [] from h]; rfl
  | [], _ :: _, _, h, _ => by simp at h
  | _ :: _, [], _, h, _ => by simp at h
  | k' :: ks, q :: ps, _, h, ⟨w, r, e, h1, h2⟩ => by
    subst e
    refine ⟨_, _, rfl, ?_, reps_put hp (by simpa using h) h2⟩
    show Rep K fa G H (if k' = k then p else q) (if k' = k then v else w)
    by_cases e : k' = k
    · rw [if_pos e, if_pos e]; exact hp
    · rw [if_neg e, if_neg e]; exact h1
theorem cont_put {K : PySem.W.Frag} {fa : Nat → Addr} {G : Gh} {H : Hp} {k : Key} {p : P} {v : V} {ks : List Key} {ps : List P} {vs : List V} (hl : ks.length = ps.length) (rs : Reps K fa G H ps vs) (hp : Rep K fa G H p v) : Cont K fa G H (putP ks ps k p) (.dK (putK (ks.zip vs) k v)) := by
  have hv : vs.length = ks.length := by rw [rs.length, hl]
  unfold putP putK
  rw [zip_any hv]
  by_cases e : hasK ks k = true
  · rw [if_pos e, if_pos e]
    exact ⟨_, by rw [zip_put hv], by rw [List.length_zipWith, ← hl, Nat.min_self], reps_put hp hl rs⟩
  · rw [if_neg e, if_neg e]
    refine ⟨vs ++ [v], ?_, by simp [hl], rs.append ⟨v, [], rfl, hp, rfl⟩⟩
    rw [List.zip_append hv.symm]
    rfl
theorem SS_setd (i : Nat) (kk e : Ex) : SS T D M lv bo (.setd i kk e) := fun X W ow owl st c h => by
  cases st <;> try (simp [chkS] at h; done)
  rename_i tgs v pos
  simp only [chkS] at h
  unfold setB at h
  split at h
  · rename_i x px kx pos2
    simp only [Bool.and_eq_true] at h
    obtain ⟨⟨⟨⟨⟨⟨⟨⟨h1, h2⟩, h3⟩, h4⟩, h5⟩, h6⟩, h7⟩, h8⟩, h9⟩ := h
    obtain ⟨s1, s2, s3, s4⟩ := slot_of h1
    have he := (eE ow bo e X W v c.toCok h7 (itx_of h6)).1
    rw [h8] at he
    have hk := (eE ow bo kk X W kx c.toCok h4 (itx_of h3)).1
    have hs : swapsWith v (some (.Subscript (.Name x px) kx pos2)) pos.line X.env = pure false := sw_noname rfl
    have hsl : ∀ a b d p, kx ≠ .Slice a b d p := fun a b d p z => by
      subst z
      cases kk <;> simp [chkE] at h4
    refine ps_imp (ps_asg he (pg_sub (pe_var s1 s2 s3 s4) hk (set_dict (by have := c.room.un; omega)) (by cases kx <;> first | (intro _; rfl) | exact absurd rfl (hsl _ _ _ _))) hs (swapped_none h9) (by rfl)) ?_
    rintro Dn σ H ⟨G, env, Dp, g, er, hw, k⟩
    refine ⟨G, env, _, Dp.ex, g, er, hw, ?_, k.xk σ⟩
    rintro v1 p1 H1 G1 x1 g1 r1 ⟨ks, ps, hx, hlk, hw1⟩
    obtain ⟨a, e2, e3⟩ := er.own i h2 _ hx
    obtain ⟨v0, e4, r0, _⟩ := er.val i _ hx
    rw [e2] at e4
    cases e4
    obtain ⟨a', vs, e5, e6, np, l0, rs⟩ := r0
    cases e5
    refine ⟨_, e2, ?_⟩
    refine ⟨G1, env, _, Dp.ex, g1, er.xt x1 g, hw1, ?_, (k.xs x1.s).xk σ⟩
    rintro v2 p2 H2 G2 x2 g2 r2 ⟨key, rfl, q1⟩
    have x12 := x1.trans x2
    have e7 : H2 a = some (.dK (ks.zip vs)) := x12.std a _ e6 np
    obtain rfl : v2 = kV key := by
      cases key <;> exact r2.1
    have hlv : vs.length = ks.length := by rw [rs.length, l0]
    refine ⟨a, _, rfl, DPut.k e7 (by rw [List.length_zip, hlv, Nat.min_self]; exact hlk), ?_⟩
    obtain ⟨xx, gg, ee⟩ := app_set (ws := .dK (putK (ks.zip vs) key v1)) (p0 := putP ks ps key p1) g2 (er.xt x12 g) h2 e2 (by rw [x12.own]; exact e3) (cont_put l0 ((x12.mo g).reps rs) ((x2.mo g1).rep (r1.2 rfl)))
    exact k.nx σ _ _ _ (x12.s.trans xx) gg ee q1
  · cases h
theorem SS_ext (i : Nat) (e : Ex) : SS T D M lv bo (.ext i e) := fun X W ow owl st c h => by
  cases st <;> try (simp [chkS] at h; done)
  rename_i v pos
  simp only [chkS] at h
  unfold extB at h
  split at h
  · rename_i x p nm apos v cpos
    simp only [Bool.and_eq_true, decide_eq_true_eq, beq_iff_eq] at h
    obtain ⟨⟨⟨⟨⟨⟨h1, h2⟩, h3⟩, h4⟩, h5⟩, h6⟩, h7⟩ := h
    subst h1
    obtain ⟨s1, s2, s3, s4⟩ := slot_of h2
    have hstar : noStar v = true := chk_noStar h5
    have he := (eE ow bo e X W v c.toCok h5 (itx_of h4)).1
    rw [h6] at he
    have hlt : starEach [v] X.env = (false, eval v X.env) :: starEach [] X.env := star_cons hstar
    refine ps_imp (ps_expr (pe_bm PySem.F.plainAttrs_list PySem.F.slot_list_extend PySem.F.type_list_extend mt_extend (pe_var s1 s2 s3 s4) (pa_cons he pa_nil (by exact hlt)) (by rfl) (by rw [hlt]; rfl) (by rw [h7]; exact beq_self_eq_true _) (by exact hlt) (by rfl)) (by rfl)) ?_
    rintro Dn σ H ⟨G, env, Dp, g, er, hw, k⟩
    obtain ⟨xs, hx, hw⟩ := hw
    obtain ⟨a, e2, e3⟩ := er.own i h3 _ hx
    obtain ⟨v0, e4, r0, _⟩ := er.val i _ hx
    rw [e2] at e4
    cases e4
    obtain ⟨a', vs, e5, e6, np, rs⟩ := r0
    cases e5
    refine ⟨_, e2, .inl ⟨rfl, _, .inl (.inl e6)⟩, ?_⟩
    refine ⟨G, env, _, Dp.ex, g, er, hw, ?_, k.xk σ⟩
    rintro v1 p1 H1 G1 x1 g1 r1 ⟨ys, rfl, hl, q1⟩
    have e7 : H1 a = some (.lst vs) := x1.std a _ e6 np
    obtain ⟨b, zs, rfl, hb, rb⟩ := repR_lst r1.1
    refine ⟨a, b, vs, zs, rfl, rfl, e7, hb, by rw [rs.length, rb.length]; exact hl, ?_⟩
    obtain ⟨xx, gg, ee⟩ := app_set (ws := .lst (vs ++ zs)) (p0 := .lst (xs ++ ys)) g1 (er.xt x1 g) h3 e2 (by rw [x1.own]; exact e3) ⟨_, rfl, ((x1.mo g).reps rs).append rb⟩
    exact k.nx σ _ _ _ (x1.s.trans xx) gg ee q1
  · cases h
theorem SSs_nil : SSs T D M lv bo [] := fun X W ow owl sts c h => by
  cases sts with
  | cons _ _ => simp [chkSs] at h
  | nil =>
    refine pss_imp pss_nil ?_
    rintro Dn σ H ⟨G, env, Dp, g, er, hw, k⟩
    exact k.nx σ env H G Xs.refl g er hw
theorem SSs_frz {i : Nat} {r : List Sx} (hr : SSs T D M lv bo r) : SSs T D M lv bo (.frz i :: r) := fun X W ow owl sts c h => by
  have h : chkSs T M X.N X.env.scope bo (ow.filter (fun j => j != i)) owl r sts = true := by
    unfold chkSs at h
    exact h
  refine pss_imp (hr X W _ owl sts c h) ?_
  rintro Dn σ H ⟨G, env, Dp, g, er, hw, k⟩
  refine ⟨_, env, Dp, g.keep (ow.filter (fun j => j != i)), er.keep g (fun j hj => ?_), hw, k.xs (Xs.keep _)⟩
  rw [List.contains_iff_mem, List.mem_filter] at hj
  rw [List.contains_iff_mem]
  exact hj.1
theorem SSs_cons {s : Sx} {r : List Sx} (hf : ∀ i, s ≠ .frz i) (hs : SS T D M lv bo s) (hr : SSs T D M lv bo r) : SSs T D M lv bo (s :: r) := fun X W ow owl sts c h => by
  cases sts with
  | nil =>
    unfold chkSs at h
    cases s <;> first | exact absurd rfl (hf _) | cases h
  | cons st sts =>
    have h : (chkS T M X.N X.env.scope bo ow owl s st && chkSs T M X.N X.env.scope bo (outS ow s) owl r sts) = true := by
      unfold chkSs at h
      cases s <;> first | exact absurd rfl (hf _) | exact h
    rw [Bool.and_eq_true] at h
    refine pss_imp (pss_cons (hs X W ow owl st c h.1) (hr X W _ owl sts c h.2)) ?_
    rintro Dn σ H ⟨G, env, Dp, g, er, hw, k⟩
    refine ⟨G, env, _, g, er, hw, ⟨fun σ' env' H' G' x' g' er' q => ?_, k.bk, k.ct, k.rt, k.ex⟩⟩
    exact ⟨G', env', Dp, g', er', q, k.xs x'⟩
theorem SS_no {s : Sx} (h : ∀ (N : List Str) (sc : Scope) (ow owl : List Nat) (st : Stmt), chkS T M N sc bo ow owl s st = false) : SS T D M lv bo s := fun X W ow owl st c hc => by
  rw [h] at hc; cases hc
mutual
theorem all_S : (s : Sx) → SS T D M lv bo s
  | .ret e => SS_ret e
  | .retN => SS_retN
  | .retP e => SS_retP e
  | .asg t e => SS_asg t e
  | .own i e => SS_own i e
  | .par is es => SS_par is es
  | .never => SS_never
  | .expr e => SS_expr e
  | .ite t a b => SS_ite (all_Ss a) (all_Ss b)
  | .for_ t it b => SS_for (all_Ss b)
  | .whl t b => SS_whl (all_Ss b)
  | .pass => SS_pass
  | .brk => SS_brk
  | .cnt => SS_cnt
  | .raise c es => SS_raise c es
  | .app i e => SS_app i e
  | .frz i => SS_no fun N sc ow owl st => by cases st <;> rfl
  | .seti i k e => SS_seti i k e
  | .setd i k e => SS_setd i k e
  | .ext i e => SS_ext i e
  | .try_ b hs => SS_try
theorem all_Ss : (ss : List Sx) → SSs T D M lv bo ss
  | [] => SSs_nil
  | s :: r => by
    by_cases h : ∃ i, s = .frz i
    · obtain ⟨i, rfl⟩ := h
      exact SSs_frz (all_Ss r)
    · exact SSs_cons (fun i e => h ⟨i, e⟩) (all_S s) (all_Ss r)
end
end
end Fw
/-! Fw: a def by its body; the table grows. -/
namespace Fw
open PySem PySem.Spec PyProof.Rows L2
section
variable {K : PySem.W.Frag} {fa : Nat → Addr} {D : Ad} {G G' : Gh} {H H' : Hp} {ow bo : List Nat}
def Gh.bare (G : Gh) : Gh := { G with own := fun _ => none }
def Gh.back (G' G : Gh) : Gh := { G' with own := G.own }
theorem Good.bare (g : Good G H) : Good G.bare H := ⟨g.immH, g.immP, g.pool, fun i a h => (by cases h), fun i j a h => (by cases h)⟩
theorem Xs.back (g : Good G H) (g' : Good G' H') (x : Xs G.bare H G' H') : Xt G H (G'.back G) H' ∧ Good (G'.back G) H' := by
  have no : ∀ (a : Addr) (i : Nat), G.bare.own i ≠ some a := fun a i h => by cases h
  refine ⟨⟨fun a o h n => x.std a o h n (no a), x.there, x.imm, x.pool, fun a h n => x.nimm a h n (no a), x.npool, rfl⟩, ⟨g'.immH, g'.immP, g'.pool, fun i a h => ?_, g.inj⟩⟩
  obtain ⟨h1, h2, vs, h3⟩ := g.own i a h
  have hn : H a ≠ none := by rw [h3.1]; exact Option.some_ne_none _
  exact ⟨x.nimm a hn h1 (no a), x.npool a hn h2, vs, x.std a _ h3.1 h2 (no a), h3.2⟩
theorem Mo.back : Mo G' H' (G'.back G) H' := ⟨fun _ _ h => h, fun _ _ _ h => h, fun _ _ _ h => h, fun _ h => h, fun _ h => h⟩
theorem Mo.bare : Mo G H G.bare H := ⟨fun _ _ h => h, fun _ _ _ h => h, fun _ _ _ h => h, fun _ h => h, fun _ h => h⟩
theorem XRep.back {cls : Value} {d : Option Addr} {c : Nat} {ps : List P} (h : XRep K D G' H' cls d c ps) : XRep K D (G'.back G) H' cls d c ps := by
  obtain ⟨e, h⟩ := h
  refine ⟨e, ?_⟩
  cases q : D.xf c with
  | none => rw [q] at h; exact h
  | some f =>
    rw [q] at h
    obtain ⟨p, dd, v, e1, e2, e3, r⟩ := h
    exact ⟨p, dd, v, e1, e2, e3, Mo.back.rep r⟩
theorem RepR.bare {p : P} {v : V} (h : RepR K fa G H p v) : RepR K fa G.bare H p v := by
  exact h.mv Mo.bare fun a o q n _ _ => ⟨q, n⟩
theorem RepsB.get : ∀ {bs : List Bool} {ps : List P} {vs : List V} {i : Nat} {p : P}, RepsB K fa G H bs ps vs → ps[i]? = some p → ∃ v b, vs[i]? = some v ∧ bs[i]? = some b ∧ RepB b K fa G H p v
  | [], [], _, _, _, _, e => by simp at e
  | b :: _, q :: _, _, 0, p, ⟨v, r, e1, h, t⟩, e => by
    have z : q = p := by simpa using e
    subst z; subst e1
    exact ⟨v, b, rfl, rfl, h⟩
  | _ :: _, _ :: _, _, i + 1, p, ⟨v, r, e1, h, t⟩, e => by
    subst e1
    obtain ⟨u, b, h1, h2, h3⟩ := RepsB.get (i := i) (p := p) t (by simpa using e)
    exact ⟨u, b, by simpa using h1, by simpa using h2, h3⟩
  | [], _ :: _, _, _, _, h, _ => h.elim
  | _ :: _, [], _, _, _, h, _ => h.elim
theorem RepsB.lens : ∀ {bs : List Bool} {ps : List P} {vs : List V}, RepsB K fa G H bs ps vs → ps.length = bs.length ∧ vs.length = bs.length
  | [], [], _, h => by rw [show _ = [] from h]; exact ⟨rfl, rfl⟩
  | b :: bs, p :: ps, _, ⟨v, r, e1, h, t⟩ => by
    subst e1
    have := RepsB.lens t
    exact ⟨by simp [this.1], by simp [this.2]⟩
  | [], _ :: _, _, h => h.elim
  | _ :: _, [], _, h => h.elim
theorem env0_er {N : List Str} {ps : List P} {vs : List V} {np : Nat} (hN : np ≤ N.length) (g : Good G H) (h : RepsB K fa G H ((List.range np).map fun i => !bo.contains i) ps vs) :
    ER K fa [] ([] ++ bo) G.bare H (L2.start N vs) (env0 N.length ps) := by
  obtain ⟨l1, l2⟩ := h.lens
  rw [List.length_map, List.length_range] at l1 l2
  refine ⟨?_, fun i p e => ?_, fun i o => (by cases o), fun i xs a _ _ _ _ _ j z => (by cases z)⟩
  · unfold L2.start env0
    rw [List.length_append, List.length_append, List.length_map, List.length_map, List.length_replicate, List.length_replicate, l1, l2]
  · have hp : ps[i]? = some p := by
      unfold env0 at e
      by_cases hi : i < ps.length
      · rw [List.getElem?_append_left (by simpa using hi), List.getElem?_map] at e
        cases q : ps[i]? with
        | none => rw [q] at e; cases e
        | some p' => rw [q] at e; cases e; rfl
      · rw [List.getElem?_append_right (by simpa using hi), List.getElem?_replicate] at e
        split at e <;> cases e
    obtain ⟨v, b, e1, e2, r⟩ := h.get hp
    have hv : i < vs.length := (List.getElem?_eq_some_iff.mp e1).1
    refine ⟨v, ?_, ?_⟩
    · unfold L2.start
      rw [List.getElem?_append_left (by simpa using hv), List.getElem?_map, e1]; rfl
    · have hb : b = !bo.contains i := by
        rw [List.getElem?_map, List.getElem?_range (by omega)] at e2
        exact (Option.some.inj e2).symm
      subst hb
      exact ⟨r.1.bare, fun z => Mo.bare.rep (r.2 z)⟩
end
section
variable {P : Program} {w : World} {K : PySem.W.Frag} {mg : Str → Option Value} {base : Heap} {T : Tab} {D : Ad} {M : Mk} {lv : Nat}
/-- THE RULE for a def -/
theorem fn_ok {x qual : Str} {st : Stmt} {f : Addr} {fd : FuncData} {N ps : List Str} {bo : List Nat} {body : List Sx} {sp : Spec} (F : Fun K x qual st f fd) (S : FnScope N ps (defScope st)) (tok : Tok P w K mg base T D M lv)
    (chk : chkSs T M N (defScope st) bo [] [] body (defBody st) = true) (B : BodyOk T ps.length N.length body sp) : FnOk P w K mg base (L2.CX P w) (lv + 1) f fd ps (spOf K D ps.length bo sp) := by
  refine Fun.okX F S (fun vs H Q E h => ?_) fun cdv A outer s H vs Q E hr h => ?_
  · obtain ⟨_, _, _, _, e, _⟩ := h
    exact e
  · obtain ⟨G, qs, Qp, Ep, hl, g, r, hs, kq, ke⟩ := h
    have hN : ps.length ≤ N.length := by
      have := congrArg List.length S.pre
      rw [List.length_take] at this
      omega
    have tk : Takes (cxOf (L2.CX P w) P w K mg base N qual (defScope st) f cdv A outer s H E) (fun cls d _ H => E cls d H) := takes_of rfl rfl rfl rfl
    have cos : Cos (cxOf (L2.CX P w) P w K mg base N qual (defScope st) f cdv A outer s H E) T D M lv (fun cls d _ H => E cls d H) :=
      { tok := tok, nd := S.nd, room := hr, calm := rfl, tk := tk, kind := S.kind, fn := fun _ => rfl, own := passes_of rfl, stk := rfl, frm := rfl }
    refine ⟨_, all_Ss (bo := bo) body _ _ [] [] (defBody st) cos chk, ?_⟩
    refine ⟨G.bare, _, _, g.bare, env0_er hN g r, B.run qs Qp Ep hs, ⟨?_, ?_, ?_, ?_, ?_⟩⟩
    · intro σ' env' H' G' x' g' _ q
      obtain ⟨a1, a2⟩ := Xs.back g g' x'
      exact kq .non .non H' _ a1 a2 rfl q
    · intro σ' env' H' G' x' g' _ q
      exact q.elim
    · intro σ' env' H' G' x' g' _ q
      exact q.elim
    · intro v p H' G' x' g' r q
      obtain ⟨a1, a2⟩ := Xs.back g g' x'
      exact kq v p H' _ a1 a2 (Mo.back.rep r) q
    · intro c xs cls d σ' H' G' x' g' r q
      obtain ⟨a1, a2⟩ := Xs.back g g' x'
      exact ke c xs cls d H' _ a1 a2 r.back q
/-- the table up to a place -/
def Tab.upto (T : Tab) (n : Nat) : Tab := { T with nf := n }
theorem FThere.mono {n lv' : Nat} (h : FThere P w K mg base T D M lv n) (hl : lv ≤ lv') : FThere P w K mg base T D M lv' n := by
  obtain ⟨gl, kp, ⟨fd, prm, e, b, F, k⟩, d⟩ := h
  exact ⟨gl, kp, ⟨fd, prm, e, b, F.mono hl, k⟩, fun q hq e => let ⟨fd, prm, ds, a1, a2, a3, F⟩ := d q hq e; ⟨fd, prm, ds, a1, a2, a3, F.mono hl⟩⟩
theorem FThere.upto {n k : Nat} (h : FThere P w K mg base T D M lv n) : FThere P w K mg base (T.upto k) D M lv n := ⟨h.gl, h.kp, h.ok, h.dfl⟩
theorem tok_step {n : Nat} (t : Tok P w K mg base (T.upto n) D M lv) (h : FThere P w K mg base T D M (lv + 1) n) : Tok P w K mg base (T.upto (n + 1)) D M (lv + 1) :=
  ⟨fun m hm => by
    by_cases e : m = n
    · subst e; exact h.upto
    · have q := (t.fn m (show m < n from by have : m < n + 1 := hm; omega)).mono (Nat.le_succ _)
      exact ⟨q.gl, q.kp, q.ok, q.dfl⟩, t.cn, t.bl, t.gc, t.nm, t.xg, t.xr, t.xs⟩
/-- a def joins the table -/
theorem tok_def {n : Nat} {x qual : Str} {st : Stmt} {fd : FuncData} {N ps : List Str} {body : List Sx} (t : Tok P w K mg base (T.upto n) D M lv) (F : Fun K x qual st (D.fa n) fd) (gl : mg (T.nm n) = some (.ref (D.fa n))) (bi : Binds K fd ps []) (hp : ps.length = T.np n) (S : FnScope N ps (defScope st))
    (kw : ∀ q ∈ M.kws, q.1 = n → ∀ (s : Shared) (us ws : List Value), K.In s.heap → us.length = q.2.1 → ws.length = q.2.2.1.length →
      BindsTo s fd ⟨us, q.2.2.1.zip ws⟩ (ps.zip (q.2.2.2.map fun i => (us ++ ws).getD i .none)) ∧ q.2.2.2.length = ps.length ∧ ∀ i ∈ q.2.2.2, i < q.2.1 + q.2.2.1.length)
    (hd : ∀ q ∈ M.dfl, q.1 ≠ n)
    (chk : chkSs (T.upto n) M N (defScope st) (M.bo n) [] [] body (defBody st) = true) (B : BodyOk (T.upto n) ps.length N.length body (T.fn n)) : Tok P w K mg base (T.upto (n + 1)) D M (lv + 1) :=
  tok_step t ⟨gl, F.kp, ⟨fd, ps, hp, bi, fn_ok F S t chk B, kw⟩, fun q hq e => absurd e (hd q hq)⟩
/-- THE RULE for a def with defaults -/
theorem fn_okD {x qual : Str} {st : Stmt} {f : Addr} {fd : FuncData} {dvs : List V} {kds : List (Str × V)} {N ps : List Str} {bo : List Nat} {body : List Sx} {sp : Spec} (F : FunD K x qual (defArgs st) (defBody st) (defScope st) dvs kds f fd) (S : FnScope N ps (defScope st)) (tok : Tok P w K mg base T D M lv)
    (chk : chkSs T M N (defScope st) bo [] [] body (defBody st) = true) (B : BodyOk T ps.length N.length body sp) : FnOk P w K mg base (L2.CX P w) (lv + 1) f fd ps (spOf K D ps.length bo sp) := by
  refine FunD.ok F S (fun vs H Q E h => ?_) fun cdv A outer s H vs Q E hr h => ?_
  · obtain ⟨_, _, _, _, e, _⟩ := h
    exact e
  · obtain ⟨G, qs, Qp, Ep, hl, g, r, hs, kq, ke⟩ := h
    have hN : ps.length ≤ N.length := by
      have := congrArg List.length S.pre
      rw [List.length_take] at this
      omega
    have tk : Takes (cxOf (L2.CX P w) P w K mg base N qual (defScope st) f cdv A outer s H E) (fun cls d _ H => E cls d H) := takes_of rfl rfl rfl rfl
    have cos : Cos (cxOf (L2.CX P w) P w K mg base N qual (defScope st) f cdv A outer s H E) T D M lv (fun cls d _ H => E cls d H) :=
      { tok := tok, nd := S.nd, room := hr, calm := rfl, tk := tk, kind := S.kind, fn := fun _ => rfl, own := passes_of rfl, stk := rfl, frm := rfl }
    refine ⟨_, all_Ss (bo := bo) body _ _ [] [] (defBody st) cos chk, ?_⟩
    refine ⟨G.bare, _, _, g.bare, env0_er hN g r, B.run qs Qp Ep hs, ⟨?_, ?_, ?_, ?_, ?_⟩⟩
    · intro σ' env' H' G' x' g' _ q
      obtain ⟨a1, a2⟩ := Xs.back g g' x'
      exact kq .non .non H' _ a1 a2 rfl q
    · intro σ' env' H' G' x' g' _ q
      exact q.elim
    · intro σ' env' H' G' x' g' _ q
      exact q.elim
    · intro v p H' G' x' g' r q
      obtain ⟨a1, a2⟩ := Xs.back g g' x'
      exact kq v p H' _ a1 a2 (Mo.back.rep r) q
    · intro c xs cls d σ' H' G' x' g' r q
      obtain ⟨a1, a2⟩ := Xs.back g g' x'
      exact ke c xs cls d H' _ a1 a2 r.back q
/-- a def with one default, an int, joins the table -/
theorem tok_defD {n : Nat} {i : Int} {x qual : Str} {st : Stmt} {fd : FuncData} {N ps : List Str} {body : List Sx} (t : Tok P w K mg base (T.upto n) D M lv) (F : FunD K x qual (defArgs st) (defBody st) (defScope st) [V.int i] [] (D.fa n) fd) (gl : mg (T.nm n) = some (.ref (D.fa n))) (bi : Binds K fd ps []) (hp : ps.length = T.np n) (S : FnScope N ps (defScope st))
    (kw : ∀ q ∈ M.kws, q.1 ≠ n)
    (hd : ∀ q ∈ M.dfl, q.1 = n → q.2 = i) (bd : ∃ ds, Vals [V.int i] ds ∧ Binds K fd ps ds)
    (chk : chkSs (T.upto n) M N (defScope st) (M.bo n) [] [] body (defBody st) = true) (B : BodyOk (T.upto n) ps.length N.length body (T.fn n)) : Tok P w K mg base (T.upto (n + 1)) D M (lv + 1) := by
  have ok := fn_okD F S t chk B
  refine tok_step t ⟨gl, F.kp, ⟨fd, ps, hp, bi, ok, fun q hq e => absurd e (kw q hq)⟩, fun q hq e => ?_⟩
  obtain ⟨ds, hv, hb⟩ := bd
  exact ⟨fd, ps, ds, hp, by rw [hd q hq e]; exact hv, hb, ok⟩
end
end Fw
/-! Fw: the law itself. -/
namespace Fw
open PySem PySem.Spec PyProof.Rows L2
def spLaw (K : PySem.W.Frag) : Sp := fun vs H Q E => ∃ (a : Addr) (ns : List Int), vs = [.ref a] ∧ SqL K H a (ns.map V.int) ∧ ns.length ≤ 63 ∧ (∀ H', Q (.bl true) H')
/-- what a law is to keep over pure values -/
def LawOk (sp : Spec) : Prop := ∀ ns : List Int, ns.length ≤ 63 → sp [.scr ns] (fun p => p = .bl true) (fun _ _ => False)
section
variable {P : Program} {w : World} {K : PySem.W.Frag} {mg : Str → Option Value} {base : Heap} {D : Ad}
theorem law_imp {k : Nat} {f : Addr} {fd : FuncData} {sp : Spec} (F : FnOk P w K mg base (L2.CX P w) k f fd ["script"] (spOf K D 1 [] sp)) (h : LawOk sp) : FnOk P w K mg base (L2.CX P w) k f fd ["script"] (spLaw K) := by
  refine F.imp ?_
  rintro vs H Q E ⟨a, ns, rfl, hq, hl, k⟩
  refine ⟨⟨fun b => b = a ∧ ∃ us, H a = some (.lst us), fun _ => False, fun _ => none⟩, [.scr ns], fun p => p = .bl true, fun _ _ => False, rfl, ?_, ?_, h ns hl, ?_, ?_⟩
  · refine ⟨fun b hb => ?_, fun b _ => id, fun b hb => hb.elim, fun i b hb => (by cases hb), fun i j b hb => (by cases hb)⟩
    obtain ⟨rfl, us, e⟩ := hb
    rw [e]; exact Option.some_ne_none _
  · have r : Rep K D.fa ⟨fun b => b = a ∧ ∃ us, H a = some (.lst us), fun _ => False, fun _ => none⟩ H (.scr ns) (.ref a) := by
      refine ⟨a, rfl, ?_⟩
      rcases hq with (h | h) | h
      · exact .inl ⟨h, rfl, _, h⟩
      · exact .inr (.inl h)
      · exact .inr (.inr h)
    exact ⟨.ref a, [], rfl, ⟨r, fun _ => r⟩, rfl⟩
  · intro v p H' G' _ _ r e
    subst e
    obtain rfl : v = .bl true := r
    exact k H'
  · intro c xs cls d H' G' _ _ _ z
    exact z.elim
theorem walk {k : Nat} {l : PySem.W.OpenLaw} {q : Program} {loose : List Str} {XP : (Str → Option Value) → Heap → Prop} {YP : World → Heap → Prop} {d : DefRec} {K : Params → PySem.W.Frag} (hn : l.most = some 63) (hdf : d.params.defaults = []) (hr : Room k callerA)
    (hY : ∀ (w : World) (h : Heap), YP w h → (K w.params).In h)
    (F : ∀ (w : World) (mg : Str → Option Value) (fa : Addr) (h : Heap), (K w.params).In h → h.Ns mainGlobals mg → mg d.name = some (.ref fa) →
      ∃ fd : FuncData, (∀ (s : Shared) (u : Value), BindsTo s fd ⟨[u], []⟩ [("script", u)]) ∧ ∀ base : Heap, (K w.params).In base → base.Ns mainGlobals mg → FnOk l.prog w (K w.params) mg base (L2.CX l.prog w) k fa fd ["script"] (spLaw (K w.params))) :
    PySem.W.WalkO q loose XP YP l.row.toRowW d [] (fun f vs => PySem.call f vs) :=
  L2.walk_of (n := 63) (k := k) (x := "script") (CX := fun w => L2.CX l.prog w) (sp := fun w => spLaw (K w.params)) hn (by decide) hdf hr hY F (fun _ _ a ns hl _ hS => ⟨a, ns, rfl, hS, hl, fun _ => rfl⟩) fun _ _ _ _ _ ⟨_, _, _, _, _, _, _, _, _, _, _, _, z⟩ => z
end
end Fw
/-! Fw: the head by one run over the heap as a tree; what the top has left, by names. -/
namespace Fw
open PySem PySem.Spec PyProof.Rows L2
theorem obE_eq {n : Nat} {fa : List He.Fa} {fn : List He.DefD} {ex : PySem.W.Frag → Bool} (s : PySem.W.SharedT) : obE n fa fn ex s = (hookE n fa fn ex).obs s.abs := by
  have e : HandSHeadRun.getT s = s.abs.heap.get? := funext fun a => HandSHeadRun.getT_eq s a
  unfold obE
  rw [e]
  rfl
abbrev FnP (K : PySem.W.Frag) (x : Str) (st : Stmt) (f : Addr) (fd : FuncData) : Prop := FunD K x x (defArgs st) (defBody st) (defScope st) [] [] f fd
section
variable {P : Program} {w : World} {K : PySem.W.Frag} {mg : Str → Option Value} {base : Heap} {T : Tab} {D : Ad} {M : Mk} {lv : Nat}
theorem FnP.fun_ {x : Str} {st : Stmt} {f : Addr} {fd : FuncData} (F : FnP K x st f fd) : Fun K x x st f fd := by
  obtain ⟨oc, od, dV, kV, doc, pm, an, cdv, ct, osl, e, lk, hcd, hD, hK⟩ := F.ex
  rcases hD with ⟨_, rfl⟩ | ⟨h, _⟩
  · exact ⟨⟨oc, od, kV, doc, pm, an, cdv, ct, osl, e, lk, hcd⟩, F.kp⟩
  · exact absurd rfl h
/-- how a call with keywords binds -/
theorem FnP.kw {x : Str} {st : Stmt} {f : Addr} {fd : FuncData} {ps ks : List Str} {n : Nat} {perm : List Nat} (F : FnP K x st f fd)
    (h : ∀ (kV doc pm : Value) (an : Option Addr) (cdv ct : Value) (us ws : List Value), us.length = n → ws.length = ks.length →
      bindArgs (PySem.W.fnOf x x (defArgs st) (defBody st) (defScope st) .none kV doc pm an cdv ct) ⟨us, ks.zip ws⟩ = pure (ps.zip (perm.map fun i => (us ++ ws).getD i .none))) (hp : perm.length = ps.length) (hb : ∀ i ∈ perm, i < n + ks.length) :
    ∀ (s : Shared) (us ws : List Value), K.In s.heap → us.length = n → ws.length = ks.length → BindsTo s fd ⟨us, ks.zip ws⟩ (ps.zip (perm.map fun i => (us ++ ws).getD i .none)) ∧ perm.length = ps.length ∧ ∀ i ∈ perm, i < n + ks.length := by
  intro s us ws _ hu hw
  obtain ⟨oc, od, kV, doc, pm, an, cdv, ct, osl, rfl, lk, hcd⟩ := F.fun_.ex
  exact ⟨.of_eq (h kV doc pm an cdv ct us ws hu hw), hp, hb⟩
theorem walkE {k : Nat} {l : PySem.W.OpenLaw} {q : Program} {loose : List Str} {XP : (Str → Option Value) → Heap → Prop} {d : DefRec} {fa : List He.Fa} {fn : List He.DefD} {ex : PySem.W.Frag → Bool} {n : Nat} (hn : l.most = some 63) (hdf : d.params.defaults = []) (hr : Room k callerA) (hname : d.name = ("law" : Str))
    (F : ∀ (w : World) (K : PySem.W.Frag) (mg : Str → Option Value) (f : Addr) (h : Heap), K.In h → h.Ns mainGlobals mg → mg ("law" : Str) = some (.ref f) → ex K = true → He.SaysD fa fn K →
      ∃ fd : FuncData, (∀ (s : Shared) (u : Value), BindsTo s fd ⟨[u], []⟩ [("script", u)]) ∧ ∀ base : Heap, K.In base → base.Ns mainGlobals mg → FnOk l.prog w K mg base (L2.CX l.prog w) k f fd ["script"] (spLaw K)) :
    PySem.W.WalkO q loose XP (hookE n fa fn ex).says l.row.toRowW d [] (fun f vs => PySem.call f vs) := by
  refine Att.attach_call hn hdf fun w s₀ s₁ mg mb f o pm cd doc a vs ns G Y ho hd hcd hmg hobj hints hlen hg => ?_
  obtain ⟨K, KX, cx, c⟩ := Y
  obtain ⟨fd, hb, hF⟩ := F w K mg f _ KX G.T.g (by rw [← hname]; exact hmg) cx c
  exact law_call KX G.T.g G.T.b G.T.builtins G.T.nolimit hg hobj hints (Nat.le_trans hlen (by decide)) hr hF hb (fun H hO hS => ⟨a, ns, rfl, hS, hlen, fun _ => rfl⟩) fun H e s' ⟨_, _, _, _, _, _, _, _, _, _, _, _, z⟩ => z
end
end Fw
/-! Fw: the plain side: lemmas about lists walked, whole numbers, drawn values. -/
namespace Fw
open PySem L2
/-- data that isinstance knows -/
def pl : P → Bool
  | .non => true | .bl _ => true | .int _ => true | .str _ => true | .tup _ => true | .lst _ => true | .dct _ _ => true
  | _ => false
def isInt : P → Bool
  | .int _ => true
  | _ => false
theorem forGo_of {step : P → Env → (Env → Prop) → Prop} {k : Env → Prop} (I : List P → Env → Prop) (h0 : ∀ env, I [] env → k env) (h1 : ∀ x r env, I (x :: r) env → ∀ k', (∀ env', I r env' → k' env') → step x env k') : ∀ xs env, I xs env → forGo step xs env k
  | [], env, h => h0 env h
  | x :: r, env, h => h1 x r env h _ fun env' h' => forGo_of I h0 h1 r env' h'
/-- a comprehension, value by value -/
theorem lcGo_rel {step : P → List P → (List P → Prop) → Prop} {k : List P → Prop} (R : P → P → Prop) (h : ∀ x acc k', (∀ y, R x y → k' (acc ++ [y])) → step x acc k') :
    ∀ xs acc, (∀ ys, ys.length = xs.length → (∀ (i : Nat) x y, xs[i]? = some x → ys[i]? = some y → R x y) → k (acc ++ ys)) → lcGo step xs acc k
  | [], acc, hk => by
    show k acc
    simpa using hk [] rfl (fun (i : Nat) x y e => by simp at e)
  | x :: r, acc, hk => by
    refine h x acc _ fun y hy => ?_
    refine lcGo_rel R h r (acc ++ [y]) fun ys hl hr => ?_
    have := hk (y :: ys) (by simp [hl]) (fun i a b ea eb => by
      cases i with
      | zero => simp at ea eb; subst ea; subst eb; exact hy
      | succ i => exact hr i a b (by simpa using ea) (by simpa using eb))
    simpa using this
theorem lcGo_map {step : P → List P → (List P → Prop) → Prop} {k : List P → Prop} (f : P → P) : ∀ xs acc, (∀ x ∈ xs, ∀ acc k', k' (acc ++ [f x]) → step x acc k') → k (acc ++ xs.map f) → lcGo step xs acc k
  | [], acc, h, hk => by
    show k acc
    simpa using hk
  | x :: r, acc, h, hk => h x List.mem_cons_self acc _ (lcGo_map f r _ (fun y hy => h y (List.mem_cons_of_mem _ hy)) (by simpa using hk))
theorem allB_true : ∀ {xs : List P}, (∀ x ∈ xs, x = .bl true) → allB xs = some true
  | [], _ => rfl
  | x :: r, h => by
    rw [h x List.mem_cons_self]
    show (allB r).map _ = _
    rw [allB_true fun y hy => h y (List.mem_cons_of_mem _ hy)]; rfl
theorem allB_map {α : Type} (f : α → Bool) : ∀ xs : List α, allB (xs.map fun x => P.bl (f x)) = some (xs.all f)
  | [] => rfl
  | x :: r => by
    show (allB (r.map fun x => P.bl (f x))).map _ = _
    rw [allB_map f r]; rfl
end Fw
/-! Fw: specs by what is asked and what is answered; monotone; one step at a time. -/
namespace Fw
open PySem L2
/-- asked: pre; answered: post -/
def mk {α : Type} (pat : α → List P) (pre : α → Prop) (post : α → P → Prop) : Fw.Spec := fun ps Q _ => ∃ a, ps = pat a ∧ pre a ∧ ∀ r, post a r → Q r
def mkD {α : Type} (pat : α → List P) (pre : α → Prop) (f : α → P) : Fw.Spec := fun ps Q _ => ∃ a, ps = pat a ∧ pre a ∧ Q (f a)
def SMono (sp : Fw.Spec) : Prop := ∀ ps Q Q' E E', (∀ p, Q p → Q' p) → (∀ c xs, E c xs → E' c xs) → sp ps Q E → sp ps Q' E'
/-- what a def ends in -/
inductive Oc where
  | v (p : P) | x (c : Nat) (ps : List P)
def ocP (Q : PQ) (E : XQ) : Oc → Prop
  | .v p => Q p
  | .x c ps => E c ps
/-- asked: pre; it ends in f -/
def mkX {α : Type} (pat : α → List P) (pre : α → Prop) (f : α → Oc) : Fw.Spec := fun ps Q E => ∃ a, ps = pat a ∧ pre a ∧ ocP Q E (f a)
/-- asked: pre; it ends in something of post -/
def mkY {α : Type} (pat : α → List P) (pre : α → Prop) (post : α → Oc → Prop) : Fw.Spec := fun ps Q E => ∃ a, ps = pat a ∧ pre a ∧ ∀ o, post a o → ocP Q E o
theorem mono_mk {α : Type} {pat : α → List P} {pre : α → Prop} {post : α → P → Prop} : SMono (mk pat pre post) := fun _ _ _ _ _ h _ ⟨a, e, p, q⟩ => ⟨a, e, p, fun r z => h r (q r z)⟩
theorem mono_mkD {α : Type} {pat : α → List P} {pre : α → Prop} {f : α → P} : SMono (mkD pat pre f) := fun _ _ _ _ _ h _ ⟨a, e, p, q⟩ => ⟨a, e, p, h _ q⟩
theorem ocP_mono {Q Q' : PQ} {E E' : XQ} (h : ∀ p, Q p → Q' p) (g : ∀ c xs, E c xs → E' c xs) {o : Oc} (z : ocP Q E o) : ocP Q' E' o := by
  cases o
  · exact h _ z
  · exact g _ _ z
theorem mono_mkX {α : Type} {pat : α → List P} {pre : α → Prop} {f : α → Oc} : SMono (mkX pat pre f) := fun _ _ _ _ _ h g ⟨a, e, p, q⟩ => ⟨a, e, p, ocP_mono h g q⟩
theorem mono_mkY {α : Type} {pat : α → List P} {pre : α → Prop} {post : α → Oc → Prop} : SMono (mkY pat pre post) := fun _ _ _ _ _ h g ⟨a, e, p, q⟩ => ⟨a, e, p, fun o z => ocP_mono h g (q o z)⟩
theorem mono_no : SMono (fun _ _ _ => False) := fun _ _ _ _ _ _ _ h => h.elim
def TMono (T : Tab) : Prop := ∀ n, SMono (T.fn n)
section
variable {Q Q' : PQ}
theorem opP_mono (h : ∀ p, Q p → Q' p) {op : Operator} {a b : P} (q : opP op a b Q) : opP op a b Q' := by
  cases op <;> simp only [opP] at q ⊢ <;> first | exact q.elim | (cases a <;> cases b <;> simp only [addP, subP, mulP, fdivP, modP, powP] at q ⊢ <;> first | exact q.elim | exact h _ q | exact ⟨q.1, h _ q.2⟩ | exact ⟨q.1, q.2.1, h _ q.2.2⟩)
theorem negP_mono (h : ∀ p, Q p → Q' p) {a : P} (q : negP a Q) : negP a Q' := by
  cases a <;> first | exact q.elim | exact h _ q
theorem cmpP_mono (h : ∀ p, Q p → Q' p) {op : CmpOp} {a b : P} (q : cmpP op a b Q) : cmpP op a b Q' := by
  cases op <;> cases a <;> cases b <;> first | exact q.elim | exact h _ q | exact ⟨q.1, q.2.1, h _ q.2.2⟩
theorem ixP_mono (h : ∀ p, Q p → Q' p) {a b : P} (q : ixP a b Q) : ixP a b Q' := by
  cases a <;> cases b <;> first | exact q.elim | (obtain ⟨n, e, q⟩ := q; exact ⟨n, e, h _ q⟩) | exact ⟨q.1, fun x hx => h _ (q.2 x hx)⟩
theorem slP_mono (h : ∀ p, Q p → Q' p) {a : P} {l k : Option Int} (q : slP a l k Q) : slP a l k Q' := by
  cases a <;> first | exact q.elim | exact h _ q
theorem revP_mono (h : ∀ p, Q p → Q' p) {a : P} (q : revP a Q) : revP a Q' := by
  cases a <;> first | exact q.elim | exact h _ q
theorem bltP_mono (h : ∀ p, Q p → Q' p) {f : Bn} {ps : List P} (q : bltP f ps Q) : bltP f ps Q' := by
  unfold bltP at q ⊢
  split at q <;> first | exact q.elim | exact h _ q | exact ⟨q.1, h _ q.2⟩ | (obtain ⟨n, e, q⟩ := q; exact ⟨n, e, h _ q⟩) | (rcases q with ⟨ns, e, q⟩ | ⟨rs, e, n, q⟩ <;> first | exact .inl ⟨ns, e, fun ms a b => h _ (q ms a b)⟩ | exact .inr ⟨rs, e, n, fun ms a b => h _ (q ms a b)⟩)
theorem rngP_mono (h : ∀ p, Q p → Q' p) {ps : List P} (q : rngP ps Q) : rngP ps Q' := by
  unfold rngP at q ⊢
  split at q <;> first | exact q.elim | exact ⟨q.1, h _ q.2⟩ | (obtain ⟨n, e, q⟩ := q; exact ⟨n, e, h _ q⟩)
end
mutual
theorem bindT_mono {k k' : Env → Prop} (h : ∀ e, k e → k' e) : ∀ {t : Tg} {p : P} {env : Env}, bindT t p env k → bindT t p env k'
  | .n _, _, _, q => h _ q
  | .t _, _, _, ⟨xs, e, l, q⟩ => ⟨xs, e, l, bindTs_mono h q⟩
  | .p _ _, _, _, ⟨x, e, a, b, c, q⟩ => ⟨x, e, a, b, c, h _ q⟩
theorem bindTs_mono {k k' : Env → Prop} (h : ∀ e, k e → k' e) : ∀ {ts : List Tg} {ps : List P} {env : Env}, bindTs ts ps env k → bindTs ts ps env k'
  | [], _, _, ⟨e, q⟩ => ⟨e, h _ q⟩
  | t :: ts, _, _, ⟨x, r, e, q⟩ => ⟨x, r, e, bindT_mono (fun _ z => bindTs_mono h z) q⟩
end
theorem lcGo_mono {step step' : P → List P → (List P → Prop) → Prop} (hs : ∀ x acc k k', (∀ a, k a → k' a) → step x acc k → step' x acc k') {k k' : List P → Prop} (h : ∀ a, k a → k' a) : ∀ {xs acc : List P}, lcGo step xs acc k → lcGo step' xs acc k'
  | [], _, q => h _ q
  | x :: r, _, q => hs x _ _ _ (fun _ z => lcGo_mono hs h z) q
theorem tru_mono {p : P} {k k' : Bool → Prop} (h : ∀ b, k b → k' b) : tru p k → tru p k' := fun ⟨b, e, q⟩ => ⟨b, e, h b q⟩
section
variable {T : Tab} (hT : TMono T)
include hT
mutual
theorem wpE_mono : ∀ {x : Ex} {env : Env} {Q Q' : PQ} {E : XQ}, (∀ p, Q p → Q' p) → wpE T x env Q E → wpE T x env Q' E
  | .var _, _, _, _, _, h, ⟨p, e, q⟩ => ⟨p, e, h _ q⟩
  | .rd _, _, _, _, _, h, ⟨p, e, q⟩ => ⟨p, e, h _ q⟩
  | .cst _, _, _, _, _, h, q => h _ q
  | .fnv _, _, _, _, _, h, q => h _ q
  | .non, _, _, _, _, h, q => h _ q
  | .bl _, _, _, _, _, h, q => h _ q
  | .int _, _, _, _, _, h, q => h _ q
  | .str _, _, _, _, _, h, q => h _ q
  | .bin _ a b, _, _, _, _, h, q => wpE_mono (x := a) (fun _ z => wpE_mono (x := b) (fun _ y => opP_mono h y) z) q
  | .neg a, _, _, _, _, h, q => wpE_mono (x := a) (fun _ y => negP_mono h y) q
  | .cmp _ a b, _, _, _, _, h, q => wpE_mono (x := a) (fun _ z => wpE_mono (x := b) (fun _ y => cmpP_mono h y) z) q
  | .chain _ _ a b c, _, _, _, _, h, q => wpE_mono (x := a) (fun _ z => wpE_mono (x := b) (fun _ y => cmpP_mono (fun _ ⟨k, e, w⟩ => ⟨k, e, by
      cases k
      · exact h _ w
      · exact wpE_mono (x := c) (fun _ v => cmpP_mono h v) w⟩) y) z) q
  | .and es, _, _, _, _, h, q => wpAnd_mono (es := es) h q
  | .or es, _, _, _, _, h, q => wpOr_mono (es := es) h q
  | .not a, _, _, _, _, h, q => wpE_mono (x := a) (fun _ y => tru_mono (fun _ z => h _ z) y) q
  | .ite t a b, _, _, _, _, h, q => wpE_mono (x := t) (fun _ y => tru_mono (fun c z => by
      cases c
      · exact wpE_mono (x := b) h z
      · exact wpE_mono (x := a) h z) y) q
  | .tup es, _, _, _, _, h, q => wpEs_mono (es := es) (fun _ y => h _ y) q
  | .lst es, _, _, _, _, h, q => wpEs_mono (es := es) (fun _ y => h _ y) q
  | .ix a b, _, _, _, _, h, q => wpE_mono (x := a) (fun _ z => wpE_mono (x := b) (fun _ y => ixP_mono h y) z) q
  | .sl a lo hi, _, _, _, _, h, q => wpE_mono (x := a) (fun _ z => wpE_mono (x := lo) (fun _ ⟨l, e, y⟩ => ⟨l, e, wpE_mono (x := hi) (fun _ ⟨l2, e2, w⟩ => ⟨l2, e2, slP_mono h w⟩) y⟩) z) q
  | .no, _, _, _, _, h, q => h _ q
  | .blt _ es, _, _, _, _, h, q => wpEs_mono (es := es) (fun _ y => bltP_mono h y) q
  | .call f es, _, _, _, _, h, q => wpEs_mono (es := es) (fun _ y => hT f _ _ _ _ _ h (fun _ _ w => w) y) q
  | .callK f es kes _, _, _, _, _, h, q => wpEs_mono (es := es) (fun _ y => wpEs_mono (es := kes) (fun _ z => hT f _ _ _ _ _ h (fun _ _ w => w) z) y) q
  | .callV _ es, _, _, _, _, h, ⟨f, e, a, b, q⟩ => ⟨f, e, a, b, wpEs_mono (es := es) (fun _ y => hT f _ _ _ _ _ h (fun _ _ w => w) y) q⟩
  | .isi a _, _, _, _, _, h, q => wpE_mono (x := a) (fun _ ⟨b, e, z⟩ => ⟨b, e, h _ z⟩) q
  | .lc elt tg it ifs own, _, _, _, _, h, q => wpE_mono (x := it) (fun _ ⟨xs, e, l, z⟩ => ⟨xs, e, l, lcGo_mono (fun x acc k k' hk w => bindT_mono (fun env' v => wpIfs_mono (es := ifs) (fun b u => by
      cases b
      · exact hk _ u
      · exact wpE_mono (x := elt) (fun _ t => hk _ t) u) v) w) (fun _ y => h _ y) z⟩) q
  | .enum a, _, _, _, _, h, q => wpE_mono (x := a) (fun _ ⟨xs, e, z⟩ => ⟨xs, e, h _ z⟩) q
  | .zip a b, _, _, _, _, h, q => wpE_mono (x := a) (fun _ z => wpE_mono (x := b) (fun _ ⟨xs, ys, e, y⟩ => ⟨xs, ys, e, h _ y⟩) z) q
  | .rng es, _, _, _, _, h, q => wpEs_mono (es := es) (fun _ y => rngP_mono h y) q
  | .dct0, _, _, _, _, h, q => h _ q
  | .dct1 _ e, _, _, _, _, h, q => wpE_mono (x := e) (fun _ y => h _ y) q
  | .callD f es _, _, _, _, _, h, q => wpEs_mono (es := es) (fun _ y => hT f _ _ _ _ _ h (fun _ _ w => w) y) q
  | .rev a, _, _, _, _, h, q => wpE_mono (x := a) (fun _ y => revP_mono h y) q
  | .sset a, _, _, _, _, h, q => wpE_mono (x := a) (fun _ ⟨ns, e, l, y⟩ => ⟨ns, e, l, fun ms z1 z2 => h _ (y ms z1 z2)⟩) q
  | .lsta a es, _, _, _, _, h, q => wpE_mono (x := a) (fun _ ⟨xs, e1, e2, y⟩ => ⟨xs, e1, e2, wpEs_mono (es := es) (fun _ z => ⟨z.1, h _ z.2⟩) y⟩) q
  | .tupa a es, _, _, _, _, h, q => wpE_mono (x := a) (fun _ ⟨xs, e1, e2, y⟩ => ⟨xs, e1, e2, wpEs_mono (es := es) (fun _ z => ⟨z.1, h _ z.2⟩) y⟩) q
theorem wpEs_mono : ∀ {es : List Ex} {env : Env} {Q Q' : List P → Prop} {E : XQ}, (∀ p, Q p → Q' p) → wpEs T es env Q E → wpEs T es env Q' E
  | [], _, _, _, _, h, q => h _ q
  | e :: es, _, _, _, _, h, q => wpE_mono (x := e) (fun _ y => wpEs_mono (es := es) (fun _ z => h _ z) y) q
theorem wpAnd_mono : ∀ {es : List Ex} {env : Env} {Q Q' : PQ} {E : XQ}, (∀ p, Q p → Q' p) → wpAnd T es env Q E → wpAnd T es env Q' E
  | [], _, _, _, _, _, q => q.elim
  | e :: es, env, Q, Q', E, h, q => by
    unfold wpAnd at q ⊢
    split
    · rw [if_pos (by assumption)] at q
      exact wpE_mono (x := e) h q
    · rw [if_neg (by assumption)] at q
      refine wpE_mono (x := e) (fun p y => tru_mono (fun b z => ?_) y) q
      cases b
      · exact h _ z
      · exact wpAnd_mono (es := es) h z
theorem wpOr_mono : ∀ {es : List Ex} {env : Env} {Q Q' : PQ} {E : XQ}, (∀ p, Q p → Q' p) → wpOr T es env Q E → wpOr T es env Q' E
  | [], _, _, _, _, _, q => q.elim
  | e :: es, env, Q, Q', E, h, q => by
    unfold wpOr at q ⊢
    split
    · rw [if_pos (by assumption)] at q
      exact wpE_mono (x := e) h q
    · rw [if_neg (by assumption)] at q
      refine wpE_mono (x := e) (fun p y => tru_mono (fun b z => ?_) y) q
      cases b
      · exact wpOr_mono (es := es) h z
      · exact h _ z
theorem wpIfs_mono : ∀ {es : List Ex} {env : Env} {Q Q' : Bool → Prop} {E : XQ}, (∀ p, Q p → Q' p) → wpIfs T es env Q E → wpIfs T es env Q' E
  | [], _, _, _, _, h, q => h _ q
  | e :: es, _, _, _, _, h, q => wpE_mono (x := e) (fun _ y => tru_mono (fun b z => h b z) y) q
end
section
variable {E E' : XQ} (g : ∀ c xs, E c xs → E' c xs)
include g
mutual
theorem wpE_monoX : ∀ {x : Ex} {env : Env} {Q Q' : PQ}, (∀ p, Q p → Q' p) → wpE T x env Q E → wpE T x env Q' E'
  | .var _, _, _, _, h, ⟨p, e, q⟩ => ⟨p, e, h _ q⟩
  | .rd _, _, _, _, h, ⟨p, e, q⟩ => ⟨p, e, h _ q⟩
  | .cst _, _, _, _, h, q => h _ q
  | .fnv _, _, _, _, h, q => h _ q
  | .non, _, _, _, h, q => h _ q
  | .bl _, _, _, _, h, q => h _ q
  | .int _, _, _, _, h, q => h _ q
  | .str _, _, _, _, h, q => h _ q
  | .bin _ a b, _, _, _, h, q => wpE_monoX (x := a) (fun _ z => wpE_monoX (x := b) (fun _ y => opP_mono h y) z) q
  | .neg a, _, _, _, h, q => wpE_monoX (x := a) (fun _ y => negP_mono h y) q
  | .cmp _ a b, _, _, _, h, q => wpE_monoX (x := a) (fun _ z => wpE_monoX (x := b) (fun _ y => cmpP_mono h y) z) q
  | .chain _ _ a b c, _, _, _, h, q => wpE_monoX (x := a) (fun _ z => wpE_monoX (x := b) (fun _ y => cmpP_mono (fun _ ⟨k, e, w⟩ => ⟨k, e, by
      cases k
      · exact h _ w
      · exact wpE_monoX (x := c) (fun _ v => cmpP_mono h v) w⟩) y) z) q
  | .and es, _, _, _, h, q => wpAnd_monoX (es := es) h q
  | .or es, _, _, _, h, q => wpOr_monoX (es := es) h q
  | .not a, _, _, _, h, q => wpE_monoX (x := a) (fun _ y => tru_mono (fun _ z => h _ z) y) q
  | .ite t a b, _, _, _, h, q => wpE_monoX (x := t) (fun _ y => tru_mono (fun c z => by
      cases c
      · exact wpE_monoX (x := b) h z
      · exact wpE_monoX (x := a) h z) y) q
  | .tup es, _, _, _, h, q => wpEs_monoX (es := es) (fun _ y => h _ y) q
  | .lst es, _, _, _, h, q => wpEs_monoX (es := es) (fun _ y => h _ y) q
  | .ix a b, _, _, _, h, q => wpE_monoX (x := a) (fun _ z => wpE_monoX (x := b) (fun _ y => ixP_mono h y) z) q
  | .sl a lo hi, _, _, _, h, q => wpE_monoX (x := a) (fun _ z => wpE_monoX (x := lo) (fun _ ⟨l, e, y⟩ => ⟨l, e, wpE_monoX (x := hi) (fun _ ⟨l2, e2, w⟩ => ⟨l2, e2, slP_mono h w⟩) y⟩) z) q
  | .no, _, _, _, h, q => h _ q
  | .blt _ es, _, _, _, h, q => wpEs_monoX (es := es) (fun _ y => bltP_mono h y) q
  | .call f es, _, _, _, h, q => wpEs_monoX (es := es) (fun _ y => hT f _ _ _ _ _ h g y) q
  | .callK f es kes _, _, _, _, h, q => wpEs_monoX (es := es) (fun _ y => wpEs_monoX (es := kes) (fun _ z => hT f _ _ _ _ _ h g z) y) q
  | .callV _ es, _, _, _, h, ⟨f, e, a, b, q⟩ => ⟨f, e, a, b, wpEs_monoX (es := es) (fun _ y => hT f _ _ _ _ _ h g y) q⟩
  | .isi a _, _, _, _, h, q => wpE_monoX (x := a) (fun _ ⟨b, e, z⟩ => ⟨b, e, h _ z⟩) q
  | .lc elt tg it ifs own, _, _, _, h, q => wpE_monoX (x := it) (fun _ ⟨xs, e, l, z⟩ => ⟨xs, e, l, lcGo_mono (fun x acc k k' hk w => bindT_mono (fun env' v => wpIfs_mono hT (es := ifs) (fun b u => by
      cases b
      · exact hk _ u
      · exact wpE_mono hT (x := elt) (fun _ t => hk _ t) u) v) w) (fun _ y => h _ y) z⟩) q
  | .enum a, _, _, _, h, q => wpE_monoX (x := a) (fun _ ⟨xs, e, z⟩ => ⟨xs, e, h _ z⟩) q
  | .zip a b, _, _, _, h, q => wpE_monoX (x := a) (fun _ z => wpE_monoX (x := b) (fun _ ⟨xs, ys, e, y⟩ => ⟨xs, ys, e, h _ y⟩) z) q
  | .rng es, _, _, _, h, q => wpEs_monoX (es := es) (fun _ y => rngP_mono h y) q
  | .dct0, _, _, _, h, q => h _ q
  | .dct1 _ e, _, _, _, h, q => wpE_monoX (x := e) (fun _ y => h _ y) q
  | .callD f es _, _, _, _, h, q => wpEs_monoX (es := es) (fun _ y => hT f _ _ _ _ _ h g y) q
  | .rev a, _, _, _, h, q => wpE_monoX (x := a) (fun _ y => revP_mono h y) q
  | .sset a, _, _, _, h, q => wpE_monoX (x := a) (fun _ ⟨ns, e, l, y⟩ => ⟨ns, e, l, fun ms z1 z2 => h _ (y ms z1 z2)⟩) q
  | .lsta a es, _, _, _, h, q => wpE_monoX (x := a) (fun _ ⟨xs, e1, e2, y⟩ => ⟨xs, e1, e2, wpEs_monoX (es := es) (fun _ z => ⟨z.1, h _ z.2⟩) y⟩) q
  | .tupa a es, _, _, _, h, q => wpE_monoX (x := a) (fun _ ⟨xs, e1, e2, y⟩ => ⟨xs, e1, e2, wpEs_monoX (es := es) (fun _ z => ⟨z.1, h _ z.2⟩) y⟩) q
theorem wpEs_monoX : ∀ {es : List Ex} {env : Env} {Q Q' : List P → Prop}, (∀ p, Q p → Q' p) → wpEs T es env Q E → wpEs T es env Q' E'
  | [], _, _, _, h, q => h _ q
  | e :: es, _, _, _, h, q => wpE_monoX (x := e) (fun _ y => wpEs_monoX (es := es) (fun _ z => h _ z) y) q
theorem wpAnd_monoX : ∀ {es : List Ex} {env : Env} {Q Q' : PQ}, (∀ p, Q p → Q' p) → wpAnd T es env Q E → wpAnd T es env Q' E'
  | [], _, _, _, _, q => q.elim
  | e :: es, env, Q, Q', h, q => by
    unfold wpAnd at q ⊢
    split
    · rw [if_pos (by assumption)] at q
      exact wpE_monoX (x := e) h q
    · rw [if_neg (by assumption)] at q
      refine wpE_monoX (x := e) (fun p y => tru_mono (fun b z => ?_) y) q
      cases b
      · exact h _ z
      · exact wpAnd_monoX (es := es) h z
theorem wpOr_monoX : ∀ {es : List Ex} {env : Env} {Q Q' : PQ}, (∀ p, Q p → Q' p) → wpOr T es env Q E → wpOr T es env Q' E'
  | [], _, _, _, _, q => q.elim
  | e :: es, env, Q, Q', h, q => by
    unfold wpOr at q ⊢
    split
    · rw [if_pos (by assumption)] at q
      exact wpE_monoX (x := e) h q
    · rw [if_neg (by assumption)] at q
      refine wpE_monoX (x := e) (fun p y => tru_mono (fun b z => ?_) y) q
      cases b
      · exact wpOr_monoX (es := es) h z
      · exact h _ z
theorem wpIfs_monoX : ∀ {es : List Ex} {env : Env} {Q Q' : Bool → Prop}, (∀ p, Q p → Q' p) → wpIfs T es env Q E → wpIfs T es env Q' E'
  | [], _, _, _, h, q => h _ q
  | e :: es, _, _, _, h, q => wpE_monoX (x := e) (fun _ y => tru_mono (fun b z => h b z) y) q
end
end
/-! one step -/
variable {env : Env} {D : Ds} {r : List Sx}
theorem w_asg {i : Nat} {e : Ex} (R : PQ) (h : wpE T e env R D.ex) (k : ∀ p, R p → wpSs T r (env.set i (some p)) D) : wpSs T (.asg (.n i) e :: r) env D := wpE_mono hT (x := e) (fun p q => k p q) h
theorem w_asgT {ts : List Tg} {e : Ex} (R : PQ) (h : wpE T e env R D.ex) (k : ∀ p, R p → bindT (.t ts) p env fun env' => wpSs T r env' D) : wpSs T (.asg (.t ts) e :: r) env D := wpE_mono hT (x := e) (fun p q => k p q) h
theorem w_asgP {i j : Nat} {e : Ex} (R : PQ) (h : wpE T e env R D.ex) (k : ∀ p, R p → bindT (.p i j) p env fun env' => wpSs T r env' D) : wpSs T (.asg (.p i j) e :: r) env D := wpE_mono hT (x := e) (fun p q => k p q) h
theorem w_own {i : Nat} {e : Ex} (R : PQ) (h : wpE T e env R D.ex) (k : ∀ p, R p → wpSs T r (env.set i (some p)) D) : wpSs T (.own i e :: r) env D := wpE_mono hT (x := e) (fun p q => k p q) h
theorem w_par {is : List (Nat × Bool)} {es : List Ex} (R : List P → Prop) (h : wpEs T es env R D.ex) (k : ∀ ps, R ps → wpSs T r (setAll env is ps) D) : wpSs T (.par is es :: r) env D := wpEs_mono hT (es := es) (fun p q => k p q) h
theorem w_expr {e : Ex} (R : PQ) (h : wpE T e env R D.ex) (k : wpSs T r env D) : wpSs T (.expr e :: r) env D := wpE_mono hT (x := e) (fun p q => k) h
theorem w_ite {t : Ex} {a b : List Sx} (R : Bool → Prop) (h : wpE T t env (fun p => tru p R) D.ex) (k : ∀ c, R c → if c = true then wpSs T a env { D with nx := fun env' => wpSs T r env' D } else wpSs T b env { D with nx := fun env' => wpSs T r env' D }) :
    wpSs T (.ite t a b :: r) env D := wpE_mono hT (x := t) (fun p q => tru_mono (fun c z => k c z) q) h
theorem w_if {t : Ex} {a b : List Sx} (c : Bool) (h : wpE T t env (fun p => p = .bl c) D.ex) (k : if c = true then wpSs T a env { D with nx := fun env' => wpSs T r env' D } else wpSs T b env { D with nx := fun env' => wpSs T r env' D }) :
    wpSs T (.ite t a b :: r) env D := w_ite hT (fun c' => c' = c) (wpE_mono hT (x := t) (fun p e => ⟨c, by rw [e]; rfl, rfl⟩) h) fun c' e => by rw [e]; exact k
theorem w_no {t : Ex} {a : List Sx} (h : wpE T t env (fun p => p = .bl false) D.ex) (k : wpSs T r env D) : wpSs T (.ite t a [] :: r) env D := w_if hT false h (by rw [if_neg (by decide)]; exact k)
theorem w_yes {t : Ex} {a b : List Sx} (h : wpE T t env (fun p => p = .bl true) D.ex) (k : wpSs T a env { D with nx := fun env' => wpSs T r env' D }) : wpSs T (.ite t a b :: r) env D := w_if hT true h (by rw [if_pos rfl]; exact k)
theorem w_ret {e : Ex} (R : PQ) (h : wpE T e env R D.ex) (k : ∀ p, R p → D.rt p) : wpSs T (.ret e :: r) env D := wpE_mono hT (x := e) k h
theorem w_for {t : Tg} {it : Ex} {b : List Sx} (R : PQ) (h : wpE T it env R D.ex) (k : ∀ p, R p → ∃ xs, elems p = some xs ∧ forGo (fun x env k => bindT t x env fun env' => wpSs T b env' { D with nx := k, ct := k, bk := fun env' => wpSs T r env' D }) xs env fun env' => wpSs T r env' D) :
    wpSs T (.for_ t it b :: r) env D := wpE_mono hT (x := it) (fun p q => k p q) h
end
/-! operations on values, each by its shape -/
section
variable {Q : PQ} {i j : Int} {a b : Bool} {x y p : P} {xs ys : List P} {s t : Str}
theorem v_truth : truth (.bl a) = some a := rfl
theorem v_truthI : truth (.int i) = some (i != 0) := rfl
theorem v_truthT : truth (.tup xs) = some (!xs.isEmpty) := rfl
theorem v_truthL : truth (.lst xs) = some (!xs.isEmpty) := rfl
theorem v_truthN : truth .non = some false := rfl
theorem v_tru {k : Bool → Prop} : tru (.bl a) k = k a := by
  unfold tru
  simp [v_truth]
theorem v_add : opP .Add (.int i) (.int j) Q = Q (.int (i + j)) := rfl
theorem v_addL : opP .Add (.lst xs) (.lst ys) Q = (xs.length + ys.length ≤ sizeLine ∧ Q (.lst (xs ++ ys))) := rfl
theorem v_addT : opP .Add (.tup xs) (.tup ys) Q = (xs.length + ys.length ≤ sizeLine ∧ Q (.tup (xs ++ ys))) := rfl
theorem v_sub : opP .Sub (.int i) (.int j) Q = Q (.int (i - j)) := rfl
theorem v_mul : opP .Mult (.int i) (.int j) Q = (((Bt 64 i ∨ Bt 64 j) ∨ (Bt 8000 i ∧ Bt 8000 j)) ∧ Q (.int (i * j))) := rfl
theorem v_fdiv : opP .FloorDiv (.int i) (.int j) Q = ((j ≠ 0 ∧ Bt 8000 j) ∧ Q (.int (i.fdiv j))) := rfl
theorem v_mod : opP .Mod (.int i) (.int j) Q = (j ≠ 0 ∧ Q (.int (i.fmod j))) := rfl
theorem v_pow : opP .Pow (.int i) (.int j) Q = ((0 ≤ j ∧ j ≤ 1000000 ∧ i.natAbs < 2 ^ 64) ∧ Q (.int (i ^ j.toNat))) := rfl
theorem v_neg : negP (.int i) Q = Q (.int (-i)) := rfl
theorem v_lt : cmpP .Lt (.int i) (.int j) Q = Q (.bl (decide (i < j))) := rfl
theorem v_le : cmpP .LtE (.int i) (.int j) Q = Q (.bl (decide (i ≤ j))) := rfl
theorem v_gt : cmpP .Gt (.int i) (.int j) Q = Q (.bl (decide (j < i))) := rfl
theorem v_ge : cmpP .GtE (.int i) (.int j) Q = Q (.bl (decide (j ≤ i))) := rfl
theorem x_eq : cmpP .Eq x y Q = (data x = true ∧ data y = true ∧ Q (.bl (pyEq x y))) := by cases x <;> cases y <;> rfl
theorem x_ne : cmpP .NotEq x y Q = (data x = true ∧ data y = true ∧ Q (.bl (!pyEq x y))) := by cases x <;> cases y <;> rfl
theorem v_isN : cmpP .Is x .non Q = Q (.bl (isNonP x)) := by cases x <;> rfl
theorem v_isnN : cmpP .IsNot x .non Q = Q (.bl (!isNonP x)) := by cases x <;> rfl
theorem v_isB : cmpP .Is (.bl a) (.bl b) Q = Q (.bl (a == b)) := rfl
theorem v_isnB : cmpP .IsNot (.bl a) (.bl b) Q = Q (.bl (!(a == b))) := rfl
theorem pyEq_int : pyEq (.int i) (.int j) = decide (i = j) := by
  show (i == j) = decide (i = j)
  rw [Bool.eq_iff_iff, beq_iff_eq, decide_eq_true_eq]
theorem v_eqI : cmpP .Eq (.int i) (.int j) Q = Q (.bl (decide (i = j))) := by
  rw [x_eq, pyEq_int]
  exact propext ⟨fun h => h.2.2, fun h => ⟨rfl, rfl, h⟩⟩
theorem v_neI : cmpP .NotEq (.int i) (.int j) Q = Q (.bl (!decide (i = j))) := by
  rw [x_ne, pyEq_int]
  exact propext ⟨fun h => h.2.2, fun h => ⟨rfl, rfl, h⟩⟩
theorem v_eqB : cmpP .Eq (.bl a) (.bl b) Q = Q (.bl (a == b)) := by
  rw [x_eq]
  exact propext ⟨fun h => h.2.2, fun h => ⟨rfl, rfl, h⟩⟩
theorem v_neB : cmpP .NotEq (.bl a) (.bl b) Q = Q (.bl (!(a == b))) := by
  rw [x_ne]
  exact propext ⟨fun h => h.2.2, fun h => ⟨rfl, rfl, h⟩⟩
theorem v_bt {ts : List Tg} {env : Env} {k : Env → Prop} : bindT (.t ts) (.tup xs) env k = (xs.length = ts.length ∧ bindTs ts xs env k) :=
  propext ⟨fun ⟨_, e, h⟩ => by cases e; exact h, fun h => ⟨xs, rfl, h⟩⟩
theorem v_bts {t : Tg} {ts : List Tg} {env : Env} {k : Env → Prop} : bindTs (t :: ts) (x :: xs) env k = bindT t x env fun env' => bindTs ts xs env' k :=
  propext ⟨fun ⟨_, _, e, h⟩ => by cases e; exact h, fun h => ⟨x, xs, rfl, h⟩⟩
theorem v_bt0 {env : Env} {k : Env → Prop} : bindTs [] [] env k = k env := propext ⟨fun h => h.2, fun h => ⟨rfl, h⟩⟩
theorem v_btn {n : Nat} {env : Env} {k : Env → Prop} : bindT (.n n) x env k = k (env.set n (some x)) := rfl
theorem v_btp {n m : Nat} {env : Env} {k : Env → Prop} : bindT (.p n m) (.int i) env k = (env[n]? = some (some .pool) ∧ m < 3 ∧ PoolIn m i ∧ k env) :=
  propext ⟨fun ⟨_, e, h⟩ => by cases e; exact h, fun h => ⟨i, rfl, h⟩⟩
theorem v_ixT : ixP (.tup xs) (.int i) Q = ∃ p, atI xs i = some p ∧ Q p := rfl
theorem v_ixL : ixP (.lst xs) (.int i) Q = ∃ p, atI xs i = some p ∧ Q p := rfl
theorem v_ixP : ixP .pool (.int i) Q = ((0 ≤ i ∧ i < 3) ∧ ∀ x, PoolIn i.toNat x → Q (.int x)) := rfl
theorem v_ixS {ns : List Int} : ixP (.scr ns) (.int i) Q = ∃ n, atI ns i = some n ∧ Q (.int n) := rfl
theorem v_len : bltP .len [p] Q = ∃ n : Nat, lenP p = some n ∧ Q (.int n) := rfl
theorem v_lenT : lenP (.tup xs) = some xs.length := rfl
theorem v_lenL : lenP (.lst xs) = some xs.length := rfl
theorem v_lenS {ns : List Int} : lenP (.scr ns) = some ns.length := rfl
theorem v_abs : bltP .abs [.int i] Q = Q (.int (if i < 0 then -i else i)) := rfl
theorem v_int : bltP .int [.int i] Q = Q (.int i) := rfl
theorem b_int {b : Bool} : bltP .int [.bl b] Q = Q (.int (if b = true then 1 else 0)) := rfl
theorem sort_int {ns : List Int} (h : ∀ ms : List Int, ms.Perm ns → ms.Pairwise (· ≤ ·) → Q (.lst (ms.map P.int))) : bltP .sorted [.lst (ns.map P.int)] Q := .inl ⟨ns, rfl, h⟩
theorem sort_row {rs : List (Int × P)} (hn : (rs.map Prod.fst).Nodup) (h : ∀ ss : List (Int × P), ss.Perm rs → ss.Pairwise (fun x y => x.1 ≤ y.1) → Q (.lst (ss.map rowP))) : bltP .sorted [.lst (rs.map rowP)] Q := .inr ⟨rs, rfl, hn, h⟩
theorem v_tupL : bltP .tuple [.lst xs] Q = Q (.tup xs) := rfl
theorem v_tupT : bltP .tuple [.tup xs] Q = Q (.tup xs) := rfl
theorem v_lstL : bltP .list [.lst xs] Q = Q (.lst xs) := rfl
theorem v_lstT : bltP .list [.tup xs] Q = Q (.lst xs) := rfl
theorem v_lstD {ks : List Key} {ps : List P} : bltP .list [.dct ks ps] Q = Q (.lst (ks.map keyP)) := rfl
theorem v_all : bltP .all [.lst xs] Q = ∃ b, allB xs = some b ∧ Q (.bl b) := rfl
theorem v_any : bltP .any [.lst xs] Q = ∃ b, anyB xs = some b ∧ Q (.bl b) := rfl
theorem v_gcd : bltP .gcd [.int i, .int j] Q = Q (.int ((Nat.gcd i.natAbs j.natAbs : Nat) : Int)) := rfl
theorem v_max : bltP .max [.int i, .int j] Q = Q (.int (if j > i then j else i)) := rfl
theorem v_min : bltP .min [.int i, .int j] Q = Q (.int (if j < i then j else i)) := rfl
theorem v_divmod : bltP .divmod [.int i, .int j] Q = ((0 < j ∧ Bt 8000 j) ∧ Q (.tup [.int (i / j), .int (i % j)])) := rfl
theorem v_rng1 : rngP [.int j] Q = (Sm62 j ∧ Q (.lst (rangeP 0 j))) := rfl
theorem v_rng3 {c : Int} : rngP [.int i, .int j, .int c] Q = ∃ n : Nat, RgC i j c n ∧ Q (.lst ((List.range n).map fun (k : Nat) => .int (i + (k : Int) * c))) := rfl
theorem v_rng2 : rngP [.int i, .int j] Q = ((Sm62 i ∧ Sm62 j) ∧ Q (.lst (rangeP i j))) := rfl
theorem v_elT : elems (.tup xs) = some xs := rfl
theorem v_elL : elems (.lst xs) = some xs := rfl
theorem v_isi (ty : String) : isiAny p [ty] = isiP p ty := by
  unfold isiAny
  cases h : isiP p ty with
  | none => rfl
  | some b => cases b <;> rfl
theorem v_mk {α : Type} {pat : α → List P} {pre : α → Prop} {post : α → P → Prop} {ps : List P} {E : XQ} : mk pat pre post ps Q E = ∃ a, ps = pat a ∧ pre a ∧ ∀ r, post a r → Q r := rfl
theorem v_mkX {α : Type} {pat : α → List P} {pre : α → Prop} {f : α → Oc} {ps : List P} {E : XQ} : mkX pat pre f ps Q E = ∃ a, ps = pat a ∧ pre a ∧ ocP Q E (f a) := rfl
theorem v_mkY {α : Type} {pat : α → List P} {pre : α → Prop} {post : α → Oc → Prop} {ps : List P} {E : XQ} : mkY pat pre post ps Q E = ∃ a, ps = pat a ∧ pre a ∧ ∀ o, post a o → ocP Q E o := rfl
theorem oc_v {E : XQ} {p : P} : ocP Q E (.v p) = Q p := rfl
theorem oc_x {E : XQ} {c : Nat} {ps : List P} : ocP Q E (.x c ps) = E c ps := rfl
theorem v_mkD {α : Type} {pat : α → List P} {pre : α → Prop} {f : α → P} {ps : List P} {E : XQ} : mkD pat pre f ps Q E = ∃ a, ps = pat a ∧ pre a ∧ Q (f a) := rfl
end
end Fw
/-! Fw: whole numbers. -/
namespace Fw
open PySem L2
theorem Bt.le {k : Nat} {m n : Int} (h : Bt k n) (l : m.natAbs ≤ n.natAbs) : Bt k m := Nat.lt_of_le_of_lt l h
theorem bt_small {n : Int} (h : n.natAbs ≤ 10 ^ 60) : Bt 8000 n := by
  have h1 : (10 : Nat) ^ 60 < 2 ^ 200 := by decide
  have h2 : (2 : Nat) ^ 200 ≤ 2 ^ 8000 := Nat.pow_le_pow_right (by decide) (by decide)
  exact Nat.lt_of_le_of_lt h (Nat.lt_of_lt_of_le h1 h2)
theorem bt64 {n : Int} (h : n.natAbs ≤ 10 ^ 15) : Bt 64 n := by
  have h1 : (10 : Nat) ^ 15 < 2 ^ 64 := by decide
  exact Nat.lt_of_le_of_lt h h1
theorem bt_pow {n : Int} {k : Nat} (h : n.natAbs < 2 ^ k) (hk : k ≤ 8000) : Bt 8000 n := Nat.lt_of_lt_of_le h (Nat.pow_le_pow_right (by decide) hk)
theorem fdiv_neg_dvd {a g : Int} (hg : 0 < g) (h : g ∣ a) : a.fdiv (-g) = -(a / g) := by
  obtain ⟨k, rfl⟩ := h
  rw [Int.mul_ediv_cancel_left _ (by omega), show g * k = (-g) * (-k) by rw [Int.neg_mul_neg], Int.mul_fdiv_cancel_left _ (by omega)]
theorem fdiv_pos {a g : Int} (hg : 0 ≤ g) : a.fdiv g = a / g := Int.fdiv_eq_ediv_of_nonneg _ hg
theorem fmod_pos {a g : Int} (hg : 0 ≤ g) : a.fmod g = a % g := Int.fmod_eq_emod_of_nonneg _ hg
theorem fmod_nat (x y : Nat) : (x : Int).fmod (y : Int) = ((x % y : Nat) : Int) := by
  rw [fmod_pos (by omega)]; exact (Int.natCast_emod x y).symm
theorem abs_if (i : Int) : (if i < 0 then -i else i) = (i.natAbs : Int) := by
  split <;> omega
/-- data of one level -/
theorem data_int (i : Int) : data (.int i) = true := rfl
theorem data_bl (b : Bool) : data (.bl b) = true := rfl
theorem data_non : data .non = true := rfl
theorem data_pair (i j : Int) : data (.tup [.int i, .int j]) = true := rfl
theorem atI_get {α : Type} {xs : List α} {i : Int} (h0 : 0 ≤ i) (h1 : i < xs.length) : atI xs i = some (xs[i.toNat]'(by omega)) := by
  obtain ⟨n, rfl⟩ : ∃ n : Nat, i = (n : Int) := ⟨i.toNat, by omega⟩
  exact atI_nat (by simp)
theorem mem_at {α : Type} {xs : List α} {i : Int} {x : α} (h : atI xs i = some x) (h0 : 0 ≤ i) (h1 : i < xs.length) : x ∈ xs := by
  rw [atI_get h0 h1] at h
  cases h
  exact List.getElem_mem _
end Fw
namespace Fw
open PySem L2
theorem len_range (lo hi : Int) : (rangeP lo hi).length = (hi - lo).toNat := by unfold rangeP; simp
theorem mem_range {lo hi : Int} {x : P} (h : x ∈ rangeP lo hi) : ∃ k : Int, x = .int k ∧ lo ≤ k ∧ k < hi := by
  unfold rangeP at h
  obtain ⟨k, hk, e⟩ := List.mem_map.mp h
  have := List.mem_range.mp hk
  exact ⟨lo + k, e.symm, by omega, by omega⟩
theorem allB_const {xs : List P} : allB (xs.map fun _ => P.bl true) = some true := allB_true fun x h => by
  obtain ⟨_, _, e⟩ := List.mem_map.mp h
  exact e.symm
/-- a walk over a list in which each turn keeps what holds -/
theorem forGo_inv {step : P → Env → (Env → Prop) → Prop} {k : Env → Prop} (I : Env → Prop) : ∀ xs env, I env → (∀ x ∈ xs, ∀ env, I env → ∀ k', (∀ env', I env' → k' env') → step x env k') → (∀ env, I env → k env) → forGo step xs env k
  | [], env, h, _, h0 => h0 env h
  | x :: r, env, h, h1, h0 => h1 x List.mem_cons_self env h _ fun env' h' => forGo_inv I r env' h' (fun y hy => h1 y (List.mem_cons_of_mem _ hy)) h0
end Fw
/-! Fw: fractions. -/
namespace Fw
open PySem L2
def g2 (a b : Int) : Int := (Nat.gcd a.natAbs b.natAbs : Nat)
def fr (a b : Int) : P := if 0 < b then .tup [.int (a / g2 a b), .int (b / g2 a b)] else .tup [.int (-(a / g2 a b)), .int (-(b / g2 a b))]
def frq (q : Rat) : P := .tup [.int q.num, .int (q.den : Int)]
theorem g2_pos {a b : Int} (h : b ≠ 0) : 0 < g2 a b := by
  have : 0 < Nat.gcd a.natAbs b.natAbs := Nat.gcd_pos_of_pos_right _ (by omega)
  unfold g2; omega
theorem g2_dl (a b : Int) : g2 a b ∣ a := Int.ofNat_dvd_left.mpr (Nat.gcd_dvd_left _ _)
theorem g2_dr (a b : Int) : g2 a b ∣ b := Int.ofNat_dvd_left.mpr (Nat.gcd_dvd_right _ _)
theorem g2_bt {a b : Int} {k : Nat} (h : b ≠ 0) (hb : Bt k b) : Bt k (g2 a b) := hb.le (by
  show (g2 a b).natAbs ≤ _
  unfold g2
  have := Nat.gcd_le_right (m := a.natAbs) (n := b.natAbs) (by omega)
  omega)
theorem data_fr (a b : Int) : data (fr a b) = true := by
  unfold fr
  split <;> rfl
theorem data_frq (q : Rat) : data (frq q) = true := rfl
theorem fr_frq {a b : Int} (h : b ≠ 0) : fr a b = frq (Rat.divInt a b) := by
  have hg := g2_pos (a := a) h
  have eg : ((b.gcd a : Nat) : Int) = g2 a b := by
    show ((Nat.gcd b.natAbs a.natAbs : Nat) : Int) = _
    rw [Nat.gcd_comm]; rfl
  unfold frq
  rw [Rat.num_divInt, Rat.den_divInt, if_neg h, eg]
  have ed : ((b.natAbs / b.gcd a : Nat) : Int) = (b.natAbs : Int) / g2 a b := by
    rw [← eg]; exact Int.natCast_ediv _ _
  rw [ed]
  unfold fr
  by_cases hb : 0 < b
  · rw [if_pos hb, Int.sign_eq_one_of_pos hb, Int.one_mul, show ((b.natAbs : Nat) : Int) = b by omega]
  · have hb' : b < 0 := by omega
    rw [if_neg hb, Int.sign_eq_neg_one_of_neg hb', show ((b.natAbs : Nat) : Int) = -b by omega, Int.neg_mul, Int.one_mul, Int.neg_ediv_of_dvd (g2_dl a b), Int.neg_ediv_of_dvd (g2_dr a b)]
theorem divInt_parts {a b : Int} (h : b ≠ 0) : ∃ m : Int, m ≠ 0 ∧ a = (Rat.divInt a b).num * m ∧ b = (Rat.divInt a b).den * m := by
  generalize e : Rat.divInt a b = q at *
  obtain ⟨n, d, nz, red⟩ := q
  exact Rat.divInt_num_den h e
theorem divInt_cross {a b : Int} (h : b ≠ 0) : (Rat.divInt a b).num * b = a * (Rat.divInt a b).den := by
  obtain ⟨m, _, e1, e2⟩ := divInt_parts (a := a) h
  generalize Rat.divInt a b = q at *
  rw [e1, e2, Int.mul_comm (q.den : Int) m, ← Int.mul_assoc]
theorem le_of_mul {x y m : Int} (hm : m ≠ 0) (e : x = y * m) : y.natAbs ≤ x.natAbs := by
  rw [e, Int.natAbs_mul]
  exact Nat.le_mul_of_pos_right _ (by omega)
theorem divInt_num_le {a b : Int} (h : b ≠ 0) : (Rat.divInt a b).num.natAbs ≤ a.natAbs := by
  obtain ⟨m, hm, e1, _⟩ := divInt_parts (a := a) h
  exact le_of_mul hm e1
theorem divInt_den_le {a b : Int} (h : b ≠ 0) : (Rat.divInt a b).den ≤ b.natAbs := by
  obtain ⟨m, hm, _, e2⟩ := divInt_parts (a := a) h
  have := le_of_mul hm e2
  omega
theorem divInt_self (q : Rat) : Rat.divInt q.num q.den = q := (Rat.mk_eq_divInt (nz := q.den_nz) (c := q.reduced)).symm
theorem fr_self (q : Rat) : fr q.num q.den = frq q := by
  rw [fr_frq (by have := q.den_pos; omega), divInt_self]
theorem pyEq_frq (p q : Rat) : pyEq (frq p) (frq q) = decide (p = q) := by
  show ((p.num == q.num) && (((p.den : Int) == (q.den : Int)) && true)) = _
  rw [Bool.eq_iff_iff]
  simp only [Bool.and_eq_true, beq_iff_eq, decide_eq_true_eq, and_true]
  constructor
  · rintro ⟨e1, e2⟩; exact Rat.ext e1 (by omega)
  · rintro rfl; exact ⟨rfl, rfl⟩
theorem gcd_frq (q : Rat) : Nat.gcd q.num.natAbs q.den = 1 := q.reduced
end Fw
/-! Fw: fractions as values: sums, products, sizes. -/
namespace Fw
open PySem L2
section
variable {Q : PQ} {p q r : Rat} {i j : Int}
theorem f_ix0 : ixP (frq q) (.int 0) Q = Q (.int q.num) := propext ⟨fun ⟨_, e, h⟩ => by
  have e : some (P.int q.num) = some _ := e
  cases e; exact h, fun h => ⟨_, rfl, h⟩⟩
theorem f_ix1 : ixP (frq q) (.int 1) Q = Q (.int (q.den : Int)) := propext ⟨fun ⟨_, e, h⟩ => by
  have e : some (P.int (q.den : Int)) = some _ := e
  cases e; exact h, fun h => ⟨_, rfl, h⟩⟩
theorem f_eq : cmpP .Eq (frq p) (frq q) Q = Q (.bl (decide (p = q))) := by
  rw [x_eq, pyEq_frq]
  exact propext ⟨fun h => h.2.2, fun h => ⟨rfl, rfl, h⟩⟩
theorem f_ne : cmpP .NotEq (frq p) (frq q) Q = Q (.bl (!decide (p = q))) := by
  rw [x_ne, pyEq_frq]
  exact propext ⟨fun h => h.2.2, fun h => ⟨rfl, rfl, h⟩⟩
theorem f_inj (h : frq p = frq q) : p = q := by
  have h : P.tup [.int p.num, .int (p.den : Int)] = P.tup [.int q.num, .int (q.den : Int)] := h
  simp at h
  exact Rat.ext h.1 (by omega)
end
theorem q_eq (q : Rat) : ((q.num : Int) : Rat) / ((q.den : Int) : Rat) = q := by
  rw [← Rat.divInt_eq_div, divInt_self]
theorem d_ne (q : Rat) : ((q.den : Int) : Rat) ≠ 0 := fun h => by
  have := q.den_pos
  have h : ((q.den : Int) : Rat) = ((0 : Int) : Rat) := h
  have := Rat.intCast_inj.mp h
  omega
theorem dn_ne (q : Rat) : (q.den : Int) ≠ 0 := by have := q.den_pos; omega
theorem mul_ne {a b : Int} (ha : a ≠ 0) (hb : b ≠ 0) : a * b ≠ 0 := Int.mul_ne_zero ha hb
theorem num_ne {q : Rat} (h : q ≠ 0) : q.num ≠ 0 := fun e => h (Rat.num_eq_zero.mp e)
theorem fr_add (p q : Rat) : fr (p.num * q.den + q.num * p.den) (p.den * q.den) = frq (p + q) := by
  rw [fr_frq (mul_ne (dn_ne p) (dn_ne q)), Rat.divInt_eq_div]
  have h1 := d_ne p
  have h2 := d_ne q
  congr 1
  rw [Rat.intCast_add, Rat.intCast_mul, Rat.intCast_mul, Rat.intCast_mul]
  have e1 := q_eq p
  have e2 := q_eq q
  generalize ((p.num : Int) : Rat) = a at *
  generalize ((q.num : Int) : Rat) = c at *
  generalize ((p.den : Int) : Rat) = b at *
  generalize ((q.den : Int) : Rat) = d at *
  grind
theorem fr_mul (p q : Rat) : fr (p.num * q.num) (p.den * q.den) = frq (p * q) := by
  rw [fr_frq (mul_ne (dn_ne p) (dn_ne q)), Rat.divInt_eq_div]
  have h1 := d_ne p
  have h2 := d_ne q
  congr 1
  rw [Rat.intCast_mul, Rat.intCast_mul]
  have e1 := q_eq p
  have e2 := q_eq q
  generalize ((p.num : Int) : Rat) = a at *
  generalize ((q.num : Int) : Rat) = c at *
  generalize ((p.den : Int) : Rat) = b at *
  generalize ((q.den : Int) : Rat) = d at *
  grind
theorem fr_div (p : Rat) {q : Rat} (hq : q ≠ 0) : fr (p.num * q.den) (p.den * q.num) = frq (p / q) := by
  rw [fr_frq (mul_ne (dn_ne p) (num_ne hq)), Rat.divInt_eq_div]
  have h1 := d_ne p
  have h2 := d_ne q
  congr 1
  rw [Rat.intCast_mul, Rat.intCast_mul]
  have e1 := q_eq p
  have e2 := q_eq q
  have h3 : ((q.num : Int) : Rat) ≠ 0 := fun h => by
    rw [h] at e2
    apply hq
    rw [← e2]; grind
  generalize ((p.num : Int) : Rat) = a at *
  generalize ((q.num : Int) : Rat) = c at *
  generalize ((p.den : Int) : Rat) = b at *
  generalize ((q.den : Int) : Rat) = d at *
  grind
theorem frq_neg (q : Rat) : P.tup [.int (-q.num), .int (q.den : Int)] = frq (-q) := rfl
theorem frq_neg' (q : Rat) : P.tup [.int (0 - q.num), .int (q.den : Int)] = frq (-q) := by
  rw [Int.zero_sub]; rfl
theorem frq_int (i : Int) : P.tup [.int i, .int 1] = frq (i : Rat) := rfl
theorem num_pos {q : Rat} (h : 0 < q) : 0 < q.num := by
  have h1 : 0 ≤ q.num := Rat.num_nonneg.mpr (Rat.le_of_lt h)
  have h2 : q.num ≠ 0 := num_ne (fun e => by rw [e] at h; exact absurd h (by decide))
  omega
theorem pos_num {q : Rat} (h : 0 < q.num) : 0 < q := by
  have h1 : 0 ≤ q := Rat.num_nonneg.mp (by omega)
  rcases Rat.le_iff_lt_or_eq.mp h1 with e | e
  · exact e
  · rw [← e] at h; exact absurd h (by decide)
theorem frq_inv {q : Rat} (h : 0 < q) : P.tup [.int (q.den : Int), .int q.num] = frq q⁻¹ := by
  have h1 := num_pos h
  unfold frq
  rw [Rat.num_inv, Rat.den_inv, if_neg (by omega), Int.sign_eq_one_of_pos h1, Int.one_mul, Int.natAbs_of_nonneg (by omega)]
theorem floor_fdiv (q : Rat) : q.num.fdiv (q.den : Int) = q.floor := by
  rw [Rat.floor_def, fdiv_pos (by have := q.den_pos; omega)]
/-- n1 d2 // (d1 n2) is the floor of the quotient -/
theorem floor_div {p q : Rat} (h : 0 < q) : (p.num * (q.den : Int)).fdiv ((p.den : Int) * q.num) = (p / q).floor := by
  have hn := num_pos h
  have hd := p.den_pos
  have hpos : 0 < (p.den : Int) * q.num := Int.mul_pos (by omega) hn
  have hq : q ≠ 0 := fun e => by rw [e] at h; exact absurd h (by decide)
  obtain ⟨m, hm, e1, e2⟩ := divInt_parts (a := p.num * (q.den : Int)) (b := (p.den : Int) * q.num) (by omega)
  have e3 : Rat.divInt (p.num * (q.den : Int)) ((p.den : Int) * q.num) = p / q := f_inj (by rw [← fr_frq (by omega), fr_div p hq])
  rw [e3] at e1 e2
  have hdp := (p / q).den_pos
  have hmp : 0 < m := by
    rcases Int.lt_trichotomy m 0 with z | z | z
    · have := Int.mul_neg_of_pos_of_neg (show (0 : Int) < ((p / q).den : Int) by omega) z; omega
    · exact absurd z hm
    · exact z
  rw [Rat.floor_def, fdiv_pos (by omega), e1, e2, Int.mul_ediv_mul_of_pos_left _ _ hmp]
theorem below_iff (p q : Rat) : (p.num * (q.den : Int) < q.num * (p.den : Int)) ↔ p < q := (Rat.lt_iff p q).symm
/-! sizes -/
def Sz (k : Nat) (q : Rat) : Prop := q.num.natAbs < 2 ^ k ∧ q.den < 2 ^ k
theorem Sz.mono {k l : Nat} {q : Rat} (h : Sz k q) (hl : k ≤ l) : Sz l q :=
  ⟨Nat.lt_of_lt_of_le h.1 (Nat.pow_le_pow_right (by decide) hl), Nat.lt_of_lt_of_le h.2 (Nat.pow_le_pow_right (by decide) hl)⟩
theorem Sz.n {k : Nat} {q : Rat} (h : Sz k q) (hk : k ≤ 8000) : Bt 8000 q.num := (Sz.mono h hk).1
theorem Sz.d {k : Nat} {q : Rat} (h : Sz k q) (hk : k ≤ 8000) : Bt 8000 (q.den : Int) := by
  have := (Sz.mono h hk).2
  show ((q.den : Int)).natAbs < _
  rw [Int.natAbs_natCast]; exact this
theorem sz_divInt {a b : Int} {k : Nat} (hb : b ≠ 0) (h1 : a.natAbs < 2 ^ k) (h2 : b.natAbs < 2 ^ k) : Sz k (Rat.divInt a b) :=
  ⟨Nat.lt_of_le_of_lt (divInt_num_le hb) h1, Nat.lt_of_le_of_lt (divInt_den_le hb) h2⟩
theorem bt_mul {a b : Int} {k l : Nat} (h1 : a.natAbs < 2 ^ k) (h2 : b.natAbs < 2 ^ l) : (a * b).natAbs < 2 ^ (k + l) := by
  rw [Int.natAbs_mul, Nat.pow_add]
  exact Nat.mul_lt_mul'' h1 h2
theorem bt_add {a b : Int} {k : Nat} (h1 : a.natAbs < 2 ^ k) (h2 : b.natAbs < 2 ^ k) : (a + b).natAbs < 2 ^ (k + 1) := by
  rw [Nat.pow_succ]
  omega
theorem Sz.dd {k : Nat} {q : Rat} (h : Sz k q) : (q.den : Int).natAbs < 2 ^ k := by rw [Int.natAbs_natCast]; exact h.2
theorem sz_add {p q : Rat} {k l : Nat} (h1 : Sz k p) (h2 : Sz l q) : Sz (k + l + 1) (p + q) := by
  have e : p + q = Rat.divInt (p.num * q.den + q.num * p.den) (p.den * q.den) := f_inj (by rw [← fr_add, fr_frq (mul_ne (dn_ne p) (dn_ne q))])
  rw [e]
  have a1 := bt_mul h1.1 h2.dd
  have a2 := bt_mul h2.1 h1.dd
  rw [Nat.add_comm l k] at a2
  refine sz_divInt (mul_ne (dn_ne p) (dn_ne q)) (bt_add a1 a2) ?_
  exact Nat.lt_of_lt_of_le (bt_mul h1.dd h2.dd) (Nat.pow_le_pow_right (by decide) (by omega))
theorem sz_mul {p q : Rat} {k l : Nat} (h1 : Sz k p) (h2 : Sz l q) : Sz (k + l) (p * q) := by
  have e : p * q = Rat.divInt (p.num * q.num) (p.den * q.den) := f_inj (by rw [← fr_mul, fr_frq (mul_ne (dn_ne p) (dn_ne q))])
  rw [e]
  exact sz_divInt (mul_ne (dn_ne p) (dn_ne q)) (bt_mul h1.1 h2.1) (bt_mul h1.dd h2.dd)
theorem sz_div {p q : Rat} {k l : Nat} (hq : q ≠ 0) (h1 : Sz k p) (h2 : Sz l q) : Sz (k + l) (p / q) := by
  have e : p / q = Rat.divInt (p.num * q.den) (p.den * q.num) := f_inj (by rw [← fr_div p hq, fr_frq (mul_ne (dn_ne p) (num_ne hq))])
  rw [e]
  exact sz_divInt (mul_ne (dn_ne p) (num_ne hq)) (bt_mul h1.1 h2.dd) (bt_mul h1.dd h2.1)
theorem sz_neg {p : Rat} {k : Nat} (h : Sz k p) : Sz k (-p) := ⟨by rw [Rat.neg_num, Int.natAbs_neg]; exact h.1, h.2⟩
theorem sz_sub {p q : Rat} {k l : Nat} (h1 : Sz k p) (h2 : Sz l q) : Sz (k + l + 1) (p - q) := by
  rw [Rat.sub_eq_add_neg]; exact sz_add h1 (sz_neg h2)
theorem sz_int {i : Int} {k : Nat} (h : i.natAbs < 2 ^ k) (hk : 0 < k) : Sz k (i : Rat) := ⟨h, by
  show 1 < 2 ^ k
  exact Nat.one_lt_two_pow (by omega)⟩
theorem sz_floor {q : Rat} {k : Nat} (h : Sz k q) (hk : 0 < k) : Sz k (q.floor : Rat) := by
  refine sz_int ?_ hk
  rw [Rat.floor_def]
  have := q.den_pos
  have h1 : (q.num / (q.den : Int)).natAbs ≤ q.num.natAbs := by
    have hd : (1 : Int) ≤ (q.den : Int) := by omega
    rcases Int.lt_or_le q.num 0 with z | z
    · have a1 : q.num ≤ q.num / (q.den : Int) := by
        rw [Int.le_ediv_iff_mul_le (by omega)]
        have := Int.mul_le_mul_of_nonpos_left (show q.num ≤ 0 by omega) hd
        omega
      have a2 : q.num / (q.den : Int) < 0 := Int.ediv_neg_of_neg_of_pos z (by omega)
      omega
    · have a1 := Int.ediv_le_self (q.den : Int) z
      have a2 := Int.ediv_nonneg z (show (0 : Int) ≤ (q.den : Int) by omega)
      omega
  exact Nat.lt_of_le_of_lt h1 h.1
end Fw
/-! Fw: what several laws' defs speak of. -/
namespace Fw
open PySem L2
def isFrac : P → Bool
  | .tup [.int a, .int b] => decide (0 < b) && decide (Nat.gcd a.natAbs b.natAbs = 1)
  | _ => false
def dep : Nat → P → Bool
  | _, .non => true
  | _, .bl _ => true
  | _, .int _ => true
  | n + 1, .tup xs => decide (xs.length ≤ 1000) && xs.all (dep n)
  | _, _ => false
/-- what stands in a tuple is data -/
def pl2 : P → Bool
  | .tup xs => xs.all pl
  | p => pl p
def pairBt (x : P) : Prop := ∀ u v, x = .tup [.int u, .int v] → Bt 8000 u ∧ Bt 8000 v
def isTup : P → Bool
  | .tup _ => true
  | _ => false
def len0 : P → Int
  | .tup xs => xs.length
  | _ => 0
def geP (l : Int) : P → Bool
  | .int i => decide (l ≤ i)
  | _ => false
theorem all_pl : ∀ {xs : List P}, xs.all pl = true → allB (xs.map fun p => P.bl (isInt p)) = some (xs.all isInt) := fun {xs} _ => allB_map isInt xs
theorem g2_one {a b : Int} (h : 0 < b) : (b / g2 a b = b) ↔ g2 a b = 1 := by
  have hg := g2_pos (a := a) (show b ≠ 0 by omega)
  obtain ⟨k, hk⟩ := g2_dr a b
  constructor
  · intro e
    generalize g2 a b = g at *
    subst hk
    rw [Int.mul_ediv_cancel_left _ (by omega)] at e
    have hk0 : k ≠ 0 := fun z => by rw [z, Int.mul_zero] at h; omega
    exact (Int.eq_of_mul_eq_mul_right hk0 (by rw [Int.one_mul]; exact e)).symm
  · intro e; rw [e]; exact Int.ediv_one b
theorem fr_eq {a b : Int} (h : 0 < b) : pyEq (fr a b) (.tup [.int a, .int b]) = isFrac (.tup [.int a, .int b]) := by
  have e : fr a b = .tup [.int (a / g2 a b), .int (b / g2 a b)] := by simp [fr, h]
  rw [e]
  show ((a / g2 a b == a) && ((b / g2 a b == b) && true)) = (decide (0 < b) && decide (Nat.gcd a.natAbs b.natAbs = 1))
  rw [Bool.eq_iff_iff]
  simp only [Bool.and_eq_true, beq_iff_eq, decide_eq_true_eq, and_true]
  have hg : g2 a b = 1 ↔ Nat.gcd a.natAbs b.natAbs = 1 := by unfold g2; omega
  rw [g2_one h, hg]
  constructor
  · rintro ⟨_, q⟩; exact ⟨h, q⟩
  · rintro ⟨_, q⟩; rw [hg.mpr q]; exact ⟨Int.ediv_one a, q⟩
theorem isFrac_neg {a b : Int} (h : ¬ 0 < b) : isFrac (.tup [.int a, .int b]) = false := by simp [isFrac, h]
theorem mem_zip : ∀ {xs : List P} {z : P}, z ∈ zipP xs xs → ∃ x ∈ xs, z = .tup [x, x]
  | x :: xs, z, h => by
    rcases List.mem_cons.mp h with h | h
    · exact ⟨x, List.mem_cons_self, h⟩
    · obtain ⟨y, hy, e⟩ := mem_zip h
      exact ⟨y, List.mem_cons_of_mem _ hy, e⟩
theorem len_zip : ∀ {xs : List P}, (zipP xs xs).length = xs.length
  | [] => rfl
  | x :: xs => by show (zipP xs xs).length + 1 = _; rw [len_zip]; rfl
theorem all_zip (xs : List P) : allB ((zipP xs xs).map fun _ => P.bl true) = some true := allB_true fun x h => by
  obtain ⟨_, _, e⟩ := List.mem_map.mp h
  exact e.symm
theorem fr_red {a b : Int} (h : 0 < b) : ∃ x y : Int, fr a b = .tup [.int x, .int y] ∧ x.natAbs ≤ a.natAbs ∧ 0 < y ∧ y ≤ b ∧ Nat.gcd x.natAbs y.natAbs = 1 := by
  have hg := g2_pos (a := a) (show b ≠ 0 by omega)
  have hn : 0 < Nat.gcd a.natAbs b.natAbs := Nat.gcd_pos_of_pos_right _ (by omega)
  have ea : (a / g2 a b).natAbs = a.natAbs / Nat.gcd a.natAbs b.natAbs := Int.natAbs_ediv_of_dvd (g2_dl a b)
  have eb : (b / g2 a b).natAbs = b.natAbs / Nat.gcd a.natAbs b.natAbs := Int.natAbs_ediv_of_dvd (g2_dr a b)
  refine ⟨a / g2 a b, b / g2 a b, by simp [fr, h], ?_, ?_, ?_, ?_⟩
  · rw [ea]; exact Nat.div_le_self _ _
  · obtain ⟨k, hk⟩ := g2_dr a b
    have : 0 < k := by
      rcases Int.lt_trichotomy k 0 with z | z | z
      · have := Int.mul_neg_of_pos_of_neg hg z; omega
      · rw [z, Int.mul_zero] at hk; omega
      · exact z
    generalize g2 a b = g at *
    rw [hk, Int.mul_ediv_cancel_left _ (by omega)]; exact this
  · exact Int.ediv_le_self _ (by omega)
  · rw [ea, eb, Nat.gcd_div (Nat.gcd_dvd_left _ _) (Nat.gcd_dvd_right _ _)]; exact Nat.div_self hn
theorem pl_frq (q : Rat) : pl2 (frq q) = true := rfl
theorem isFrac_frq (q : Rat) : isFrac (frq q) = true := by
  have h := q.den_pos
  have g := gcd_frq q
  simp only [frq, isFrac, Int.natAbs_natCast, g]
  simp [h]
theorem fr_bt {t l : Int} (h : l ≠ 0) (ht : Bt 8000 t) (hl : Bt 8000 l) : pairBt (frq (Rat.divInt t l)) := fun u v e => by
  have e : (Rat.divInt t l).num = u ∧ ((Rat.divInt t l).den : Int) = v := by simpa [frq] using e
  obtain ⟨rfl, rfl⟩ := e
  exact ⟨ht.le (divInt_num_le h), hl.le (by have := divInt_den_le (a := t) h; omega)⟩
def rmd (p q : Rat) : Rat := p - ((p / q).floor : Rat) * q
theorem pos_ne {q : Rat} (h : 0 < q) : q ≠ 0 := fun e => by rw [e] at h; exact absurd h (by decide)
theorem rmd_add {p q : Rat} (h : 0 < q) (k : Int) : rmd (p + (k : Rat) * q) q = rmd p q := by
  have hq := pos_ne h
  have e : (p + (k : Rat) * q) / q = p / q + (k : Rat) := by grind
  unfold rmd
  rw [e, Rat.floor_add_intCast, Rat.intCast_add]
  grind
theorem rmd_k (p q : Rat) : rmd p q = p + ((-(p / q).floor : Int) : Rat) * q := by
  unfold rmd
  rw [Rat.intCast_neg]
  grind
theorem rmd_rmd {p q : Rat} (h : 0 < q) : rmd (rmd p q) q = rmd p q := by
  rw [rmd_k p q, rmd_add h, ← rmd_k p q]
theorem rmd_sum {p r q : Rat} (h : 0 < q) : rmd (rmd p q + rmd r q) q = rmd (p + r) q := by
  have e : rmd p q + rmd r q = (p + r) + ((-(p / q).floor + -(r / q).floor : Int) : Rat) * q := by
    rw [rmd_k p q, rmd_k r q, Rat.intCast_add]
    grind
  rw [e, rmd_add h]
theorem rmd_self {q : Rat} (h : 0 < q) : rmd q q = 0 := by
  have hq := pos_ne h
  have e : q / q = ((1 : Int) : Rat) := by
    have : q / q = 1 := by grind
    exact this
  unfold rmd
  rw [e, Rat.floor_intCast]
  show q - 1 * q = 0
  grind
theorem rmd_nonneg {p q : Rat} (h : 0 < q) : 0 ≤ rmd p q := by
  have hq := pos_ne h
  have h1 := Rat.floor_le (p / q)
  have h2 : ((p / q).floor : Rat) * q ≤ (p / q) * q := Rat.mul_le_mul_of_nonneg_right h1 (Rat.le_of_lt h)
  have h3 : (p / q) * q = p := by grind
  unfold rmd
  grind
theorem rmd_lt {p q : Rat} (h : 0 < q) : rmd p q < q := by
  have hq := pos_ne h
  have h1 := Rat.lt_floor_add_one (p / q)
  have h2 : (p / q) * q < (((p / q).floor + 1 : Int) : Rat) * q := Rat.mul_lt_mul_of_pos_right h1 h
  have h3 : (p / q) * q = p := by grind
  rw [Rat.intCast_add] at h2
  unfold rmd
  have h4 : ((1 : Int) : Rat) = 1 := rfl
  grind
theorem rmd_diff {p q : Rat} (h : 0 < q) : (p - rmd p q) * q⁻¹ = ((p / q).floor : Rat) := by
  have hq := pos_ne h
  unfold rmd
  grind
theorem divInt_pos {a b : Int} (ha : 0 < a) (hb : 0 < b) : 0 < Rat.divInt a b := by
  obtain ⟨m, hm, e1, e2⟩ := divInt_parts (a := a) (show b ≠ 0 by omega)
  have hd := (Rat.divInt a b).den_pos
  have hmp : 0 < m := by
    rcases Int.lt_trichotomy m 0 with z | z | z
    · have := Int.mul_neg_of_pos_of_neg (show (0 : Int) < ((Rat.divInt a b).den : Int) by omega) z; omega
    · exact absurd z hm
    · exact z
  apply pos_num
  rcases Int.lt_or_le 0 (Rat.divInt a b).num with z | z
  · exact z
  · have := Int.mul_nonpos_of_nonpos_of_nonneg z (show 0 ≤ m by omega)
    omega
theorem sz_inv {q : Rat} {k : Nat} (h : 0 < q) (hz : Sz k q) : Sz k q⁻¹ := by
  have e : frq q⁻¹ = P.tup [.int (q.den : Int), .int q.num] := (frq_inv h).symm
  have e : P.tup [.int q⁻¹.num, .int (q⁻¹.den : Int)] = P.tup [.int (q.den : Int), .int q.num] := e
  simp at e
  have hn := num_pos h
  refine ⟨?_, ?_⟩
  · have : (q⁻¹).num.natAbs = q.den := by have := e.1; simp at this ⊢; omega
    rw [this]; exact hz.2
  · have : ((q⁻¹).den : Int) = q.num := by have := e.2; simp at this ⊢; omega
    have h2 := hz.1
    omega
theorem sz_rmd {p q : Rat} {k : Nat} (h : 0 < q) (hk : 0 < k) (h1 : Sz k p) (h2 : Sz k q) : Sz (4 * k + 1) (rmd p q) := by
  have s1 : Sz (k + k) (p / q) := sz_div (pos_ne h) h1 h2
  have s2 : Sz (k + k) ((p / q).floor : Rat) := sz_floor s1 (by omega)
  exact (sz_sub h1 (sz_mul s2 h2)).mono (by omega)
theorem int_pos {n : Int} (h : 0 < n) : (0 : Rat) < (n : Rat) := pos_num (q := (n : Rat)) h
theorem frq_unit {n : Int} (h : 0 < n) : P.tup [.int 1, .int n] = frq (n : Rat)⁻¹ := frq_inv (q := (n : Rat)) (int_pos h)
theorem unit_pos {n : Int} (h : 0 < n) : (0 : Rat) < (n : Rat)⁻¹ := by
  have e : frq (n : Rat)⁻¹ = P.tup [.int 1, .int n] := (frq_unit h).symm
  have e : P.tup [.int ((n : Rat)⁻¹).num, .int (((n : Rat)⁻¹).den : Int)] = P.tup [.int 1, .int n] := e
  simp only [P.tup.injEq, List.cons.injEq, P.int.injEq] at e
  exact pos_num (by rw [e.1]; decide)
theorem unit_sz {n : Int} (h : 0 < n) (h2 : n ≤ 24) : Sz 5 (n : Rat)⁻¹ := sz_inv (int_pos h) (sz_int (by show _ < 32; omega) (by decide))
theorem fr_unit {n : Int} (h : 0 < n) : fr 1 n = frq (n : Rat)⁻¹ := by
  rw [fr_frq (by omega), Rat.divInt_eq_div]
  congr 1
  have : ((1 : Int) : Rat) = 1 := rfl
  rw [this]
  grind
theorem inv_inv' {n : Int} (h : 0 < n) : ((n : Rat)⁻¹)⁻¹ = (n : Rat) := by
  have := pos_ne (int_pos h)
  grind
theorem lcGo_filter {step : P → List P → (List P → Prop) → Prop} {k : List P → Prop} (c : P → Bool) : ∀ xs acc, (∀ x ∈ xs, ∀ acc k', k' (if c x = true then acc ++ [x] else acc) → step x acc k') → k (acc ++ xs.filter c) → lcGo step xs acc k
  | [], acc, h, hk => by
    show k acc
    simpa using hk
  | x :: r, acc, h, hk => by
    refine h x List.mem_cons_self acc _ (lcGo_filter c r _ (fun y hy => h y (List.mem_cons_of_mem _ hy)) ?_)
    by_cases hc : c x = true
    · rw [if_pos hc]
      rw [List.filter_cons_of_pos hc] at hk
      simpa using hk
    · rw [if_neg hc]
      rw [List.filter_cons_of_neg hc] at hk
      exact hk
theorem in_range {lo hi k : Int} (h1 : lo ≤ k) (h2 : k < hi) : P.int k ∈ rangeP lo hi := by
  unfold rangeP
  refine List.mem_map.mpr ⟨(k - lo).toNat, List.mem_range.mpr (by omega), ?_⟩
  congr 1; omega
end Fw
/-! Fw: wheels: rows of marks, turned. -/
namespace Fw
open PySem L2
def wl (ns : List Int) : P := .tup (ns.map P.int)
def atm (ns : List Int) (i : Int) : Int := ns.getD (i % (ns.length : Int)).toNat 0
def rot (ns : List Int) (k : Int) : List Int := (List.range ns.length).map fun (p : Nat) => atm ns ((p : Int) - k)
theorem rot_len (ns : List Int) (k : Int) : (rot ns k).length = ns.length := by simp [rot]
theorem atm_per (ns : List Int) (i j : Int) : atm ns (i + (ns.length : Int) * j) = atm ns i := by
  unfold atm
  rw [Int.add_mul_emod_self_left]
theorem atm_rot {ns : List Int} (h : ns ≠ []) (k i : Int) : atm (rot ns k) i = atm ns (i - k) := by
  have hn : 0 < (ns.length : Int) := by have := List.length_pos_iff.mpr h; omega
  have h0 := Int.emod_nonneg i (show (ns.length : Int) ≠ 0 by omega)
  have h1 := Int.emod_lt_of_pos i hn
  have e : i % (ns.length : Int) - k = (i - k) + (ns.length : Int) * (-(i / (ns.length : Int))) := by
    have := Int.emod_add_mul_ediv i (ns.length : Int)
    rw [Int.mul_neg]
    omega
  have : atm (rot ns k) i = atm ns (i % (ns.length : Int) - k) := by
    conv => lhs; unfold atm
    rw [rot_len]
    unfold rot
    rw [List.getD_eq_getElem?_getD, List.getElem?_map, List.getElem?_range (by omega)]
    show atm ns (((i % (ns.length : Int)).toNat : Int) - k) = _
    rw [Int.toNat_of_nonneg h0]
  rw [this, e, atm_per]
theorem atm_at {ns : List Int} {p : Nat} (h : p < ns.length) : ns[p]? = some (atm ns (p : Int)) := by
  unfold atm
  rw [Int.emod_eq_of_lt (by omega) (by omega), List.getD_eq_getElem?_getD]
  simp [h]
theorem atm_ext {a b : List Int} (hl : a.length = b.length) (h : ∀ i, atm a i = atm b i) : a = b := by
  apply List.ext_getElem? 
  intro p
  by_cases hp : p < a.length
  · rw [atm_at hp, atm_at (by omega), h]
  · rw [List.getElem?_eq_none (by omega), List.getElem?_eq_none (by omega)]
theorem rot_ne {ns : List Int} (h : ns ≠ []) (k : Int) : rot ns k ≠ [] := fun e => by
  have := rot_len ns k
  rw [e] at this
  have := List.length_pos_iff.mpr h
  simp at *
  omega
theorem rot_rot {ns : List Int} (h : ns ≠ []) (j k : Int) : rot (rot ns j) k = rot ns (j + k) := by
  apply atm_ext (by rw [rot_len, rot_len, rot_len])
  intro i
  rw [atm_rot (rot_ne h j), atm_rot h, atm_rot h]
  congr 1; omega
theorem rot_zero {ns : List Int} (h : ns ≠ []) : rot ns 0 = ns := by
  apply atm_ext (rot_len ns 0)
  intro i
  rw [atm_rot h, Int.sub_zero]
theorem rot_full {ns : List Int} (h : ns ≠ []) (j : Int) : rot ns ((ns.length : Int) * j) = ns := by
  apply atm_ext (rot_len _ _)
  intro i
  rw [atm_rot h, show i - (ns.length : Int) * j = i + (ns.length : Int) * (-j) by rw [Int.mul_neg]; omega, atm_per]
theorem rot_mul {ns : List Int} (h : ns ≠ []) {m : Int} (hm : rot ns m = ns) : ∀ j : Nat, rot ns (m * j) = ns
  | 0 => by rw [show m * ((0 : Nat) : Int) = 0 by simp]; exact rot_zero h
  | j + 1 => by
    rw [show m * ((j + 1 : Nat) : Int) = m * j + m by rw [Int.natCast_succ, Int.mul_add, Int.mul_one], ← rot_rot h, rot_mul h hm j, hm]
theorem rot_neg {ns : List Int} (h : ns ≠ []) {m : Int} (hm : rot ns m = ns) : rot ns (-m) = ns := by
  have := rot_rot h m (-m)
  rw [hm, show m + -m = 0 by omega, rot_zero h] at this
  exact this
theorem rot_mulI {ns : List Int} (h : ns ≠ []) {m : Int} (hm : rot ns m = ns) (j : Int) : rot ns (m * j) = ns := by
  rcases Int.lt_or_le j 0 with z | z
  · have := rot_neg h (rot_mul h hm (-j).toNat)
    rw [Int.toNat_of_nonneg (by omega), Int.mul_neg, Int.neg_neg] at this
    exact this
  · have := rot_mul h hm j.toNat
    rw [Int.toNat_of_nonneg z] at this
    exact this
/-- the least turn that leaves it -/
theorem period {ns : List Int} (h : ns ≠ []) : ∀ (b m : Nat), m ≤ b → 0 < m → rot ns m = ns → ∃ d : Nat, 0 < d ∧ ∀ k : Int, rot ns k = ns ↔ (d : Int) ∣ k
  | 0, m, h1, h2, _ => by omega
  | b + 1, m, h1, h2, h3 => by
    by_cases hs : ∃ m' : Nat, m' < m ∧ 0 < m' ∧ rot ns m' = ns
    · obtain ⟨m', a1, a2, a3⟩ := hs
      exact period h b m' (by omega) a2 a3
    · refine ⟨m, h2, fun k => ⟨fun hk => ?_, fun ⟨j, hj⟩ => by rw [hj]; exact rot_mulI h h3 j⟩⟩
      have hm : (0 : Int) < (m : Int) := by omega
      have e : k % (m : Int) = k + (m : Int) * (-(k / (m : Int))) := by
        have := Int.emod_add_mul_ediv k (m : Int)
        rw [Int.mul_neg]; omega
      have hr : rot ns (k % (m : Int)) = ns := by
        rw [e, ← rot_rot h, hk]
        exact rot_mulI h h3 _
      have h0 := Int.emod_nonneg k (show (m : Int) ≠ 0 by omega)
      have hlt := Int.emod_lt_of_pos k hm
      refine Int.dvd_of_emod_eq_zero ?_
      rcases Int.lt_or_le 0 (k % (m : Int)) with z | z
      · exact absurd ⟨(k % (m : Int)).toNat, by omega, by omega, by rw [Int.toNat_of_nonneg h0]; exact hr⟩ hs
      · omega
def ordN (ns : List Int) : Nat := ((List.range ns.length).filter fun (k : Nat) => decide (rot ns (k : Int) = ns)).length
theorem count_mult {d : Nat} (hd : 0 < d) : ∀ q : Nat, ((List.range (d * q)).filter fun (k : Nat) => decide ((d : Int) ∣ (k : Int))).length = q
  | 0 => by simp
  | q + 1 => by
    have one : ((List.range d).filter fun (k : Nat) => decide ((d : Int) ∣ ((d * q + k : Nat) : Int))).length = 1 := by
      obtain ⟨e, rfl⟩ : ∃ e, d = e + 1 := ⟨d - 1, by omega⟩
      rw [List.range_succ_eq_map, List.filter_cons_of_pos (by
        refine decide_eq_true ⟨(q : Int), ?_⟩
        push_cast
        omega), List.length_cons]
      have : ((List.range e).map Nat.succ).filter (fun (k : Nat) => decide (((e + 1 : Nat) : Int) ∣ (((e + 1) * q + k : Nat) : Int))) = [] := by
        rw [List.filter_eq_nil_iff]
        intro a ha hdv
        obtain ⟨b, hb, rfl⟩ := List.mem_map.mp ha
        have hb := List.mem_range.mp hb
        have hdv := of_decide_eq_true hdv
        have hdv := Int.natCast_dvd_natCast.mp hdv
        have := (Nat.dvd_add_right (Nat.dvd_mul_right (e + 1) q)).mp hdv
        have := Nat.le_of_dvd (by omega) this
        omega
      rw [this]; rfl
    rw [Nat.mul_succ, List.range_add, List.filter_append, List.length_append, count_mult hd q, List.filter_map, List.length_map]
    congr 1
theorem ord_far {ns : List Int} (h : ns ≠ []) : ∃ d : Nat, 0 < d ∧ (∀ k : Int, rot ns k = ns ↔ (d : Int) ∣ k) ∧ 0 < ordN ns ∧ ns.length = d * ordN ns := by
  have hn := List.length_pos_iff.mpr h
  obtain ⟨d, hd, hk⟩ := period h ns.length ns.length (Nat.le_refl _) hn (by have := rot_full h 1; rwa [Int.mul_one] at this)
  have hdn : (d : Int) ∣ (ns.length : Int) := (hk _).mp (by have := rot_full h 1; rwa [Int.mul_one] at this)
  obtain ⟨q, hq⟩ := Int.natCast_dvd_natCast.mp hdn
  have e : ordN ns = q := by
    have hc := count_mult hd q
    unfold ordN
    rw [hq]
    refine Eq.trans ?_ hc
    congr 2
    funext k
    exact decide_eq_decide.mpr (hk k)
  refine ⟨d, hd, hk, ?_, by rw [e]; exact hq⟩
  rw [e]
  rcases Nat.eq_zero_or_pos q with z | z
  · rw [z, Nat.mul_zero] at hq; omega
  · exact z
theorem rot_iff {ns : List Int} (h : ns ≠ []) (j k : Int) : rot ns j = rot ns k ↔ rot ns (k - j) = ns := by
  constructor
  · intro e
    have h1 := rot_rot h k (-j)
    have h2 := rot_rot h j (-j)
    rw [e, show j + -j = 0 by omega, rot_zero h] at h2
    rw [show k - j = k + -j by omega, ← h1, h2]
  · intro e
    have := rot_rot h (k - j) j
    rw [e, show k - j + j = k by omega] at this
    exact this
theorem ord_rot {ns : List Int} (h : ns ≠ []) (j : Int) : ordN (rot ns j) = ordN ns := by
  unfold ordN
  rw [rot_len]
  congr 2
  funext k
  refine decide_eq_decide.mpr ?_
  rw [rot_rot h, rot_iff h, show j - (j + (k : Int)) = -(k : Int) by omega]
  exact ⟨fun e => by have := rot_neg h e; rwa [Int.neg_neg] at this, fun e => rot_neg h e⟩
theorem pyEq_wl : ∀ a b : List Int, pyEq (wl a) (wl b) = decide (a = b)
  | [], [] => rfl
  | [], _ :: _ => rfl
  | _ :: _, [] => rfl
  | x :: a, y :: b => by
    have ih := pyEq_wl a b
    have e : pyEq (wl (x :: a)) (wl (y :: b)) = ((x == y) && pyEq (wl a) (wl b)) := rfl
    rw [e, ih, Bool.eq_iff_iff]
    simp
theorem shape_ints : ∀ a : List Int, PyData.canLayAll0 (toDs (a.map P.int)) = true
  | [] => rfl
  | _ :: a => by
    show (true && PyData.canLayAll0 (toDs (a.map P.int))) = true
    rw [shape_ints a]; rfl
theorem depth_ints : ∀ a : List Int, PyData.depthAll (toDs (a.map P.int)) = 0
  | [] => rfl
  | x :: a => by
    show max 0 (PyData.depthAll (toDs (a.map P.int))) = 0
    rw [depth_ints a]; rfl
theorem data_wl (a : List Int) : data (wl a) = true := by
  unfold data SeqAt.shaped wl toD
  have h1 : (PyData.tuple (toDs (a.map P.int))).canLay0 = true := shape_ints a
  have h2 : (PyData.tuple (toDs (a.map P.int))).depth = 1 := by
    show PyData.depthAll (toDs (a.map P.int)) + 1 = 1
    rw [depth_ints a]
  rw [h1, h2]; rfl
section
variable {Q : PQ} {a b : List Int} {i : Int} {xs : List P}
theorem w_eq : cmpP .Eq (wl a) (wl b) Q = Q (.bl (decide (a = b))) := by
  rw [x_eq, pyEq_wl]
  exact propext ⟨fun h => h.2.2, fun h => ⟨data_wl a, data_wl b, h⟩⟩
theorem w_ne : cmpP .NotEq (wl a) (wl b) Q = Q (.bl (!decide (a = b))) := by
  rw [x_ne, pyEq_wl]
  exact propext ⟨fun h => h.2.2, fun h => ⟨data_wl a, data_wl b, h⟩⟩
theorem w_len : lenP (wl a) = some a.length := by
  show some (a.map P.int).length = _
  rw [List.length_map]
theorem w_ix (h : a ≠ []) (h0 : 0 ≤ i) (h1 : i < a.length) (q : Q (.int (atm a i))) : ixP (wl a) (.int i) Q := by
  refine ⟨_, atI_get (xs := a.map P.int) h0 (by rw [List.length_map]; exact h1), ?_⟩
  have e : (a.map P.int)[i.toNat]? = some (.int (atm a i)) := by
    rw [List.getElem?_map, atm_at (by omega), Int.toNat_of_nonneg h0]; rfl
  have hl : i.toNat < (a.map P.int).length := by rw [List.length_map]; omega
  rw [List.getElem?_eq_getElem hl] at e
  rw [Option.some.inj e]; exact q
theorem v_mulT : opP .Mult (.tup xs) (.int i) Q = ((xs ≠ [] ∧ 0 ≤ i ∧ i ≤ 1000 ∧ xs.length ≤ 1000) ∧ Q (.tup (repL xs i))) := rfl
end
def Wh (ns : List Int) : Prop := ns ≠ [] ∧ ns.length ≤ 24 ∧ ∀ m ∈ ns, 0 ≤ m ∧ m ≤ 9
theorem ints_of : ∀ {ys : List P}, (∀ y ∈ ys, ∃ m : Int, y = .int m ∧ 0 ≤ m ∧ m ≤ 9) → ∃ ns : List Int, ys = ns.map P.int ∧ ns.length = ys.length ∧ ∀ m ∈ ns, 0 ≤ m ∧ m ≤ 9
  | [], _ => ⟨[], rfl, rfl, fun _ h => by cases h⟩
  | y :: r, h => by
    obtain ⟨m, rfl, h1, h2⟩ := h y List.mem_cons_self
    obtain ⟨ns, e, l, hm⟩ := ints_of (ys := r) fun z hz => h z (List.mem_cons_of_mem _ hz)
    refine ⟨m :: ns, by rw [e]; rfl, by simp [l], fun z hz => ?_⟩
    rcases List.mem_cons.mp hz with e2 | e2
    · rw [e2]; exact ⟨h1, h2⟩
    · exact hm z e2
theorem atm_mem {ns : List Int} (h : ns ≠ []) (i : Int) : atm ns i ∈ ns := by
  have hn := List.length_pos_iff.mpr h
  have h0 := Int.emod_nonneg i (show (ns.length : Int) ≠ 0 by omega)
  have h1 := Int.emod_lt_of_pos i (show (0 : Int) < ns.length by omega)
  unfold atm
  rw [List.getD_eq_getElem?_getD, List.getElem?_eq_getElem (show (i % (ns.length : Int)).toNat < ns.length by omega)]
  exact List.getElem_mem _
theorem wh_rot {ns : List Int} (h : Wh ns) (k : Int) : Wh (rot ns k) := by
  refine ⟨rot_ne h.1 k, by rw [rot_len]; exact h.2.1, fun m hm => ?_⟩
  obtain ⟨p, _, rfl⟩ := List.mem_map.mp hm
  exact h.2.2 _ (atm_mem h.1 _)
theorem rel_ints {xs ys : List P} (hl : ys.length = xs.length) (h : ∀ (i : Nat) x y, xs[i]? = some x → ys[i]? = some y → ∃ m : Int, y = .int m ∧ 0 ≤ m ∧ m ≤ 9) : ∀ y ∈ ys, ∃ m : Int, y = .int m ∧ 0 ≤ m ∧ m ≤ 9 := fun y hy => by
  obtain ⟨i, hi, e⟩ := List.getElem_of_mem hy
  exact h i (xs[i]'(by omega)) y (by simp) (by simp [hi, e])
theorem anyB_const : ∀ {xs : List P}, anyB (xs.map fun _ => P.bl false) = some false
  | [] => rfl
  | x :: r => by
    show (anyB (r.map fun _ => P.bl false)).map _ = _
    rw [anyB_const (xs := r)]; rfl
theorem atm_mod (a : List Int) (i : Int) : atm a (i % (a.length : Int)) = atm a i := by
  unfold atm
  rw [Int.emod_emod_of_dvd _ (Int.dvd_refl _)]
theorem dep_wl {a : List Int} (h : a.length ≤ 1000) : dep 1 (wl a) = true := by
  show (decide ((a.map P.int).length ≤ 1000) && (a.map P.int).all (dep 0)) = true
  rw [List.length_map, decide_eq_true h, Bool.true_and, List.all_eq_true]
  intro x hx
  obtain ⟨m, _, rfl⟩ := List.mem_map.mp hx
  rfl
end Fw
/-! Fw: the measure of fractions. -/
namespace Fw
open PySem L2
/-- the measure of two -/
def qg (p q : Rat) : Rat := Rat.divInt ((Nat.gcd (p.num * q.den).natAbs (q.num * p.den).natAbs : Nat) : Int) (p.den * q.den)
def qms (l : List Rat) : Rat := l.foldl qg 0
def gl (l : List Int) : Nat := l.foldl (fun g a => Nat.gcd g a.natAbs) 0
theorem divInt_partsP {a : Int} {n : Int} (h : 0 < n) : ∃ m : Int, 0 < m ∧ a = (Rat.divInt a n).num * m ∧ n = (Rat.divInt a n).den * m := by
  obtain ⟨m, hm, e1, e2⟩ := divInt_parts (a := a) (show n ≠ 0 by omega)
  have hd := (Rat.divInt a n).den_pos
  refine ⟨m, ?_, e1, e2⟩
  rcases Int.lt_trichotomy m 0 with z | z | z
  · have := Int.mul_neg_of_pos_of_neg (show (0 : Int) < ((Rat.divInt a n).den : Int) by omega) z; omega
  · exact absurd z hm
  · exact z
theorem gcd_scale (a b : Int) {m : Int} (h : 0 < m) : ((Nat.gcd (a * m).natAbs (b * m).natAbs : Nat) : Int) = ((Nat.gcd a.natAbs b.natAbs : Nat) : Int) * m := by
  rw [Int.natAbs_mul, Int.natAbs_mul, Nat.gcd_mul_right, Int.natCast_mul, Int.natAbs_of_nonneg (by omega)]
theorem divInt_scale {a b m : Int} (h : m ≠ 0) : Rat.divInt (a * m) (b * m) = Rat.divInt a b := by
  rw [Int.mul_comm a m, Int.mul_comm b m, Rat.divInt_mul_left h]
/-- over one divisor -/
theorem qg_over {a b n : Int} (hn : 0 < n) : qg (Rat.divInt a n) (Rat.divInt b n) = Rat.divInt ((Nat.gcd a.natAbs b.natAbs : Nat) : Int) n := by
  obtain ⟨m, hm, e1, e2⟩ := divInt_partsP (a := a) hn
  obtain ⟨l, hl, f1, f2⟩ := divInt_partsP (a := b) hn
  have key : qg (Rat.divInt a n) (Rat.divInt b n) = Rat.divInt (((Nat.gcd a.natAbs b.natAbs : Nat) : Int) * n) (n * n) := by
    unfold qg
    generalize Rat.divInt a n = p at *
    generalize Rat.divInt b n = q at *
    have hml : 0 < m * l := Int.mul_pos hm hl
    rw [← divInt_scale (m := m * l) (by omega), ← gcd_scale _ _ hml, ← gcd_scale _ _ hn]
    have g1 : p.num * (q.den : Int) * (m * l) = a * n := by
      conv => rhs; rw [e1, f2]
      simp only [Int.mul_assoc, Int.mul_comm, Int.mul_left_comm]
    have g2' : q.num * (p.den : Int) * (m * l) = b * n := by
      conv => rhs; rw [f1, e2]
      simp only [Int.mul_assoc, Int.mul_comm, Int.mul_left_comm]
    have g3 : (p.den : Int) * (q.den : Int) * (m * l) = n * n := by
      conv => rhs; lhs; rw [e2]
      conv => rhs; rhs; rw [f2]
      simp only [Int.mul_assoc, Int.mul_comm, Int.mul_left_comm]
    rw [g1, g2', g3]
  rw [key, divInt_scale (by omega)]
theorem qms_over {n : Int} (hn : 0 < n) : ∀ (l : List Int) (g : Nat), (l.map fun a => Rat.divInt a n).foldl qg (Rat.divInt (g : Int) n) = Rat.divInt ((l.foldl (fun g a => Nat.gcd g a.natAbs) g : Nat) : Int) n
  | [], g => rfl
  | a :: l, g => by
    rw [List.map_cons, List.foldl_cons, List.foldl_cons, qg_over hn, Int.natAbs_natCast]
    exact qms_over hn l _
theorem qms_gl {n : Int} (hn : 0 < n) (l : List Int) : qms (l.map fun a => Rat.divInt a n) = Rat.divInt (gl l : Int) n := by
  have := qms_over hn l 0
  unfold qms gl
  rw [← this]
  congr 1
  simp
/-- one divisor for all -/
theorem common (l : List Rat) : ∃ (n : Int) (as : List Int), 0 < n ∧ l = as.map fun a => Rat.divInt a n := by
  induction l with
  | nil => exact ⟨1, [], by decide, rfl⟩
  | cons q l ih =>
    obtain ⟨n, as, hn, e⟩ := ih
    have hd := q.den_pos
    refine ⟨n * q.den, (q.num * n) :: as.map (fun a => a * q.den), Int.mul_pos hn (by omega), ?_⟩
    rw [List.map_cons, List.map_map]
    congr 1
    · rw [Int.mul_comm n, divInt_scale (by omega), divInt_self]
    · rw [e]
      refine List.map_congr_left fun a _ => ?_
      exact (divInt_scale (by omega)).symm
theorem gl_acc : ∀ (l : List Int) (g : Nat), l.foldl (fun g a => Nat.gcd g a.natAbs) g = Nat.gcd g (gl l)
  | [], g => by simp [gl]
  | a :: l, g => by
    show l.foldl (fun g a => Nat.gcd g a.natAbs) (Nat.gcd g a.natAbs) = Nat.gcd g (l.foldl (fun g a => Nat.gcd g a.natAbs) (Nat.gcd 0 a.natAbs))
    rw [gl_acc l, gl_acc l, Nat.gcd_zero_left, Nat.gcd_assoc]
theorem gl_cons (a : Int) (l : List Int) : gl (a :: l) = Nat.gcd a.natAbs (gl l) := by
  show l.foldl (fun g a => Nat.gcd g a.natAbs) (Nat.gcd 0 a.natAbs) = _
  rw [Nat.gcd_zero_left, gl_acc]
theorem gl_append (l r : List Int) : gl (l ++ r) = Nat.gcd (gl l) (gl r) := by
  unfold gl
  rw [List.foldl_append, gl_acc]; rfl
theorem gl_reverse : ∀ l : List Int, gl l.reverse = gl l
  | [] => rfl
  | a :: l => by
    have h1 : gl [a] = a.natAbs := by
      rw [gl_cons]
      exact Nat.gcd_zero_right _
    rw [List.reverse_cons, gl_append, gl_reverse l, gl_cons a l, h1, Nat.gcd_comm]
theorem gl_neg : ∀ l : List Int, gl (l.map fun a => -a) = gl l
  | [] => rfl
  | a :: l => by rw [List.map_cons, gl_cons, gl_cons, gl_neg l, Int.natAbs_neg]
theorem gl_dvd : ∀ {l : List Int} {a : Int}, a ∈ l → ((gl l : Nat) : Int) ∣ a
  | b :: l, a, h => by
    rw [gl_cons]
    rcases List.mem_cons.mp h with e | e
    · rw [e]; exact Int.ofNat_dvd_left.mpr (Nat.gcd_dvd_left _ _)
    · exact Int.dvd_trans (Int.natCast_dvd_natCast.mpr (Nat.gcd_dvd_right _ _)) (gl_dvd e)
theorem gl_zero : ∀ {l : List Int}, gl l = 0 ↔ ∀ a ∈ l, a = 0
  | [] => by simp [gl]
  | b :: l => by
    rw [gl_cons, Nat.gcd_eq_zero_iff, gl_zero (l := l)]
    simp
theorem gl_scale (m : Int) : ∀ l : List Int, gl (l.map fun a => m * a) = m.natAbs * gl l
  | [] => by simp [gl]
  | a :: l => by rw [List.map_cons, gl_cons, gl_cons, gl_scale m l, Int.natAbs_mul, Nat.gcd_mul_left]
theorem gcd_bt {a b : Int} {k : Nat} (h1 : a.natAbs < 2 ^ k) (h2 : b.natAbs < 2 ^ k) : ((Nat.gcd a.natAbs b.natAbs : Nat) : Int).natAbs < 2 ^ k := by
  rw [Int.natAbs_natCast]
  rcases Nat.eq_zero_or_pos a.natAbs with z | z
  · rw [z, Nat.gcd_zero_left]; exact h2
  · exact Nat.lt_of_le_of_lt (Nat.gcd_le_left _ z) h1
theorem sz_qg {p q : Rat} {k l : Nat} (h1 : Sz k p) (h2 : Sz l q) : Sz (k + l) (qg p q) := by
  have a2 := bt_mul h2.1 h1.dd
  rw [Nat.add_comm l k] at a2
  exact sz_divInt (mul_ne (dn_ne p) (dn_ne q)) (gcd_bt (bt_mul h1.1 h2.dd) a2) (bt_mul h1.dd h2.dd)
end Fw
/-! Fw: measures of lists of fractions: divides, is the greatest, scales. -/
namespace Fw
open PySem L2
def isZ (q : Rat) : Prop := q.den = 1
instance (q : Rat) : Decidable (isZ q) := inferInstanceAs (Decidable (q.den = 1))
theorem isZ_int (k : Int) : isZ (k : Rat) := rfl
theorem isZ_iff {q : Rat} : isZ q ↔ ∃ k : Int, q = (k : Rat) := ⟨fun h => ⟨q.num, Rat.ext rfl h⟩, fun ⟨k, e⟩ => by rw [e]; rfl⟩
theorem isZ_add {p q : Rat} (h1 : isZ p) (h2 : isZ q) : isZ (p + q) := by
  obtain ⟨a, rfl⟩ := isZ_iff.mp h1
  obtain ⟨b, rfl⟩ := isZ_iff.mp h2
  rw [← Rat.intCast_add]; rfl
theorem isZ_mul {p q : Rat} (h1 : isZ p) (h2 : isZ q) : isZ (p * q) := by
  obtain ⟨a, rfl⟩ := isZ_iff.mp h1
  obtain ⟨b, rfl⟩ := isZ_iff.mp h2
  rw [← Rat.intCast_mul]; rfl
theorem isZ_neg {p : Rat} (h1 : isZ p) : isZ (-p) := h1
theorem isZ_neg_iff {p : Rat} : isZ (-p) ↔ isZ p := Iff.rfl
theorem isZ_sub {p q : Rat} (h1 : isZ p) (h2 : isZ q) : isZ (p - q) := by
  rw [Rat.sub_eq_add_neg]; exact isZ_add h1 (isZ_neg h2)
theorem isZ_zero : isZ 0 := rfl
theorem isZ_one : isZ 1 := rfl
theorem qms_nil : qms [] = 0 := rfl
theorem divInt_q {a n : Int} : Rat.divInt a n = (a : Rat) / (n : Rat) := Rat.divInt_eq_div a n
theorem cast_ne {n : Int} (h : n ≠ 0) : (n : Rat) ≠ 0 := fun e => h (Rat.intCast_inj.mp (e.trans rfl))
theorem qms_nonneg (l : List Rat) : 0 ≤ qms l := by
  obtain ⟨n, as, hn, rfl⟩ := common l
  rw [qms_gl hn]
  obtain ⟨m, hm, e1, e2⟩ := divInt_partsP (a := ((gl as : Nat) : Int)) hn
  apply Rat.num_nonneg.mp
  rcases Int.lt_or_le (Rat.divInt (gl as : Int) n).num 0 with z | z
  · have := Int.mul_neg_of_neg_of_pos z hm; omega
  · exact z
/-- each is a whole multiple -/
theorem qms_div {l : List Rat} {q : Rat} (h : q ∈ l) : ∃ k : Int, q = (k : Rat) * qms l := by
  obtain ⟨n, as, hn, rfl⟩ := common l
  obtain ⟨a, ha, rfl⟩ := List.mem_map.mp h
  obtain ⟨k, hk⟩ := gl_dvd ha
  refine ⟨k, ?_⟩
  have hn0 := cast_ne (show n ≠ 0 by omega)
  rw [qms_gl hn, divInt_q, divInt_q]
  have e : (a : Rat) = ((gl as : Nat) : Int) * (k : Rat) := by rw [← Rat.intCast_mul, ← hk]
  rw [e]
  grind
theorem qms_zero {l : List Rat} : qms l = 0 ↔ ∀ q ∈ l, q = 0 := by
  constructor
  · intro h q hq
    obtain ⟨k, e⟩ := qms_div hq
    rw [e, h]; grind
  · intro h
    obtain ⟨n, as, hn, rfl⟩ := common l
    rw [qms_gl hn]
    have : gl as = 0 := gl_zero.mpr fun a ha => by
      have e := h _ (List.mem_map.mpr ⟨a, ha, rfl⟩)
      rw [divInt_q] at e
      have hn0 := cast_ne (show n ≠ 0 by omega)
      have e2 : (a : Rat) = ((0 : Int) : Rat) := by
        have : ((0 : Int) : Rat) = 0 := rfl
        grind
      exact Rat.intCast_inj.mp e2
    rw [this]; exact Rat.zero_divInt n
theorem qms_scale (c : Rat) (l : List Rat) : qms (l.map fun q => c * q) = (if c < 0 then -c else c) * qms l := by
  obtain ⟨n, as, hn, rfl⟩ := common l
  have hd : 0 < (c.den : Int) := by have := c.den_pos; omega
  have hnn : 0 < (c.den : Int) * n := Int.mul_pos hd hn
  have hn0 := cast_ne (show n ≠ 0 by omega)
  have hc0 := d_ne c
  have hq := q_eq c
  have e : (as.map fun a => Rat.divInt a n).map (fun q => c * q) = (as.map fun a => c.num * a).map fun a => Rat.divInt a ((c.den : Int) * n) := by
    rw [List.map_map, List.map_map]
    refine List.map_congr_left fun a _ => ?_
    show c * Rat.divInt a n = Rat.divInt (c.num * a) ((c.den : Int) * n)
    rw [divInt_q, divInt_q, Rat.intCast_mul, Rat.intCast_mul]
    conv => lhs; lhs; rw [← hq]
    generalize ((c.num : Int) : Rat) = x at *
    generalize ((c.den : Int) : Rat) = y at *
    grind
  rw [e, qms_gl hnn, qms_gl hn, gl_scale, divInt_q, divInt_q, Int.natCast_mul, Rat.intCast_mul, Rat.intCast_mul]
  have ec : (if c < 0 then -c else c) = ((c.num.natAbs : Int) : Rat) / ((c.den : Int) : Rat) := by
    split
    · rename_i h
      have : c.num < 0 := by
        rcases Int.lt_or_le c.num 0 with z | z
        · exact z
        · exact absurd h (Rat.not_lt.mpr (Rat.num_nonneg.mp z))
      rw [Int.ofNat_natAbs_of_nonpos (by omega), Rat.intCast_neg]
      conv => lhs; rw [← hq]
      grind
    · rename_i h
      have : 0 ≤ c.num := Rat.num_nonneg.mpr (Rat.not_lt.mp h)
      rw [Int.natAbs_of_nonneg this]
      exact hq.symm
  rw [ec]
  generalize ((c.num.natAbs : Int) : Rat) = x at *
  generalize ((c.den : Int) : Rat) = y at *
  generalize ((gl as : Int) : Rat) = z at *
  grind
theorem qms_scaleP {c : Rat} (h : 0 ≤ c) (l : List Rat) : qms (l.map fun q => c * q) = c * qms l := by
  rw [qms_scale, if_neg (Rat.not_lt.mpr h)]
theorem qms_ints (as : List Int) : qms (as.map fun (a : Int) => (a : Rat)) = ((gl as : Nat) : Int) := by
  have := qms_gl (n := 1) (by decide) as
  have d1 : ∀ a : Int, Rat.divInt a 1 = (a : Rat) := fun a => by
    rw [divInt_q]
    have : ((1 : Int) : Rat) = 1 := rfl
    rw [this]; grind
  rw [d1] at this
  rw [← this]
  congr 1
  exact List.map_congr_left fun a _ => (d1 a).symm
/-- of all that measure them it is a whole multiple -/
theorem qms_great {l : List Rat} {d : Rat} (h : ∀ q ∈ l, ∃ k : Int, q = (k : Rat) * d) : ∃ k : Int, qms l = (k : Rat) * d := by
  have : ∃ ks : List Int, l = (ks.map fun (k : Int) => (k : Rat)).map fun q => d * q := by
    induction l with
    | nil => exact ⟨[], rfl⟩
    | cons q l ih =>
      obtain ⟨ks, e⟩ := ih fun x hx => h x (List.mem_cons_of_mem _ hx)
      obtain ⟨k, hk⟩ := h q List.mem_cons_self
      exact ⟨k :: ks, by rw [List.map_cons, List.map_cons, ← e, hk, Rat.mul_comm]⟩
  obtain ⟨ks, rfl⟩ := this
  rw [qms_scale, qms_ints]
  split
  · exact ⟨-((gl ks : Nat) : Int), by rw [Rat.intCast_neg]; grind⟩
  · exact ⟨((gl ks : Nat) : Int), by grind⟩
theorem qms_append (l r : List Rat) : qms (l ++ r) = r.foldl qg (qms l) := by
  unfold qms; rw [List.foldl_append]
theorem qms_snoc (l : List Rat) (q : Rat) : qms (l ++ [q]) = qg (qms l) q := qms_append l [q]
/-- equal, if each is a whole multiple of the other -/
theorem eq_of_mult {a b : Rat} (ha : 0 ≤ a) (hb : 0 ≤ b) (h1 : ∃ k : Int, a = (k : Rat) * b) (h2 : ∃ k : Int, b = (k : Rat) * a) : a = b := by
  obtain ⟨j, e1⟩ := h1
  obtain ⟨k, e2⟩ := h2
  rcases Rat.le_iff_lt_or_eq.mp ha with h | h
  · have hb0 : 0 < b := by
      rcases Rat.le_iff_lt_or_eq.mp hb with z | z
      · exact z
      · rw [← z] at e1; grind
    have e3 : ((j * k : Int) : Rat) = ((1 : Int) : Rat) := by
      rw [Rat.intCast_mul]
      have : ((1 : Int) : Rat) = 1 := rfl
      have hbn := pos_ne hb0
      grind
    have e4 := Rat.intCast_inj.mp e3
    have hj : 0 ≤ j := by
      rcases Int.lt_or_le j 0 with z | z
      · have hz : (j : Rat) < ((0 : Int) : Rat) := Rat.intCast_lt_intCast.mpr z
        have : (j : Rat) * b < 0 * b := Rat.mul_lt_mul_of_pos_right hz hb0
        grind
      · exact z
    have : j = 1 := Int.eq_one_of_mul_eq_one_right hj e4
    rw [e1, this]
    show (1 : Rat) * b = b
    grind
  · rw [← h] at e2 ⊢
    grind
theorem qms_same {l r : List Rat} (h : ∀ q, q ∈ l ↔ q ∈ r) : qms l = qms r :=
  eq_of_mult (qms_nonneg _) (qms_nonneg _) (qms_great fun q hq => qms_div ((h q).mp hq)) (qms_great fun q hq => qms_div ((h q).mpr hq))
theorem qms_pos {l : List Rat} {q : Rat} (hq : q ∈ l) (h : q ≠ 0) : 0 < qms l := by
  rcases Rat.le_iff_lt_or_eq.mp (qms_nonneg l) with z | z
  · exact z
  · exact absurd (qms_zero.mp z.symm q hq) h
theorem qms_one (q : Rat) : qms [q] = if q < 0 then -q else q := by
  have := qms_scale q [1]
  have e : qms [1] = 1 := by decide +kernel
  rw [e] at this
  simp only [List.map_cons, List.map_nil] at this
  rw [show q * 1 = q by grind] at this
  rw [this]
  split <;> grind
theorem lcm_least {l : List Rat} {M x : Rat} (hM : 0 < M) (hMR : M * qms (l.map fun q => q⁻¹) = 1) (hx : 0 < x) (h : ∀ q ∈ l, isZ (x * q⁻¹)) : ∃ k : Int, x = (k : Rat) * M ∧ 1 ≤ k := by
  obtain ⟨k, hk⟩ := qms_great (l := l.map fun q => x * q⁻¹) (d := 1) (fun y hy => by
    obtain ⟨q, hq, rfl⟩ := List.mem_map.mp hy
    obtain ⟨j, e⟩ := isZ_iff.mp (h q hq)
    exact ⟨j, by rw [e]; grind⟩)
  have e := qms_scaleP (Rat.le_of_lt hx) (l.map fun q => q⁻¹)
  rw [List.map_map] at e
  have e2 : qms (l.map fun q => x * q⁻¹) = x * qms (l.map fun q => q⁻¹) := e
  rw [e2] at hk
  have hk2 : x = (k : Rat) * M := by grind
  refine ⟨k, hk2, ?_⟩
  rcases Int.lt_or_le 0 k with z | z
  · omega
  · have hz : (k : Rat) ≤ ((0 : Int) : Rat) := Rat.intCast_le_intCast.mpr z
    have : (k : Rat) * M ≤ 0 * M := Rat.mul_le_mul_of_nonneg_right hz (Rat.le_of_lt hM)
    grind
theorem lcm_le {l : List Rat} {M x : Rat} (hM : 0 < M) (hMR : M * qms (l.map fun q => q⁻¹) = 1) (hx : 0 < x) (h : ∀ q ∈ l, isZ (x * q⁻¹)) : M ≤ x := by
  obtain ⟨k, e, hk⟩ := lcm_least hM hMR hx h
  have hz : ((1 : Int) : Rat) ≤ (k : Rat) := Rat.intCast_le_intCast.mpr hk
  have : ((1 : Int) : Rat) * M ≤ (k : Rat) * M := Rat.mul_le_mul_of_nonneg_right hz (Rat.le_of_lt hM)
  have h1 : ((1 : Int) : Rat) = 1 := rfl
  rw [h1] at this
  grind
end Fw
/-! Fw: steps of a body, side goals, sizes: tactics. -/
namespace Fw
open PySem L2
section
variable {T : Tab} {r a b : List Sx} {env : Env} {D : Ds} {e t : Ex} {es : List Ex} {ts : List Tg} {i j : Nat}
theorem s_nil : wpSs T [] env D = D.nx env := rfl
theorem s_asg (h : wpE T e env (fun p => wpSs T r (env.set i (some p)) D) D.ex) : wpSs T (.asg (.n i) e :: r) env D := h
theorem s_asgT (h : wpE T e env (fun p => bindT (.t ts) p env fun env' => wpSs T r env' D) D.ex) : wpSs T (.asg (.t ts) e :: r) env D := h
theorem s_asgP (h : wpE T e env (fun p => bindT (.p i j) p env fun env' => wpSs T r env' D) D.ex) : wpSs T (.asg (.p i j) e :: r) env D := h
theorem s_own (h : wpE T e env (fun p => wpSs T r (env.set i (some p)) D) D.ex) : wpSs T (.own i e :: r) env D := h
theorem s_par {is : List (Nat × Bool)} (h : wpEs T es env (fun ps => wpSs T r (setAll env is ps) D) D.ex) : wpSs T (.par is es :: r) env D := h
theorem s_expr (h : wpE T e env (fun _ => wpSs T r env D) D.ex) : wpSs T (.expr e :: r) env D := h
theorem s_ret (h : wpE T e env D.rt D.ex) : wpSs T (.ret e :: r) env D := h
theorem s_retN (h : D.rt .non) : wpSs T (.retN :: r) env D := h
theorem s_ite (h : wpE T t env (fun p => tru p fun c => if c = true then wpSs T a env { D with nx := fun env' => wpSs T r env' D } else wpSs T b env { D with nx := fun env' => wpSs T r env' D }) D.ex) : wpSs T (.ite t a b :: r) env D := h
theorem s_for {tg : Tg} (h : wpE T e env (fun p => ∃ xs, elems p = some xs ∧ forGo (fun x env k => bindT tg x env fun env' => wpSs T b env' { D with nx := k, ct := k, bk := fun env' => wpSs T r env' D }) xs env fun env' => wpSs T r env' D) D.ex) : wpSs T (.for_ tg e b :: r) env D := h
theorem s_seti {k : Ex} (h : wpE T e env (fun p => ∃ xs, env[i]? = some (some (.lst xs)) ∧ wpE T k env (fun q => ∃ n j, q = .int n ∧ ixN xs.length n = some j ∧ wpSs T r (env.set i (some (.lst (xs.set j p)))) D) D.ex) D.ex) : wpSs T (.seti i k e :: r) env D := h
theorem s_setd {k : Ex} (h : wpE T e env (fun p => ∃ ks ps, env[i]? = some (some (.dct ks ps)) ∧ ks.length < sizeLine ∧ wpE T k env (fun q => ∃ key, q = keyP key ∧ wpSs T r (env.set i (some (putP ks ps key p))) D) D.ex) D.ex) : wpSs T (.setd i k e :: r) env D := h
theorem s_ext (h : ∃ xs, env[i]? = some (some (.lst xs)) ∧ wpE T e env (fun p => ∃ ys, p = .lst ys ∧ xs.length + ys.length ≤ sizeLine ∧ wpSs T r (env.set i (some (.lst (xs ++ ys)))) D) D.ex) : wpSs T (.ext i e :: r) env D := h
theorem s_app (h : ∃ xs, env[i]? = some (some (.lst xs)) ∧ wpE T e env (fun p => xs.length < sizeLine ∧ wpSs T r (env.set i (some (.lst (xs ++ [p])))) D) D.ex) : wpSs T (.app i e :: r) env D := h
theorem s_raise {c : Nat} {es : List Ex} (h : wpEs T es env (fun ps => D.ex c ps) D.ex) : wpSs T (.raise c es :: r) env D := h
theorem s_try {b : List Sx} {hs : List Hd} (h : wpSs T b env { nx := fun env' => wpSs T r env' D, rt := D.rt, bk := D.bk, ct := D.ct, ex := fun c ps => hdP T { D with nx := fun env' => wpSs T r env' D } c ps hs }) : wpSs T (.try_ b hs :: r) env D := h
theorem s_pass (h : wpSs T r env D) : wpSs T (.pass :: r) env D := h
theorem s_cnt (h : D.ct env) : wpSs T (.cnt :: r) env D := h
theorem s_brk (h : D.bk env) : wpSs T (.brk :: r) env D := h
/-- a def by what is asked and answered -/
theorem bodyD {α : Type} {pat : α → List P} {pre : α → Prop} {f : α → P} {np n : Nat} {b : List Sx} (hl : ∀ a, (pat a).length = np) (h : ∀ a Q E, pre a → (∀ r, r = f a → Q r) → wpSs T b (env0 n (pat a)) (Ds.fn Q E)) : BodyOk T np n b (mkD pat pre f) :=
  ⟨by rintro ps Q E ⟨a, rfl, _⟩; exact hl a, by rintro ps Q E ⟨a, rfl, p, q⟩; exact h a Q E p fun r e => e ▸ q⟩
theorem bodyM {α : Type} {pat : α → List P} {pre : α → Prop} {post : α → P → Prop} {np n : Nat} {b : List Sx} (hl : ∀ a, (pat a).length = np) (h : ∀ a Q E, pre a → (∀ r, post a r → Q r) → wpSs T b (env0 n (pat a)) (Ds.fn Q E)) : BodyOk T np n b (mk pat pre post) :=
  ⟨by rintro ps Q E ⟨a, rfl, _⟩; exact hl a, by rintro ps Q E ⟨a, rfl, p, q⟩; exact h a Q E p q⟩
theorem bodyX {α : Type} {pat : α → List P} {pre : α → Prop} {f : α → Oc} {np n : Nat} {b : List Sx} (hl : ∀ a, (pat a).length = np) (h : ∀ a Q E, pre a → ocP Q E (f a) → wpSs T b (env0 n (pat a)) (Ds.fn Q E)) : BodyOk T np n b (mkX pat pre f) :=
  ⟨by rintro ps Q E ⟨a, rfl, _⟩; exact hl a, by rintro ps Q E ⟨a, rfl, p, q⟩; exact h a Q E p q⟩
theorem bodyY {α : Type} {pat : α → List P} {pre : α → Prop} {post : α → Oc → Prop} {np n : Nat} {b : List Sx} (hl : ∀ a, (pat a).length = np) (h : ∀ a Q E, pre a → (∀ o, post a o → ocP Q E o) → wpSs T b (env0 n (pat a)) (Ds.fn Q E)) : BodyOk T np n b (mkY pat pre post) :=
  ⟨by rintro ps Q E ⟨a, rfl, _⟩; exact hl a, by rintro ps Q E ⟨a, rfl, p, q⟩; exact h a Q E p q⟩
end
theorem frq_inj {p q : Rat} : (frq p = frq q) = (p = q) := propext ⟨f_inj, fun e => by rw [e]⟩
/-! sizes -/
theorem sz_zero : Sz 1 0 := ⟨by decide, by decide⟩
theorem sz_one : Sz 1 1 := ⟨by decide, by decide⟩
theorem sz_lit {q : Rat} (h : decide (q.num.natAbs < 2 ^ 200) && decide (q.den < 2 ^ 200)) : Sz 200 q := by
  simp at h; exact h
theorem sz_lit4 {q : Rat} (h : decide (q.num.natAbs < 2 ^ 4) && decide (q.den < 2 ^ 4)) : Sz 4 q := by
  simp at h; exact h
theorem sz_lit16 {q : Rat} (h : decide (q.num.natAbs < 2 ^ 16) && decide (q.den < 2 ^ 16)) : Sz 16 q := by
  simp at h; exact h
theorem sz_int8 {i : Int} (h : i.natAbs < 2 ^ 8) : Sz 8 (i : Rat) := sz_int h (by decide)
theorem sz_int32 {i : Int} (h : i.natAbs < 2 ^ 32) : Sz 32 (i : Rat) := sz_int h (by decide)
theorem sz_dv8 {a b : Int} (hb : b ≠ 0) (h1 : a.natAbs < 2 ^ 8) (h2 : b.natAbs < 2 ^ 8) : Sz 8 (Rat.divInt a b) := sz_divInt hb h1 h2
theorem sz_intB {i : Int} (h : i.natAbs < 2 ^ 200) : Sz 200 (i : Rat) := sz_int h (by decide)
theorem sz_divIntB {a b : Int} (hb : b ≠ 0) (h1 : a.natAbs < 2 ^ 200) (h2 : b.natAbs < 2 ^ 200) : Sz 200 (Rat.divInt a b) := sz_divInt hb h1 h2
theorem Sz.le {k K : Nat} {q : Rat} (h : Sz k q) (l : Nat.ble k K = true) : Sz K q := h.mono (Nat.le_of_ble_eq_true l)
theorem bt_intB {i : Int} (h : i.natAbs < 2 ^ 200) : Bt 8000 i := bt_pow h (by decide)
theorem Sz.nB {k : Nat} {q : Rat} (h : Sz k q) (l : Nat.ble k 8000 = true) : Bt 8000 q.num := h.n (Nat.le_of_ble_eq_true l)
theorem Sz.dB {k : Nat} {q : Rat} (h : Sz k q) (l : Nat.ble k 8000 = true) : Bt 8000 (q.den : Int) := h.d (Nat.le_of_ble_eq_true l)
theorem pairBt_sz {q : Rat} {k : Nat} (h : Sz k q) (l : Nat.ble k 8000 = true) : pairBt (frq q) := fun u v e => by
  have e : q.num = u ∧ ((q.den : Int)) = v := by simpa [frq] using e
  obtain ⟨rfl, rfl⟩ := e
  exact ⟨h.nB l, h.dB l⟩
end Fw
/-! Fw: comprehensions by type, the loop of a greatest common divisor, walks over laps. -/
namespace Fw
open PySem L2
theorem lcGo_ty {α : Type} {step : P → List P → (List P → Prop) → Prop} {k : List P → Prop} (g : α → P) (f : α → P) : ∀ (l : List α) (acc : List P), (∀ a ∈ l, ∀ acc k', k' (acc ++ [f a]) → step (g a) acc k') → k (acc ++ l.map f) → lcGo step (l.map g) acc k
  | [], acc, h, hk => by
    show k acc
    simpa using hk
  | x :: r, acc, h, hk => h x List.mem_cons_self acc _ (lcGo_ty g f r _ (fun y hy => h y (List.mem_cons_of_mem _ hy)) (by simpa using hk))
/-- a comprehension whose values are whole typed values -/
theorem lcGo_tt {α β : Type} {step : P → List P → (List P → Prop) → Prop} {k : List P → Prop} (g : α → P) (h : β → P) (f : α → β) (l : List α) (hs : ∀ a ∈ l, ∀ acc k', k' (acc ++ [h (f a)]) → step (g a) acc k') (hk : k ((l.map f).map h)) : lcGo step (l.map g) [] k :=
  lcGo_ty g (fun a => h (f a)) l [] hs (by
    rw [List.nil_append]
    rw [List.map_map] at hk
    exact hk)
/-- drawn, each by what it is -/
theorem lcGo_dr {β : Type} {step : P → List P → (List P → Prop) → Prop} {k : List P → Prop} (h : β → P) (R : β → Prop) : ∀ (xs acc : List P), (∀ x ∈ xs, ∀ acc k', (∀ b, R b → k' (acc ++ [h b])) → step x acc k') → (∀ l : List β, l.length = xs.length → (∀ b ∈ l, R b) → k (acc ++ l.map h)) → lcGo step xs acc k
  | [], acc, hs, hk => by
    show k acc
    simpa using hk [] rfl (fun b hb => by cases hb)
  | x :: r, acc, hs, hk => hs x List.mem_cons_self acc _ fun b hb => lcGo_dr h R r _ (fun y hy => hs y (List.mem_cons_of_mem _ hy)) fun l hl hr => by
      have := hk (b :: l) (by simp [hl]) (fun c hc => by
        rcases List.mem_cons.mp hc with e | e
        · rw [e]; exact hb
        · exact hr c e)
      simpa using this
theorem lcGo_dr0 {β : Type} {step : P → List P → (List P → Prop) → Prop} {k : List P → Prop} (h : β → P) (R : β → Prop) (xs : List P) (hs : ∀ x ∈ xs, ∀ acc k', (∀ b, R b → k' (acc ++ [h b])) → step x acc k') (hk : ∀ l : List β, l.length = xs.length → (∀ b ∈ l, R b) → k (l.map h)) : lcGo step xs [] k :=
  lcGo_dr h R xs [] hs fun l a b => by rw [List.nil_append]; exact hk l a b
/-- a filter -/
theorem lcGo_ft {α : Type} {step : P → List P → (List P → Prop) → Prop} {k : List P → Prop} (g : α → P) (c : α → Bool) : ∀ (l : List α) (acc : List P), (∀ a ∈ l, ∀ acc k', k' (if c a = true then acc ++ [g a] else acc) → step (g a) acc k') → k (acc ++ (l.filter c).map g) → lcGo step (l.map g) acc k
  | [], acc, h, hk => by
    show k acc
    simpa using hk
  | x :: r, acc, h, hk => by
    refine h x List.mem_cons_self acc _ (lcGo_ft g c r _ (fun y hy => h y (List.mem_cons_of_mem _ hy)) ?_)
    by_cases hc : c x = true
    · rw [if_pos hc]
      rw [List.filter_cons_of_pos hc, List.map_cons] at hk
      simpa using hk
    · rw [if_neg hc]
      rw [List.filter_cons_of_neg hc] at hk
      exact hk
theorem allB_one {α : Type} {l : List α} {c : α → Bool} (h : ∀ a ∈ l, c a = true) : allB (l.map fun a => P.bl (c a)) = some true := by
  rw [allB_map]
  congr 1
  exact List.all_eq_true.mpr h
theorem anyB_map {α : Type} (f : α → Bool) : ∀ xs : List α, anyB (xs.map fun x => P.bl (f x)) = some (xs.any f)
  | [] => rfl
  | x :: r => by
    show (anyB (r.map fun x => P.bl (f x))).map _ = _
    rw [anyB_map f r]; rfl
/-- the top and the low one of a fraction -/
theorem f_bt {q : Rat} {s t : Tg} {env : Env} {k : Env → Prop} : bindT (.t [s, t]) (frq q) env k = bindT s (.int q.num) env fun e => bindT t (.int (q.den : Int)) e k := by
  show bindT (.t [s, t]) (.tup [.int q.num, .int (q.den : Int)]) env k = _
  rw [v_bt, v_bts]
  apply propext
  constructor
  · rintro ⟨_, h⟩
    exact bindT_mono (fun e h => by rw [v_bts] at h; exact bindT_mono (fun e h => by rw [v_bt0] at h; exact h) h) h
  · intro h
    exact ⟨rfl, bindT_mono (fun e h => by rw [v_bts]; exact bindT_mono (fun e h => by rw [v_bt0]; exact h) h) h⟩
theorem den_one {q : Rat} : decide ((q.den : Int) = 1) = decide (isZ q) := decide_eq_decide.mpr (by unfold isZ; omega)
theorem t_nf {T : Tab} {k : Nat} : (T.upto k).nf = k := rfl
theorem t_np {T : Tab} {k : Nat} : (T.upto k).np = T.np := rfl
theorem frl_inj {l m : List Rat} : (l.map frq = m.map frq) = (l = m) := propext ⟨fun h => by
  induction l generalizing m with
  | nil => cases m with
    | nil => rfl
    | cons _ _ => cases h
  | cons a l ih => cases m with
    | nil => cases h
    | cons b m =>
      rw [List.map_cons, List.map_cons] at h
      obtain ⟨h1, h2⟩ := List.cons.inj h
      rw [f_inj h1, ih h2], fun h => by rw [h]⟩
theorem elT_map {α : Type} {g : α → P} {l : List α} : elems (.tup (l.map g)) = some (l.map g) := rfl
/-- while two > 0: one, two = two, one % two -/
theorem whl_gcd {T : Tab} (hT : TMono T) {i j : Nat} {x y : Int} {env : Env} {D : Ds} {r : List Sx} (hij : i ≠ j) (hi : env[i]? = some (some (.int x))) (hj : env[j]? = some (some (.int y))) (hx : 0 ≤ x) (hy : 0 ≤ y)
    (h : wpSs T r ((env.set i (some (.int (g2 x y)))).set j (some (.int 0))) D) :
    wpSs T (.whl (.cmp .Gt (.var j) (.int 0)) [.par [(i, false), (j, false)] [.var j, .bin .Mod (.blt .int [.var i]) (.var j)]] :: r) env D := by
  have li : i < env.length := (List.getElem?_eq_some_iff.mp hi).1
  have lj : j < env.length := (List.getElem?_eq_some_iff.mp hj).1
  obtain ⟨x, rfl⟩ := Int.eq_ofNat_of_zero_le hx
  obtain ⟨y, rfl⟩ := Int.eq_ofNat_of_zero_le hy
  have gi : ∀ (u v : Nat), ((env.set i (some (.int (u : Int)))).set j (some (.int (v : Int))))[i]? = some (some (.int (u : Int))) := fun u v => by
    rw [List.getElem?_set_ne (by omega), List.getElem?_set_self li]
  have gj : ∀ (u v : Nat), ((env.set i (some (.int (u : Int)))).set j (some (.int (v : Int))))[j]? = some (some (.int (v : Int))) := fun u v => by
    rw [List.getElem?_set_self (by rw [List.length_set]; exact lj)]
  refine ⟨fun m e => ∃ u v : Nat, e = (env.set i (some (.int (u : Int)))).set j (some (.int (v : Int))) ∧ m = v ∧ Nat.gcd u v = Nat.gcd x y, ⟨y, x, y, ?_, rfl, rfl⟩, ?_⟩
  · apply List.ext_getElem?
    intro p
    by_cases e1 : p = j
    · subst e1; rw [gj, hj]
    · by_cases e2 : p = i
      · subst e2; rw [gi, hi]
      · rw [List.getElem?_set_ne (by omega), List.getElem?_set_ne (by omega)]
  · rintro m e ⟨u, v, rfl, rfl, hg⟩
    simp only [wpE, gj, v_gt, v_tru, decide_eq_true_eq, Option.some.injEq, exists_eq_left']
    by_cases hv : (0 : Int) < (m : Int)
    · rw [if_pos hv]
      refine s_par ?_
      simp only [wpEs, wpE, gi, gj, v_int, v_mod, fmod_nat, Option.some.injEq, exists_eq_left', setAll]
      refine ⟨by omega, ?_⟩
      show ∃ m', m' < m ∧ _
      refine ⟨u % m, Nat.mod_lt _ (by omega), m, u % m, ?_, rfl, ?_⟩
      · apply List.ext_getElem?
        intro p
        by_cases e1 : p = j
        · subst e1
          rw [gj, List.getElem?_set_self (by simp only [List.length_set]; exact lj)]
        · by_cases e2 : p = i
          · subst e2
            rw [gi, List.getElem?_set_ne (by omega), List.getElem?_set_self (by simp only [List.length_set]; exact li)]
          · simp only [List.getElem?_set_ne (show j ≠ p by omega), List.getElem?_set_ne (show i ≠ p by omega)]
      · rw [← hg, Nat.gcd_comm u m, Nat.gcd_rec m u, Nat.gcd_comm]
    · rw [if_neg hv]
      have hm : m = 0 := by omega
      subst hm
      rw [Nat.gcd_zero_right] at hg
      have e : (u : Int) = g2 (x : Int) (y : Int) := by
        unfold g2
        rw [Int.natAbs_natCast, Int.natAbs_natCast, ← hg]
      rw [e]
      exact h
/-- for lap in range(..): what holds ahead of each turn -/
theorem forLap {step : P → Env → (Env → Prop) → Prop} {k : Env → Prop} (I : Env → Prop) {lo hi : Int} {env : Env} (h0 : I env) (h1 : ∀ lap : Int, lo ≤ lap → lap < hi → ∀ env, I env → ∀ k', (∀ env', I env' → k' env') → step (.int lap) env k') (h2 : ∀ env, I env → k env) : forGo step (rangeP lo hi) env k :=
  forGo_inv I _ _ h0 (fun x hx env he k' hk => by
    obtain ⟨z, rfl, a, b⟩ := mem_range hx
    exact h1 z a b env he k' hk) h2
/-- turn by turn, what holds behind so many -/
theorem forN {step : P → Env → (Env → Prop) → Prop} {k : Env → Prop} (I : Int → Env → Prop) : ∀ (n : Nat) {lo : Int} {env : Env}, I lo env → (∀ i : Int, lo ≤ i → i < lo + n → ∀ env, I i env → ∀ k', (∀ env', I (i + 1) env' → k' env') → step (.int i) env k') → (∀ env, I (lo + n) env → k env) → forGo step (rangeP lo (lo + n)) env k
  | 0, lo, env, h0, _, h2 => by
    have : rangeP lo (lo + ((0 : Nat) : Int)) = [] := by unfold rangeP; simp
    rw [this]
    exact h2 env (by simpa using h0)
  | n + 1, lo, env, h0, h1, h2 => by
    have e : rangeP lo (lo + ((n + 1 : Nat) : Int)) = .int lo :: rangeP (lo + 1) (lo + 1 + (n : Int)) := by
      unfold rangeP
      rw [show (lo + ((n + 1 : Nat) : Int) - lo).toNat = n + 1 by omega, show (lo + 1 + (n : Int) - (lo + 1)).toNat = n by omega, List.range_succ_eq_map, List.map_cons, List.map_map]
      congr 1
      · congr 1; simp
      · refine List.map_congr_left fun a _ => ?_
        show P.int (lo + ((a + 1 : Nat) : Int)) = P.int (lo + 1 + (a : Int))
        congr 1; omega
    rw [e]
    refine h1 lo (by omega) (by omega) env h0 _ fun env' h' => ?_
    refine forN I n h' (fun i a b => h1 i (by omega) (by omega)) fun env he => h2 env ?_
    rw [show lo + ((n + 1 : Nat) : Int) = lo + 1 + (n : Int) by omega]; exact he
/-- over typed values -/
theorem forTy {α : Type} {step : P → Env → (Env → Prop) → Prop} {k : Env → Prop} (g : α → P) (I : List α → List α → Env → Prop) : ∀ (l pre : List α) (env : Env), I pre l env → (∀ pre a r env, I pre (a :: r) env → ∀ k', (∀ env', I (pre ++ [a]) r env' → k' env') → step (g a) env k') → (∀ env, I (pre ++ l) [] env → k env) → forGo step (l.map g) env k
  | [], pre, env, h0, _, h2 => h2 env (by simpa using h0)
  | a :: r, pre, env, h0, h1, h2 => h1 pre a r env h0 _ fun env' h' => forTy g I r (pre ++ [a]) env' h' h1 fun env he => h2 env (by simpa using he)
theorem mem_int1 {r : P} {l : List P} {lo hi : Int} (h : r ∈ l) (hl : l.all fun x => match x with | .int i => decide (lo ≤ i) && decide (i ≤ hi) | _ => false) : ∃ i : Int, r = .int i ∧ lo ≤ i ∧ i ≤ hi := by
  have := List.all_eq_true.mp hl r h
  cases r <;> simp at this
  exact ⟨_, rfl, this.1, this.2⟩
end Fw
namespace Fw
theorem mem_enumF : ∀ {xs : List P} {k : Nat} {x : P}, x ∈ enumFrom k xs → ∃ (i : Nat) (y : P), x = .tup [.int i, y] ∧ y ∈ xs ∧ k ≤ i ∧ i < k + xs.length ∧ xs[i - k]? = some y
  | y :: r, k, x, h => by
    rcases List.mem_cons.mp h with e | e
    · exact ⟨k, y, e, List.mem_cons_self, by omega, by simp, by simp⟩
    · obtain ⟨i, z, e1, e2, e3, e4, e5⟩ := mem_enumF e
      refine ⟨i, z, e1, List.mem_cons_of_mem _ e2, by omega, by simp; omega, ?_⟩
      rw [show i - k = (i - (k + 1)) + 1 by omega]
      simpa using e5
theorem mem_enum {xs : List P} {x : P} (h : x ∈ enumFrom 0 xs) : ∃ (i : Int) (y : P), x = .tup [.int i, y] ∧ y ∈ xs := by
  obtain ⟨i, y, e, m, _⟩ := mem_enumF h
  exact ⟨i, y, e, m⟩
end Fw

namespace Fw
open PySem L2
theorem bt_natAbs {k : Nat} {i : Int} (h : Bt k i) : Bt k (i.natAbs : Int) := by
  show ((i.natAbs : Int)).natAbs < _
  rw [Int.natAbs_natCast]; exact h
/-- the measure as the laws reckon it: the top first -/
theorem qg_law {g q : Rat} (h : 0 ≤ g) : Rat.divInt (g2 ((q.num.natAbs : Int) * (g.den : Int)) (g.num * (q.den : Int))) ((q.den : Int) * (g.den : Int)) = qg g q := by
  unfold qg g2
  have e1 : ((q.num.natAbs : Int) * (g.den : Int)).natAbs = (q.num * (g.den : Int)).natAbs := by
    rw [Int.natAbs_mul, Int.natAbs_mul, Int.natAbs_natCast]
  rw [e1, Nat.gcd_comm, Int.mul_comm (q.den : Int)]
theorem qg_law0 {g q : Rat} (h : 0 ≤ g) (z : ¬ 0 < g2 ((q.num.natAbs : Int) * (g.den : Int)) (g.num * (q.den : Int))) : qg g q = 0 := by
  rw [← qg_law h]
  have : g2 ((q.num.natAbs : Int) * (g.den : Int)) (g.num * (q.den : Int)) = 0 := by unfold g2 at z ⊢; omega
  rw [this]
  exact Rat.zero_divInt _
theorem g2_btm {a b c d : Int} {k l : Nat} (h1 : a.natAbs < 2 ^ k) (h2 : b.natAbs < 2 ^ l) (h3 : c.natAbs < 2 ^ l) (h4 : d.natAbs < 2 ^ k) (hk : k + l ≤ 8000) : Bt 8000 (g2 (a * b) (c * d)) := by
  refine bt_pow (gcd_bt (bt_mul h1 h2) ?_) hk
  rw [Nat.add_comm]
  exact bt_mul h3 h4
end Fw

namespace Fw
theorem one_frq : P.tup [.int 1, .int 1] = frq 1 := rfl
theorem zero_frq : P.tup [.int 0, .int 1] = frq 0 := rfl
theorem one_div' {q : Rat} : 1 / q = q⁻¹ := by grind
theorem sz_qmsA {k : Nat} : ∀ {l : List Rat} {g : Rat} {m : Nat}, Sz m g → (∀ q ∈ l, Sz k q) → Sz (m + k * l.length) (l.foldl qg g)
  | [], g, m, h, _ => h.mono (by omega)
  | q :: l, g, m, h, hs => (sz_qmsA (sz_qg h (hs q List.mem_cons_self)) fun x hx => hs x (List.mem_cons_of_mem _ hx)).mono (by rw [List.length_cons, Nat.mul_succ]; omega)
theorem sz_qms {k K : Nat} {l : List Rat} (h : ∀ q ∈ l, Sz k q) (hK : 1 + k * l.length ≤ K) : Sz K (qms l) := (sz_qmsA sz_zero h).mono hK
theorem sz_qms1 {k m : Nat} {l : List Rat} (h : ∀ q ∈ l, Sz k q) (hm : l.length ≤ m) : Sz (1 + k * m) (qms l) := sz_qms h (by have := Nat.mul_le_mul_left k hm; omega)
end Fw

namespace Fw
theorem fa_eq {α : Type} {f : α → P} {C : P → α → Prop} : (∀ r a, r = f a → C r a) = ∀ a, C (f a) a := propext ⟨fun h a => h _ a rfl, fun h r a e => e ▸ h a⟩
class IntL (xs : List P) (l : outParam (List Int)) : Prop where
  eq : xs = l.map P.int
instance : IntL [] [] := ⟨rfl⟩
instance {a : Int} {xs : List P} {l : List Int} [h : IntL xs l] : IntL (.int a :: xs) (a :: l) := ⟨by rw [h.eq]; rfl⟩
def inL : List Int → Int → Prop
  | [], _ => False
  | a :: l, m => m = a ∨ inL l m
theorem inL_nil {m : Int} : inL [] m = False := rfl
theorem inL_cons {a m : Int} {l : List Int} : inL (a :: l) m = (m = a ∨ inL l m) := rfl
theorem inL_iff : ∀ {l : List Int} {m : Int}, inL l m ↔ m ∈ l
  | [], m => by simp [inL]
  | a :: l, m => by rw [inL_cons, inL_iff (l := l), List.mem_cons]
theorem fa_mem {xs : List P} {l : List Int} [h : IntL xs l] {C : P → Prop} : (∀ r, r ∈ xs → C r) = ∀ m, inL l m → C (.int m) := propext ⟨fun q m hm => q _ (by rw [h.eq]; exact List.mem_map.mpr ⟨m, inL_iff.mp hm, rfl⟩), fun q r hr => by
  rw [h.eq] at hr
  obtain ⟨m, hm, rfl⟩ := List.mem_map.mp hr
  exact q m (inL_iff.mpr hm)⟩
theorem sm62 {i : Int} : Sm62 i = (-4611686018427387904 ≤ i ∧ i < 4611686018427387904) := rfl
end Fw

namespace Fw
open PySem L2
theorem cut_map {α : Type} {f : α → P} {l : List α} {lo hi : Option Int} : cutP (l.map f) lo hi = ((l.drop (HT.sIx l.length 0 lo)).take (HT.sIx l.length l.length hi - HT.sIx l.length 0 lo)).map f := by
  unfold cutP
  rw [List.length_map, List.map_take, List.map_drop]
theorem sIx_n {n d : Nat} : HT.sIx n d none = d := rfl
theorem sIx_s {n d : Nat} {v : Int} (h : 0 ≤ v) : HT.sIx n d (some v) = min v.toNat n := by
  show (if v < 0 then _ else _) = _
  rw [if_neg (by omega)]
theorem sIx_1 {n d : Nat} : HT.sIx n d (some 1) = min 1 n := rfl
theorem atI_0 {α : Type} {a : α} {l : List α} : atI (a :: l) 0 = some a := by
  rw [atI_get (by decide) (by simp)]
  rfl
theorem forNN {step : P → Env → (Env → Prop) → Prop} {k : Env → Prop} (I : Int → Env → Prop) (n : Nat) {lo hi : Int} {env : Env} (e : hi = lo + n) (h0 : I lo env) (h1 : ∀ i : Int, lo ≤ i → i < hi → ∀ env, I i env → ∀ k', (∀ env', I (i + 1) env' → k' env') → step (.int i) env k') (h2 : ∀ env, I hi env → k env) : forGo step (rangeP lo hi) env k := by
  subst e
  exact forN I n h0 h1 h2
end Fw

namespace Fw
theorem dep_frq2 {q : Rat} : dep 2 (frq q) = true := rfl
theorem dep_frq1 {q : Rat} : dep 1 (frq q) = true := rfl
end Fw
/-! Fw: lists of fractions as values. -/
namespace Fw
open PySem L2
class FrL (xs : List P) (l : outParam (List Rat)) : Prop where
  eq : xs = l.map frq
instance : FrL [] [] := ⟨rfl⟩
instance {a : Rat} {xs : List P} {l : List Rat} [h : FrL xs l] : FrL (frq a :: xs) (a :: l) := ⟨by rw [h.eq]; rfl⟩
theorem fa_memq {xs : List P} {l : List Rat} [h : FrL xs l] {C : P → Prop} : (∀ r, r ∈ xs → C r) = ∀ q, q ∈ l → C (frq q) := propext ⟨fun q m hm => q _ (by rw [h.eq]; exact List.mem_map.mpr ⟨m, hm, rfl⟩), fun q r hr => by
  rw [h.eq] at hr
  obtain ⟨m, hm, rfl⟩ := List.mem_map.mp hr
  exact q m hm⟩
theorem frl_eq {xs : List P} {l m : List Rat} [h : FrL xs l] : (xs = m.map frq) = (l = m) := by rw [h.eq, frl_inj]
/-- small enough to be measured -/
def SzL (l : List Rat) : Prop := ∃ k, (∀ q ∈ l, Sz k q) ∧ k * l.length + 1 ≤ 3000
theorem SzL.of {k n : Nat} {l : List Rat} (h : ∀ q ∈ l, Sz k q) (hn : l.length ≤ n) (hk : Nat.ble (k * n + 1) 3000 = true) : SzL l := ⟨k, h, by
  have := Nat.le_of_ble_eq_true hk
  have := Nat.mul_le_mul_left k hn
  omega⟩
theorem SzL.ms {l : List Rat} (h : SzL l) : Sz 3000 (qms l) := by
  obtain ⟨k, h, hk⟩ := h
  exact sz_qms h (by omega)
theorem fa_eq2 {α β : Type} {f : α → β → P} {C : P → α → β → Prop} : (∀ r a b, r = f a b → C r a b) = ∀ a b, C (f a b) a b := propext ⟨fun h a b => h _ a b rfl, fun h r a b e => e ▸ h a b⟩
theorem fa_eq3 {α β γ : Type} {f : α → β → γ → P} {C : P → α → β → γ → Prop} : (∀ r a b c, r = f a b c → C r a b c) = ∀ a b c, C (f a b c) a b c := propext ⟨fun h a b c => h _ a b c rfl, fun h r a b c e => e ▸ h a b c⟩
theorem atI_1 {α : Type} {a b : α} {l : List α} : atI (a :: b :: l) 1 = some b := by
  rw [atI_get (by decide) (by simp; omega)]; rfl
theorem atI_2 {α : Type} {a b c : α} {l : List α} : atI (a :: b :: c :: l) 2 = some c := by
  rw [atI_get (by decide) (by simp; omega)]; rfl
theorem atI_3 {α : Type} {a b c d : α} {l : List α} : atI (a :: b :: c :: d :: l) 3 = some d := by
  rw [atI_get (by decide) (by simp; omega)]; rfl
theorem i_tup {xs : List P} {t : String} : isiP (.tup xs) t = some (t == "tuple") := rfl
theorem i_lst {xs : List P} {t : String} : isiP (.lst xs) t = some (t == "list") := rfl
theorem i_int {i : Int} {t : String} : isiP (.int i) t = some (t == "int") := rfl
theorem i_bl {b : Bool} {t : String} : isiP (.bl b) t = some (t == "bool" || t == "int") := rfl
theorem i_non {t : String} : isiP .non t = some false := rfl
theorem i_str {x : Str} {t : String} : isiP (.str x) t = some (t == "str") := rfl
theorem i_dct {ks : List Key} {vs : List P} {t : String} : isiP (.dct ks vs) t = some (t == "dict") := rfl
theorem i_frq {q : Rat} {t : String} : isiP (frq q) t = some (t == "tuple") := rfl
theorem l_frq {q : Rat} : lenP (frq q) = some 2 := rfl
theorem len_frq {q : Rat} {Q : PQ} : bltP .len [frq q] Q = Q (.int 2) := propext ⟨fun ⟨n, e, h⟩ => by
  have e : some 2 = some n := e
  cases e; exact h, fun h => ⟨2, rfl, h⟩⟩
theorem e_frq {q : Rat} : elems (frq q) = some [.int q.num, .int (q.den : Int)] := rfl
theorem frl_snoc {l : List Rat} {q : Rat} : l.map frq ++ [frq q] = (l ++ [q]).map frq := by simp
theorem frl_app {l m : List Rat} : l.map frq ++ m.map frq = (l ++ m).map frq := by simp
theorem frl_rev {l : List Rat} : (l.map frq).reverse = l.reverse.map frq := by simp
theorem frl_nil : P.tup [] = .tup (([] : List Rat).map frq) := rfl
theorem shape_frl : ∀ l : List Rat, PyData.canLayAll0 (toDs (l.map frq)) = true
  | [] => rfl
  | _ :: l => by
    show (true && PyData.canLayAll0 (toDs (l.map frq))) = true
    rw [shape_frl l]; rfl
theorem depth_frl : ∀ l : List Rat, PyData.depthAll (toDs (l.map frq)) ≤ 1
  | [] => Nat.zero_le _
  | x :: l => by
    show max 1 (PyData.depthAll (toDs (l.map frq))) ≤ 1
    have := depth_frl l
    omega
theorem data_frl (l : List Rat) : data (.tup (l.map frq)) = true := by
  unfold data SeqAt.shaped toD
  have h1 : (PyData.tuple (toDs (l.map frq))).canLay0 = true := shape_frl l
  have h2 : (PyData.tuple (toDs (l.map frq))).depth ≤ 2 := by
    show PyData.depthAll (toDs (l.map frq)) + 1 ≤ 2
    have := depth_frl l
    omega
  rw [h1, Bool.true_and]
  exact decide_eq_true (Nat.le_trans h2 (by decide))
theorem data_frll (l : List Rat) : data (.lst (l.map frq)) = true := by
  unfold data SeqAt.shaped toD
  have h1 : (PyData.list (toDs (l.map frq))).canLay0 = true := shape_frl l
  have h2 : (PyData.list (toDs (l.map frq))).depth ≤ 2 := by
    show PyData.depthAll (toDs (l.map frq)) + 1 ≤ 2
    have := depth_frl l
    omega
  rw [h1, Bool.true_and]
  exact decide_eq_true (Nat.le_trans h2 (by decide))
theorem pyEq_frl : ∀ l m : List Rat, pyEq (.tup (l.map frq)) (.tup (m.map frq)) = decide (l = m)
  | [], [] => rfl
  | [], _ :: _ => rfl
  | _ :: _, [] => rfl
  | x :: a, y :: b => by
    have ih := pyEq_frl a b
    have e : pyEq (.tup ((x :: a).map frq)) (.tup ((y :: b).map frq)) = (pyEq (frq x) (frq y) && pyEq (.tup (a.map frq)) (.tup (b.map frq))) := rfl
    rw [e, ih, pyEq_frq, Bool.eq_iff_iff]
    simp
theorem pyEq_frll : ∀ l m : List Rat, pyEq (.lst (l.map frq)) (.lst (m.map frq)) = decide (l = m)
  | [], [] => rfl
  | [], _ :: _ => rfl
  | _ :: _, [] => rfl
  | x :: a, y :: b => by
    have ih := pyEq_frll a b
    have e : pyEq (.lst ((x :: a).map frq)) (.lst ((y :: b).map frq)) = (pyEq (frq x) (frq y) && pyEq (.lst (a.map frq)) (.lst (b.map frq))) := rfl
    rw [e, ih, pyEq_frq, Bool.eq_iff_iff]
    simp
section
variable {Q : PQ} {l m : List Rat}
theorem fl_eq : cmpP .Eq (.tup (l.map frq)) (.tup (m.map frq)) Q = Q (.bl (decide (l = m))) := by
  rw [x_eq, pyEq_frl]
  exact propext ⟨fun h => h.2.2, fun h => ⟨data_frl l, data_frl m, h⟩⟩
theorem fl_ne : cmpP .NotEq (.tup (l.map frq)) (.tup (m.map frq)) Q = Q (.bl (!decide (l = m))) := by
  rw [x_ne, pyEq_frl]
  exact propext ⟨fun h => h.2.2, fun h => ⟨data_frl l, data_frl m, h⟩⟩
theorem fll_eq : cmpP .Eq (.lst (l.map frq)) (.lst (m.map frq)) Q = Q (.bl (decide (l = m))) := by
  rw [x_eq, pyEq_frll]
  exact propext ⟨fun h => h.2.2, fun h => ⟨data_frll l, data_frll m, h⟩⟩
theorem fll_ne : cmpP .NotEq (.lst (l.map frq)) (.lst (m.map frq)) Q = Q (.bl (!decide (l = m))) := by
  rw [x_ne, pyEq_frll]
  exact propext ⟨fun h => h.2.2, fun h => ⟨data_frll l, data_frll m, h⟩⟩
theorem fll_eq0 : cmpP .Eq (.lst (l.map frq)) (.lst []) Q = Q (.bl (decide (l = []))) := fll_eq (m := [])
theorem fll_ne0 : cmpP .NotEq (.lst (l.map frq)) (.lst []) Q = Q (.bl (!decide (l = []))) := fll_ne (m := [])
end
theorem l0_ne {Q : PQ} : cmpP .NotEq (.lst []) (.lst []) Q = Q (.bl false) := by
  rw [x_ne]
  exact propext ⟨fun h => h.2.2, fun h => ⟨by decide, by decide, h⟩⟩
theorem l0_eq {Q : PQ} : cmpP .Eq (.lst []) (.lst []) Q = Q (.bl true) := by
  rw [x_eq]
  exact propext ⟨fun h => h.2.2, fun h => ⟨by decide, by decide, h⟩⟩
theorem qg_pos {a m : Rat} (h : 0 ≤ a) : qms [a, m] = qg a m := by
  have := qms_one a
  rw [if_neg (Rat.not_lt.mpr h)] at this
  have e : qms [a, m] = qg (qms [a]) m := rfl
  rw [e, this]
theorem qms_negs (l : List Rat) : qms (l.map fun q => -q) = qms l := by
  have := qms_scale (-1) l
  rw [if_pos (by decide)] at this
  have e : (l.map fun q => (-1 : Rat) * q) = l.map fun q => -q := List.map_congr_left fun q _ => by grind
  rw [e] at this
  rw [this]
  grind
theorem qms_rev (l : List Rat) : qms l.reverse = qms l := qms_same fun q => List.mem_reverse
theorem dep_tup1 {n : Nat} {xs : List P} (h : xs.length ≤ 1000) (k : ∀ x ∈ xs, dep n x = true) : dep (n + 1) (.tup xs) = true := by
  show (decide (xs.length ≤ 1000) && xs.all (dep n)) = true
  rw [decide_eq_true h, Bool.true_and, List.all_eq_true]
  exact k
theorem dep_p2 {p q : Rat} : dep 2 (.tup [frq p, frq q]) = true := rfl
theorem dep_p3 {p q r : Rat} : dep 2 (.tup [frq p, frq q, frq r]) = true := rfl
theorem dep_frl {l : List Rat} (h : l.length ≤ 1000) : dep 2 (.tup (l.map frq)) = true := by
  show (decide ((l.map frq).length ≤ 1000) && (l.map frq).all (dep 1)) = true
  rw [List.length_map, decide_eq_true h, Bool.true_and, List.all_eq_true]
  intro x hx
  obtain ⟨m, _, rfl⟩ := List.mem_map.mp hx
  rfl
theorem ints_inj : ∀ {a b : List Int}, a.map P.int = b.map P.int → a = b
  | [], [], _ => rfl
  | [], _ :: _, h => by cases h
  | _ :: _, [], h => by cases h
  | x :: a, y :: b, h => by
    rw [List.map_cons, List.map_cons] at h
    obtain ⟨h1, h2⟩ := List.cons.inj h
    rw [P.int.inj h1, ints_inj h2]
theorem wl_inj {a b : List Int} : (wl a = wl b) = (a = b) := propext ⟨fun h => ints_inj (P.tup.inj h), fun h => by rw [h]⟩
/-- the remainders are the same just where they differ by whole multiples -/
theorem rmd_eq {p q c : Rat} (h : 0 < c) : rmd p c = rmd q c ↔ isZ ((p - q) / c) := by
  have hc := pos_ne h
  constructor
  · intro e
    have h1 := rmd_k p c
    have h2 := rmd_k q c
    refine isZ_iff.mpr ⟨(p / c).floor - (q / c).floor, ?_⟩
    rw [Int.sub_eq_add_neg, Rat.intCast_add, Rat.intCast_neg]
    rw [h1, h2, Rat.intCast_neg, Rat.intCast_neg] at e
    grind
  · intro e
    obtain ⟨k, hk⟩ := isZ_iff.mp e
    have : p = q + (k : Rat) * c := by grind
    rw [this, rmd_add h]
theorem rmd_small {p c : Rat} (h0 : 0 ≤ p) (h1 : p < c) : rmd p c = p := by
  have hc : 0 < c := by grind
  have hc0 := pos_ne hc
  have : (p / c).floor = 0 := by
    have e1 : 0 ≤ p / c := by
      rw [Rat.div_def]
      exact Rat.mul_nonneg h0 (Rat.le_of_lt (Rat.inv_pos.mpr hc))
    have e2 : p / c < 1 := by
      have : p / c * c < 1 * c := by
        have : p / c * c = p := by grind
        grind
      exact Rat.lt_of_mul_lt_mul_right this (Rat.le_of_lt hc)
    have e3 : (0 : Int) ≤ (p / c).floor := by
      have : ((0 : Int) : Rat) ≤ p / c := e1
      exact Rat.le_floor_iff.mpr this
    have e4 : (p / c).floor < 1 := by
      have : p / c < ((1 : Int) : Rat) := e2
      exact Rat.floor_lt_iff.mpr this
    omega
  unfold rmd
  rw [this]
  show p - 0 * c = p
  grind
end Fw
namespace Fw
open PySem L2
theorem fr_sub (p q : Rat) : fr (p.num * q.den - q.num * p.den) (p.den * q.den) = frq (p - q) := by
  have := fr_add p (-q)
  rw [Rat.neg_num, Rat.neg_den, Int.neg_mul, ← Int.sub_eq_add_neg] at this
  rw [this, Rat.sub_eq_add_neg]
theorem bt_sub {a b : Int} {k : Nat} (h1 : a.natAbs < 2 ^ k) (h2 : b.natAbs < 2 ^ k) : (a - b).natAbs < 2 ^ (k + 1) := by
  rw [Nat.pow_succ]
  omega
end Fw
/-! Fw: statements are monotone in what is wanted behind them; a cut. -/
namespace Fw
open PySem L2
structure Ds.Le (D D' : Ds) : Prop where
  nx : ∀ e, D.nx e → D'.nx e
  rt : ∀ p, D.rt p → D'.rt p
  bk : ∀ e, D.bk e → D'.bk e
  ct : ∀ e, D.ct e → D'.ct e
  ex : ∀ c xs, D.ex c xs → D'.ex c xs
theorem hdP_mono {T : Tab} {D D' : Ds} (l : D.Le D') {c : Nat} {ps : List P} : ∀ {hs : List Hd}, hdP T D c ps hs → hdP T D' c ps hs
  | [], q => l.ex _ _ q
  | .ret _ _ :: r, ⟨b, e, q⟩ => ⟨b, e, by
    cases b
    · exact hdP_mono l (hs := r) q
    · obtain ⟨p, h, z⟩ := q
      exact ⟨p, h, l.rt _ z⟩⟩
  | .fld _ _ _ :: r, ⟨b, e, q⟩ => ⟨b, e, by
    cases b
    · exact hdP_mono l (hs := r) q
    · obtain ⟨p, h, z⟩ := q
      exact ⟨p, h, l.rt _ z⟩⟩
theorem forGo_mono {step step' : P → Env → (Env → Prop) → Prop} (hs : ∀ x env k k', (∀ e, k e → k' e) → step x env k → step' x env k') {k k' : Env → Prop} (h : ∀ e, k e → k' e) : ∀ {xs : List P} {env : Env}, forGo step xs env k → forGo step' xs env k'
  | [], _, q => h _ q
  | x :: r, _, q => hs x _ _ _ (fun _ z => forGo_mono hs h z) q
section
variable {T : Tab} (hT : TMono T)
include hT
mutual
theorem wpS_mono : ∀ {s : Sx} {env : Env} {D D' : Ds}, D.Le D' → wpS T s env D → wpS T s env D'
  | .ret e, _, D, D', l, q => by
    have q : wpE T e _ D.rt D.ex := q
    exact wpE_monoX hT l.ex (x := e) l.rt q
  | .retN, _, _, _, l, q => l.rt _ q
  | .asg t e, _, D, D', l, q => by
    have q : wpE T e _ (fun p => bindT t p _ D.nx) D.ex := q
    exact wpE_monoX hT l.ex (x := e) (fun p z => bindT_mono l.nx z) q
  | .own i e, _, D, D', l, q => by
    have q : wpE T e _ (fun p => D.nx _) D.ex := q
    exact wpE_monoX hT l.ex (x := e) (fun p z => l.nx _ z) q
  | .par is es, _, D, D', l, q => by
    have q : wpEs T es _ (fun ps => D.nx (setAll _ is ps)) D.ex := q
    exact wpEs_monoX hT l.ex (es := es) (fun p z => l.nx _ z) q
  | .retP e, _, D, D', l, q => by
    have q : wpE T e _ (fun p => ∃ x y z, p = .lst [.int x, .int y, .int z] ∧ PoolIn 0 x ∧ PoolIn 1 y ∧ PoolIn 2 z ∧ D.rt .pool) D.ex := q
    exact wpE_monoX hT l.ex (x := e) (fun p ⟨x, y, z, a, b, c, d, e⟩ => ⟨x, y, z, a, b, c, d, l.rt _ e⟩) q
  | .never, _, _, _, _, q => q
  | .expr e, _, D, D', l, q => by
    have q : wpE T e _ (fun _ => D.nx _) D.ex := q
    exact wpE_monoX hT l.ex (x := e) (fun p z => l.nx _ z) q
  | .ite t a b, env, D, D', l, q => by
    have q : wpE T t _ (fun p => tru p fun c => if c = true then wpSs T a env D else wpSs T b env D) D.ex := q
    exact wpE_monoX hT l.ex (x := t) (fun p z => tru_mono (fun c y => by
      cases c
      · exact wpSs_mono (ss := b) l y
      · exact wpSs_mono (ss := a) l y) z) q
  | .for_ t it b, env, D, D', l, q => by
    have q : wpE T it env (fun p => ∃ xs, elems p = some xs ∧ forGo (fun x env k => bindT t x env fun env' => wpSs T b env' { D with nx := k, ct := k, bk := D.nx }) xs env D.nx) D.ex := q
    exact wpE_monoX hT l.ex (x := it) (fun p ⟨xs, e, z⟩ => ⟨xs, e, forGo_mono (fun x env k k' hk y => bindT_mono (fun e y => wpSs_mono (ss := b) (D := ⟨k, D.rt, D.nx, k, D.ex⟩) (D' := ⟨k', D'.rt, D'.nx, k', D'.ex⟩) ⟨hk, l.rt, l.nx, hk, l.ex⟩ y) y) l.nx z⟩) q
  | .whl t b, env, D, D', l, ⟨W, hw, q⟩ => ⟨W, hw, fun m env h => by
      have q := q m env h
      exact wpE_monoX hT l.ex (x := t) (fun p z => tru_mono (fun c y => by
        cases c
        · exact l.nx _ y
        · exact wpSs_mono (ss := b) (D := ⟨fun e => ∃ m', m' < m ∧ W m' e, D.rt, D.nx, fun e => ∃ m', m' < m ∧ W m' e, D.ex⟩) (D' := ⟨fun e => ∃ m', m' < m ∧ W m' e, D'.rt, D'.nx, fun e => ∃ m', m' < m ∧ W m' e, D'.ex⟩) ⟨fun _ z => z, l.rt, l.nx, fun _ z => z, l.ex⟩ y) z) q⟩
  | .pass, _, _, _, l, q => l.nx _ q
  | .brk, _, _, _, l, q => l.bk _ q
  | .cnt, _, _, _, l, q => l.ct _ q
  | .raise c es, _, D, D', l, q => by
    have q : wpEs T es _ (fun ps => D.ex c ps) D.ex := q
    exact wpEs_monoX hT l.ex (es := es) (fun p z => l.ex _ _ z) q
  | .app i e, env, D, D', l, ⟨xs, h, q⟩ => ⟨xs, h, wpE_monoX hT l.ex (x := e) (fun p z => ⟨z.1, l.nx _ z.2⟩) q⟩
  | .frz _, _, _, _, l, q => l.nx _ q
  | .seti i k e, env, D, D', l, q => by
    have q : wpE T e env (fun p => ∃ xs, env[i]? = some (some (.lst xs)) ∧ wpE T k env (fun q => ∃ n j, q = .int n ∧ ixN xs.length n = some j ∧ D.nx (env.set i (some (.lst (xs.set j p))))) D.ex) D.ex := q
    exact wpE_monoX hT l.ex (x := e) (fun p ⟨xs, a, z⟩ => ⟨xs, a, wpE_monoX hT l.ex (x := k) (fun q ⟨n, j, b, c, d⟩ => ⟨n, j, b, c, l.nx _ d⟩) z⟩) q
  | .setd i k e, env, D, D', l, q => by
    have q : wpE T e env (fun p => ∃ ks ps, env[i]? = some (some (.dct ks ps)) ∧ ks.length < sizeLine ∧ wpE T k env (fun q => ∃ key, q = keyP key ∧ D.nx (env.set i (some (putP ks ps key p)))) D.ex) D.ex := q
    exact wpE_monoX hT l.ex (x := e) (fun p ⟨ks, ps, a, b, z⟩ => ⟨ks, ps, a, b, wpE_monoX hT l.ex (x := k) (fun q ⟨key, c, d⟩ => ⟨key, c, l.nx _ d⟩) z⟩) q
  | .ext i e, env, D, D', l, ⟨xs, h, q⟩ => ⟨xs, h, wpE_monoX hT l.ex (x := e) (fun p ⟨ys, a, b, z⟩ => ⟨ys, a, b, l.nx _ z⟩) q⟩
  | .try_ b hs, _, D, D', l, q => wpSs_mono (ss := b) (D := ⟨D.nx, D.rt, D.bk, D.ct, fun c ps => hdP T D c ps hs⟩) (D' := ⟨D'.nx, D'.rt, D'.bk, D'.ct, fun c ps => hdP T D' c ps hs⟩) ⟨l.nx, l.rt, l.bk, l.ct, fun c ps z => hdP_mono l z⟩ q
theorem wpSs_mono : ∀ {ss : List Sx} {env : Env} {D D' : Ds}, D.Le D' → wpSs T ss env D → wpSs T ss env D'
  | [], _, _, _, l, q => l.nx _ q
  | s :: r, _, D, D', l, q => wpS_mono (s := s) (D := ⟨fun e => wpSs T r e D, D.rt, D.bk, D.ct, D.ex⟩) (D' := ⟨fun e => wpSs T r e D', D'.rt, D'.bk, D'.ct, D'.ex⟩) ⟨fun e z => wpSs_mono (ss := r) l z, l.rt, l.bk, l.ct, l.ex⟩ q
end
/-- behind a statement I holds -/
theorem s_cut {s : Sx} {r : List Sx} {env : Env} {D : Ds} (I : Env → Prop) (h : wpSs T [s] env { D with nx := I }) (k : ∀ e, I e → wpSs T r e D) : wpSs T (s :: r) env D :=
  wpS_mono hT (s := s) (D := ⟨I, D.rt, D.bk, D.ct, D.ex⟩) (D' := ⟨fun e => wpSs T r e D, D.rt, D.bk, D.ct, D.ex⟩) ⟨fun e z => k e z, fun _ z => z, fun _ z => z, fun _ z => z, fun _ _ z => z⟩ h
end
end Fw
/-! Fw: what differs by whole multiples of a step, the least in size. -/
namespace Fw
open PySem L2
def half : Rat := Rat.divInt 1 2
theorem half2 : half + half = 1 := by decide +kernel
theorem half_pos : 0 < half := by decide +kernel
theorem fr12 : fr 1 2 = frq half := fr_frq (by decide)
theorem sz_half : Sz 4 half := ⟨by decide +kernel, by decide +kernel⟩
theorem two_frq : P.tup [.int 2, .int 1] = frq 2 := rfl
theorem div2 {s : Rat} : s / 2 = half * s := by
  have := half2
  grind
def smd (r s : Rat) : Rat := if half * s < rmd r s then rmd r s - s else rmd r s
theorem smd_spec {r s : Rat} (h : 0 < s) : isZ ((r - smd r s) / s) ∧ smd r s ≤ half * s ∧ -(half * s) < smd r s := by
  have hs := pos_ne h
  have h0 := rmd_nonneg (p := r) h
  have h1 := rmd_lt (p := r) h
  have hh := half2
  have hp : 0 < half * s := Rat.mul_pos half_pos h
  have e := rmd_k r s
  have e2 : half * s + half * s = s := by grind
  unfold smd
  split
  · refine ⟨isZ_iff.mpr ⟨(r / s).floor + 1, ?_⟩, by grind, by grind⟩
    rw [Rat.intCast_add, show ((1 : Int) : Rat) = 1 from rfl]
    unfold rmd
    grind
  · refine ⟨isZ_iff.mpr ⟨(r / s).floor, ?_⟩, by grind, by grind⟩
    unfold rmd
    grind
theorem isZ_lt {q : Rat} (h : isZ q) (h1 : -1 < q) (h2 : q < 1) : q = 0 := by
  obtain ⟨k, rfl⟩ := isZ_iff.mp h
  have e1 : ((-1 : Int) : Rat) < (k : Rat) := h1
  have e2 : (k : Rat) < ((1 : Int) : Rat) := h2
  have e1 := Rat.intCast_lt_intCast.mp e1
  have e2 := Rat.intCast_lt_intCast.mp e2
  have : k = 0 := by omega
  rw [this]; rfl
theorem smd_uniq {x y s : Rat} (h : 0 < s) (hz : isZ ((x - y) / s)) (x1 : x ≤ half * s) (x2 : -(half * s) < x) (y1 : y ≤ half * s) (y2 : -(half * s) < y) : x = y := by
  have hs := pos_ne h
  have hh := half2
  have e2 : half * s + half * s = s := by grind
  have e3 : (x - y) / s * s = x - y := by grind
  have b1 : (x - y) / s * s < 1 * s := by grind
  have b2 : -1 * s < (x - y) / s * s := by grind
  have := isZ_lt hz (Rat.lt_of_mul_lt_mul_right b2 (Rat.le_of_lt h)) (Rat.lt_of_mul_lt_mul_right b1 (Rat.le_of_lt h))
  rw [this] at e3
  grind
theorem smd_of {x r s : Rat} (h : 0 < s) (hz : isZ ((r - x) / s)) (x1 : x ≤ half * s) (x2 : -(half * s) < x) : smd r s = x := by
  obtain ⟨a, b, c⟩ := smd_spec (r := r) h
  refine smd_uniq h ?_ b c x1 x2
  have e : (smd r s - x) / s = (r - x) / s - (r - smd r s) / s := by
    have := pos_ne h
    grind
  rw [e]
  exact isZ_sub hz a
theorem smd_smd {r s : Rat} (h : 0 < s) : smd (smd r s) s = smd r s := by
  obtain ⟨a, b, c⟩ := smd_spec (r := r) h
  refine smd_of h ?_ b c
  have : (smd r s - smd r s) / s = 0 := by grind
  rw [this]; rfl
theorem smd_add {r s x : Rat} (h : 0 < s) (hz : isZ (x / s)) : smd (r + x) s = smd r s := by
  obtain ⟨a, b, c⟩ := smd_spec (r := r) h
  refine smd_of h ?_ b c
  have e : (r + x - smd r s) / s = (r - smd r s) / s + x / s := by
    have := pos_ne h
    grind
  rw [e]; exact isZ_add a hz
theorem smd_neg {r s : Rat} (h : 0 < s) : smd (-r) s = if smd r s = half * s then half * s else -smd r s := by
  obtain ⟨a, b, c⟩ := smd_spec (r := r) h
  have hs := pos_ne h
  have hh := half2
  have hp : 0 < half * s := Rat.mul_pos half_pos h
  have e2 : half * s + half * s = s := by grind
  split
  · rename_i e
    refine smd_of h ?_ (Rat.le_refl) (by grind)
    rw [e] at a
    have e3 : (-r - half * s) / s = -((r - half * s) / s) - 1 := by grind
    rw [e3]
    exact isZ_sub (isZ_neg a) isZ_one
  · refine smd_of h ?_ (by grind) (by grind)
    have e3 : (-r - -smd r s) / s = -((r - smd r s) / s) := by grind
    rw [e3]; exact isZ_neg a
theorem smd_zero {r s : Rat} (h : 0 < s) : smd r s = 0 ↔ isZ (r / s) := by
  obtain ⟨a, b, c⟩ := smd_spec (r := r) h
  have hp : 0 < half * s := Rat.mul_pos half_pos h
  constructor
  · intro e
    rw [e] at a
    have : (r - 0) / s = r / s := by grind
    rwa [this] at a
  · intro e
    refine smd_of h ?_ (Rat.le_of_lt hp) (by grind)
    have : (r - 0) / s = r / s := by grind
    rw [this]; exact e
theorem sz_smd {r s : Rat} {k : Nat} (h : 0 < s) (hk : 0 < k) (h1 : Sz k r) (h2 : Sz k s) : Sz (5 * k + 2) (smd r s) := by
  have hr := sz_rmd h hk h1 h2
  unfold smd
  split
  · exact (sz_sub hr h2).mono (by omega)
  · exact hr.mono (by omega)
theorem s_retP {T : Tab} {e : Ex} {r : List Sx} {env : Env} {D : Ds} (h : wpE T e env (fun p => ∃ x y z, p = .lst [.int x, .int y, .int z] ∧ PoolIn 0 x ∧ PoolIn 1 y ∧ PoolIn 2 z ∧ D.rt .pool) D.ex) : wpSs T (.retP e :: r) env D := h
theorem dep_bb {a b : Bool} : dep 2 (.tup [.bl a, .bl b]) = true := rfl
theorem sub_zero' {a : Int} : a - 0 = a := Int.sub_zero a
theorem num_zero {q : Rat} : (q.num = 0) = (q = 0) := propext Rat.num_eq_zero
end Fw
/-! Fw: divisors of fractions. -/
namespace Fw
open PySem L2
theorem dep_i {i : Int} : dep 2 (.int i) = true := rfl
theorem dep_non : dep 2 .non = true := rfl
theorem dep_bl {b : Bool} : dep 2 (.bl b) = true := rfl
theorem dep_ii {i j : Int} : dep 2 (.tup [.int i, .int j]) = true := rfl
theorem dvd_cop {d a m : Int} (h : d ∣ a * m) (g : Int.gcd d a = 1) : d ∣ m := by
  have h1 := Int.natAbs_dvd_natAbs.mpr h
  rw [Int.natAbs_mul] at h1
  have g1 : Nat.Coprime d.natAbs a.natAbs := g
  exact Int.natAbs_dvd_natAbs.mp (g1.dvd_of_dvd_mul_left h1)
theorem den_add (q : Rat) (k : Int) : (q + (k : Rat)).den = q.den ∧ (q + (k : Rat)).num = q.num + k * q.den := by
  have hc : Nat.Coprime (q.num + k * (q.den : Int)).natAbs q.den := by
    have h : Int.gcd (q.num + k * (q.den : Int)) (q.den : Int) = Int.gcd q.num (q.den : Int) := Int.gcd_add_mul_right_left _ _ _
    have h2 : Nat.gcd q.num.natAbs q.den = 1 := q.reduced
    show Nat.gcd _ _ = 1
    have e1 : Int.gcd (q.num + k * (q.den : Int)) (q.den : Int) = Nat.gcd (q.num + k * (q.den : Int)).natAbs q.den := by simp [Int.gcd]
    have e2 : Int.gcd q.num (q.den : Int) = Nat.gcd q.num.natAbs q.den := by simp [Int.gcd]
    rw [← e1, h, e2, h2]
  obtain ⟨q', hq⟩ : ∃ q' : Rat, q' = ⟨q.num + k * (q.den : Int), q.den, q.den_nz, hc⟩ := ⟨_, rfl⟩
  have e : q + (k : Rat) = q' := by
    have h1 := q_eq q
    have h2 := q_eq q'
    have h3 := d_ne q
    have n1 : q'.num = q.num + k * (q.den : Int) := by rw [hq]
    have n2 : q'.den = q.den := by rw [hq]
    rw [n1, n2, Rat.intCast_add, Rat.intCast_mul] at h2
    generalize ((q.num : Int) : Rat) = a at *
    generalize ((q.den : Int) : Rat) = b at *
    generalize (k : Rat) = c at *
    grind
  rw [e, hq]
  exact ⟨rfl, rfl⟩
theorem den_isZ {p q : Rat} (h : isZ (p - q)) : p.den = q.den := by
  obtain ⟨k, e⟩ := isZ_iff.mp h
  have : p = q + (k : Rat) := by grind
  rw [this]
  exact (den_add q k).1
theorem isZ_mul_iff {q : Rat} (m : Int) : isZ (q * (m : Rat)) ↔ (q.den : Int) ∣ m := by
  have h1 := q_eq q
  have h3 := d_ne q
  constructor
  · intro h
    obtain ⟨k, e⟩ := isZ_iff.mp h
    have e2 : ((q.num * m : Int) : Rat) = ((k * (q.den : Int) : Int) : Rat) := by
      rw [Rat.intCast_mul, Rat.intCast_mul]
      generalize ((q.num : Int) : Rat) = a at *
      generalize ((q.den : Int) : Rat) = b at *
      grind
    have e3 := Rat.intCast_inj.mp e2
    have hd : (q.den : Int) ∣ q.num * m := ⟨k, by rw [e3, Int.mul_comm]⟩
    have hg : Int.gcd (q.den : Int) q.num = 1 := by
      rw [Int.gcd_comm]
      have := q.reduced
      simp [Int.gcd]
      exact this
    exact dvd_cop hd hg
  · rintro ⟨k, rfl⟩
    refine isZ_iff.mpr ⟨q.num * k, ?_⟩
    rw [Rat.intCast_mul, Rat.intCast_mul]
    generalize ((q.num : Int) : Rat) = a at *
    generalize ((q.den : Int) : Rat) = b at *
    generalize (k : Rat) = c at *
    grind
theorem num_mod {q : Rat} (m : Int) : ((q.num * m) % (q.den : Int) = 0) = ((q.den : Int) ∣ m) := propext (by
  have hg : Int.gcd (q.den : Int) q.num = 1 := by
    rw [Int.gcd_comm]
    have := q.reduced
    simp [Int.gcd]
    exact this
  constructor
  · intro h
    exact dvd_cop (Int.dvd_of_emod_eq_zero h) hg
  · intro h
    exact Int.emod_eq_zero_of_dvd (Int.dvd_trans h (Int.dvd_mul_left _ _)))
end Fw
/-! Fw: least common multiples of fractions; walks by place; in. -/
namespace Fw
open PySem L2
theorem mult_iff {l : List Rat} {y : Rat} : (∀ q ∈ l, isZ (y * q⁻¹)) ↔ isZ (y * qms (l.map fun q => q⁻¹)) := by
  constructor
  · intro h
    have e := qms_scale y (l.map fun q => q⁻¹)
    rw [List.map_map] at e
    obtain ⟨k, hk⟩ := qms_great (l := l.map fun q => y * q⁻¹) (d := 1) (fun z hz => by
      obtain ⟨q, hq, rfl⟩ := List.mem_map.mp hz
      obtain ⟨j, e⟩ := isZ_iff.mp (h q hq)
      exact ⟨j, by rw [e]; grind⟩)
    have e2 : qms (l.map fun q => y * q⁻¹) = (if y < 0 then -y else y) * qms (l.map fun q => q⁻¹) := e
    rw [e2] at hk
    split at hk
    · exact isZ_iff.mpr ⟨-k, by rw [Rat.intCast_neg]; grind⟩
    · exact isZ_iff.mpr ⟨k, by grind⟩
  · intro h q hq
    obtain ⟨j, e⟩ := qms_div (List.mem_map.mpr ⟨q, hq, rfl⟩ : q⁻¹ ∈ l.map fun q => q⁻¹)
    have : y * q⁻¹ = (j : Rat) * (y * qms (l.map fun q => q⁻¹)) := by rw [e]; grind
    rw [this]
    exact isZ_mul (isZ_int j) h
def lcmq (l : List Rat) : Rat := (qms (l.map fun q => q⁻¹))⁻¹
def allPos (l : List Rat) : Prop := l ≠ [] ∧ ∀ q ∈ l, 0 < q
theorem qinv_pos {l : List Rat} (h : allPos l) : 0 < qms (l.map fun q => q⁻¹) := by
  obtain ⟨x, hx⟩ := List.exists_mem_of_ne_nil l h.1
  exact qms_pos (List.mem_map.mpr ⟨x, hx, rfl⟩) (pos_ne (Rat.inv_pos.mpr (h.2 x hx)))
theorem lcmq_pos {l : List Rat} (h : allPos l) : 0 < lcmq l := Rat.inv_pos.mpr (qinv_pos h)
theorem lcmq_iff {l : List Rat} (h : allPos l) {y : Rat} : (∀ q ∈ l, isZ (y / q)) ↔ isZ (y / lcmq l) := by
  have e : y / lcmq l = y * qms (l.map fun q => q⁻¹) := by
    have := pos_ne (qinv_pos h)
    unfold lcmq
    grind
  rw [e, ← mult_iff]
  simp only [Rat.div_def]
theorem lcmq_mult {l : List Rat} (h : allPos l) {q : Rat} (hq : q ∈ l) : isZ (lcmq l / q) := by
  refine (lcmq_iff h).mpr ?_ q hq
  have := pos_ne (lcmq_pos h)
  have e : lcmq l / lcmq l = 1 := by grind
  rw [e]; rfl
theorem isZ_pos_eq {a b : Rat} (ha : 0 < a) (hb : 0 < b) (h1 : isZ (a / b)) (h2 : isZ (b / a)) : a = b := by
  have := pos_ne ha
  have := pos_ne hb
  obtain ⟨j, e1⟩ := isZ_iff.mp h1
  obtain ⟨k, e2⟩ := isZ_iff.mp h2
  exact eq_of_mult (Rat.le_of_lt ha) (Rat.le_of_lt hb) ⟨j, by rw [← e1]; grind⟩ ⟨k, by rw [← e2]; grind⟩
/-- what is the least common multiple -/
theorem lcmq_of {l : List Rat} (h : allPos l) {x : Rat} (hx : 0 < x) (h1 : ∀ q ∈ l, isZ (x / q)) (h2 : ∀ y : Rat, (∀ q ∈ l, isZ (y / q)) → isZ (y / x)) : lcmq l = x :=
  isZ_pos_eq (lcmq_pos h) hx (h2 _ fun q hq => lcmq_mult h hq) ((lcmq_iff h).mp h1)
theorem lcmq_one {q : Rat} (h : 0 < q) : lcmq [q] = q :=
  lcmq_of ⟨by simp, fun x hx => by rw [List.mem_singleton.mp hx]; exact h⟩ h (fun x hx => by
    rw [List.mem_singleton.mp hx]
    have := pos_ne h
    have e : q / q = 1 := by grind
    rw [e]; rfl) (fun y hy => hy q (by simp))
theorem lcmq_same {l m : List Rat} (h : allPos l) (hm : allPos m) (e : ∀ q, q ∈ l ↔ q ∈ m) : lcmq l = lcmq m :=
  lcmq_of h (lcmq_pos hm) (fun q hq => lcmq_mult hm ((e q).mp hq)) (fun y hy => (lcmq_iff hm).mp fun q hq => hy q ((e q).mpr hq))
theorem lcmq_snoc {l : List Rat} {b : Rat} (h : allPos l) (hb : 0 < b) : lcmq (l ++ [b]) = lcmq l * ((lcmq l / b).den : Int) := by
  have ha := lcmq_pos h
  have ha0 := pos_ne ha
  have hb0 := pos_ne hb
  have hd := (lcmq l / b).den_pos
  have hdq : (0 : Rat) < (((lcmq l / b).den : Int) : Rat) := int_pos (by omega)
  have hap : allPos (l ++ [b]) := ⟨by simp, fun q hq => by
    rcases List.mem_append.mp hq with z | z
    · exact h.2 q z
    · rw [List.mem_singleton.mp z]; exact hb⟩
  refine lcmq_of hap (Rat.mul_pos ha hdq) (fun q hq => ?_) fun y hy => ?_
  · rcases List.mem_append.mp hq with z | z
    · have e : lcmq l * (((lcmq l / b).den : Int) : Rat) / q = lcmq l / q * (((lcmq l / b).den : Int) : Rat) := by grind
      rw [e]
      exact isZ_mul (lcmq_mult h z) (isZ_int _)
    · rw [List.mem_singleton.mp z]
      have e : lcmq l * (((lcmq l / b).den : Int) : Rat) / b = lcmq l / b * (((lcmq l / b).den : Int) : Rat) := by grind
      rw [e]
      exact (isZ_mul_iff _).mpr (Int.dvd_refl _)
  · have h1 := (lcmq_iff h).mp fun q hq => hy q (List.mem_append.mpr (.inl hq))
    have h2 := hy b (by simp)
    obtain ⟨j, ej⟩ := isZ_iff.mp h1
    have e3 : y / b = lcmq l / b * (j : Rat) := by rw [← ej]; grind
    rw [e3] at h2
    obtain ⟨m, em⟩ := (isZ_mul_iff _).mp h2
    refine isZ_iff.mpr ⟨m, ?_⟩
    rw [em, Rat.intCast_mul] at ej
    have := pos_ne hdq
    generalize (((lcmq l / b).den : Int) : Rat) = d at *
    have : y = lcmq l * (d * (m : Rat)) := by rw [← ej]; grind
    rw [this]
    grind
theorem sz_lcmq {k K : Nat} {l : List Rat} (h : allPos l) (hz : ∀ q ∈ l, Sz k q) (hK : 1 + k * l.length ≤ K) : Sz K (lcmq l) := by
  refine sz_inv (qinv_pos h) (sz_qms (k := k) (fun q hq => ?_) (by rw [List.length_map]; exact hK))
  obtain ⟨x, hx, rfl⟩ := List.mem_map.mp hq
  exact sz_inv (h.2 x hx) (hz x hx)
/-! ### walks with the place -/
theorem forEn {α : Type} {step : P → Env → (Env → Prop) → Prop} {k : Env → Prop} (g : α → P) (I : List α → List α → Env → Prop) : ∀ (l pre : List α) (env : Env), I pre l env → (∀ pre a r env, I pre (a :: r) env → ∀ k', (∀ env', I (pre ++ [a]) r env' → k' env') → step (.tup [.int (pre.length : Nat), g a]) env k') → (∀ env, I (pre ++ l) [] env → k env) → forGo step (enumFrom pre.length (l.map g)) env k
  | [], pre, env, h0, _, h2 => h2 env (by simpa using h0)
  | a :: r, pre, env, h0, h1, h2 => h1 pre a r env h0 _ fun env' h' => by
    have := forEn g I r (pre ++ [a]) env' h' h1 fun env he => h2 env (by simpa using he)
    rw [List.length_append] at this
    exact this
theorem forEn0 {α : Type} {step : P → Env → (Env → Prop) → Prop} {k : Env → Prop} (g : α → P) (I : List α → List α → Env → Prop) (l : List α) (env : Env) (h0 : I [] l env) (h1 : ∀ pre a r env, I pre (a :: r) env → ∀ k', (∀ env', I (pre ++ [a]) r env' → k' env') → step (.tup [.int (pre.length : Nat), g a]) env k') (h2 : ∀ env, I l [] env → k env) : forGo step (enumFrom 0 (l.map g)) env k :=
  forEn g I l [] env h0 h1 (by simpa using h2)
theorem forGo_nil {step : P → Env → (Env → Prop) → Prop} {k : Env → Prop} {env : Env} : forGo step [] env k = k env := rfl
/-! ### in -/
theorem any_frq {l : List Rat} {q : Rat} : ((l.map frq).any fun y => pyEq y (frq q)) = decide (q ∈ l) := by
  rw [Bool.eq_iff_iff, List.any_eq_true, decide_eq_true_eq]
  constructor
  · rintro ⟨x, hx, e⟩
    obtain ⟨a, ha, rfl⟩ := List.mem_map.mp hx
    rw [pyEq_frq, decide_eq_true_eq] at e
    rw [← e]; exact ha
  · intro h
    exact ⟨frq q, List.mem_map.mpr ⟨q, h, rfl⟩, by rw [pyEq_frq]; simp⟩
section
variable {Q : PQ} {l : List Rat} {q : Rat}
theorem f_inT : cmpP .In (frq q) (.tup (l.map frq)) Q = Q (.bl (decide (q ∈ l))) := by
  show (data (frq q) = true ∧ data (.tup (l.map frq)) = true ∧ _) = _
  rw [← any_frq]
  exact propext ⟨fun h => h.2.2, fun h => ⟨rfl, data_frl l, h⟩⟩
theorem f_inL : cmpP .In (frq q) (.lst (l.map frq)) Q = Q (.bl (decide (q ∈ l))) := by
  show (data (frq q) = true ∧ data (.lst (l.map frq)) = true ∧ _) = _
  rw [← any_frq]
  exact propext ⟨fun h => h.2.2, fun h => ⟨rfl, data_frll l, h⟩⟩
theorem f_ninT : cmpP .NotIn (frq q) (.tup (l.map frq)) Q = Q (.bl (!decide (q ∈ l))) := by
  show (data (frq q) = true ∧ data (.tup (l.map frq)) = true ∧ _) = _
  rw [← any_frq]
  exact propext ⟨fun h => h.2.2, fun h => ⟨rfl, data_frl l, h⟩⟩
theorem f_ninL : cmpP .NotIn (frq q) (.lst (l.map frq)) Q = Q (.bl (!decide (q ∈ l))) := by
  show (data (frq q) = true ∧ data (.lst (l.map frq)) = true ∧ _) = _
  rw [← any_frq]
  exact propext ⟨fun h => h.2.2, fun h => ⟨rfl, data_frll l, h⟩⟩
end
theorem sIx_nat {n d k : Nat} : HT.sIx n d (some (k : Int)) = min k n := HT.sIx_nat n d k
theorem lst_nil : P.lst [] = .lst (([] : List Rat).map frq) := rfl
theorem isTup_t {xs : List P} : isTup (.tup xs) = true := rfl
theorem len0_t {xs : List P} : len0 (.tup xs) = (xs.length : Int) := rfl
end Fw
namespace Fw
open PySem L2
theorem sz_int5 {n : Int} (h : 0 ≤ n ∧ n < 32) : Sz 5 (n : Rat) := sz_int (by
  show n.natAbs < _
  omega) (by decide)
/-! ### a fraction without its sign -/
def qa (q : Rat) : Rat := if q.num < 0 then -q else q
theorem frq_qa (q : Rat) : P.tup [.int (q.num.natAbs : Int), .int (q.den : Int)] = frq (qa q) := by
  unfold qa
  split
  · show _ = P.tup [.int (-q).num, .int ((-q).den : Int)]
    rw [show (-q).num = -q.num from rfl, show (-q).den = q.den from rfl]
    have : (q.num.natAbs : Int) = -q.num := by omega
    rw [this]
  · show _ = P.tup [.int q.num, .int (q.den : Int)]
    have : (q.num.natAbs : Int) = q.num := by omega
    rw [this]
theorem qa_pos {q : Rat} (h : q ≠ 0) : 0 < qa q := by
  have hn : q.num ≠ 0 := fun e => h (Rat.num_eq_zero.mp e)
  unfold qa
  split
  · refine pos_num ?_
    rw [show (-q).num = -q.num from rfl]; omega
  · exact pos_num (by omega)
theorem qa_cases (q : Rat) : qa q = q ∨ qa q = -q := by
  unfold qa; split <;> simp
theorem isZ_qa {q x : Rat} : isZ (qa q * x) ↔ isZ (q * x) := by
  rcases qa_cases q with h | h
  · rw [h]
  · rw [h, show -q * x = -(q * x) by grind]; exact isZ_neg_iff
theorem qa_neg (q : Rat) : qa (-q) = qa q := by
  unfold qa
  rw [show (-q).num = -q.num from rfl]
  split
  · split
    · omega
    · grind
  · split
    · rfl
    · have : q = 0 := Rat.num_eq_zero.mp (by omega)
      rw [this]; rfl
theorem sz_qa {k : Nat} {q : Rat} (h : Sz k q) : Sz k (qa q) := by
  rcases qa_cases q with e | e
  · rw [e]; exact h
  · rw [e]; exact sz_neg h
theorem not_part {x : Rat} {m : Int} (hp : 0 < x) (hm : 2 ≤ m) : isZ (x / m / x) = False := by
  have hmp := int_pos (show 0 < m by omega)
  have := pos_ne hmp
  have := pos_ne hp
  have e : x / m / x = (m : Rat)⁻¹ := by grind
  rw [e]
  refine eq_false fun h => ?_
  obtain ⟨j, hj⟩ := isZ_iff.mp h
  have e2 : ((j * m : Int) : Rat) = ((1 : Int) : Rat) := by
    rw [Rat.intCast_mul, ← hj]
    show _ = (1 : Rat)
    grind
  have e3 := Rat.intCast_inj.mp e2
  have : m ∣ 1 := ⟨j, by rw [Int.mul_comm]; exact e3.symm⟩
  have := Int.le_of_dvd (by decide) this
  omega
/-! ### wheels with rates -/
theorem qa_eq (q : Rat) : qa q = ((q.num.natAbs : Int) : Rat) / ((q.den : Int) : Rat) := by
  have e := q_eq q
  have h3 := d_ne q
  unfold qa
  split
  · rename_i h
    have : (q.num.natAbs : Int) = -q.num := by omega
    rw [this, Rat.intCast_neg]
    grind
  · rename_i h
    have : (q.num.natAbs : Int) = q.num := by omega
    rw [this]; exact e.symm
def tw (a : Rat × Int) : P := .tup [frq a.1, .int a.2]
theorem tw_inj1 {a b : Rat × Int} : (tw a = tw b) = (a = b) := by
  obtain ⟨a, n⟩ := a
  obtain ⟨b, m⟩ := b
  refine propext ⟨fun h => ?_, fun h => by rw [h]⟩
  simp only [tw, P.tup.injEq, List.cons.injEq, P.int.injEq, frq_inj] at h
  rw [h.1, h.2.1]
theorem tw_inj {l m : List (Rat × Int)} : (l.map tw = m.map tw) = (l = m) := by
  refine propext ⟨fun h => ?_, fun h => by rw [h]⟩
  induction l generalizing m with
  | nil => cases m with
    | nil => rfl
    | cons b s => cases h
  | cons a r ih => cases m with
    | nil => cases h
    | cons b s =>
      simp only [List.map_cons, List.cons.injEq, tw_inj1] at h
      rw [h.1, ih h.2]
def okW (l : List (Rat × Int)) : Prop := l ≠ [] ∧ l.length ≤ 6 ∧ ∀ a ∈ l, a.1 ≠ 0 ∧ 1 ≤ a.2 ∧ a.2 ≤ 24 ∧ Sz 8 a.1
def stw (a : Rat × Int) : Rat := (a.2 : Rat)⁻¹ / qa a.1
def lw (l : List (Rat × Int)) : Rat := lcmq (l.map stw)
theorem stw_pos {a : Rat × Int} (h : a.1 ≠ 0) (h1 : 1 ≤ a.2) : 0 < stw a := by
  unfold stw
  rw [Rat.div_def]
  exact Rat.mul_pos (unit_pos (by omega)) (Rat.inv_pos.mpr (qa_pos h))
theorem fr_stw {q : Rat} {n : Int} (h : q ≠ 0) (h1 : 1 ≤ n) : fr (q.den : Int) ((q.num.natAbs : Int) * n) = frq (stw (q, n)) := by
  have h2 : q.num ≠ 0 := fun e => h (Rat.num_eq_zero.mp e)
  have h4 : (q.num.natAbs : Int) ≠ 0 := by omega
  have h5 := cast_ne h4
  have h3 := d_ne q
  have h6 := pos_ne (int_pos (show 0 < n by omega))
  rw [fr_frq (Int.mul_ne_zero h4 (by omega)), divInt_q, Rat.intCast_mul]
  show _ = frq ((n : Rat)⁻¹ / qa q)
  rw [qa_eq]
  congr 1
  grind
theorem stw_sz {a : Rat × Int} (h : a.1 ≠ 0) (h1 : 1 ≤ a.2) (h2 : a.2 ≤ 24) (hz : Sz 8 a.1) : Sz 13 (stw a) :=
  sz_div (pos_ne (qa_pos h)) (unit_sz (by omega) h2) (sz_qa hz)
theorem okW.ap {l : List (Rat × Int)} (h : okW l) : allPos (l.map stw) := ⟨by simpa using h.1, fun q hq => by
  obtain ⟨a, ha, rfl⟩ := List.mem_map.mp hq
  exact stw_pos (h.2.2 a ha).1 (h.2.2 a ha).2.1⟩
theorem okW.pos {l : List (Rat × Int)} (h : okW l) : 0 < lw l := lcmq_pos h.ap
theorem okW.sz {l : List (Rat × Int)} (h : okW l) : Sz 80 (lw l) := sz_lcmq (k := 13) h.ap (fun q hq => by
  obtain ⟨a, ha, rfl⟩ := List.mem_map.mp hq
  obtain ⟨a1, a2, a3, a4⟩ := h.2.2 a ha
  exact stw_sz a1 a2 a3 a4) (by rw [List.length_map]; have := h.2.1; omega)
theorem stw_one {a : Rat × Int} (h : a.1 ≠ 0) (h1 : 1 ≤ a.2) (y : Rat) : isZ (y / stw a) ↔ isZ (a.1 * a.2 * y) := by
  have hp := pos_ne (int_pos (show 0 < a.2 by omega))
  have hq := pos_ne (qa_pos h)
  have e : y / stw a = qa a.1 * (a.2 * y) := by
    unfold stw
    grind
  have e2 : a.1 * a.2 * y = a.1 * (a.2 * y) := by grind
  rw [e, e2]
  exact isZ_qa
theorem okW.iff {l : List (Rat × Int)} (h : okW l) (y : Rat) : (∀ a ∈ l, isZ (a.1 * a.2 * y)) ↔ isZ (y / lw l) := by
  unfold lw
  rw [← lcmq_iff h.ap]
  constructor
  · intro hh q hq
    obtain ⟨a, ha, rfl⟩ := List.mem_map.mp hq
    exact (stw_one (h.2.2 a ha).1 (h.2.2 a ha).2.1 y).mpr (hh a ha)
  · intro hh a ha
    exact (stw_one (h.2.2 a ha).1 (h.2.2 a ha).2.1 y).mp (hh _ (List.mem_map.mpr ⟨a, ha, rfl⟩))
theorem okW.all {l : List (Rat × Int)} (h : okW l) (y : Rat) : (l.all fun a => decide (isZ (a.1 * a.2 * y))) = decide (isZ (y / lw l)) := by
  rw [Bool.eq_iff_iff, List.all_eq_true]
  simp only [decide_eq_true_eq]
  exact h.iff y
theorem okW.rev {l : List (Rat × Int)} (h : okW l) : okW (l.reverse.map fun a => (-a.1, a.2)) := ⟨by simpa using h.1, by simpa using h.2.1, fun a ha => by
  obtain ⟨b, hb, rfl⟩ := List.mem_map.mp ha
  obtain ⟨b1, b2, b3, b4⟩ := h.2.2 b (List.mem_reverse.mp hb)
  exact ⟨fun e => b1 (by have e : -b.1 = 0 := e; grind), b2, b3, sz_neg b4⟩⟩
theorem okW.rev_eq {l : List (Rat × Int)} (h : okW l) : lw (l.reverse.map fun a => (-a.1, a.2)) = lw l := by
  unfold lw
  refine lcmq_same h.rev.ap h.ap fun q => ?_
  have e : (stw ∘ fun a : Rat × Int => (-a.1, a.2)) = stw := by
    funext a
    show (a.2 : Rat)⁻¹ / qa (-a.1) = _
    rw [qa_neg]; rfl
  rw [List.map_map, e]
  simp
theorem okW.sub {l m : List (Rat × Int)} (h : okW l) (hm : okW m) (hs : ∀ a ∈ m, a ∈ l) : isZ (lw l / lw m) :=
  (lcmq_iff hm.ap).mp fun q hq => by
    obtain ⟨a, ha, rfl⟩ := List.mem_map.mp hq
    exact lcmq_mult h.ap (List.mem_map.mpr ⟨a, hs a ha, rfl⟩)
theorem lcGo_en0 {α : Type} {step : P → List P → (List P → Prop) → Prop} {k : List P → Prop} (g : α → P) : ∀ (l : List α) (i : Nat), (∀ a ∈ l, ∀ (i : Nat) k', k' [] → step (.tup [.int i, g a]) [] k') → k [] → lcGo step (enumFrom i (l.map g)) [] k
  | [], _, _, h => h
  | a :: r, i, h, h2 => h a List.mem_cons_self i _ (lcGo_en0 g r (i + 1) (fun b hb => h b (List.mem_cons_of_mem _ hb)) h2)
end Fw
namespace Fw
open PySem L2
/-! ### the least whole number from a fraction on -/
def cl (x : Rat) : Int := -(-x).floor
theorem cl_num (q : Rat) : -((-q.num).fdiv (q.den : Int)) = cl q := by
  unfold cl
  rw [← floor_fdiv]; rfl
theorem cl_num0 (q : Rat) : 0 - ((0 - q.num).fdiv (q.den : Int)) = cl q := by
  rw [← cl_num, Int.zero_sub, Int.zero_sub]
theorem cl_iff {x : Rat} {k : Int} : cl x ≤ k ↔ x ≤ (k : Rat) := by
  unfold cl
  rw [show (-(-x).floor ≤ k) ↔ (-k ≤ (-x).floor) by omega, Rat.le_floor_iff, Rat.intCast_neg]
  constructor <;> intro h <;> grind
theorem cl_ge (x : Rat) : x ≤ (cl x : Rat) := cl_iff.mp (Int.le_refl _)
theorem cl_lt (x : Rat) : (cl x : Rat) < x + 1 := by
  refine Rat.not_le.mp fun h => ?_
  have h2 : x ≤ ((cl x - 1 : Int) : Rat) := by
    rw [Rat.intCast_sub]
    show x ≤ (cl x : Rat) - 1
    grind
  have := cl_iff.mpr h2
  omega
theorem cl_of {x : Rat} {k : Int} (h1 : x ≤ (k : Rat)) (h2 : (k : Rat) < x + 1) : cl x = k := by
  have h3 := cl_iff.mpr h1
  have h4 := cl_ge x
  have h5 : (k : Rat) < ((cl x + 1 : Int) : Rat) := by
    rw [Rat.intCast_add]
    show (k : Rat) < (cl x : Rat) + 1
    grind
  have := Rat.intCast_lt_intCast.mp h5
  omega
theorem cl_int (k : Int) : cl (k : Rat) = k := cl_of (by grind) (by grind)
theorem cl_neg (x : Rat) : cl (-x) = -x.floor := by
  unfold cl
  rw [Rat.neg_neg]
theorem sz_cl {k : Nat} {q : Rat} (h : Sz k q) (hk : 0 < k) : Sz k ((cl q : Int) : Rat) := by
  unfold cl
  rw [Rat.intCast_neg]
  exact sz_neg (sz_floor (sz_neg h) hk)
theorem div_le_i {x s c : Rat} (h : 0 < s) : x / s ≤ c ↔ x ≤ c * s := by
  constructor
  · intro h1
    refine Rat.not_lt.mp fun z => ?_
    exact absurd ((Rat.lt_div_iff h).mpr z) (Rat.not_lt.mpr h1)
  · intro h1
    refine Rat.not_lt.mp fun z => ?_
    exact absurd ((Rat.lt_div_iff h).mp z) (Rat.not_lt.mpr h1)
/-! ### meetings -/
def mo (a : Rat × Rat) : P := .tup [frq a.1, frq a.2]
def okM (a b : Rat × Rat) : Prop := Sz 90 a.1 ∧ Sz 20 a.2 ∧ Sz 90 b.1 ∧ Sz 20 b.2
def apt (n : Int) (a b : Rat × Rat) (t : Rat) : Rat := (a.1 + a.2 * t - (b.1 + b.2 * t)) * n
def stp (n : Int) (a b : Rat × Rat) : Rat := stw (a.2 - b.2, n)
def fst0 (a b : Rat × Rat) : Rat := -((a.1 - b.1) / (a.2 - b.2))
def nxq (n : Int) (a b : Rat × Rat) (t : Rat) : Rat := fst0 a b + ((cl ((t - fst0 a b) / stp n a b) : Int) : Rat) * stp n a b
def nxP (n : Int) (a b : Rat × Rat) (t : Rat) : P := if a.2 = b.2 then (if isZ (apt n a b t) then frq t else .non) else frq (nxq n a b t)
theorem df_ne {a b : Rat × Rat} (h : a.2 ≠ b.2) : a.2 - b.2 ≠ 0 := fun e => h (by grind)
theorem stp_pos {n : Int} {a b : Rat × Rat} (hn : 1 ≤ n) (h : a.2 ≠ b.2) : 0 < stp n a b := stw_pos (df_ne h) hn
theorem nx_ge {n : Int} {a b : Rat × Rat} (hn : 1 ≤ n) (h : a.2 ≠ b.2) (t : Rat) : t ≤ nxq n a b t := by
  have h1 := stp_pos hn h
  have h2 := pos_ne h1
  have h3 := cl_ge ((t - fst0 a b) / stp n a b)
  unfold nxq
  generalize ((cl ((t - fst0 a b) / stp n a b) : Int) : Rat) = c at *
  have h4 := (div_le_i h1).mp h3
  grind
theorem nx_lt {n : Int} {a b : Rat × Rat} (hn : 1 ≤ n) (h : a.2 ≠ b.2) (t : Rat) : nxq n a b t - t < stp n a b := by
  have h1 := stp_pos hn h
  have h2 := pos_ne h1
  have h3 := cl_lt ((t - fst0 a b) / stp n a b)
  unfold nxq
  generalize ((cl ((t - fst0 a b) / stp n a b) : Int) : Rat) = c at *
  have h4 : c - 1 < (t - fst0 a b) / stp n a b := by grind
  have h5 := (Rat.lt_div_iff h1).mp h4
  grind
/-- a meeting's own place -/
theorem nx_at {n : Int} {a b : Rat × Rat} (hn : 1 ≤ n) (h : a.2 ≠ b.2) (k : Int) : nxq n a b (fst0 a b + (k : Rat) * stp n a b) = fst0 a b + (k : Rat) * stp n a b := by
  have h2 := pos_ne (stp_pos hn h)
  have e : (fst0 a b + (k : Rat) * stp n a b - fst0 a b) / stp n a b = (k : Rat) := by grind
  unfold nxq
  rw [e, cl_int]
theorem nx_nx {n : Int} {a b : Rat × Rat} (hn : 1 ≤ n) (h : a.2 ≠ b.2) (t : Rat) : nxq n a b (nxq n a b t) = nxq n a b t := nx_at hn h _
theorem nx_behind {n : Int} {a b : Rat × Rat} (hn : 1 ≤ n) (h : a.2 ≠ b.2) (t : Rat) {k : Int} (hk : 1 ≤ k) : nxq n a b (nxq n a b t + stp n a b / (k : Rat)) = nxq n a b t + stp n a b := by
  have h2 := pos_ne (stp_pos hn h)
  have hk0 := int_pos (show 0 < k by omega)
  have hk2 := pos_ne hk0
  obtain ⟨c, hc⟩ : ∃ c, c = cl ((t - fst0 a b) / stp n a b) := ⟨_, rfl⟩
  have e1 : nxq n a b t = fst0 a b + (c : Rat) * stp n a b := by unfold nxq; rw [hc]
  rw [e1]
  have e : (fst0 a b + (c : Rat) * stp n a b + stp n a b / (k : Rat) - fst0 a b) / stp n a b = (c : Rat) + (k : Rat)⁻¹ := by grind
  have e3 : cl ((c : Rat) + (k : Rat)⁻¹) = c + 1 := by
    have i0 : 0 < (k : Rat)⁻¹ := Rat.inv_pos.mpr hk0
    have i1 : (k : Rat)⁻¹ ≤ 1 := by
      have : (1 : Rat) ≤ (k : Rat) := by
        have := Rat.intCast_le_intCast.mpr hk
        exact this
      rw [show (k : Rat)⁻¹ = 1 / (k : Rat) by grind]
      refine (div_le_i hk0).mpr ?_
      grind
    refine cl_of ?_ ?_
    · rw [Rat.intCast_add]
      show _ ≤ (c : Rat) + 1
      grind
    · rw [Rat.intCast_add]
      show (c : Rat) + 1 < _
      grind
  unfold nxq
  rw [e, e3, Rat.intCast_add]
  show _ + ((c : Rat) + 1) * _ = _
  grind
theorem stp_sym (n : Int) (a b : Rat × Rat) : stp n b a = stp n a b := by
  unfold stp stw
  show _ / qa (b.2 - a.2) = _ / qa (a.2 - b.2)
  rw [show b.2 - a.2 = -(a.2 - b.2) by grind, qa_neg]
theorem fst_sym (a b : Rat × Rat) : fst0 b a = fst0 a b := by
  unfold fst0
  rw [show b.2 - a.2 = -(a.2 - b.2) by grind, show b.1 - a.1 = -(a.1 - b.1) by grind]
  rcases (inferInstance : Decidable (a.2 - b.2 = 0)) with h | h
  · grind
  · rw [h, show (-0 : Rat) = 0 from rfl, Rat.div_def, Rat.div_def, show (0 : Rat)⁻¹ = 0 from Rat.inv_zero, Rat.mul_zero, Rat.mul_zero]
theorem apt_sym (n : Int) (a b : Rat × Rat) (t : Rat) : isZ (apt n b a t) = isZ (apt n a b t) := by
  have e : apt n b a t = -(apt n a b t) := by unfold apt; grind
  rw [e]; exact propext isZ_neg_iff
theorem nx_sym (n : Int) (a b : Rat × Rat) (t : Rat) : nxP n b a t = nxP n a b t := by
  have e : (b.2 = a.2) = (a.2 = b.2) := propext ⟨Eq.symm, Eq.symm⟩
  unfold nxP nxq
  simp only [e, apt_sym n a b t, stp_sym n a b, fst_sym a b]
/-- times of meetings -/
theorem apt_at {n : Int} {a b : Rat × Rat} (hn : 1 ≤ n) (h : a.2 ≠ b.2) (k : Int) : isZ (apt n a b (fst0 a b + (k : Rat) * stp n a b)) := by
  have hd := df_ne h
  have hnp := pos_ne (int_pos (show 0 < n by omega))
  have hq := pos_ne (qa_pos hd)
  rcases qa_cases (a.2 - b.2) with e | e
  · have : apt n a b (fst0 a b + (k : Rat) * stp n a b) = (k : Rat) := by
      unfold apt fst0 stp stw
      simp only [e]
      rw [e] at hq
      grind
    rw [this]; exact isZ_int k
  · have : apt n a b (fst0 a b + (k : Rat) * stp n a b) = -(k : Rat) := by
      unfold apt fst0 stp stw
      simp only [e]
      rw [e] at hq
      grind
    rw [this]; exact isZ_neg (isZ_int k)
/-- the law's own reckoning -/
theorem nx_law {n : Int} {a b : Rat × Rat} (hn : 1 ≤ n) (h : a.2 ≠ b.2) (t : Rat) : t + (((if 0 < ((a.2 - b.2) * n).num then cl (apt n a b t) else (apt n a b t).floor : Int) : Rat) - apt n a b t) / ((a.2 - b.2) * n) = nxq n a b t := by
  have hd := df_ne h
  have hn0 := int_pos (show 0 < n by omega)
  have hnp := pos_ne hn0
  have hq := pos_ne (qa_pos hd)
  have hm : (a.2 - b.2) * n ≠ 0 := fun e => by
    rcases Rat.mul_eq_zero.mp e with z | z
    · exact hd z
    · exact hnp z
  split
  · rename_i hs
    have h1 := pos_num hs
    have e : qa (a.2 - b.2) = a.2 - b.2 := by
      rcases qa_cases (a.2 - b.2) with e | e
      · exact e
      · have h2 := qa_pos hd
        have h3 : 0 < qa (a.2 - b.2) * n := Rat.mul_pos h2 hn0
        rw [e] at h3
        grind
    have e2 : (t - fst0 a b) / stp n a b = apt n a b t := by
      unfold apt fst0 stp stw
      simp only [e]
      grind
    unfold nxq
    rw [e2]
    generalize ((cl (apt n a b t) : Int) : Rat) = c
    unfold apt fst0 stp stw
    simp only [e]
    grind
  · rename_i hs
    have h1 : ¬ 0 < (a.2 - b.2) * n := fun z => hs (num_pos z)
    have e : qa (a.2 - b.2) = -(a.2 - b.2) := by
      rcases qa_cases (a.2 - b.2) with e | e
      · have h2 := qa_pos hd
        have h3 : 0 < qa (a.2 - b.2) * n := Rat.mul_pos h2 hn0
        rw [e] at h3
        exact absurd h3 h1
      · exact e
    have e2 : (t - fst0 a b) / stp n a b = -(apt n a b t) := by
      unfold apt fst0 stp stw
      simp only [e]
      rw [e] at hq
      grind
    unfold nxq
    rw [e2, cl_neg, Rat.intCast_neg]
    generalize (((apt n a b t).floor : Int) : Rat) = c
    unfold apt fst0 stp stw
    simp only [e]
    rw [e] at hq
    grind
theorem sight_eq {n : Int} (hn : 1 ≤ n) (a b : Rat × Rat) (t : Rat) : (rmd (a.1 + a.2 * t) (n : Rat)⁻¹ = rmd (b.1 + b.2 * t) (n : Rat)⁻¹) = isZ (apt n a b t) := by
  refine propext ((rmd_eq (unit_pos (by omega))).trans ?_)
  have hnp := pos_ne (int_pos (show 0 < n by omega))
  have e : (a.1 + a.2 * t - (b.1 + b.2 * t)) / (n : Rat)⁻¹ = apt n a b t := by unfold apt; grind
  rw [e]
theorem sz_stp {n : Int} {a b : Rat × Rat} (hn : 1 ≤ n) (h2 : n ≤ 24) (h : a.2 ≠ b.2) (ha : Sz 20 a.2) (hb : Sz 20 b.2) : Sz 50 (stp n a b) :=
  (sz_div (pos_ne (qa_pos (df_ne h))) (unit_sz (show 0 < n by omega) h2) (sz_qa (sz_sub ha hb))).mono (by decide)
theorem sz_fst {a b : Rat × Rat} (h : a.2 ≠ b.2) (ha : Sz 20 a.2) (hb : Sz 20 b.2) (h1 : Sz 90 a.1) (h2 : Sz 90 b.1) : Sz 225 (fst0 a b) :=
  (sz_neg (sz_div (df_ne h) (sz_sub h1 h2) (sz_sub ha hb))).mono (by decide)
theorem sz_nx {K : Nat} {n : Int} {a b : Rat × Rat} {t : Rat} (hn : 1 ≤ n) (hn2 : n ≤ 24) (h : a.2 ≠ b.2) (ha : Sz 20 a.2) (hb : Sz 20 b.2) (h1 : Sz 90 a.1) (h2 : Sz 90 b.1) (ht : Sz K t) : Sz (K + 560) (nxq n a b t) := by
  have f := sz_fst h ha hb h1 h2
  have s := sz_stp hn hn2 h ha hb
  have z := sz_cl (sz_div (pos_ne (stp_pos hn h)) (sz_sub ht f) s) (by omega)
  exact (sz_add f (sz_mul z s)).mono (by omega)
end Fw
namespace Fw
open PySem L2
/-! ### flashes -/
def okF (l : List Rat) : Prop := l ≠ [] ∧ l.length ≤ 12 ∧ (∀ q ∈ l, 0 ≤ q ∧ Sz 20 q) ∧ l.Pairwise (· < ·)
def fms : List Rat → Rat
  | [] => 0
  | a :: r => qms (r.map fun t => t - a)
def rst (n : Int) (l : List Rat) : Rat := if (n : Rat) * fms l = 0 then 0 else ((n : Rat) * fms l)⁻¹
def sgt (n : Int) (s r : Rat) (l : List Rat) : List Rat := l.map fun t => rmd (s + r * t) (n : Rat)⁻¹
theorem F_prev {pre r l : List Rat} {a : Rat} (e : pre ++ a :: r = l) (h : l.Pairwise (· < ·)) (h0 : pre ≠ []) : ∃ b, atI (l.map frq) ((pre.length : Int) - 1) = some (frq b) ∧ b < a ∧ b ∈ l := by
  obtain ⟨p, b, rfl⟩ : ∃ p b, pre = p ++ [b] := ⟨pre.dropLast, pre.getLast h0, (List.dropLast_concat_getLast h0).symm⟩
  refine ⟨b, ?_, ?_, by rw [← e]; simp⟩
  · rw [show (((p ++ [b]).length : Nat) : Int) - 1 = (p.length : Int) by simp]
    refine atI_nat ?_
    rw [← e]
    simp
  · rw [← e, List.pairwise_append] at h
    exact h.2.2 b (by simp) a (by simp)
theorem sz_fms {l : List Rat} (h : okF l) : Sz 500 (fms l) := by
  obtain ⟨h0, h1, h2, _⟩ := h
  cases l with
  | nil => exact absurd rfl h0
  | cons a r =>
    refine sz_qms (k := 41) (fun q hq => ?_) (by rw [List.length_map]; simp at h1; omega)
    obtain ⟨x, hx, rfl⟩ := List.mem_map.mp hq
    exact sz_sub (h2 x (by simp [hx])).2 (h2 a (by simp)).2
theorem sz_smd2 {k l : Nat} {r s : Rat} (h : 0 < s) (hk : 0 < k) (hr : Sz k r) (hs : Sz l s) : Sz (2 * k + 3 * l + 2) (smd r s) := by
  have h1 : Sz (2 * k + 2 * l + 1) (rmd r s) := (sz_sub hr (sz_mul (sz_floor (sz_div (pos_ne h) hr hs) (by omega)) hs)).mono (by omega)
  unfold smd
  split
  · exact (sz_sub h1 hs).mono (by omega)
  · exact h1.mono (by omega)
theorem sz_inv' {k : Nat} {q : Rat} (hk : 0 < k) (h : Sz k q) : Sz k q⁻¹ := by
  by_cases e : q = 0
  · rw [e, Rat.inv_zero]; exact ⟨Nat.pow_pos (by decide), Nat.one_lt_two_pow (by omega)⟩
  · rw [show q⁻¹ = 1 / q by grind]
    rcases Rat.le_total (a := 0) (b := q) with z | z
    · have : 0 < q := by grind
      rw [show 1 / q = q⁻¹ by grind]; exact sz_inv this h
    · have : 0 < -q := by grind
      rw [show 1 / q = -((-q)⁻¹) by grind]; exact sz_neg (sz_inv this (sz_neg h))
theorem sz_rst {n : Int} {l : List Rat} (h : okF l) (n1 : 1 ≤ n) (n2 : n ≤ 24) : Sz 520 (rst n l) := by
  have hf := sz_fms h
  have hnz : Sz 8 (n : Rat) := sz_int8 (by omega)
  unfold rst
  split
  · exact ⟨Nat.pow_pos (by decide), Nat.one_lt_two_pow (by decide)⟩
  · exact (sz_inv' (by decide) (sz_mul hnz hf)).mono (by decide)
def ix12 : List Int := [0, 1, 2, 3, 4, 5, 6, 7, 8, 9, 10, 11]
def fl (t p : Rat) : List Rat := ix12.map fun (i : Int) => t + p * (i : Rat)
theorem rng12 : rangeP 0 12 = ix12.map P.int := rfl
theorem ix12_mem {i : Int} (h : i ∈ ix12) : 0 ≤ i ∧ i < 12 := by
  simp [ix12] at h; omega
theorem fl_ok {t p : Rat} (h : 0 ≤ t) (hp : 0 < p) (ht : Sz 8 t) (hz : Sz 6 p) : okF (fl t p) := by
  refine ⟨by simp [fl, ix12], by simp [fl, ix12], fun q hq => ?_, ?_⟩
  · obtain ⟨i, hi, rfl⟩ := List.mem_map.mp hq
    have h1 := ix12_mem hi
    have hiz : Sz 5 (i : Rat) := sz_int5 (by omega)
    refine ⟨?_, (sz_add ht (sz_mul hz hiz)).mono (by decide)⟩
    have h2 : 0 ≤ (i : Rat) := Rat.intCast_le_intCast.mpr h1.1
    exact Rat.add_nonneg h (Rat.mul_nonneg (Rat.le_of_lt hp) h2)
  · refine List.pairwise_map.mpr ?_
    have : ix12.Pairwise (· < ·) := by decide
    refine this.imp fun {i j} hij => ?_
    have h2 : (i : Rat) < (j : Rat) := Rat.intCast_lt_intCast.mpr hij
    have h3 := Rat.mul_lt_mul_of_pos_left h2 hp
    grind
theorem fms_fl {t p : Rat} (hp : 0 < p) : fms (fl t p) = p := by
  have e : (([1, 2, 3, 4, 5, 6, 7, 8, 9, 10, 11] : List Int).map fun (i : Int) => t + p * (i : Rat)).map (fun x => x - (t + p * ((0 : Int) : Rat))) = (([1, 2, 3, 4, 5, 6, 7, 8, 9, 10, 11] : List Int).map fun (a : Int) => (a : Rat)).map fun q => p * q := by
    rw [List.map_map, List.map_map]
    refine List.map_congr_left fun i _ => ?_
    show t + p * (i : Rat) - (t + p * 0) = p * (i : Rat)
    grind
  show qms ((([1, 2, 3, 4, 5, 6, 7, 8, 9, 10, 11] : List Int).map fun (i : Int) => t + p * (i : Rat)).map (fun x => x - (t + p * ((0 : Int) : Rat)))) = p
  rw [e, qms_scaleP (Rat.le_of_lt hp), qms_ints, show gl [1, 2, 3, 4, 5, 6, 7, 8, 9, 10, 11] = 1 by decide]
  show p * 1 = p
  exact Rat.mul_one p
theorem rst_fl {n : Int} {t p : Rat} (hn : 0 < n) (hp : 0 < p) : rst n (fl t p) = (n : Rat)⁻¹ / p := by
  have h1 := pos_ne (int_pos hn)
  have h2 := pos_ne hp
  unfold rst
  rw [fms_fl hp, if_neg (fun e => by rcases Rat.mul_eq_zero.mp e with z | z; exact h1 z; exact h2 z)]
  grind
theorem sgt_fl {n : Int} {s r o t p : Rat} (hn : 0 < n) (hp : 0 < p) (h : isZ ((r - o) / ((n : Rat)⁻¹ / p))) : sgt n (s + r * t - o * t) o (fl t p) = sgt n s r (fl t p) := by
  have h1 := pos_ne (int_pos hn)
  have h2 := pos_ne hp
  refine List.map_congr_left fun q hq => ?_
  obtain ⟨i, hi, rfl⟩ := List.mem_map.mp hq
  refine (rmd_eq (unit_pos hn)).mpr ?_
  have e : (s + r * t - o * t + o * (t + p * (i : Rat)) - (s + r * (t + p * (i : Rat)))) / (n : Rat)⁻¹ = -((r - o) / ((n : Rat)⁻¹ / p) * (i : Rat)) := by grind
  rw [e]
  exact isZ_neg (isZ_mul h (isZ_int i))
theorem not_between {r o st : Rat} {m : Int} (hs : 0 < st) (hm : 2 ≤ m) (h : isZ ((r - o) / st)) : isZ ((r - (o + st / m)) / st) = False := by
  have h1 := pos_ne hs
  have h2 := pos_ne (int_pos (show 0 < m by omega))
  refine eq_false fun z => ?_
  have h3 := isZ_sub h z
  have e : (r - o) / st - (r - (o + st / m)) / st = st / m / st := by grind
  rw [e, not_part hs hm] at h3
  exact h3
theorem qa_nn {q : Rat} (h : 0 ≤ q) : qa q = q := by
  unfold qa
  rw [if_neg (fun z => ?_)]
  have := Rat.num_nonneg.mpr h
  omega
theorem qa_ng {q : Rat} (h : q < 0) : qa q = -q := by
  have h2 : 0 ≤ -q := by grind
  rw [← qa_neg, qa_nn h2]
theorem apart_p {o st : Rat} (hs : 0 < st) (h1 : o ≤ half * st) (h2 : -(half * st) < o) : qa o < qa (o + st) ∨ 0 ≤ o ∧ qa o ≤ qa (o + st) := by
  have hh := half2
  have e2 : half * st + half * st = st := by grind
  have h3 : 0 ≤ o + st := by grind
  rw [qa_nn h3]
  rcases Rat.le_total (a := 0) (b := o) with z | z
  · rw [qa_nn z]; right; constructor <;> grind
  · rcases Rat.le_iff_lt_or_eq.mp z with y | y
    · rw [qa_ng y]; left; grind
    · rw [y]; right; exact ⟨by grind, by rw [qa_nn (by grind)]; grind⟩
theorem apart_m {o st : Rat} (hs : 0 < st) (h1 : o ≤ half * st) (h2 : -(half * st) < o) : qa o < qa (o - st) ∨ 0 ≤ o ∧ qa o ≤ qa (o - st) := by
  have hh := half2
  have e2 : half * st + half * st = st := by grind
  have h3 : o - st < 0 := by grind
  rw [qa_ng h3]
  rcases Rat.le_total (a := 0) (b := o) with z | z
  · rw [qa_nn z]; right; constructor <;> grind
  · rcases Rat.le_iff_lt_or_eq.mp z with y | y
    · rw [qa_ng y]; left; grind
    · rw [y]; right; exact ⟨by grind, by rw [qa_nn (by grind)]; grind⟩
theorem sgt_len (n : Int) (s r : Rat) (l : List Rat) : (sgt n s r l).length = l.length := by simp [sgt]
end Fw
namespace Fw
open PySem L2
/-! ### films -/
def pw (a : Int × Rat) : P := .tup [.int a.1, frq a.2]
theorem pw_inj1 {a b : Int × Rat} : (pw a = pw b) = (a = b) := by
  obtain ⟨n, a⟩ := a
  obtain ⟨m, b⟩ := b
  refine propext ⟨fun h => ?_, fun h => by rw [h]⟩
  simp only [pw, P.tup.injEq, List.cons.injEq, P.int.injEq, frq_inj] at h
  rw [h.1, h.2.1]
theorem pw_inj {l m : List (Int × Rat)} : (l.map pw = m.map pw) = (l = m) := by
  refine propext ⟨fun h => ?_, fun h => by rw [h]⟩
  induction l generalizing m with
  | nil => cases m with
    | nil => rfl
    | cons b s => cases h
  | cons a r ih => cases m with
    | nil => cases h
    | cons b s =>
      simp only [List.map_cons, List.cons.injEq, pw_inj1] at h
      rw [h.1, ih h.2]
def okP (l : List (Int × Rat)) : Prop := l ≠ [] ∧ l.length ≤ 12 ∧ ∀ a ∈ l, 1 ≤ a.1 ∧ a.1 ≤ 100 ∧ Sz 5 a.2
def trn (p : Rat) (l : List (Int × Rat)) : Rat := (l.map fun a => (a.1 : Rat) * (a.2 * p)).foldl (· + ·) 0
theorem foldl_add (l : List Rat) (x : Rat) : l.foldl (· + ·) x = x + l.foldl (· + ·) 0 := by
  induction l generalizing x with
  | nil => show x = x + 0; grind
  | cons a r ih =>
    rw [List.foldl_cons, List.foldl_cons, ih (x + a), ih (0 + a)]
    grind
theorem trn_snoc (p : Rat) (l : List (Int × Rat)) (a : Int × Rat) : trn p (l ++ [a]) = trn p l + (a.1 : Rat) * (a.2 * p) := by
  simp [trn, List.map_append, List.foldl_append]
theorem trn_twice (p : Rat) (l : List (Int × Rat)) : trn p (l ++ l) = 2 * trn p l := by
  simp only [trn, List.map_append, List.foldl_append]
  rw [foldl_add]
  grind
theorem trn_sz {p : Rat} (hp : Sz 5 p) : ∀ (l : List (Int × Rat)), (∀ a ∈ l, 1 ≤ a.1 ∧ a.1 ≤ 100 ∧ Sz 5 a.2) → ∀ (x : Rat) (m : Nat), Sz m x → Sz (m + 18 * l.length) ((l.map fun a => (a.1 : Rat) * (a.2 * p)).foldl (· + ·) x)
  | [], _, x, m, h => h
  | a :: r, hs, x, m, h => by
    obtain ⟨a1, a2, a3⟩ := hs a List.mem_cons_self
    have h1 : Sz 7 (a.1 : Rat) := sz_int (by show _ < 128; omega) (by decide)
    have h2 : Sz (m + 18) (x + (a.1 : Rat) * (a.2 * p)) := (sz_add h (sz_mul h1 (sz_mul a3 hp))).mono (by omega)
    have h3 := trn_sz hp r (fun b hb => hs b (List.mem_cons_of_mem _ hb)) _ _ h2
    rw [List.map_cons, List.foldl_cons]
    exact h3.mono (by rw [List.length_cons]; omega)
theorem okP.sz {p : Rat} {l : List (Int × Rat)} (hp : Sz 5 p) (h : okP l) : Sz 220 (trn p l) :=
  (trn_sz hp l h.2.2 0 1 ⟨by decide, by decide⟩).mono (by have := h.2.1; omega)
theorem isZ_den {q : Rat} {D : Int} (h : isZ (q * (D : Rat))) (hD : 0 < D) : (q.den : Int) ≤ D :=
  Int.le_of_dvd hD ((isZ_mul_iff D).mp h)
theorem trn_isZ {p : Rat} {D m : Int} (hm : isZ (p * (m : Rat))) : ∀ (l : List (Int × Rat)), (∀ a ∈ l, isZ (a.2 * (D : Rat))) → ∀ x : Rat, isZ (x * ((D * m : Int) : Rat)) → isZ ((l.map fun a => (a.1 : Rat) * (a.2 * p)).foldl (· + ·) x * ((D * m : Int) : Rat))
  | [], _, x, h => h
  | a :: r, hs, x, h => by
    rw [List.map_cons, List.foldl_cons]
    refine trn_isZ hm r (fun b hb => hs b (List.mem_cons_of_mem _ hb)) _ ?_
    have h1 := isZ_mul (isZ_mul (isZ_int a.1) (hs a List.mem_cons_self)) hm
    have h2 := isZ_add h h1
    have e : (x + (a.1 : Rat) * (a.2 * p)) * ((D * m : Int) : Rat) = x * ((D * m : Int) : Rat) + (a.1 : Rat) * (a.2 * (D : Rat)) * (p * (m : Rat)) := by
      rw [Rat.intCast_mul]; grind
    rw [e]; exact h2
/-! ### loops -/
/-- the first number of showings -/
theorem loop_dvd {x : Rat} (k : Int) : (x.num * k).fmod (x.den : Int) = 0 ↔ (x.den : Int) ∣ k := by
  have hd : (0 : Int) < (x.den : Int) := by have := x.den_pos; omega
  rw [Int.fmod_eq_emod_of_nonneg _ (Int.le_of_lt hd)]
  rw [num_mod]
def rg (lo hi : Int) : List Int := (List.range (hi - lo).toNat).map fun (k : Nat) => lo + (k : Int)
theorem rng_rg (lo hi : Int) : rangeP lo hi = (rg lo hi).map P.int := by
  unfold rangeP rg
  rw [List.map_map]; rfl
theorem rg_mem {lo hi i : Int} (h : i ∈ rg lo hi) : lo ≤ i ∧ i < hi := by
  obtain ⟨k, hk, rfl⟩ := List.mem_map.mp h
  have := List.mem_range.mp hk
  omega
theorem rg_len (lo hi : Int) : (rg lo hi).length = (hi - lo).toNat := by simp [rg]
theorem rg_nil {lo hi : Int} (h : hi ≤ lo) : rg lo hi = [] := by
  unfold rg
  rw [show (hi - lo).toNat = 0 by omega]; rfl
theorem atI_rg {w i : Int} (f : Int → Rat) (h0 : 0 ≤ i) (h1 : i < w) : atI (((rg 0 w).map f).map frq) i = some (frq (f i)) := by
  obtain ⟨k, rfl⟩ : ∃ k : Nat, i = (k : Int) := ⟨i.toNat, by omega⟩
  refine atI_nat ?_
  have hk : k < (w - 0).toNat := by omega
  unfold rg
  rw [List.getElem?_map, List.getElem?_map, List.getElem?_map, List.getElem?_range hk]
  show some (frq (f (0 + (k : Int)))) = _
  rw [Int.zero_add]
theorem rg_split {lo mid hi : Int} (h1 : lo ≤ mid) (h2 : mid ≤ hi) : rg lo hi = rg lo mid ++ rg mid hi := by
  unfold rg
  rw [show (hi - lo).toNat = (mid - lo).toNat + (hi - mid).toNat by omega, List.range_add, List.map_append, List.map_map]
  congr 1
  refine List.map_congr_left fun k _ => ?_
  show lo + (((mid - lo).toNat + k : Nat) : Int) = mid + (k : Int)
  omega
theorem rg_cons {lo hi : Int} (h : lo < hi) : rg lo hi = lo :: rg (lo + 1) hi := by
  rw [rg_split (mid := lo + 1) (by omega) (by omega)]
  unfold rg
  rw [show (lo + 1 - lo).toNat = 1 by omega]
  simp
theorem rg_none {d m : Int} (h : m ≤ d) : (rg 1 m).filter (fun k => decide (d ∣ k)) = [] := by
  refine List.filter_eq_nil_iff.mpr fun k hk => ?_
  have h1 := rg_mem hk
  rw [decide_eq_true_eq]
  intro z
  have := Int.le_of_dvd (by omega) z
  omega
theorem rg_first {d m : Int} (hd : 0 < d) (h : d < m) : (rg 1 m).filter (fun k => decide (d ∣ k)) = d :: (rg (d + 1) m).filter (fun k => decide (d ∣ k)) := by
  rw [rg_split (mid := d) (by omega) (by omega), List.filter_append, rg_none (Int.le_refl d), List.nil_append, rg_cons h, List.filter_cons_of_pos (by simp)]
theorem rg_only {d : Int} (hd : 0 < d) : (rg 1 (d + 1)).filter (fun k => decide (d ∣ k)) = [d] := by
  rw [rg_first hd (by omega), rg_nil (Int.le_refl _)]; rfl
theorem dv_int {x y D : Int} (hy : 0 < y) (h : y ∣ D) : isZ (Rat.divInt x y * (D : Rat)) := by
  obtain ⟨c, rfl⟩ := h
  have := cast_ne (show y ≠ 0 by omega)
  have e : Rat.divInt x y * ((y * c : Int) : Rat) = ((x * c : Int) : Rat) := by
    rw [divInt_q, Rat.intCast_mul, Rat.intCast_mul]
    grind
  rw [e]; exact isZ_int _
theorem den_dvd {x : Rat} {e : Int} (h : 0 < e) (hh : ∀ m : Int, e ∣ m ↔ isZ (x * (m : Rat))) : (x.den : Int) = e := by
  have h1 : (x.den : Int) ∣ e := (isZ_mul_iff e).mp ((hh e).mp (Int.dvd_refl e))
  have h2 : e ∣ (x.den : Int) := (hh _).mpr ((isZ_mul_iff _).mpr (Int.dvd_refl _))
  exact Int.dvd_antisymm (by omega) (by omega) h1 h2
theorem den_twice (x : Rat) : ((2 * x).den : Int) = if (x.den : Int) % 2 = 0 then (x.den : Int) / 2 else (x.den : Int) := by
  have hd : (0 : Int) < (x.den : Int) := by have := x.den_pos; omega
  have hk : ∀ m : Int, isZ (2 * x * (m : Rat)) ↔ (x.den : Int) ∣ 2 * m := fun m => by
    rw [← isZ_mul_iff, Rat.intCast_mul, show 2 * x * (m : Rat) = x * (((2 : Int) : Rat) * (m : Rat)) by
      show _ = x * (2 * (m : Rat))
      grind]
  split
  · rename_i he
    obtain ⟨c, hc⟩ : ∃ c, (x.den : Int) = 2 * c := ⟨(x.den : Int) / 2, by omega⟩
    rw [show (x.den : Int) / 2 = c by omega]
    refine den_dvd (by omega) fun m => ?_
    rw [hk, hc]
    exact (Int.mul_dvd_mul_iff_left (by decide)).symm
  · rename_i ho
    refine den_dvd hd fun m => ?_
    rw [hk]
    constructor
    · exact fun h => Int.dvd_trans h (Int.dvd_mul_left _ _)
    · intro h
      refine dvd_cop h ?_
      have h1 := Int.gcd_dvd_left (x.den : Int) 2
      have h2 := Int.gcd_dvd_right (x.den : Int) 2
      have h3 := Int.le_of_dvd (by decide) h2
      have h4 : Int.gcd (x.den : Int) 2 ≠ 0 := fun z => by rw [z] at h1; omega
      have h5 : Int.gcd (x.den : Int) 2 ≠ 2 := fun z => by rw [z] at h1; omega
      omega
/-- a film's turn has no great divisor -/
def okD (p : Rat) (l : List (Int × Rat)) : Prop := ∃ D : Int, 0 < D ∧ D ≤ 144 ∧ (p.den : Int) ≤ 4 ∧ ∀ a ∈ l, isZ (a.2 * (D : Rat))
theorem okD.le {p : Rat} {l : List (Int × Rat)} (h : okD p l) (n : Int) : ((trn p l * n).den : Int) ≤ 576 := by
  obtain ⟨D, h1, h2, h3, h4⟩ := h
  have hp : isZ (p * ((p.den : Int) : Rat)) := (isZ_mul_iff _).mpr (Int.dvd_refl _)
  have h5 : isZ (trn p l * ((D * (p.den : Int) : Int) : Rat)) := trn_isZ hp l h4 0 (by rw [Rat.zero_mul]; exact isZ_zero)
  have h6 : isZ (trn p l * n * ((D * (p.den : Int) : Int) : Rat)) := by
    rw [show trn p l * n * ((D * (p.den : Int) : Int) : Rat) = trn p l * ((D * (p.den : Int) : Int) : Rat) * n by grind]
    exact isZ_mul h5 (isZ_int n)
  have h7 : (0 : Int) < (p.den : Int) := by have := p.den_pos; omega
  have h8 := isZ_den h6 (Int.mul_pos h1 h7)
  have h9 : D * (p.den : Int) ≤ 144 * 4 := Int.mul_le_mul h2 h3 (by omega) (by decide)
  omega
end Fw
/-! Fw: rounds: pairs of fractions, what solves them, how they are made of each other. -/
namespace Fw
open PySem L2
/-- a pair of fractions as a value -/
def rd (a : Rat × Rat) : P := .tup [frq a.1, frq a.2]
theorem rd_inj1 {a b : Rat × Rat} : (rd a = rd b) = (a = b) := by
  refine propext ⟨fun h => ?_, fun h => by rw [h]⟩
  obtain ⟨p, q⟩ := a
  obtain ⟨r, s⟩ := b
  unfold rd at h
  simp only [P.tup.injEq, List.cons.injEq, and_true, frq_inj] at h
  obtain ⟨h1, h2⟩ := h
  rw [h1, h2]
theorem rd_inj {l m : List (Rat × Rat)} : (l.map rd = m.map rd) = (l = m) := by
  refine propext ⟨fun h => ?_, fun h => by rw [h]⟩
  induction l generalizing m with
  | nil => cases m with
    | nil => rfl
    | cons a r => simp at h
  | cons a r ih => cases m with
    | nil => simp at h
    | cons b s =>
      simp only [List.map_cons, List.cons.injEq, rd_inj1] at h
      rw [h.1, ih h.2]
theorem il_inj {a b : List Int} : (a.map P.int = b.map P.int) = (a = b) := propext ⟨ints_inj, fun h => by rw [h]⟩
def solv (l : List (Rat × Rat)) (r : Rat) : Prop := ∀ a ∈ l, isZ (r * a.1 - a.2)
def solvB (l : List (Rat × Rat)) (r : Rat) : Bool := l.all fun a => decide (isZ (r * a.1 - a.2))
theorem solvB_iff {l : List (Rat × Rat)} {r : Rat} : solvB l r = true ↔ solv l r := by
  unfold solvB solv
  rw [List.all_eq_true]
  exact ⟨fun h a ha => of_decide_eq_true (h a ha), fun h a ha => decide_eq_true (h a ha)⟩
theorem isZ_all {y : Rat} {l : List Rat} : (∀ q ∈ l, isZ (y * q)) ↔ isZ (y * qms l) := by
  constructor
  · intro h
    have e : ∀ m : List Rat, (∀ q ∈ m, isZ (y * q)) → ∃ as : List Int, m.map (fun q => y * q) = as.map fun (a : Int) => (a : Rat) := by
      intro m
      induction m with
      | nil => exact fun _ => ⟨[], rfl⟩
      | cons a r ih =>
        intro hm
        obtain ⟨as, ea⟩ := ih fun q hq => hm q (List.mem_cons_of_mem _ hq)
        obtain ⟨k, ek⟩ := isZ_iff.mp (hm a (List.mem_cons_self ..))
        exact ⟨k :: as, by rw [List.map_cons, List.map_cons, ea, ek]⟩
    obtain ⟨as, ea⟩ := e l h
    have e2 := qms_scale y l
    rw [ea, qms_ints] at e2
    split at e2
    · have e3 : y * qms l = -((gl as : Nat) : Int) := by rw [e2]; grind
      rw [e3]
      exact isZ_neg (isZ_int _)
    · rw [← e2]
      exact isZ_int _
  · intro h q hq
    obtain ⟨k, e⟩ := qms_div hq
    rw [e, show y * ((k : Rat) * qms l) = (k : Rat) * (y * qms l) by grind]
    exact isZ_mul (isZ_int k) h
/-- two solutions differ by whole multiples of 1 over the measure -/
theorem solv_diff {l : List (Rat × Rat)} {r s : Rat} (h : solv l r) : solv l s ↔ isZ ((s - r) * qms (l.map fun a => a.1)) := by
  rw [← isZ_all]
  constructor
  · intro h2 q hq
    obtain ⟨a, ha, rfl⟩ := List.mem_map.mp hq
    have := isZ_sub (h2 a ha) (h a ha)
    rw [show s * a.1 - a.2 - (r * a.1 - a.2) = (s - r) * a.1 by grind] at this
    exact this
  · intro h2 a ha
    have := isZ_add (h2 a.1 (List.mem_map.mpr ⟨a, ha, rfl⟩)) (h a ha)
    rw [show (s - r) * a.1 + (r * a.1 - a.2) = s * a.1 - a.2 by grind] at this
    exact this
/-! ### sums of so many times each -/
def dot : List Int → List Rat → Rat
  | c :: cs, q :: l => (c : Rat) * q + dot cs l
  | _, _ => 0
def doti : List Int → List Int → Int
  | c :: cs, q :: l => c * q + doti cs l
  | _, _ => 0
def fsts (l : List (Rat × Rat)) : List Rat := l.map fun a => a.1
def snds (l : List (Rat × Rat)) : List Rat := l.map fun a => a.2
/-- a list less another one so many times -/
def lss (k : Int) (cs ds : List Int) : List Int := (cs.zip ds).map fun a => a.1 - k * a.2
theorem lss_len {k : Int} {cs ds : List Int} (h : cs.length = ds.length) : (lss k cs ds).length = ds.length := by
  unfold lss
  rw [List.length_map, List.length_zip, h, Nat.min_self]
theorem dot_lss (k : Int) : ∀ {cs ds : List Int} {l : List Rat}, cs.length = ds.length → dot (lss k cs ds) l = dot cs l - (k : Rat) * dot ds l
  | [], [], l, _ => by
    show dot [] l = dot [] l - k * dot [] l
    have : dot [] l = 0 := by cases l <;> rfl
    rw [this]; grind
  | c :: cs, d :: ds, [], _ => by
    show (0 : Rat) = 0 - k * 0
    grind
  | c :: cs, d :: ds, q :: l, h => by
    have ih := dot_lss k (cs := cs) (ds := ds) (l := l) (by simpa using h)
    show ((c - k * d : Int) : Rat) * q + dot (lss k cs ds) l = ((c : Rat) * q + dot cs l) - k * ((d : Rat) * q + dot ds l)
    rw [ih, Rat.intCast_sub, Rat.intCast_mul]
    grind
  | [], _ :: _, _, h => by simp at h
  | _ :: _, [], _, h => by simp at h
theorem dot_zero (n : Nat) : ∀ l : List Rat, dot (List.replicate n 0) l = 0 := by
  induction n with
  | zero => intro l; cases l <;> rfl
  | succ n ih =>
    intro l
    cases l with
    | nil => rfl
    | cons q l =>
      show ((0 : Int) : Rat) * q + dot (List.replicate n 0) l = 0
      rw [ih]; grind
/-- one at j, else 0 -/
def unit1 (n j : Nat) : List Int := (List.range n).map fun i => if i = j then 1 else 0
theorem dot_map0 {n : Nat} {f : Nat → Int} (l : List Rat) (h : ∀ i, i < n → f i = 0) : dot ((List.range n).map f) l = 0 := by
  have e : (List.range n).map f = List.replicate n 0 := by
    rw [List.map_congr_left (g := fun _ => (0 : Int)) (fun i hi => h i (List.mem_range.mp hi)), List.map_const']
    simp
  rw [e, dot_zero]
theorem dot_unit : ∀ {l : List Rat} {j : Nat} {q : Rat}, l[j]? = some q → dot (unit1 l.length j) l = q
  | [], _, _, h => by simp at h
  | a :: l, 0, q, h => by
    have e : a = q := by simpa using h
    subst e
    unfold unit1
    rw [List.length_cons, List.range_succ_eq_map, List.map_cons, List.map_map]
    show ((1 : Int) : Rat) * a + dot ((List.range l.length).map _) l = a
    rw [dot_map0 l fun i _ => by show (if i + 1 = 0 then (1 : Int) else 0) = 0; simp]
    grind
  | a :: l, j + 1, q, h => by
    have ih := dot_unit (l := l) (j := j) (q := q) (by simpa using h)
    unfold unit1 at ih ⊢
    rw [List.length_cons, List.range_succ_eq_map, List.map_cons, List.map_map]
    show (((if 0 = j + 1 then (1 : Int) else 0) : Int) : Rat) * a + dot ((List.range l.length).map ((fun i => if i = j + 1 then (1 : Int) else 0) ∘ Nat.succ)) l = q
    have e : ((fun i => if i = j + 1 then (1 : Int) else 0) ∘ Nat.succ) = fun i => if i = j then (1 : Int) else 0 := by
      funext i
      show (if i + 1 = j + 1 then (1 : Int) else 0) = _
      simp
    rw [e, ih, if_neg (by omega)]
    grind
/-- what solves all solves what is made of them -/
theorem dot_solv {r : Rat} : ∀ {l : List (Rat × Rat)} (cs : List Int), solv l r → isZ (r * dot cs (fsts l) - dot cs (snds l))
  | [], cs, _ => by
    have : ∀ cs : List Int, dot cs [] = 0 := fun cs => by cases cs <;> rfl
    show isZ (r * dot cs [] - dot cs [])
    rw [this, show r * 0 - 0 = (0 : Rat) by grind]
    exact isZ_zero
  | a :: l, [], _ => by
    show isZ (r * 0 - 0)
    rw [show r * 0 - 0 = (0 : Rat) by grind]
    exact isZ_zero
  | a :: l, c :: cs, h => by
    have ih := dot_solv (l := l) cs fun b hb => h b (List.mem_cons_of_mem _ hb)
    have h1 := isZ_mul (isZ_int c) (h a (List.mem_cons_self ..))
    have := isZ_add h1 ih
    rw [show (c : Rat) * (r * a.1 - a.2) + (r * dot cs (fsts l) - dot cs (snds l)) = r * ((c : Rat) * a.1 + dot cs (fsts l)) - ((c : Rat) * a.2 + dot cs (snds l)) by grind] at this
    exact this
/-- a clash: whole numbers with which the first ones come to 0, the second ones to no whole number -/
def isCl (l : List (Rat × Rat)) (cs : List Int) : Prop := cs.length = l.length ∧ dot cs (fsts l) = 0 ∧ ¬ isZ (dot cs (snds l))
theorem isCl.no {l : List (Rat × Rat)} {cs : List Int} (h : isCl l cs) (r : Rat) : ¬ solv l r := fun hs => by
  have := dot_solv cs hs
  rw [h.2.1, show r * 0 - dot cs (snds l) = -dot cs (snds l) by grind] at this
  exact h.2.2 (isZ_neg_iff.mp this)
/-! ### sizes -/
/-- all are parts of one by D, and not too great -/
def okR (b : Nat) (l : List (Rat × Rat)) : Prop := l.length ≤ 44 ∧ (0 < b ∧ b ≤ 200) ∧ (b + 2) * (l.length + 2) ≤ 1400 ∧ ∃ D : Int, 0 < D ∧ D < 2 ^ b ∧ ∀ a ∈ l, (∃ x : Int, a.1 = (x : Rat) / (D : Rat) ∧ x.natAbs < 2 ^ b) ∧ ∃ y : Int, a.2 = (y : Rat) / (D : Rat) ∧ y.natAbs < 2 ^ b
/-- how great numbers grow that are taken away from each other -/
def pot (c d x y : Int) : Nat := c.natAbs * y.natAbs + d.natAbs * x.natAbs + if x * y < 0 then 2 * (d.natAbs * y.natAbs) else 0
theorem floor_parts {x y D : Int} (hy : y ≠ 0) (hD : 0 < D) : let q := (((x : Rat) / (D : Rat)) / ((y : Rat) / (D : Rat))).floor
    (0 < y → 0 ≤ x - q * y ∧ x - q * y < y) ∧ (y < 0 → y < x - q * y ∧ x - q * y ≤ 0) := by
  intro q
  have hDq : (D : Rat) ≠ 0 := cast_ne (by omega)
  have hyq : (y : Rat) ≠ 0 := cast_ne hy
  have e : ((x : Rat) / (D : Rat)) / ((y : Rat) / (D : Rat)) = (x : Rat) / (y : Rat) := by grind
  have h1 : (q : Rat) ≤ (x : Rat) / (y : Rat) := by rw [← e]; exact Rat.floor_le _
  have h2 : (x : Rat) / (y : Rat) < (q : Rat) + 1 := by
    have := Rat.lt_floor_add_one (((x : Rat) / (D : Rat)) / ((y : Rat) / (D : Rat)))
    rw [Rat.intCast_add] at this
    rw [← e]
    exact this
  have e2 : (x : Rat) / (y : Rat) * (y : Rat) = x := by grind
  constructor
  · intro y0
    have yp : (0 : Rat) < y := int_pos y0
    have a1 := Rat.mul_le_mul_of_nonneg_right h1 (Rat.le_of_lt yp)
    have a2 := Rat.mul_lt_mul_of_pos_right h2 yp
    rw [e2] at a1 a2
    have a3 : q * y ≤ x := by
      rw [← Rat.intCast_mul] at a1
      exact Rat.intCast_le_intCast.mp a1
    have a4 : x < (q + 1) * y := by
      rw [show ((q : Rat) + 1) * (y : Rat) = (((q + 1) * y : Int) : Rat) by rw [Rat.intCast_mul, Rat.intCast_add]; rfl] at a2
      exact Rat.intCast_lt_intCast.mp a2
    rw [Int.add_mul, Int.one_mul] at a4
    omega
  · intro y0
    have yp : (0 : Rat) < (-y : Int) := int_pos (by omega)
    have a1 := Rat.mul_le_mul_of_nonneg_right h1 (Rat.le_of_lt yp)
    have a2 := Rat.mul_lt_mul_of_pos_right h2 yp
    have e3 : (x : Rat) / (y : Rat) * ((-y : Int) : Rat) = ((-x : Int) : Rat) := by
      rw [Rat.intCast_neg, Rat.intCast_neg]; grind
    rw [e3] at a1 a2
    have a3 : q * (-y) ≤ -x := by
      rw [← Rat.intCast_mul] at a1
      exact Rat.intCast_le_intCast.mp a1
    have a4 : -x < (q + 1) * (-y) := by
      rw [show ((q : Rat) + 1) * ((-y : Int) : Rat) = (((q + 1) * (-y) : Int) : Rat) by rw [Rat.intCast_mul, Rat.intCast_add]; rfl] at a2
      exact Rat.intCast_lt_intCast.mp a2
    rw [Int.add_mul, Int.one_mul] at a4
    rw [Int.mul_neg] at a3 a4
    omega
theorem rem_small {x y q : Int} (h1 : 0 < y → 0 ≤ x - q * y ∧ x - q * y < y) (h2 : y < 0 → y < x - q * y ∧ x - q * y ≤ 0) (hy : y ≠ 0) :
    (x - q * y).natAbs < y.natAbs ∧ (x - q * y).natAbs + q.natAbs * y.natAbs ≤ x.natAbs + (if x * y < 0 then 2 * y.natAbs else 0) ∧ ¬ y * (x - q * y) < 0 := by
  have e : (q.natAbs * y.natAbs : Nat) = (q * y).natAbs := (Int.natAbs_mul q y).symm
  rw [e]
  rcases Int.lt_or_gt_of_ne hy with y0 | y0
  · have a := h2 y0
    have sg : 0 ≤ y * (x - q * y) := Int.mul_nonneg_of_nonpos_of_nonpos (show y ≤ 0 by omega) a.2
    have qs : q * y ≤ 0 ∨ 0 ≤ q * y + y := by
      by_cases hq : 0 ≤ q
      · exact .inl (Int.mul_nonpos_of_nonneg_of_nonpos hq (by omega))
      · have := Int.mul_nonneg_of_nonpos_of_nonpos (show q + 1 ≤ 0 by omega) (show y ≤ 0 by omega)
        rw [Int.add_mul, Int.one_mul] at this
        exact .inr this
    refine ⟨by omega, ?_, by omega⟩
    by_cases hx : x ≤ 0
    · have : ¬ x * y < 0 := Int.not_lt.mpr (Int.mul_nonneg_of_nonpos_of_nonpos hx (by omega))
      rw [if_neg this]
      omega
    · have : x * y < 0 := Int.mul_neg_of_pos_of_neg (by omega) y0
      rw [if_pos this]
      omega
  · have a := h1 y0
    have sg : 0 ≤ y * (x - q * y) := Int.mul_nonneg (show 0 ≤ y by omega) a.1
    have qs : 0 ≤ q * y ∨ q * y + y ≤ 0 := by
      by_cases hq : 0 ≤ q
      · exact .inl (Int.mul_nonneg hq (by omega))
      · have := Int.mul_nonpos_of_nonpos_of_nonneg (show q + 1 ≤ 0 by omega) (show 0 ≤ y by omega)
        rw [Int.add_mul, Int.one_mul] at this
        exact .inr this
    refine ⟨by omega, ?_, by omega⟩
    by_cases hx : 0 ≤ x
    · have : ¬ x * y < 0 := Int.not_lt.mpr (Int.mul_nonneg hx (by omega))
      rw [if_neg this]
      omega
    · have : x * y < 0 := Int.mul_neg_of_neg_of_pos (by omega) y0
      rw [if_pos this]
      omega
theorem pot_step {c d x y q : Int} (h1 : 0 < y → 0 ≤ x - q * y ∧ x - q * y < y) (h2 : y < 0 → y < x - q * y ∧ x - q * y ≤ 0) (hy : y ≠ 0) : pot d (c - q * d) y (x - q * y) ≤ pot c d x y := by
  obtain ⟨_, s2, s3⟩ := rem_small h1 h2 hy
  unfold pot
  rw [if_neg s3]
  have a1 : (c - q * d).natAbs ≤ c.natAbs + q.natAbs * d.natAbs := by
    rw [← Int.natAbs_mul]; omega
  have a2 := Nat.mul_le_mul_right y.natAbs a1
  have a3 := Nat.mul_le_mul_left d.natAbs s2
  have e1 : (c.natAbs + q.natAbs * d.natAbs) * y.natAbs = c.natAbs * y.natAbs + d.natAbs * (q.natAbs * y.natAbs) := by
    rw [Nat.add_mul]; congr 1; rw [Nat.mul_comm q.natAbs, Nat.mul_assoc]
  rw [e1] at a2
  rw [Nat.mul_add, Nat.mul_add] at a3
  have e2 : d.natAbs * (if x * y < 0 then 2 * y.natAbs else 0) = if x * y < 0 then 2 * (d.natAbs * y.natAbs) else 0 := by
    split
    · rw [Nat.mul_left_comm]
    · rfl
  rw [e2] at a3
  omega
/-- what the numbers of a made round may come to behind n rounds -/
def gr (b n : Nat) : Nat := 2 ^ ((b + 2) * n)
theorem gr_pos (b n : Nat) : 0 < gr b n := Nat.pow_pos (by decide)
theorem gr_succ (b n : Nat) : gr b (n + 1) = 2 ^ (b + 2) * gr b n := by
  unfold gr
  rw [Nat.mul_add, Nat.mul_one, Nat.pow_add, Nat.mul_comm]
theorem pot_start {b n : Nat} {c d x y : Int} (hb : 0 < b) (hc : c.natAbs ≤ 1) (hd : d.natAbs ≤ gr b n) (hx : x.natAbs < 2 ^ b) (hy : y.natAbs < 2 ^ b) : pot c d x y ≤ gr b (n + 1) := by
  unfold pot
  rw [gr_succ, Nat.pow_add]
  have g := gr_pos b n
  have p : 0 < 2 ^ b := Nat.pow_pos (by decide)
  have a1 := Nat.mul_le_mul hc (Nat.le_of_lt hy)
  have a2 := Nat.mul_le_mul hd (Nat.le_of_lt hx)
  have a3 := Nat.mul_le_mul hd (Nat.le_of_lt hy)
  have a4 : 2 ^ b ≤ gr b n * 2 ^ b := Nat.le_mul_of_pos_left _ g
  have e : 2 ^ b * 2 ^ 2 * gr b n = 4 * (gr b n * 2 ^ b) := by
    rw [Nat.mul_comm (2 ^ b) (2 ^ 2), Nat.mul_assoc, Nat.mul_comm (2 ^ b)]
  rw [e]
  split <;> omega
theorem doti_lss (k : Int) : ∀ {cs ds : List Int} {l : List Int}, cs.length = ds.length → doti (lss k cs ds) l = doti cs l - k * doti ds l
  | [], [], l, _ => by
    have : doti [] l = 0 := by cases l <;> rfl
    show doti [] l = doti [] l - k * doti [] l
    rw [this]; simp
  | c :: cs, d :: ds, [], _ => by
    show (0 : Int) = 0 - k * 0
    simp
  | c :: cs, d :: ds, q :: l, h => by
    have ih := doti_lss k (cs := cs) (ds := ds) (l := l) (by simpa using h)
    show (c - k * d) * q + doti (lss k cs ds) l = (c * q + doti cs l) - k * (d * q + doti ds l)
    rw [ih]; grind
  | [], _ :: _, _, h => by simp at h
  | _ :: _, [], _, h => by simp at h
theorem dot_parts {D : Int} (hD : 0 < D) : ∀ (cs xs : List Int), dot cs (xs.map fun (x : Int) => (x : Rat) / (D : Rat)) = (doti cs xs : Rat) / (D : Rat)
  | [], xs => by
    have e1 : doti [] xs = 0 := by cases xs <;> rfl
    have e2 : ∀ l, dot [] l = 0 := fun l => by cases l <;> rfl
    rw [e1, e2, show ((0 : Int) : Rat) = 0 by rfl]; grind
  | c :: cs, [] => by
    show (0 : Rat) = ((0 : Int) : Rat) / (D : Rat)
    rw [show ((0 : Int) : Rat) = 0 by rfl]; grind
  | c :: cs, x :: xs => by
    have ih := dot_parts hD cs xs
    have hDq : (D : Rat) ≠ 0 := cast_ne (by omega)
    show (c : Rat) * ((x : Rat) / (D : Rat)) + dot cs (xs.map fun (x : Int) => (x : Rat) / (D : Rat)) = ((c * x + doti cs xs : Int) : Rat) / (D : Rat)
    rw [ih, Rat.intCast_add, Rat.intCast_mul]; grind
theorem parts_of {D : Int} {n : Nat} : ∀ {l : List Rat}, (∀ q ∈ l, ∃ x : Int, q = (x : Rat) / (D : Rat) ∧ x.natAbs < n) → ∃ xs : List Int, l = xs.map (fun (x : Int) => (x : Rat) / (D : Rat)) ∧ ∀ x ∈ xs, x.natAbs < n
  | [], _ => ⟨[], rfl, fun x h => by simp at h⟩
  | a :: r, h => by
    obtain ⟨xs, e, hx⟩ := parts_of (l := r) fun q hq => h q (List.mem_cons_of_mem _ hq)
    obtain ⟨x, ex, hn⟩ := h a (List.mem_cons_self ..)
    refine ⟨x :: xs, by rw [List.map_cons, ← e, ex], fun y hy => ?_⟩
    rcases List.mem_cons.mp hy with z | z
    · rw [z]; exact hn
    · exact hx y z
theorem okR.parts {b : Nat} {l : List (Rat × Rat)} (h : okR b l) : ∃ (D : Int) (xs ys : List Int), 0 < D ∧ D < 2 ^ b ∧ fsts l = xs.map (fun (x : Int) => (x : Rat) / (D : Rat)) ∧ snds l = ys.map (fun (x : Int) => (x : Rat) / (D : Rat)) ∧ (∀ x ∈ xs, x.natAbs < 2 ^ b) ∧ ∀ y ∈ ys, y.natAbs < 2 ^ b := by
  obtain ⟨_, _, _, D, d1, d2, hd⟩ := h
  obtain ⟨xs, ex, hx⟩ := parts_of (D := D) (n := 2 ^ b) (l := fsts l) fun q hq => by
    obtain ⟨a, ha, rfl⟩ := List.mem_map.mp hq
    exact (hd a ha).1
  obtain ⟨ys, ey, hy⟩ := parts_of (D := D) (n := 2 ^ b) (l := snds l) fun q hq => by
    obtain ⟨a, ha, rfl⟩ := List.mem_map.mp hq
    exact (hd a ha).2
  exact ⟨D, xs, ys, d1, d2, ex, ey, hx, hy⟩
theorem doti_le {K M : Nat} : ∀ {cs xs : List Int}, (∀ c ∈ cs, c.natAbs ≤ K) → (∀ x ∈ xs, x.natAbs ≤ M) → (doti cs xs).natAbs ≤ cs.length * (K * M)
  | [], xs, _, _ => by
    have e1 : doti [] xs = 0 := by cases xs <;> rfl
    rw [e1]; exact Nat.zero_le _
  | c :: cs, [], _, _ => Nat.zero_le _
  | c :: cs, x :: xs, h, g => by
    have ih := doti_le (cs := cs) (xs := xs) (fun e he => h e (List.mem_cons_of_mem _ he)) fun e he => g e (List.mem_cons_of_mem _ he)
    have h1 := Nat.mul_le_mul (h c (List.mem_cons_self ..)) (g x (List.mem_cons_self ..))
    rw [← Int.natAbs_mul] at h1
    show (c * x + doti cs xs).natAbs ≤ (cs.length + 1) * (K * M)
    rw [Nat.add_mul, Nat.one_mul]
    have := Int.natAbs_add_le (c * x) (doti cs xs)
    omega
/-- the first, the second number of what is made -/
def mA (l : List (Rat × Rat)) (cs : List Int) : Rat := dot cs (fsts l)
def mV (l : List (Rat × Rat)) (cs : List Int) : Rat := dot cs (snds l)
def md (m : Rat × Rat × List Int) : P := .tup [frq m.1, frq m.2.1, .lst (m.2.2.map P.int)]
def mdL (l : List (Rat × Rat)) (cs : List Int) : P := md (mA l cs, mV l cs, cs)
def solM (l : List (Rat × Rat)) (cs : List Int) (r : Rat) : Prop := isZ (r * mA l cs - mV l cs)
/-- no number is greater than behind n rounds -/
def sm (b n : Nat) (l : List (Rat × Rat)) (cs : List Int) : Prop := cs.length = l.length ∧ ∀ c ∈ cs, c.natAbs ≤ gr b n
theorem gr_le {b m n : Nat} (h : m ≤ n) : gr b m ≤ gr b n := Nat.pow_le_pow_right (by decide) (Nat.mul_le_mul_left _ h)
theorem sm.le {b m n : Nat} {l : List (Rat × Rat)} {cs : List Int} (h : sm b m l cs) (g : m ≤ n) : sm b n l cs := ⟨h.1, fun c hc => Nat.le_trans (h.2 c hc) (gr_le g)⟩
theorem okR.szD {b n : Nat} {l : List (Rat × Rat)} (h : okR b l) (hn : n ≤ l.length) {cs xs : List Int} {D : Int} (hs : sm b n l cs) (d1 : 0 < D) (d2 : D < 2 ^ b) (hx : ∀ x ∈ xs, x.natAbs < 2 ^ b) : Sz 1410 ((doti cs xs : Rat) / (D : Rat)) := by
  obtain ⟨l44, ⟨b0, _⟩, hb, _⟩ := h
  have h1 := doti_le (K := gr b n) (M := 2 ^ b) hs.2 fun x hx' => Nat.le_of_lt (hx x hx')
  rw [hs.1] at h1
  have h2 : l.length * (gr b n * 2 ^ b) < 2 ^ 6 * (gr b n * 2 ^ b) := Nat.mul_lt_mul_of_pos_right (by omega) (Nat.mul_pos (gr_pos b n) (Nat.pow_pos (by decide)))
  have h3 : 2 ^ 6 * (gr b n * 2 ^ b) ≤ 2 ^ 1410 := by
    unfold gr
    rw [← Nat.pow_add, ← Nat.pow_add]
    refine Nat.pow_le_pow_right (by decide) ?_
    have h4 := Nat.mul_le_mul_left (b + 2) hn
    rw [Nat.mul_add] at hb
    omega
  rw [← divInt_q]
  refine sz_divInt (by omega) (by omega) ?_
  have h5 : (2 : Nat) ^ b ≤ 2 ^ 1410 := Nat.pow_le_pow_right (by decide) (by
    have h6 : (b + 2) * 1 ≤ (b + 2) * (l.length + 2) := Nat.mul_le_mul_left _ (by omega)
    omega)
  have h7 : ((2 ^ b : Nat) : Int) = 2 ^ b := by simp
  omega
theorem okR.szA {b n : Nat} {l : List (Rat × Rat)} (h : okR b l) (hn : n ≤ l.length) {cs : List Int} (hs : sm b n l cs) : Sz 1410 (mA l cs) ∧ Sz 1410 (mV l cs) := by
  obtain ⟨D, xs, ys, d1, d2, ex, ey, hx, hy⟩ := h.parts
  unfold mA mV
  rw [ex, ey, dot_parts d1, dot_parts d1]
  exact ⟨h.szD hn hs d1 d2 hx, h.szD hn hs d1 d2 hy⟩
/-! ### two made rounds put together -/
structure PT (b k : Nat) (l : List (Rat × Rat)) (D : Int) (xs : List Int) (c d : List Int) : Prop where
  cs : sm b k l c
  ds : sm b k l d
  x : (doti c xs).natAbs < 2 ^ b
  y : (doti d xs).natAbs < 2 ^ b
  pot : ∀ p ∈ c.zip d, pot p.1 p.2 (doti c xs) (doti d xs) ≤ gr b k
theorem mem_lss {k : Int} : ∀ {cs ds : List Int} {e : Int}, e ∈ lss k cs ds → ∃ p ∈ cs.zip ds, e = p.1 - k * p.2 := fun {cs ds e} h => by
  obtain ⟨p, hp, he⟩ := List.mem_map.mp h
  exact ⟨p, hp, he.symm⟩
theorem mem_zip_lss {k : Int} : ∀ {cs ds : List Int} {p : Int × Int}, p ∈ ds.zip (lss k cs ds) → ∃ q ∈ cs.zip ds, p = (q.2, q.1 - k * q.2)
  | [], ds, p, h => by
    have : lss k [] ds = [] := rfl
    rw [this] at h
    simp at h
  | _ :: _, [], p, h => by simp at h
  | c :: cs, d :: ds, p, h => by
    have e : (d :: ds).zip (lss k (c :: cs) (d :: ds)) = (d, c - k * d) :: ds.zip (lss k cs ds) := rfl
    rw [e] at h
    rcases List.mem_cons.mp h with z | z
    · exact ⟨(c, d), List.mem_cons_self .., z⟩
    · obtain ⟨q, hq, e⟩ := mem_zip_lss z
      exact ⟨q, List.mem_cons_of_mem _ hq, e⟩
section
variable {b k : Nat} {l : List (Rat × Rat)} {D : Int} {xs c d : List Int}
theorem PT.step (h : PT b k l D xs c d) {q : Int} (hy : doti d xs ≠ 0) (h1 : 0 < doti d xs → 0 ≤ doti c xs - q * doti d xs ∧ doti c xs - q * doti d xs < doti d xs) (h2 : doti d xs < 0 → doti d xs < doti c xs - q * doti d xs ∧ doti c xs - q * doti d xs ≤ 0) :
    PT b k l D xs d (lss q c d) ∧ (doti (lss q c d) xs).natAbs < (doti d xs).natAbs ∧ q.natAbs ≤ 2 ^ b + 2 := by
  have hl : c.length = d.length := by rw [h.cs.1, h.ds.1]
  have e := doti_lss q (cs := c) (ds := d) (l := xs) hl
  obtain ⟨s1, s2, s3⟩ := rem_small h1 h2 hy
  have hpot : ∀ p ∈ d.zip (lss q c d), Fw.pot p.1 p.2 (doti d xs) (doti (lss q c d) xs) ≤ gr b k := fun p hp => by
    obtain ⟨u, hu, rfl⟩ := mem_zip_lss hp
    rw [e]
    exact Nat.le_trans (pot_step h1 h2 hy) (h.pot u hu)
  have hyp : 0 < (doti d xs).natAbs := Int.natAbs_pos.mpr hy
  refine ⟨⟨h.ds, ⟨by rw [lss_len hl]; exact h.ds.1, fun e2 he => ?_⟩, h.y, by rw [e]; have := h.y; omega, hpot⟩, by rw [e]; exact s1, ?_⟩
  · obtain ⟨p, hp, rfl⟩ := mem_lss he
    have hp2 := Nat.le_trans (pot_step (c := p.1) (d := p.2) h1 h2 hy) (h.pot p hp)
    unfold Fw.pot at hp2
    have hp3 := Nat.le_mul_of_pos_right (p.1 - q * p.2).natAbs hyp
    omega
  · have hx := h.x
    have hm : q.natAbs * (doti d xs).natAbs ≤ (doti c xs).natAbs + 2 * (doti d xs).natAbs := by
      have : (if doti c xs * doti d xs < 0 then 2 * (doti d xs).natAbs else 0) ≤ 2 * (doti d xs).natAbs := by split <;> omega
      omega
    have h3 : q.natAbs * (doti d xs).natAbs ≤ ((doti c xs).natAbs + 2) * (doti d xs).natAbs := by
      rw [Nat.add_mul]
      have := Nat.le_mul_of_pos_right (doti c xs).natAbs hyp
      omega
    have := Nat.le_of_mul_le_mul_right h3 hyp
    omega
theorem mA_lss {q : Int} (h : c.length = d.length) : mA l (lss q c d) = mA l c - (q : Rat) * mA l d := dot_lss q h
theorem mV_lss {q : Int} (h : c.length = d.length) : mV l (lss q c d) = mV l c - (q : Rat) * mV l d := dot_lss q h
theorem solM_lss {q : Int} (h : c.length = d.length) (r : Rat) : (solM l d r ∧ solM l (lss q c d) r) ↔ (solM l c r ∧ solM l d r) := by
  unfold solM
  rw [mA_lss h, mV_lss h]
  constructor
  · rintro ⟨h1, h2⟩
    have := isZ_add h2 (isZ_mul (isZ_int q) h1)
    rw [show r * (mA l c - (q : Rat) * mA l d) - (mV l c - (q : Rat) * mV l d) + (q : Rat) * (r * mA l d - mV l d) = r * mA l c - mV l c by grind] at this
    exact ⟨this, h1⟩
  · rintro ⟨h1, h2⟩
    have := isZ_sub h1 (isZ_mul (isZ_int q) h2)
    rw [show r * mA l c - mV l c - (q : Rat) * (r * mA l d - mV l d) = r * (mA l c - (q : Rat) * mA l d) - (mV l c - (q : Rat) * mV l d) by grind] at this
    exact ⟨h2, this⟩
end
/-- what is told of reduced rounds -/
structure Red (b n : Nat) (l m : List (Rat × Rat)) (w : List Int) (es : List (List Int)) : Prop where
  ws : sm b n l w
  e : ∀ e ∈ es, sm b n l e ∧ mA l e = 0
  s : ∀ r, solv m r ↔ solM l w r ∧ ∀ e ∈ es, solM l e r
  len : es.length ≤ l.length
theorem Red.no {b n : Nat} {l : List (Rat × Rat)} {w : List Int} {es : List (List Int)} (h : Red b n l l w es) (hw : mA l w = 0) (hz : isZ (mV l w)) (he : ∀ e ∈ es, isZ (mV l e)) (r : Rat) : solv l r := by
  refine (h.s r).mpr ⟨?_, fun e h2 => ?_⟩
  · unfold solM
    rw [hw, show r * 0 - mV l w = -mV l w by grind]
    exact isZ_neg hz
  · unfold solM
    rw [(h.e e h2).2, show r * 0 - mV l e = -mV l e by grind]
    exact isZ_neg (he e h2)
theorem Red.yes {b n : Nat} {l : List (Rat × Rat)} {w : List Int} {es : List (List Int)} (h : Red b n l l w es) (hw : mA l w ≠ 0) (he : ∀ e ∈ es, isZ (mV l e)) : solv l (mV l w / mA l w) := by
  refine (h.s _).mpr ⟨?_, fun e h2 => ?_⟩
  · unfold solM
    rw [show mV l w / mA l w * mA l w - mV l w = 0 by grind]
    exact isZ_zero
  · unfold solM
    rw [(h.e e h2).2, show mV l w / mA l w * 0 - mV l e = -mV l e by grind]
    exact isZ_neg (he e h2)
theorem rcl_of {b n : Nat} {l : List (Rat × Rat)} {e : List Int} (h : sm b n l e) (h0 : mA l e = 0) (hz : ¬ isZ (mV l e)) : isCl l e := ⟨h.1, h0, hz⟩
/-- the least from 0 on -/
def leastS (l : List (Rat × Rat)) (q : Rat) : Prop := 0 ≤ q ∧ solv l q ∧ ∀ r, 0 ≤ r → solv l r → q ≤ r
theorem leastS.uniq {l : List (Rat × Rat)} {p q : Rat} (h : leastS l p) (g : leastS l q) : p = q := Rat.le_antisymm (h.2.2 q g.1 g.2.1) (g.2.2 p h.1 h.2.1)
theorem least_rmd {l : List (Rat × Rat)} {r : Rat} (h : solv l r) (h0 : 0 < qms (fsts l)) : leastS l (rmd r (qms (fsts l))⁻¹) := by
  have hi : 0 < (qms (fsts l))⁻¹ := Rat.inv_pos.mpr h0
  have ne := pos_ne h0
  have hz : ∀ k : Int, (k : Rat) * (qms (fsts l))⁻¹ * qms (fsts l) = k := fun k => by grind
  refine ⟨rmd_nonneg hi, (solv_diff h).mpr ?_, fun s s0 hs => ?_⟩
  · show isZ ((rmd r (qms (fsts l))⁻¹ - r) * qms (fsts l))
    rw [rmd_k, show r + ((-(r / (qms (fsts l))⁻¹).floor : Int) : Rat) * (qms (fsts l))⁻¹ - r = ((-(r / (qms (fsts l))⁻¹).floor : Int) : Rat) * (qms (fsts l))⁻¹ by grind, hz]
    exact isZ_int _
  · have h2 : isZ ((s - r) * qms (fsts l)) := (solv_diff h).mp hs
    have e : rmd s (qms (fsts l))⁻¹ = rmd r (qms (fsts l))⁻¹ := (rmd_eq hi).mpr (by rw [show (s - r) / (qms (fsts l))⁻¹ = (s - r) * qms (fsts l) by grind]; exact h2)
    rw [← e, rmd_k]
    have hf : 0 ≤ (s / (qms (fsts l))⁻¹).floor := by
      rw [Rat.le_floor_iff]
      show ((0 : Int) : Rat) ≤ _
      rw [Rat.div_def]
      exact Rat.mul_nonneg s0 (by rw [Rat.inv_inv]; exact Rat.le_of_lt h0)
    have h3 : (0 : Rat) ≤ (((s / (qms (fsts l))⁻¹).floor : Int) : Rat) * (qms (fsts l))⁻¹ := Rat.mul_nonneg (Rat.intCast_le_intCast.mpr hf) (Rat.le_of_lt hi)
    rw [Rat.intCast_neg]
    grind
theorem zip_map2 {α β : Type} {f : α → P} {g : β → P} : ∀ {l : List α} {m : List β}, zipP (l.map f) (m.map g) = (l.zip m).map fun p => P.tup [f p.1, g p.2]
  | [], _ => rfl
  | _ :: _, [] => rfl
  | a :: l, b :: m => by
    have ih := zip_map2 (f := f) (g := g) (l := l) (m := m)
    show P.tup [f a, g b] :: zipP (l.map f) (m.map g) = _
    rw [ih]; rfl
theorem okR.szF {b : Nat} {l : List (Rat × Rat)} (h : okR b l) : ∀ a ∈ l, Sz b a.1 ∧ Sz b a.2 := fun a ha => by
  obtain ⟨_, _, _, D, d1, d2, hd⟩ := h
  obtain ⟨⟨x, e1, x1⟩, y, e2, y1⟩ := hd a ha
  have e : ((2 ^ b : Nat) : Int) = 2 ^ b := by simp
  rw [e1, e2, ← divInt_q, ← divInt_q]
  exact ⟨sz_divInt (by omega) x1 (by omega), sz_divInt (by omega) y1 (by omega)⟩
theorem okR.szL {b : Nat} {l : List (Rat × Rat)} (h : okR b l) : SzL (fsts l) := ⟨b, fun q hq => by
  obtain ⟨a, ha, rfl⟩ := List.mem_map.mp hq
  exact (h.szF a ha).1, by
  unfold fsts
  rw [List.length_map]
  have h1 := h.2.2.1
  have h2 : b * l.length ≤ (b + 2) * (l.length + 2) := Nat.mul_le_mul (by omega) (by omega)
  omega⟩
theorem gl_lt {n : Nat} (hn : 0 < n) : ∀ {l : List Int}, (∀ x ∈ l, x.natAbs < n) → gl l < n
  | [], _ => hn
  | a :: l, h => by
    rw [gl_cons]
    have ih := gl_lt hn (l := l) fun x hx => h x (List.mem_cons_of_mem _ hx)
    have ha := h a (List.mem_cons_self ..)
    by_cases e : a.natAbs = 0
    · rw [e, Nat.gcd_zero_left]; exact ih
    · have := Nat.gcd_le_left (gl l) (Nat.pos_of_ne_zero e)
      omega
theorem okR.szm {b : Nat} {l : List (Rat × Rat)} (h : okR b l) : Sz 200 (qms (fsts l)) := by
  obtain ⟨D, xs, ys, d1, d2, ex, ey, hx, hy⟩ := h.parts
  have e : (xs.map fun (x : Int) => (x : Rat) / (D : Rat)) = xs.map fun a => Rat.divInt a D := List.map_congr_left fun x _ => divInt_q.symm
  rw [ex, e, qms_gl d1]
  have hg := gl_lt (Nat.pow_pos (n := b) (show 0 < 2 by decide)) hx
  have hb : (2 : Nat) ^ b ≤ 2 ^ 200 := Nat.pow_le_pow_right (by decide) h.2.1.2
  have e2 : ((2 ^ b : Nat) : Int) = 2 ^ b := by simp
  exact sz_divInt (by omega) (by rw [Int.natAbs_natCast]; omega) (by omega)
theorem okR.szVA {b n : Nat} {l : List (Rat × Rat)} (h : okR b l) (hn : n ≤ l.length) {cs : List Int} (hs : sm b n l cs) (h0 : mA l cs ≠ 0) : Sz 1410 (mV l cs / mA l cs) := by
  obtain ⟨D, xs, ys, d1, d2, ex, ey, hx, hy⟩ := h.parts
  have sv := h.szD hn hs (show (0 : Int) < 1 by decide) (by
    have h1 : (2 : Int) ^ 1 ≤ 2 ^ b := by
      have := Nat.pow_le_pow_right (show 0 < 2 by decide) (show 1 ≤ b from h.2.1.1)
      have e : ((2 ^ b : Nat) : Int) = 2 ^ b := by simp
      omega
    omega) hy
  have sx := h.szD hn hs (show (0 : Int) < 1 by decide) (by
    have h1 : (2 : Int) ^ 1 ≤ 2 ^ b := by
      have := Nat.pow_le_pow_right (show 0 < 2 by decide) (show 1 ≤ b from h.2.1.1)
      have e : ((2 ^ b : Nat) : Int) = 2 ^ b := by simp
      omega
    omega) hx
  have e1 : ∀ z : Int, (z : Rat) / ((1 : Int) : Rat) = (z : Rat) := fun z => by rw [show ((1 : Int) : Rat) = 1 by rfl]; grind
  rw [e1] at sv sx
  unfold mA mV at *
  rw [ex, dot_parts d1] at h0
  rw [ex, ey, dot_parts d1, dot_parts d1]
  have hDq : (D : Rat) ≠ 0 := cast_ne (by omega)
  have hxq : ((doti cs xs : Int) : Rat) ≠ 0 := fun e => h0 (by rw [e]; grind)
  have e2 : ((doti cs ys : Int) : Rat) / (D : Rat) / (((doti cs xs : Int) : Rat) / (D : Rat)) = ((doti cs ys : Int) : Rat) / ((doti cs xs : Int) : Rat) := by grind
  rw [e2, ← divInt_q]
  exact sz_divInt (fun e => hxq (by rw [e]; rfl)) sv.1 sx.1
theorem okR.szQ {b : Nat} {l : List (Rat × Rat)} (h : okR b l) {q : Rat} (hq : leastS l q) : Sz 400 q := by
  by_cases h0 : ∀ a ∈ l, a.1 = 0
  · have : solv l 0 := fun a ha => by
      have := hq.2.1 a ha
      rw [h0 a ha] at this ⊢
      rw [show (0 : Rat) * 0 - a.2 = q * 0 - a.2 by grind]
      exact this
    have hle := hq.2.2 0 Rat.le_refl this
    have e : q = 0 := Rat.le_antisymm hle hq.1
    rw [e]
    exact sz_zero.mono (by decide)
  · obtain ⟨a, ha, hne⟩ : ∃ a ∈ l, a.1 ≠ 0 := by
      refine Classical.byContradiction fun c => h0 fun a ha => Classical.byContradiction fun e => c ⟨a, ha, e⟩
    have hms : 0 < qms (fsts l) := qms_pos (q := a.1) (List.mem_map.mpr ⟨a, ha, rfl⟩) hne
    have hi := Rat.inv_pos.mpr hms
    have hne2 := pos_ne hms
    have hlt : q < (qms (fsts l))⁻¹ := by
      refine Rat.not_le.mp fun hle => ?_
      have h1 : solv l (q - (qms (fsts l))⁻¹) := (solv_diff hq.2.1).mpr (by
        show isZ ((q - (qms (fsts l))⁻¹ - q) * qms (fsts l))
        rw [show (q - (qms (fsts l))⁻¹ - q) * qms (fsts l) = -1 by grind]
        exact isZ_neg isZ_one)
      have h2 := hq.2.2 _ (by grind) h1
      grind
    obtain ⟨D, xs, ys, d1, d2, ex, ey, hx, hy⟩ := h.parts
    have e : (xs.map fun (x : Int) => (x : Rat) / (D : Rat)) = xs.map fun a => Rat.divInt a D := List.map_congr_left fun x _ => divInt_q.symm
    have hDq : (D : Rat) ≠ 0 := cast_ne (by omega)
    have hDp : (0 : Rat) < D := int_pos d1
    have hqD : q < (D : Rat) := by
      rw [ex, e, qms_gl d1, divInt_q] at hlt hms
      have hg : (0 : Int) < (gl xs : Int) := by
        have : (gl xs : Int) ≠ 0 := fun z => by
          rw [z, show ((0 : Int) : Rat) = 0 by rfl] at hms
          grind
        omega
      have hg1 : (1 : Rat) ≤ ((gl xs : Int) : Rat) := Rat.intCast_le_intCast.mpr (show (1 : Int) ≤ _ by omega)
      have hgp : (0 : Rat) < ((gl xs : Int) : Rat) := int_pos hg
      have e3 : (((gl xs : Int) : Rat) / (D : Rat))⁻¹ * ((gl xs : Int) : Rat) = D := by grind
      have hi2 : 0 ≤ (((gl xs : Int) : Rat) / (D : Rat))⁻¹ := Rat.le_of_lt (Rat.inv_pos.mpr hms)
      have := Rat.mul_le_mul_of_nonneg_left hg1 hi2
      rw [e3] at this
      grind
    have hb2 := h.2.1.2
    obtain ⟨_, _, _, D', c1, c2, hd⟩ := h
    obtain ⟨⟨x, e1, x1⟩, y, e2, y1⟩ := hd a ha
    have hz := hq.2.1 a ha
    obtain ⟨k, hk⟩ := isZ_iff.mp hz
    have hDq' : (D' : Rat) ≠ 0 := cast_ne (by omega)
    have hx0 : x ≠ 0 := fun z => hne (by rw [e1, z, show ((0 : Int) : Rat) = 0 by rfl]; grind)
    have hxq : (x : Rat) ≠ 0 := cast_ne hx0
    have hqe : q = Rat.divInt (k * D' + y) x := by
      rw [divInt_q, Rat.intCast_add, Rat.intCast_mul, ← hk, e1, e2]
      grind
    have hb : (2 : Nat) ^ b ≤ 2 ^ 200 := Nat.pow_le_pow_right (by decide) hb2
    have hden : q.den < 2 ^ 200 := by
      have := divInt_den_le (a := k * D' + y) hx0
      rw [← hqe] at this
      omega
    refine ⟨?_, Nat.lt_of_lt_of_le hden (Nat.pow_le_pow_right (by decide) (by decide))⟩
    have hn0 : 0 ≤ q.num := Rat.num_nonneg.mpr hq.1
    have h5 : q.num < D * q.den := by
      have := (Rat.lt_iff q (D : Rat)).mp hqD
      simpa using this
    have e4 : ((2 ^ b : Nat) : Int) = 2 ^ b := by simp
    have h6 : D * (q.den : Int) ≤ 2 ^ 200 * 2 ^ 200 := Int.mul_le_mul (by omega) (by omega) (by omega) (by decide)
    have h7 : (2 : Int) ^ 200 * 2 ^ 200 = ((2 ^ 400 : Nat) : Int) := by decide
    omega
theorem frq_invn {q : Rat} (h : q < 0) : P.tup [.int (0 - (q.den : Int)), .int (0 - q.num)] = frq q⁻¹ := by
  have h1 := frq_inv (q := -q) (by grind)
  have h2 : (-q)⁻¹ = -q⁻¹ := by
    have := pos_ne (show 0 < -q by grind)
    grind
  rw [h2] at h1
  unfold frq at h1 ⊢
  simp only [P.tup.injEq, List.cons.injEq, P.int.injEq, and_true] at h1 ⊢
  obtain ⟨e1, e2⟩ := h1
  try rw [Rat.neg_den] at e1
  try rw [Rat.neg_num] at e1
  try rw [Rat.neg_num] at e2
  rw [Rat.neg_den] at e2
  constructor <;> omega
/-- drawn rounds: parts of one by 332640 -/
def drR (l : List (Rat × Rat)) : Prop := ∀ a ∈ l, (∃ x : Int, a.1 = (x : Rat) / ((332640 : Int) : Rat) ∧ x.natAbs < 2 ^ 23) ∧ ∃ y : Int, a.2 = (y : Rat) / ((332640 : Int) : Rat) ∧ y.natAbs < 2 ^ 28
theorem drR.ok {l : List (Rat × Rat)} (h : drR l) (hl : l.length ≤ 44) : okR 28 l := ⟨hl, ⟨by decide, by decide⟩, by omega, 332640, by decide, by decide, fun a ha => ⟨(h a ha).1.imp fun x hx => ⟨hx.1, Nat.lt_of_lt_of_le hx.2 (by decide)⟩, (h a ha).2⟩⟩
/-- a fraction with a small divisor as a part by N -/
theorem part_of {q : Rat} {N : Int} (h : (q.den : Int) ∣ N) (hN : 0 < N) : ∃ x : Int, q = (x : Rat) / (N : Rat) ∧ x.natAbs ≤ q.num.natAbs * N.natAbs := by
  obtain ⟨m, e⟩ := h
  have hm : 0 < m := by
    refine Int.not_le.mp fun c => ?_
    have := Int.mul_nonpos_of_nonneg_of_nonpos (show (0 : Int) ≤ (q.den : Int) by omega) c
    omega
  refine ⟨q.num * m, ?_, ?_⟩
  · rw [e, Rat.intCast_mul, Rat.intCast_mul]
    have h1 := q_eq q
    have h2 := d_ne q
    have h3 : (m : Rat) ≠ 0 := cast_ne (by omega)
    grind
  · rw [Int.natAbs_mul]
    refine Nat.mul_le_mul_left _ ?_
    rw [e, Int.natAbs_mul]
    exact Nat.le_mul_of_pos_left _ (by have := q.den_pos; omega)
theorem den_12 {q : Rat} (h : q.den ≤ 12) : (q.den : Int) ∣ 27720 := by
  have := q.den_pos
  generalize q.den = d at *
  rcases (by omega : d = 1 ∨ d = 2 ∨ d = 3 ∨ d = 4 ∨ d = 5 ∨ d = 6 ∨ d = 7 ∨ d = 8 ∨ d = 9 ∨ d = 10 ∨ d = 11 ∨ d = 12) with rfl | rfl | rfl | rfl | rfl | rfl | rfl | rfl | rfl | rfl | rfl | rfl <;> decide
theorem den_4 {q : Rat} (h : q.den ≤ 4) : (q.den : Int) ∣ 12 := by
  have := q.den_pos
  generalize q.den = d at *
  rcases (by omega : d = 1 ∨ d = 2 ∨ d = 3 ∨ d = 4) with rfl | rfl | rfl | rfl <;> decide
theorem dvLe {a b m w : Int} (hb : 0 < b) (h1 : (a.natAbs : Int) ≤ m) (h2 : b ≤ w) : ((Rat.divInt a b).num.natAbs : Int) ≤ m ∧ ((Rat.divInt a b).den : Int) ≤ w := by
  have e1 := divInt_num_le (a := a) (b := b) (by omega)
  have e2 := divInt_den_le (a := a) (b := b) (by omega)
  omega
theorem szLe {q : Rat} {m w : Int} {k : Nat} (h1 : (q.num.natAbs : Int) ≤ m) (h2 : (q.den : Int) ≤ w) (hm : m < 2 ^ k) (hw : w < 2 ^ k) : Sz k q := by
  have e : ((2 ^ k : Nat) : Int) = 2 ^ k := by simp
  exact ⟨by omega, by omega⟩
theorem nn_frq {q : Rat} : isNonP (frq q) = false := rfl
theorem nn_tup {xs : List P} : isNonP (.tup xs) = false := rfl
theorem nn_non : isNonP .non = true := rfl
end Fw
/-! Fw: rounds once more: sums, the least from a solution and a step, the same turned about. -/
namespace Fw
open PySem L2
def qsum (l : List Rat) : Rat := l.foldl (· + ·) 0
theorem qsum_snoc (l : List Rat) (q : Rat) : qsum (l ++ [q]) = qsum l + q := by simp [qsum, List.foldl_append]
theorem qsum_acc (l : List Rat) (x : Rat) : l.foldl (· + ·) x = x + qsum l := by
  induction l generalizing x with
  | nil => show x = x + 0; grind
  | cons a r ih =>
    show r.foldl (· + ·) (x + a) = x + r.foldl (· + ·) (0 + a)
    rw [ih, ih (0 + a)]; grind
theorem qsum_cons (a : Rat) (l : List Rat) : qsum (a :: l) = a + qsum l := by
  show l.foldl (· + ·) (0 + a) = _
  rw [qsum_acc]; grind
theorem qsum_dot (f : Rat × Rat → Rat) : ∀ (cs : List Int) (l : List (Rat × Rat)), qsum ((cs.zip l).map fun p => (p.1 : Rat) * f p.2) = dot cs (l.map f)
  | [], l => by cases l <;> rfl
  | c :: cs, [] => rfl
  | c :: cs, a :: l => by
    show qsum (((c : Rat) * f a) :: (cs.zip l).map fun p => (p.1 : Rat) * f p.2) = (c : Rat) * f a + dot cs (l.map f)
    rw [qsum_cons, qsum_dot f cs l]
theorem doti_szD {b K : Nat} {l : List (Rat × Rat)} (h : okR b l) (hK : K ≤ 2 ^ ((b + 2) * l.length)) {cs xs : List Int} {D : Int} (hl : cs.length ≤ 44) (hs : ∀ c ∈ cs, c.natAbs ≤ K) (d1 : 0 < D) (d2 : D < 2 ^ b) (hx : ∀ x ∈ xs, x.natAbs < 2 ^ b) : Sz 1410 ((doti cs xs : Rat) / (D : Rat)) := by
  obtain ⟨l44, ⟨b0, _⟩, hb, _⟩ := h
  have h1 := doti_le (K := K) (M := 2 ^ b) hs fun x hx' => Nat.le_of_lt (hx x hx')
  have h2 : cs.length * (K * 2 ^ b) ≤ 44 * (2 ^ ((b + 2) * l.length) * 2 ^ b) := Nat.mul_le_mul hl (Nat.mul_le_mul_right _ hK)
  have hp : 0 < 2 ^ ((b + 2) * l.length) * 2 ^ b := Nat.mul_pos (Nat.pow_pos (by decide)) (Nat.pow_pos (by decide))
  have h3 : 2 ^ 6 * (2 ^ ((b + 2) * l.length) * 2 ^ b) ≤ 2 ^ 1410 := by
    rw [← Nat.pow_add, ← Nat.pow_add]
    refine Nat.pow_le_pow_right (by decide) ?_
    rw [Nat.mul_add] at hb
    omega
  rw [← divInt_q]
  refine sz_divInt (by omega) (by omega) ?_
  have h5 : (2 : Nat) ^ b ≤ 2 ^ 1410 := Nat.pow_le_pow_right (by decide) (by
    have h6 : (b + 2) * 1 ≤ (b + 2) * (l.length + 2) := Nat.mul_le_mul_left _ (by omega)
    omega)
  have h7 : ((2 ^ b : Nat) : Int) = 2 ^ b := by simp
  omega
theorem okR.szT {b : Nat} {l : List (Rat × Rat)} (h : okR b l) {cs : List Int} (hl : cs.length ≤ 44) (hs : ∀ c ∈ cs, c.natAbs ≤ gr b l.length) (i : Nat) : Sz 1410 (dot (cs.take i) ((fsts l).take i)) ∧ Sz 1410 (dot (cs.take i) ((snds l).take i)) := by
  obtain ⟨D, xs, ys, d1, d2, ex, ey, hx, hy⟩ := h.parts
  have hl' : (cs.take i).length ≤ 44 := by rw [List.length_take]; omega
  have hs' : ∀ c ∈ cs.take i, c.natAbs ≤ gr b l.length := fun c hc => hs c (List.mem_of_mem_take hc)
  rw [ex, ey, ← List.map_take, ← List.map_take, dot_parts d1, dot_parts d1]
  exact ⟨doti_szD h (Nat.le_refl _) hl' hs' d1 d2 fun x hx' => hx x (List.mem_of_mem_take hx'), doti_szD h (Nat.le_refl _) hl' hs' d1 d2 fun x hx' => hy x (List.mem_of_mem_take hx')⟩
theorem okR.szC {b : Nat} {l : List (Rat × Rat)} (h : okR b l) {c : Int} (hc : c.natAbs ≤ gr b l.length) : Sz 1401 (c : Rat) := by
  have h1 : gr b l.length ≤ 2 ^ 1400 := Nat.pow_le_pow_right (by decide) (by
    have := Nat.mul_le_mul_left (b + 2) (show l.length ≤ l.length + 2 by omega)
    have := h.2.2.1
    omega)
  refine sz_int (Nat.lt_of_le_of_lt (Nat.le_trans hc h1) (Nat.pow_lt_pow_right (by decide) (by decide))) (by decide)
/-- a solution and a step from one solution to the next -/
def solS (l : List (Rat × Rat)) (r s : Rat) : Prop := 0 < s ∧ ∀ x, solv l x ↔ isZ ((x - r) / s)
theorem solS.least {l : List (Rat × Rat)} {r s : Rat} (h : solS l r s) : leastS l (rmd r s) := by
  have h0 := h.1
  have ne := pos_ne h0
  refine ⟨rmd_nonneg h0, (h.2 _).mpr ?_, fun x x0 hx => ?_⟩
  · rw [rmd_k, show (r + ((-(r / s).floor : Int) : Rat) * s - r) / s = ((-(r / s).floor : Int) : Rat) by grind]
    exact isZ_int _
  · have e : rmd x s = rmd r s := (rmd_eq h0).mpr ((h.2 x).mp hx)
    rw [← e, rmd_k]
    have hf : 0 ≤ (x / s).floor := by
      rw [Rat.le_floor_iff]
      show ((0 : Int) : Rat) ≤ _
      rw [Rat.div_def]
      exact Rat.mul_nonneg x0 (Rat.le_of_lt (Rat.inv_pos.mpr h0))
    have h3 : (0 : Rat) ≤ (((x / s).floor : Int) : Rat) * s := Rat.mul_nonneg (Rat.intCast_le_intCast.mpr hf) (Rat.le_of_lt h0)
    rw [Rat.intCast_neg]
    grind
theorem solv_app {l m : List (Rat × Rat)} {r : Rat} : solv (l ++ m) r ↔ solv l r ∧ solv m r :=
  ⟨fun h => ⟨fun a ha => h a (List.mem_append_left _ ha), fun a ha => h a (List.mem_append_right _ ha)⟩, fun h a ha => (List.mem_append.mp ha).elim (h.1 a) (h.2 a)⟩
theorem solv_one {a : Rat × Rat} {r : Rat} : solv [a] r ↔ isZ (r * a.1 - a.2) := ⟨fun h => h a (List.mem_singleton.mpr rfl), fun h b hb => by rw [List.mem_singleton.mp hb]; exact h⟩
theorem solv_nil {r : Rat} : solv [] r := fun a ha => by simp at ha
/-- turned about, with signs turned -/
def ngR (l : List (Rat × Rat)) : List (Rat × Rat) := l.reverse.map fun a => (-a.1, -a.2)
theorem ngR_solv {l : List (Rat × Rat)} {r : Rat} : solv (ngR l) r ↔ solv l r := by
  have e : ∀ a : Rat × Rat, r * -a.1 - -a.2 = -(r * a.1 - a.2) := fun a => by grind
  constructor
  · intro h a ha
    have := h (-a.1, -a.2) (List.mem_map.mpr ⟨a, List.mem_reverse.mpr ha, rfl⟩)
    rw [e] at this
    exact isZ_neg_iff.mp this
  · intro h b hb
    obtain ⟨a, ha, rfl⟩ := List.mem_map.mp hb
    rw [e]
    exact isZ_neg (h a (List.mem_reverse.mp ha))
theorem least_same {l m : List (Rat × Rat)} (h : ∀ r, solv l r ↔ solv m r) {q : Rat} (g : leastS l q) : leastS m q := ⟨g.1, (h q).mp g.2.1, fun r r0 hr => g.2.2 r r0 ((h r).mpr hr)⟩
theorem ngR_drR {l : List (Rat × Rat)} (h : drR l) : drR (ngR l) := fun b hb => by
  obtain ⟨a, ha, rfl⟩ := List.mem_map.mp hb
  obtain ⟨⟨x, ex, hx⟩, y, ey, hy⟩ := h a (List.mem_reverse.mp ha)
  refine ⟨⟨-x, ?_, by rw [Int.natAbs_neg]; exact hx⟩, -y, ?_, by rw [Int.natAbs_neg]; exact hy⟩
  · rw [ex, Rat.intCast_neg]; grind
  · rw [ey, Rat.intCast_neg]; grind
theorem drR_app {l m : List (Rat × Rat)} (h : drR l) (g : drR m) : drR (l ++ m) := fun a ha => (List.mem_append.mp ha).elim (h a) (g a)
theorem drR_take {l : List (Rat × Rat)} (h : drR l) (n : Nat) : drR (l.take n) := fun a ha => h a (List.mem_of_mem_take ha)
theorem ngR_len (l : List (Rat × Rat)) : (ngR l).length = l.length := by simp [ngR]
/-! ### the law's own way: pair by pair -/
/-- behind some pairs: a solution as a part by x, the step as a part by g, a divisor of x -/
structure Way (i : Nat) (l : List (Rat × Rat)) (r s : Rat) : Prop where
  sol : solS l r s
  parts : ∃ x g t z : Int, 0 < g ∧ x = g * t ∧ x ≠ 0 ∧ x.natAbs < 2 ^ 23 ∧ s = ((332640 : Int) : Rat) / (g : Rat) ∧ r = (z : Rat) / (x : Rat) ∧ z.natAbs ≤ 2 ^ 28 + i * 2 ^ 48
theorem Way.sz {i : Nat} {l : List (Rat × Rat)} {r s : Rat} (h : Way i l r s) (hi : i ≤ 44) : Sz 60 r ∧ Sz 30 s := by
  obtain ⟨x, g, t, z, g0, ex, x0, hx, es, er, hz⟩ := h.parts
  have hg : g.natAbs ≤ x.natAbs := by
    rw [ex, Int.natAbs_mul]
    exact Nat.le_mul_of_pos_right _ (Int.natAbs_pos.mpr fun e => x0 (by rw [ex, e, Int.mul_zero]))
  rw [es, er, ← divInt_q, ← divInt_q]
  exact ⟨sz_divInt x0 (by omega) (by omega), sz_divInt (by omega) (by decide) (by omega)⟩
theorem Way.den {i : Nat} {l : List (Rat × Rat)} {r s : Rat} {a : Rat × Rat} (h : Way i l r s) (ha : drR [a]) : (s * a.1).den ≤ 2 ^ 23 := by
  obtain ⟨x, g, t, z, g0, ex, x0, hx, es, er, hz⟩ := h.parts
  obtain ⟨⟨x', ex', hx'⟩, _⟩ := ha a (List.mem_singleton.mpr rfl)
  have D0 : ((332640 : Int) : Rat) ≠ 0 := by decide +kernel
  have gq : (g : Rat) ≠ 0 := cast_ne (by omega)
  have eb : s * a.1 = Rat.divInt x' g := by rw [divInt_q, es, ex']; grind
  have hg : g.natAbs ≤ x.natAbs := by
    rw [ex, Int.natAbs_mul]
    exact Nat.le_mul_of_pos_right _ (Int.natAbs_pos.mpr fun e => x0 (by rw [ex, e, Int.mul_zero]))
  have := divInt_den_le (a := x') (b := g) (by omega)
  rw [eb]
  omega
theorem Way.zero {i : Nat} {l : List (Rat × Rat)} {r s : Rat} {a : Rat × Rat} (h : Way i l r s) (h0 : a.1 = 0) (hz : isZ a.2) : Way (i + 1) (l ++ [a]) r s := by
  refine ⟨⟨h.sol.1, fun x => ?_⟩, ?_⟩
  · rw [solv_app, ← h.sol.2 x]
    refine ⟨fun q => q.1, fun q => ⟨q, solv_one.mpr ?_⟩⟩
    rw [h0, show x * 0 - a.2 = -a.2 by grind]
    exact isZ_neg hz
  · obtain ⟨x, g, t, z, g0, ex, x0, hx, es, er, hz⟩ := h.parts
    exact ⟨x, g, t, z, g0, ex, x0, hx, es, er, Nat.le_trans hz (Nat.add_le_add_left (Nat.mul_le_mul_right _ (Nat.le_succ i)) _)⟩
theorem Way.first {i : Nat} {l : List (Rat × Rat)} {a : Rat × Rat} (hl : ∀ r, solv l r) (ha : drR [a]) (h0 : a.1 ≠ 0) : Way i (l ++ [a]) (a.2 * a.1⁻¹) (qa a.1)⁻¹ := by
  obtain ⟨⟨x, ex, hx⟩, y, ey, hy⟩ := ha a (List.mem_singleton.mpr rfl)
  have D0 : ((332640 : Int) : Rat) ≠ 0 := by decide +kernel
  have x0 : x ≠ 0 := fun e => h0 (by rw [ex, e, show ((0 : Int) : Rat) = 0 by rfl]; grind)
  have xq : (x : Rat) ≠ 0 := cast_ne x0
  have hp := qa_pos h0
  refine ⟨⟨Rat.inv_pos.mpr hp, fun r => ?_⟩, ?_⟩
  · rw [solv_app, solv_one]
    refine ⟨fun q => ?_, fun q => ⟨hl r, ?_⟩⟩
    · have e : (r - a.2 * a.1⁻¹) / (qa a.1)⁻¹ = qa a.1 * (r - a.2 * a.1⁻¹) := by grind
      rw [e, isZ_qa, show a.1 * (r - a.2 * a.1⁻¹) = r * a.1 - a.2 by grind]
      exact q.2
    · have e : (r - a.2 * a.1⁻¹) / (qa a.1)⁻¹ = qa a.1 * (r - a.2 * a.1⁻¹) := by grind
      rw [e, isZ_qa, show a.1 * (r - a.2 * a.1⁻¹) = r * a.1 - a.2 by grind] at q
      exact q
  · rcases Int.lt_or_gt_of_ne x0 with xn | xp
    · refine ⟨x, -x, -1, y, by omega, by omega, x0, hx, ?_, ?_, Nat.le_trans (Nat.le_of_lt hy) (Nat.le_add_right _ _)⟩
      · have e : qa a.1 = -a.1 := by
          refine (qa_cases a.1).resolve_left fun e => ?_
          have : (0 : Rat) < a.1 := by rw [← e]; exact hp
          rw [ex] at this
          have h2 := Rat.mul_pos this (show (0 : Rat) < ((332640 : Int) : Rat) by decide +kernel)
          rw [show (x : Rat) / ((332640 : Int) : Rat) * ((332640 : Int) : Rat) = x by grind] at h2
          have : (0 : Int) < x := Rat.intCast_lt_intCast.mp h2
          omega
        rw [e, ex, Rat.intCast_neg]; grind
      · rw [ey, ex]; grind
    · refine ⟨x, x, 1, y, xp, by omega, x0, hx, ?_, ?_, Nat.le_trans (Nat.le_of_lt hy) (Nat.le_add_right _ _)⟩
      · have e : qa a.1 = a.1 := by
          refine (qa_cases a.1).resolve_right fun e => ?_
          have : (0 : Rat) < -a.1 := by rw [← e]; exact hp
          rw [ex] at this
          have h2 := Rat.mul_pos this (show (0 : Rat) < ((332640 : Int) : Rat) by decide +kernel)
          rw [show -((x : Rat) / ((332640 : Int) : Rat)) * ((332640 : Int) : Rat) = ((-x : Int) : Rat) by rw [Rat.intCast_neg]; grind] at h2
          have : (0 : Int) < -x := Rat.intCast_lt_intCast.mp h2
          omega
        rw [e, ex]; grind
      · rw [ey, ex]; grind
section
variable {i : Nat} {l : List (Rat × Rat)} {r s : Rat} {a : Rat × Rat}
/-- the next solutions: so many steps on -/
theorem Way.on (h : Way i l r s) (x : Rat) : solv (l ++ [a]) x ↔ ∃ k : Int, x = r + (k : Rat) * s ∧ isZ ((k : Rat) * (s * a.1) - (a.2 - r * a.1)) := by
  have ne := pos_ne h.sol.1
  rw [solv_app, solv_one, h.sol.2 x]
  constructor
  · rintro ⟨h1, h2⟩
    obtain ⟨k, hk⟩ := isZ_iff.mp h1
    have ex : x = r + (k : Rat) * s := by rw [← hk]; grind
    refine ⟨k, ex, ?_⟩
    rw [ex, show (r + (k : Rat) * s) * a.1 - a.2 = (k : Rat) * (s * a.1) - (a.2 - r * a.1) by grind] at h2
    exact h2
  · rintro ⟨k, ex, h2⟩
    refine ⟨?_, ?_⟩
    · rw [ex, show (r + (k : Rat) * s - r) / s = (k : Rat) by grind]
      exact isZ_int k
    · rw [ex, show (r + (k : Rat) * s) * a.1 - a.2 = (k : Rat) * (s * a.1) - (a.2 - r * a.1) by grind]
      exact h2
theorem Way.none (h : Way i l r s) (hn : ∀ k : Int, 0 ≤ k → k < ((s * a.1).den : Int) → ¬ isZ ((k : Rat) * (s * a.1) - (a.2 - r * a.1))) (x : Rat) : ¬ solv (l ++ [a]) x := fun hx => by
  obtain ⟨k, _, hk⟩ := (h.on x).mp hx
  have dp : (0 : Int) < ((s * a.1).den : Int) := by have := (s * a.1).den_pos; omega
  refine hn (k % ((s * a.1).den : Int)) (Int.emod_nonneg _ (by omega)) (Int.emod_lt_of_pos _ dp) ?_
  have e := Int.emod_add_mul_ediv k ((s * a.1).den : Int)
  have h2 : isZ ((s * a.1) * ((((s * a.1).den : Int) * (k / ((s * a.1).den : Int)) : Int) : Rat)) := (isZ_mul_iff _).mpr (Int.dvd_mul_right _ _)
  have h3 := isZ_sub hk h2
  have e2 : (k : Rat) = ((k % ((s * a.1).den : Int) : Int) : Rat) + ((((s * a.1).den : Int) * (k / ((s * a.1).den : Int)) : Int) : Rat) := by rw [← Rat.intCast_add, e]
  rw [e2, show (((k % ((s * a.1).den : Int) : Int) : Rat) + ((((s * a.1).den : Int) * (k / ((s * a.1).den : Int)) : Int) : Rat)) * (s * a.1) - (a.2 - r * a.1) - (s * a.1) * ((((s * a.1).den : Int) * (k / ((s * a.1).den : Int)) : Int) : Rat) = ((k % ((s * a.1).den : Int) : Int) : Rat) * (s * a.1) - (a.2 - r * a.1) by grind] at h3
  exact h3
theorem Way.step (h : Way i l r s) (ha : drR [a]) {k : Int} (k0 : 0 ≤ k) (k1 : k < ((s * a.1).den : Int)) (hk : isZ ((k : Rat) * (s * a.1) - (a.2 - r * a.1))) :
    Way (i + 1) (l ++ [a]) (r + (k : Rat) * s) ((((s * a.1).den : Int) : Rat) * s) := by
  have s0 := h.sol.1
  have ne := pos_ne s0
  have dp : (0 : Int) < ((s * a.1).den : Int) := by have := (s * a.1).den_pos; omega
  have dq := int_pos dp
  have dne := pos_ne dq
  refine ⟨⟨Rat.mul_pos dq s0, fun x => ?_⟩, ?_⟩
  · rw [h.on x]
    constructor
    · rintro ⟨m, ex, hm⟩
      have h1 := isZ_sub hm hk
      rw [show (m : Rat) * (s * a.1) - (a.2 - r * a.1) - ((k : Rat) * (s * a.1) - (a.2 - r * a.1)) = (s * a.1) * ((m - k : Int) : Rat) by rw [Rat.intCast_sub]; grind] at h1
      obtain ⟨u, hu⟩ := (isZ_mul_iff _).mp h1
      have e : (m : Rat) - (k : Rat) = (((s * a.1).den : Int) : Rat) * (u : Rat) := by rw [← Rat.intCast_sub, hu, Rat.intCast_mul]
      have e3 : (x - (r + (k : Rat) * s)) / ((((s * a.1).den : Int) : Rat) * s) = u := by
        rw [ex, show r + (m : Rat) * s - (r + (k : Rat) * s) = ((m : Rat) - (k : Rat)) * s by grind, e]
        generalize (((s * a.1).den : Int) : Rat) = d at *
        grind
      rw [e3]
      exact isZ_int u
    · intro hx
      obtain ⟨u, hu⟩ := isZ_iff.mp hx
      refine ⟨k + ((s * a.1).den : Int) * u, ?_, ?_⟩
      · rw [Rat.intCast_add, Rat.intCast_mul, ← hu]
        generalize (((s * a.1).den : Int) : Rat) = d at *
        grind
      · have h2 : isZ ((s * a.1) * ((((s * a.1).den : Int) * u : Int) : Rat)) := (isZ_mul_iff _).mpr (Int.dvd_mul_right _ _)
        have h3 := isZ_add hk h2
        rw [show (k : Rat) * (s * a.1) - (a.2 - r * a.1) + (s * a.1) * ((((s * a.1).den : Int) * u : Int) : Rat) = ((k + ((s * a.1).den : Int) * u : Int) : Rat) * (s * a.1) - (a.2 - r * a.1) by rw [Rat.intCast_add]; grind] at h3
        exact h3
  · obtain ⟨x, g, t, z, g0, ex, x0, hx, es, er, hz⟩ := h.parts
    obtain ⟨⟨x', ex', hx'⟩, _⟩ := ha a (List.mem_singleton.mpr rfl)
    have D0 : ((332640 : Int) : Rat) ≠ 0 := by decide +kernel
    have gq : (g : Rat) ≠ 0 := cast_ne (by omega)
    have eb : s * a.1 = Rat.divInt x' g := by rw [divInt_q, es, ex']; grind
    have hdg : ((s * a.1).den : Int) ∣ g := by
      have : isZ ((s * a.1) * (g : Rat)) := by
        rw [eb, divInt_q, show (x' : Rat) / (g : Rat) * (g : Rat) = x' by grind]
        exact isZ_int _
      exact (isZ_mul_iff g).mp this
    obtain ⟨g', eg⟩ := hdg
    generalize hd : ((s * a.1).den : Int) = d at *
    have g'0 : 0 < g' := by
      refine Int.not_le.mp fun c => ?_
      have := Int.mul_nonpos_of_nonneg_of_nonpos (show 0 ≤ d by omega) c
      omega
    have dqn : (d : Rat) ≠ 0 := cast_ne (by omega)
    have gq' : (g' : Rat) ≠ 0 := cast_ne (by omega)
    have hxe : x = g' * (d * t) := by rw [ex, eg, Int.mul_comm d g', Int.mul_assoc]
    have xq : (x : Rat) ≠ 0 := cast_ne x0
    have tq : (t : Rat) ≠ 0 := cast_ne fun e => x0 (by rw [ex, e, Int.mul_zero])
    refine ⟨x, g', d * t, z + k * (332640 * t), g'0, hxe, x0, hx, ?_, ?_, ?_⟩
    · rw [es, eg, Rat.intCast_mul]; grind
    · rw [er, es, Rat.intCast_add, Rat.intCast_mul, Rat.intCast_mul, ex, Rat.intCast_mul]
      grind
    · have h1 : (k * (332640 * t)).natAbs ≤ 332640 * x.natAbs := by
        rw [Int.natAbs_mul, Int.natAbs_mul, show (332640 : Int).natAbs = 332640 from rfl, hxe, Int.natAbs_mul, Int.natAbs_mul]
        have a1 : k.natAbs ≤ d.natAbs := by omega
        have a2 : 1 ≤ g'.natAbs := by omega
        have a3 : k.natAbs * t.natAbs ≤ g'.natAbs * (d.natAbs * t.natAbs) := Nat.le_trans (Nat.mul_le_mul_right _ a1) (Nat.le_mul_of_pos_left _ a2)
        rw [Nat.mul_left_comm]
        exact Nat.mul_le_mul_left _ a3
      have h2 := Int.natAbs_add_le z (k * (332640 * t))
      rw [Nat.add_mul, Nat.one_mul]
      generalize i * 2 ^ 48 = m at *
      omega
end
theorem rg_has {lo hi i : Int} (h0 : lo ≤ i) (h1 : i < hi) : i ∈ rg lo hi := by
  unfold rg
  exact List.mem_map.mpr ⟨(i - lo).toNat, List.mem_range.mpr (by omega), by omega⟩
theorem shape_il : ∀ l : List Int, PyData.canLayAll0 (toDs (l.map P.int)) = true
  | [] => rfl
  | _ :: l => by
    show (true && PyData.canLayAll0 (toDs (l.map P.int))) = true
    rw [shape_il l]; rfl
theorem depth_il : ∀ l : List Int, PyData.depthAll (toDs (l.map P.int)) ≤ 1
  | [] => Nat.zero_le _
  | x :: l => by
    show max 0 (PyData.depthAll (toDs (l.map P.int))) ≤ 1
    have := depth_il l
    omega
theorem data_il (l : List Int) : data (.lst (l.map P.int)) = true := by
  unfold data SeqAt.shaped toD
  have h1 : (PyData.list (toDs (l.map P.int))).canLay0 = true := shape_il l
  have h2 : (PyData.list (toDs (l.map P.int))).depth ≤ 2 := by
    show PyData.depthAll (toDs (l.map P.int)) + 1 ≤ 2
    have := depth_il l
    omega
  rw [h1, Bool.true_and]
  exact decide_eq_true (Nat.le_trans h2 (by decide))
theorem pyEq_il : ∀ l m : List Int, pyEq (.lst (l.map P.int)) (.lst (m.map P.int)) = decide (l = m)
  | [], [] => rfl
  | [], _ :: _ => rfl
  | _ :: _, [] => rfl
  | x :: a, y :: b => by
    have ih := pyEq_il a b
    have e : pyEq (.lst ((x :: a).map P.int)) (.lst ((y :: b).map P.int)) = (pyEq (.int x) (.int y) && pyEq (.lst (a.map P.int)) (.lst (b.map P.int))) := rfl
    rw [e, ih, pyEq_int, Bool.eq_iff_iff]
    simp
section
variable {Q : PQ} {l m : List Int}
theorem il_eq : cmpP .Eq (.lst (l.map P.int)) (.lst (m.map P.int)) Q = Q (.bl (decide (l = m))) := by
  rw [x_eq, pyEq_il]
  exact propext ⟨fun h => h.2.2, fun h => ⟨data_il l, data_il m, h⟩⟩
theorem il_ne : cmpP .NotEq (.lst (l.map P.int)) (.lst (m.map P.int)) Q = Q (.bl (!decide (l = m))) := by
  rw [x_ne, pyEq_il]
  exact propext ⟨fun h => h.2.2, fun h => ⟨data_il l, data_il m, h⟩⟩
theorem il_eq0 : cmpP .Eq (.lst (l.map P.int)) (.lst []) Q = Q (.bl (decide (l = []))) := il_eq (m := [])
theorem il_ne0 : cmpP .NotEq (.lst (l.map P.int)) (.lst []) Q = Q (.bl (!decide (l = []))) := il_ne (m := [])
theorem il_eq1 {x : Int} : cmpP .Eq (.lst (P.int x :: l.map P.int)) (.lst []) Q = Q (.bl false) := il_eq0 (l := x :: l)
theorem il_ne1 {x : Int} : cmpP .NotEq (.lst (P.int x :: l.map P.int)) (.lst []) Q = Q (.bl true) := il_ne0 (l := x :: l)
end
theorem lt_or_gt_q {q : Rat} (h : q ≠ 0) : q < 0 ∨ 0 < q := by
  rcases (Rat.le_total : q ≤ 0 ∨ 0 ≤ q) with c | c
  · exact .inl (Rat.lt_of_le_of_ne c h)
  · exact .inr (Rat.lt_of_le_of_ne c (Ne.symm h))
theorem i_nin2 {x a b : Int} {Q : PQ} : cmpP .NotIn (.int x) (.tup [.int a, .int b]) Q = Q (.bl (!(decide (a = x) || decide (b = x)))) := by
  have e : ([P.int a, P.int b].any fun y => pyEq y (.int x)) = (decide (a = x) || decide (b = x)) := by simp [pyEq_int]
  refine propext ⟨fun h => ?_, fun h => ⟨rfl, rfl, ?_⟩⟩
  · have := h.2.2
    simp only [if_true] at this
    rw [e] at this
    exact this
  · simp only [if_true]
    rw [e]
    exact h
theorem i_in2 {x a b : Int} {Q : PQ} : cmpP .In (.int x) (.tup [.int a, .int b]) Q = Q (.bl (decide (a = x) || decide (b = x))) := by
  have e : ([P.int a, P.int b].any fun y => pyEq y (.int x)) = (decide (a = x) || decide (b = x)) := by simp [pyEq_int]
  refine propext ⟨fun h => ?_, fun h => ⟨rfl, rfl, ?_⟩⟩
  · have := h.2.2
    simp only [Bool.false_eq_true, if_false] at this
    rw [e] at this
    exact this
  · simp only [Bool.false_eq_true, if_false]
    rw [e]
    exact h
theorem zip_self_map {α β : Type} (f : α → β) : ∀ l : List α, l.zip (l.map f) = l.map fun a => (a, f a)
  | [] => rfl
  | a :: l => by rw [List.map_cons, List.zip_cons_cons, zip_self_map f l]; rfl
end Fw
/-! Fw: drawn flashes: sorted, parts of one by 12; motions that look the same at them. -/
namespace Fw
open PySem L2
theorem permMap {α β : Type} {f : α → β} : ∀ {ys xs : List β}, ys.Perm xs → ∀ {l : List α}, xs = l.map f → ∃ m : List α, m.Perm l ∧ ys = m.map f := by
  intro ys xs h
  induction h with
  | nil => intro l e; exact ⟨[], by cases l with | nil => exact .refl _ | cons a r => simp at e, rfl⟩
  | cons x _ ih =>
    intro l e
    cases l with
    | nil => simp at e
    | cons a r =>
      simp only [List.map_cons, List.cons.injEq] at e
      obtain ⟨m, p, q⟩ := ih e.2
      exact ⟨a :: m, .cons a p, by rw [List.map_cons, ← q, e.1]⟩
  | swap x y l =>
    intro l' e
    match l', e with
    | [], e => simp at e
    | [a], e => simp at e
    | a :: b :: r, e =>
      simp only [List.map_cons, List.cons.injEq] at e
      exact ⟨b :: a :: r, .swap a b r, by rw [List.map_cons, List.map_cons, e.1, e.2.1, e.2.2]⟩
  | trans _ _ ih1 ih2 =>
    intro l e
    obtain ⟨m, p, q⟩ := ih2 e
    obtain ⟨m2, p2, q2⟩ := ih1 q
    exact ⟨m2, p2.trans p, q2⟩
/-- small parts of one by 12, from 0 on -/
def p12 (q : Rat) : Prop := ∃ x : Int, q = (x : Rat) / ((12 : Int) : Rat) ∧ 0 ≤ x ∧ x ≤ 300
theorem p12.sz {q : Rat} (h : p12 q) : 0 ≤ q ∧ Sz 10 q := by
  obtain ⟨x, e, x0, x1⟩ := h
  rw [e, ← divInt_q]
  exact ⟨divInt_nonneg' x0 (by decide), sz_divInt (by decide) (by omega) (by decide)⟩
where
  divInt_nonneg' {a b : Int} (ha : 0 ≤ a) (hb : 0 < b) : 0 ≤ Rat.divInt a b := by
    rcases Int.lt_or_eq_of_le ha with h | h
    · exact Rat.le_of_lt (divInt_pos h hb)
    · rw [← h, Rat.zero_divInt]; exact Rat.le_refl
/-- its number, as the law reckons it -/
theorem p12.key {q : Rat} (h : p12 q) : ((q.num * 12).fdiv (q.den : Int) : Rat) = q * 12 := by
  obtain ⟨x, e, _, _⟩ := h
  have h1 : q * 12 = (x : Rat) := by rw [e]; grind
  have h2 := q_eq q
  have h3 := d_ne q
  have h4 : (x : Rat) * ((q.den : Int) : Rat) = ((q.num * 12 : Int) : Rat) := by
    rw [← h1, Rat.intCast_mul, show ((12 : Int) : Rat) = 12 by rfl]; grind
  rw [← Rat.intCast_mul] at h4
  have h5 := Rat.intCast_inj.mp h4
  have dp := q.den_pos
  rw [← h5, Int.mul_fdiv_cancel _ (by omega), h1]
def k12 (q : Rat) : Int := (q.num * 12).fdiv (q.den : Int)
def row12 (q : Rat) : Int × P := (k12 q, frq q)
theorem k12_inj {p q : Rat} (hp : p12 p) (hq : p12 q) (h : k12 p = k12 q) : p = q := by
  have h1 := hp.key
  have h2 := hq.key
  unfold k12 at h
  rw [h] at h1
  have h3 : p * 12 = q * 12 := h1.symm.trans h2
  grind
theorem k12_lt {p q : Rat} (hp : p12 p) (hq : p12 q) : k12 p < k12 q ↔ p < q := by
  have h1 : ((k12 p : Int) : Rat) = p * 12 := hp.key
  have h2 : ((k12 q : Int) : Rat) = q * 12 := hq.key
  rw [← Rat.intCast_lt_intCast, h1, h2]
  constructor <;> intro h <;> grind
/-- drawn flashes -/
def okT (l : List Rat) : Prop := okF l ∧ ∀ q ∈ l, p12 q
theorem okT.of {l m : List Rat} (hn : m.Nodup) (h0 : m ≠ []) (h1 : m.length ≤ 12) (hp : ∀ q ∈ m, p12 q) (hl : l.Perm m) (hs : l.Pairwise fun x y => k12 x ≤ k12 y) : okT l := by
  have hp' : ∀ q ∈ l, p12 q := fun q hq => hp q (hl.mem_iff.mp hq)
  refine ⟨⟨fun e => h0 ?_, by rw [hl.length_eq]; exact h1, fun q hq => ⟨(hp' q hq).sz.1, (hp' q hq).sz.2.mono (by decide)⟩, ?_⟩, hp'⟩
  · rw [e] at hl
    exact List.Perm.nil_eq hl |>.symm
  · have hn' : l.Nodup := hl.nodup_iff.mpr hn
    have := hs.and hn'
    refine List.Pairwise.imp_of_mem (fun {a b} ha hb h => ?_) this
    refine (k12_lt (hp' a ha) (hp' b hb)).mp (by
      have h1 : k12 a ≠ k12 b := fun e => h.2 (k12_inj (hp' a ha) (hp' b hb) e)
      have h2 := h.1
      omega)
theorem fms_parts {l : List Rat} (h : okT l) : ∃ g : Int, fms l = (g : Rat) / ((12 : Int) : Rat) ∧ 0 ≤ g ∧ g ≤ 300 := by
  obtain ⟨hF, hp⟩ := h
  cases l with
  | nil => exact absurd rfl hF.1
  | cons a r =>
    obtain ⟨x0, e0, a0, a1⟩ := hp a (List.mem_cons_self ..)
    have hr : ∀ q ∈ r.map (fun t => t - a), ∃ x : Int, q = (x : Rat) / ((12 : Int) : Rat) ∧ x.natAbs < 301 := fun q hq => by
      obtain ⟨t, ht, rfl⟩ := List.mem_map.mp hq
      obtain ⟨x, ex, b0, b1⟩ := hp t (List.mem_cons_of_mem _ ht)
      refine ⟨x - x0, by rw [ex, e0, Rat.intCast_sub]; grind, by omega⟩
    obtain ⟨xs, ex, hx⟩ := parts_of (D := 12) hr
    have e : (xs.map fun (x : Int) => (x : Rat) / ((12 : Int) : Rat)) = xs.map fun a => Rat.divInt a 12 := List.map_congr_left fun x _ => divInt_q.symm
    refine ⟨(gl xs : Int), ?_, by omega, ?_⟩
    · show qms (r.map fun t => t - a) = _
      rw [ex, e, qms_gl (by decide), divInt_q]
    · have := gl_lt (by decide) hx
      omega
theorem sz_fmsT {l : List Rat} (h : okT l) : Sz 10 (fms l) := by
  obtain ⟨g, e, g0, g1⟩ := fms_parts h
  rw [e, ← divInt_q]
  exact sz_divInt (by decide) (by omega) (by decide)
theorem sz_fmsI {l : List Rat} (h : okT l) (h0 : fms l ≠ 0) : 0 < fms l ∧ Sz 10 (fms l)⁻¹ := by
  have hz := sz_fmsT h
  obtain ⟨g, e, g0, g1⟩ := fms_parts h
  have hp : 0 < fms l := by
    rcases lt_or_gt_q h0 with c | c
    · exfalso
      rw [e] at c
      have h2 := Rat.mul_lt_mul_of_pos_right c (show (0 : Rat) < ((12 : Int) : Rat) by decide +kernel)
      have h3 : (g : Rat) / ((12 : Int) : Rat) * ((12 : Int) : Rat) = g := by grind
      rw [h3, Rat.zero_mul] at h2
      have : g < 0 := Rat.intCast_lt_intCast.mp h2
      omega
    · exact c
  exact ⟨hp, sz_inv hp hz⟩
theorem qms_zero_cons (l : List Rat) : qms (0 :: l) = qms l := by
  show l.foldl qg (qg 0 0) = l.foldl qg 0
  rw [show qg 0 0 = 0 by decide +kernel]
/-- the same sights: the same one first, and a gap that is a whole number of steps -/
theorem sgt_same {n : Int} {s r s2 r2 : Rat} {a : Rat} {t : List Rat} (hn : 0 < n) : sgt n s r (a :: t) = sgt n s2 r2 (a :: t) ↔ rmd (s + r * a) (n : Rat)⁻¹ = rmd (s2 + r2 * a) (n : Rat)⁻¹ ∧ isZ ((r2 - r) * (n : Rat) * fms (a :: t)) := by
  have hu := unit_pos hn
  have hnp := pos_ne (int_pos hn)
  have one : ∀ q : Rat, rmd (s + r * q) (n : Rat)⁻¹ = rmd (s2 + r2 * q) (n : Rat)⁻¹ ↔ isZ (((s2 - s) + (r2 - r) * q) * (n : Rat)) := fun q => by
    rw [eq_comm, rmd_eq hu, show (s2 + r2 * q - (s + r * q)) / (n : Rat)⁻¹ = ((s2 - s) + (r2 - r) * q) * (n : Rat) by grind]
  have all : sgt n s r (a :: t) = sgt n s2 r2 (a :: t) ↔ ∀ q ∈ a :: t, rmd (s + r * q) (n : Rat)⁻¹ = rmd (s2 + r2 * q) (n : Rat)⁻¹ := by
    unfold sgt
    exact List.map_inj_left
  rw [all]
  have hm : isZ ((r2 - r) * (n : Rat) * fms (a :: t)) ↔ ∀ q ∈ t, isZ ((r2 - r) * (n : Rat) * (q - a)) := by
    show isZ ((r2 - r) * (n : Rat) * qms (t.map fun q => q - a)) ↔ _
    rw [← isZ_all]
    exact ⟨fun h q hq => h _ (List.mem_map.mpr ⟨q, hq, rfl⟩), fun h q hq => by obtain ⟨x, hx, rfl⟩ := List.mem_map.mp hq; exact h x hx⟩
  rw [hm]
  constructor
  · intro h
    have ha := h a (List.mem_cons_self ..)
    refine ⟨ha, fun q hq => ?_⟩
    have := isZ_sub ((one q).mp (h q (List.mem_cons_of_mem _ hq))) ((one a).mp ha)
    rw [show ((s2 - s) + (r2 - r) * q) * (n : Rat) - ((s2 - s) + (r2 - r) * a) * (n : Rat) = (r2 - r) * (n : Rat) * (q - a) by grind] at this
    exact this
  · rintro ⟨ha, h⟩ q hq
    rcases List.mem_cons.mp hq with rfl | hq
    · exact ha
    · rw [one]
      have := isZ_add (h q hq) ((one a).mp ha)
      rw [show (r2 - r) * (n : Rat) * (q - a) + ((s2 - s) + (r2 - r) * a) * (n : Rat) = ((s2 - s) + (r2 - r) * q) * (n : Rat) by grind] at this
      exact this
/-- sights that can be -/
def okS (n : Int) (k : Nat) (l : List Rat) : Prop := l.length = k ∧ ∀ q ∈ l, 0 ≤ q ∧ q < (n : Rat)⁻¹ ∧ Sz 300 q
theorem sgt_okS {n : Int} {s r : Rat} {l : List Rat} (hn : 0 < n) (hz : ∀ q ∈ l, Sz 300 (rmd (s + r * q) (n : Rat)⁻¹)) : okS n l.length (sgt n s r l) := ⟨sgt_len n s r l, fun q hq => by
  unfold sgt at hq
  obtain ⟨t, ht, rfl⟩ := List.mem_map.mp hq
  exact ⟨rmd_nonneg (unit_pos hn), rmd_lt (unit_pos hn), hz t ht⟩⟩
/-- a remainder by 1 over the order is no greater than what it is made of -/
theorem sz_rmdu {n : Int} {q : Rat} {k : Nat} (h1 : 1 ≤ n) (h2 : n ≤ 24) (hz : Sz k q) : Sz (2 * k + 16) (rmd q (n : Rat)⁻¹) := by
  have hu := unit_sz (show 0 < n by omega) h2
  have hf : Sz (k + 5) ((q / (n : Rat)⁻¹).floor : Rat) := sz_floor (sz_div (pos_ne (unit_pos (by omega))) hz hu) (by omega)
  exact (sz_sub hz (sz_mul hf hu)).mono (by omega)
theorem atI_last {α : Type} (l : List α) (x : α) : atI (l ++ [x]) (-1) = some x := by
  have h : ixN (l ++ [x]).length (-1) = some l.length := by
    unfold ixN
    rw [if_neg (by omega), if_pos (by rw [List.length_append]; simp; omega), List.length_append]
    simp
    omega
  unfold atI
  rw [h]
  simp
end Fw
/-! Fw: family g: flashes with near times, sets of whole numbers kept as dicts, Euclid over fractions. -/
namespace Fw
open PySem L2
/-- flashes: what lies between them is a small part by 12 -/
def okG (l : List Rat) : Prop := l ≠ [] ∧ l.length ≤ 12 ∧ (∀ q ∈ l, 0 ≤ q ∧ Sz 80 q) ∧ l.Pairwise (· < ·) ∧ ∀ p ∈ l, ∀ q ∈ l, ∃ y : Int, p - q = (y : Rat) / ((12 : Int) : Rat) ∧ y.natAbs < 2 ^ 13
theorem okG.fms {l : List Rat} (h : okG l) : ∃ g : Int, fms l = (g : Rat) / ((12 : Int) : Rat) ∧ 0 ≤ g ∧ g < 2 ^ 13 := by
  obtain ⟨h0, _, _, _, hd⟩ := h
  cases l with
  | nil => exact absurd rfl h0
  | cons a r =>
    have hr : ∀ q ∈ r.map (fun t => t - a), ∃ x : Int, q = (x : Rat) / ((12 : Int) : Rat) ∧ x.natAbs < 2 ^ 13 := fun q hq => by
      obtain ⟨t, ht, rfl⟩ := List.mem_map.mp hq
      exact hd t (List.mem_cons_of_mem _ ht) a (List.mem_cons_self ..)
    obtain ⟨xs, ex, hx⟩ := parts_of (D := 12) hr
    have e : (xs.map fun (x : Int) => (x : Rat) / ((12 : Int) : Rat)) = xs.map fun a => Rat.divInt a 12 := List.map_congr_left fun x _ => divInt_q.symm
    refine ⟨(gl xs : Int), ?_, by omega, ?_⟩
    · show qms (r.map fun t => t - a) = _
      rw [ex, e, qms_gl (by decide), divInt_q]
    · have := gl_lt (by decide) hx
      omega
theorem okG.sz {l : List Rat} (h : okG l) : 0 ≤ Fw.fms l ∧ Sz 14 (Fw.fms l) := by
  obtain ⟨g, e, g0, g1⟩ := h.fms
  rw [e, ← divInt_q]
  refine ⟨?_, sz_divInt (by decide) (by omega) (by decide)⟩
  rw [divInt_q, Rat.div_def]
  exact Rat.mul_nonneg (Rat.intCast_le_intCast.mpr g0) (by decide +kernel)
theorem okG.rst {l : List Rat} (h : okG l) {n : Int} (n1 : 1 ≤ n) (n2 : n ≤ 48) : 0 ≤ Fw.rst n l ∧ Sz 22 (Fw.rst n l) := by
  obtain ⟨h0, hz⟩ := h.sz
  have hnz : Sz 8 (n : Rat) := sz_int8 (by omega)
  have hn : 0 < (n : Rat) := int_pos (by omega)
  unfold Fw.rst
  split
  · exact ⟨Rat.le_refl, ⟨Nat.pow_pos (by decide), Nat.one_lt_two_pow (by decide)⟩⟩
  · rename_i hne
    have hm : 0 ≤ (n : Rat) * Fw.fms l := Rat.mul_nonneg (Rat.le_of_lt hn) h0
    have hp : 0 < (n : Rat) * Fw.fms l := by
      rcases Rat.le_iff_lt_or_eq.mp hm with z | z
      · exact z
      · exact absurd z.symm hne
    exact ⟨Rat.le_of_lt (Rat.inv_pos.mpr hp), sz_inv hp (sz_mul hnz hz)⟩
theorem rst_zero {l : List Rat} {n : Int} (n1 : 1 ≤ n) : rst n l = 0 ↔ fms l = 0 := by
  have hn := pos_ne (int_pos (show 0 < n by omega))
  unfold rst
  split
  · rename_i e
    rcases Rat.mul_eq_zero.mp e with z | z
    · exact absurd z hn
    · exact ⟨fun _ => z, fun _ => rfl⟩
  · rename_i e
    refine ⟨fun z => absurd z (fun w => ?_), fun z => absurd (by rw [z]; grind) e⟩
    have := Rat.inv_mul_cancel _ e
    rw [w] at this
    exact absurd this (by rw [Rat.zero_mul]; decide)
theorem fms_zero {l : List Rat} (h : okG l) : fms l = 0 ↔ l.length = 1 := by
  obtain ⟨h0, _, _, hp, _⟩ := h
  cases l with
  | nil => exact absurd rfl h0
  | cons a r =>
    show qms (r.map fun t => t - a) = 0 ↔ _
    rw [qms_zero]
    constructor
    · intro h
      cases r with
      | nil => rfl
      | cons b r =>
        have h1 := h (b - a) (by simp)
        rw [List.pairwise_cons] at hp
        have h2 := hp.1 b (by simp)
        exfalso
        grind
    · intro h q hq
      have : r = [] := by
        cases r with
        | nil => rfl
        | cons _ _ => simp at h
      rw [this] at hq
      simp at hq
/-- alike, told by the step -/
theorem alike_iff {l : List Rat} {n : Int} (n1 : 1 ≤ n) (p : Rat) : (rst n l = 0 ∨ isZ (p / rst n l)) ↔ isZ ((n : Rat) * fms l * p) := by
  have hn := pos_ne (int_pos (show 0 < n by omega))
  by_cases e : (n : Rat) * fms l = 0
  · have : rst n l = 0 := by unfold rst; rw [if_pos e]
    rw [this, e, Rat.zero_mul]
    exact ⟨fun _ => isZ_zero, fun _ => .inl rfl⟩
  · have h1 : rst n l = ((n : Rat) * fms l)⁻¹ := by unfold rst; rw [if_neg e]
    have h2 : rst n l ≠ 0 := fun z => e (by
      rw [h1] at z
      have := Rat.inv_mul_cancel _ e
      rw [z, Rat.zero_mul] at this
      exact absurd this (by decide))
    rw [show p / rst n l = (n : Rat) * fms l * p by rw [h1]; grind]
    exact ⟨fun z => z.resolve_left h2, .inr⟩
/-- what the law's same tells of: data of some depth, lists too -/
def depg : Nat → P → Bool
  | _, .non => true
  | _, .bl _ => true
  | _, .int _ => true
  | n + 1, .tup xs => decide (xs.length ≤ 1000) && xs.all (depg n)
  | n + 1, .lst xs => decide (xs.length ≤ 1000) && xs.all (depg n)
  | _, _ => false
theorem all_range {n : Nat} : allB ((rangeP 0 n).map fun _ => P.bl true) = some true := allB_const
theorem rangeP_at {xs : List P} {z : P} (h : z ∈ rangeP 0 (xs.length : Int)) : ∃ (i : Int) (x : P), z = .int i ∧ atI xs i = some x ∧ x ∈ xs := by
  obtain ⟨i, rfl, h1, h2⟩ := mem_range h
  obtain ⟨j, rfl⟩ : ∃ j : Nat, i = (j : Int) := ⟨i.toNat, by omega⟩
  have hj : j < xs.length := by omega
  exact ⟨_, xs[j], rfl, atI_nat (by simp [hj]), List.getElem_mem hj⟩
/-! ### Euclid over fractions -/
theorem divInt_nn {a b : Int} (ha : 0 ≤ a) (hb : 0 < b) : 0 ≤ Rat.divInt a b := p12.sz.divInt_nonneg' ha hb
theorem divInt_lt {a b D : Int} (hD : 0 < D) (h : a < b) : Rat.divInt a D < Rat.divInt b D := by
  rw [divInt_q, divInt_q, Rat.div_def, Rat.div_def]
  exact Rat.mul_lt_mul_of_pos_right (Rat.intCast_lt_intCast.mpr h) (Rat.inv_pos.mpr (int_pos hD))
theorem rmd_parts {a m : Nat} {D : Int} (hD : 0 < D) (hm : 0 < m) : rmd (Rat.divInt (a : Int) D) (Rat.divInt (m : Int) D) = Rat.divInt ((a % m : Nat) : Int) D := by
  have hp : 0 < Rat.divInt (m : Int) D := divInt_pos (by omega) hD
  have h1 : Rat.divInt (a : Int) D = Rat.divInt ((a % m : Nat) : Int) D + (((a / m : Nat) : Int) : Rat) * Rat.divInt (m : Int) D := by
    have e : (a : Int) = ((a % m : Nat) : Int) + (m : Int) * ((a / m : Nat) : Int) := by
      have := Nat.mod_add_div a m
      exact_mod_cast this.symm
    rw [divInt_q, divInt_q, divInt_q]
    conv => lhs; rw [e]
    rw [Rat.intCast_add, Rat.intCast_mul]
    grind
  rw [h1, rmd_add hp, rmd_small (divInt_nn (by omega) hD) (divInt_lt hD (by have := Nat.mod_lt a hm; omega))]
/-- parts of one by D have a measure that is one -/
theorem qms_parts {l : List Rat} {D : Int} {n : Nat} (hD : 0 < D) (hn : 0 < n) (h : ∀ q ∈ l, ∃ y : Int, q = (y : Rat) / (D : Rat) ∧ y.natAbs < n) : ∃ g : Nat, qms l = Rat.divInt (g : Int) D ∧ g < n := by
  obtain ⟨xs, e, hx⟩ := parts_of h
  refine ⟨gl xs, ?_, gl_lt hn hx⟩
  rw [e, show (xs.map fun (x : Int) => (x : Rat) / (D : Rat)) = xs.map fun a => Rat.divInt a D from List.map_congr_left fun x _ => divInt_q.symm, qms_gl hD]
theorem qa_divInt {y D : Int} (hD : 0 < D) : qa (Rat.divInt y D) = Rat.divInt (y.natAbs : Int) D := by
  by_cases h : 0 ≤ y
  · rw [qa_nn (divInt_nn h hD)]; congr 1; omega
  · rw [qa_ng (by have := divInt_lt hD (show y < 0 by omega); rwa [Rat.zero_divInt] at this), Rat.neg_divInt]
    congr 1; omega
theorem divInt_num_pos {m : Nat} {D : Int} (hD : 0 < D) : (0 < (Rat.divInt (m : Int) D).num) = (0 < m) := by
  refine propext ⟨fun h => ?_, fun h => num_pos (divInt_pos (by omega) hD)⟩
  rcases Nat.eq_zero_or_pos m with z | z
  · subst z
    rw [show ((0 : Nat) : Int) = 0 by rfl, Rat.zero_divInt] at h
    exact absurd h (by decide)
  · exact z
/-! ### a dict of whole numbers -/
def dI (ns : List Int) : P := .dct (ns.map Sum.inl) (ns.map fun _ => .bl true)
theorem hasK_int {ns : List Int} {n : Int} : hasK (ns.map Sum.inl) (Sum.inl n) = decide (n ∈ ns) := by
  unfold hasK
  rw [List.any_map, Bool.eq_iff_iff, List.any_eq_true, decide_eq_true_eq]
  exact ⟨fun ⟨x, h, e⟩ => by
    have e : (Sum.inl x : Key) = Sum.inl n := by simpa using e
    rw [Sum.inl.inj e] at h; exact h, fun h => ⟨n, h, by simp⟩⟩
theorem zip_true {ns : List Int} {k : Key} : List.zipWith (fun k' q => if k' = k then P.bl true else q) (ns.map Sum.inl) (ns.map fun _ => P.bl true) = ns.map fun _ => P.bl true := by
  induction ns with
  | nil => rfl
  | cons a r ih =>
    rw [List.map_cons, List.map_cons, List.zipWith_cons_cons, ih, ite_self]
theorem dI_put {ns : List Int} {n : Int} : putP (ns.map Sum.inl) (ns.map fun _ => P.bl true) (Sum.inl n) (.bl true) = dI (if n ∈ ns then ns else ns ++ [n]) := by
  unfold putP
  rw [hasK_int]
  by_cases h : n ∈ ns
  · rw [if_pos (by simpa using h), if_pos h, zip_true]; rfl
  · rw [if_neg (by simpa using h), if_neg h]
    unfold dI
    rw [List.map_append, List.map_append]; rfl
theorem dI_keys {ns : List Int} : ((ns.map (Sum.inl : Int → Key)).map keyP) = ns.map P.int := by
  rw [List.map_map]; rfl
theorem dI_nodup {ns : List Int} {n : Int} (h : ns.Nodup) : (if n ∈ ns then ns else ns ++ [n]).Nodup := by
  split
  · exact h
  · rename_i hn
    rw [List.nodup_append]
    refine ⟨h, by simp, fun a ha b hb e => ?_⟩
    rw [List.mem_singleton] at hb
    rw [e, hb] at ha
    exact hn ha
theorem dI_mem {ns : List Int} {n x : Int} (h : x ∈ (if n ∈ ns then ns else ns ++ [n])) : x ∈ ns ∨ x = n := by
  split at h
  · exact .inl h
  · rw [List.mem_append, List.mem_singleton] at h; exact h
theorem dI_len {ns : List Int} {n : Int} : (if n ∈ ns then ns else ns ++ [n]).length ≤ ns.length + 1 := by
  split
  · omega
  · simp
theorem dI_ne {ns : List Int} {n : Int} : (if n ∈ ns then ns else ns ++ [n]) ≠ [] := by
  split
  · intro e; rename_i h; rw [e] at h; simp at h
  · simp
/-- drawn: parts of one by 12, near one another -/
def okB (l : List Rat) : Prop := ∀ p ∈ l, ∀ q ∈ l, ∃ x y : Int, p = (x : Rat) / ((12 : Int) : Rat) ∧ q = (y : Rat) / ((12 : Int) : Rat) ∧ (0 ≤ x ∧ x < 2 ^ 75) ∧ (0 ≤ y ∧ y < 2 ^ 75) ∧ (x - y).natAbs < 2 ^ 10
theorem okB.ofN {ns ms : List Int} {D b : Int} (hd : D = 1 ∨ D = 2 ∨ D = 3 ∨ D = 12) (b0 : 0 ≤ b) (b1 : b < 2 ^ 70) (hx : ∀ x ∈ ns, ∃ i : Int, x = b * D + i ∧ 0 ≤ i ∧ i ≤ 72) (hp : ms.Perm ns) : okB (ms.map fun x => Rat.divInt x D) := by
  have hk : ∃ c : Int, c * D = 12 ∧ 0 < c ∧ c ≤ 12 := by
    rcases hd with rfl | rfl | rfl | rfl
    · exact ⟨12, by decide⟩
    · exact ⟨6, by decide⟩
    · exact ⟨4, by decide⟩
    · exact ⟨1, by decide⟩
  obtain ⟨c, hc, c0, c1⟩ := hk
  have D0 : 0 < D := by omega
  have hcn : ((c : Int) : Rat) ≠ 0 := pos_ne (int_pos c0)
  have hdn : ((D : Int) : Rat) ≠ 0 := pos_ne (int_pos D0)
  have one : ∀ i : Int, Rat.divInt (b * D + i) D = ((12 * b + i * c : Int) : Rat) / ((12 : Int) : Rat) := fun i => by
    rw [divInt_q, ← hc, Rat.intCast_add, Rat.intCast_add, Rat.intCast_mul, Rat.intCast_mul, Rat.intCast_mul, Rat.intCast_mul]
    grind
  have bd : ∀ i : Int, 0 ≤ i → i ≤ 72 → 0 ≤ i * c ∧ i * c ≤ 864 := fun i i0 i1 => ⟨Int.mul_nonneg i0 (by omega), by
    have := Int.mul_le_mul i1 c1 (by omega) (by decide)
    omega⟩
  intro p hp' q hq
  obtain ⟨x, h, rfl⟩ := List.mem_map.mp hp'
  obtain ⟨y, h', rfl⟩ := List.mem_map.mp hq
  obtain ⟨i, rfl, i0, i1⟩ := hx x (hp.mem_iff.mp h)
  obtain ⟨j, rfl, j0, j1⟩ := hx y (hp.mem_iff.mp h')
  have h1 := bd i i0 i1
  have h2 := bd j j0 j1
  exact ⟨_, _, one i, one j, by omega, by omega, by omega⟩
/-- moved and drawn out -/
theorem okG.moved {l : List Rat} (h : okG l) (hd : okB l) {c s : Int} (c0 : 1 ≤ c) (c1 : c ≤ 4) (s0 : 0 ≤ s) (s1 : s ≤ 200) : okG (l.map fun q => (c : Rat) * q + (s : Rat) / ((12 : Int) : Rat)) := by
  obtain ⟨h0, h1, h2, h3, h4⟩ := h
  refine ⟨by simpa using h0, by simpa using h1, fun q hq => ?_, ?_, fun p hp q hq => ?_⟩
  · obtain ⟨t, ht, rfl⟩ := List.mem_map.mp hq
    obtain ⟨x, _, e, _, hx, _, _⟩ := hd t ht t ht
    have e2 : (c : Rat) * t + (s : Rat) / ((12 : Int) : Rat) = Rat.divInt (c * x + s) 12 := by
      rw [divInt_q, e, Rat.intCast_add, Rat.intCast_mul]; grind
    have hcx : 0 ≤ c * x := Int.mul_nonneg (by omega) hx.1
    have hcx2 : c * x ≤ 4 * 2 ^ 75 := Int.mul_le_mul c1 (by omega) hx.1 (by decide)
    rw [e2]
    exact ⟨divInt_nn (by omega) (by decide), sz_divInt (by decide) (by omega) (by decide)⟩
  · refine List.pairwise_map.mpr (h3.imp fun {a b} hab => ?_)
    have := Rat.mul_lt_mul_of_pos_left hab (int_pos (show 0 < c by omega))
    grind
  · obtain ⟨t, ht, rfl⟩ := List.mem_map.mp hp
    obtain ⟨u, hu, rfl⟩ := List.mem_map.mp hq
    obtain ⟨x, y, e, e', _, _, hxy⟩ := hd t ht u hu
    refine ⟨c * (x - y), ?_, ?_⟩
    · rw [e, e', Rat.intCast_mul, Rat.intCast_sub]; grind
    · rw [Int.natAbs_mul]
      have : c.natAbs * (x - y).natAbs ≤ 4 * 2 ^ 10 := Nat.mul_le_mul (by omega) (by omega)
      omega
theorem okG.sub {l m : List Rat} (h : okG l) (hs : m.Sublist l) (h0 : m ≠ []) : okG m :=
  ⟨h0, by have := hs.length_le; have := h.2.1; omega, fun q hq => h.2.2.1 q (hs.subset hq), h.2.2.2.1.sublist hs, fun p hp q hq => h.2.2.2.2 p (hs.subset hp) q (hs.subset hq)⟩
/-- what lies between two flashes is a whole multiple of the measure -/
theorem fms_mult {l : List Rat} {p q : Rat} (hp : p ∈ l) (hq : q ∈ l) : ∃ k : Int, p - q = (k : Rat) * fms l := by
  cases l with
  | nil => simp at hp
  | cons a r =>
    have one : ∀ x ∈ a :: r, ∃ k : Int, x - a = (k : Rat) * fms (a :: r) := fun x hx => by
      rcases List.mem_cons.mp hx with e | hx
      · exact ⟨0, by rw [e]; grind⟩
      · exact qms_div (l := r.map fun t => t - a) (List.mem_map.mpr ⟨x, hx, rfl⟩)
    obtain ⟨i, ei⟩ := one p hp
    obtain ⟨j, ej⟩ := one q hq
    exact ⟨i - j, by rw [Rat.intCast_sub]; grind⟩
theorem fms_sub {l m : List Rat} (hs : ∀ q ∈ m, q ∈ l) : ∃ k : Int, fms m = (k : Rat) * fms l := by
  cases m with
  | nil => exact ⟨0, by show (0 : Rat) = _; grind⟩
  | cons a r =>
    refine qms_great (l := r.map fun t => t - a) fun q hq => ?_
    obtain ⟨t, ht, rfl⟩ := List.mem_map.mp hq
    exact fms_mult (hs t (List.mem_cons_of_mem _ ht)) (hs a (List.mem_cons_self ..))
/-- flashes of the measure m tell as much as those of the measure o -/
def tam (m o : Rat) : Prop := (m = 0 → o = 0) ∧ (m ≠ 0 → isZ (o / m))
instance {m o : Rat} : Decidable (tam m o) := by unfold tam; exact inferInstance
theorem tam_of {m o : Rat} {k : Int} (h : o = (k : Rat) * m) : tam m o := ⟨fun z => by rw [h, z]; grind, fun z => by rw [h, show (k : Rat) * m / m = k by grind]; exact isZ_int k⟩
theorem tam.mult {m o : Rat} (h : tam m o) : ∃ k : Int, o = (k : Rat) * m := by
  by_cases z : m = 0
  · exact ⟨0, by rw [h.1 z]; grind⟩
  · obtain ⟨k, e⟩ := isZ_iff.mp (h.2 z)
    exact ⟨k, by rw [← e]; grind⟩
theorem tam.trans {m o r : Rat} (h : tam m o) (g : tam o r) : tam m r := by
  obtain ⟨i, ei⟩ := h.mult
  obtain ⟨j, ej⟩ := g.mult
  exact tam_of (k := j * i) (by rw [ej, ei, Rat.intCast_mul]; grind)
theorem tam_self (m : Rat) : tam m m := tam_of (k := 1) (by grind)
theorem tam_ne {m o : Rat} (h : m ≠ 0) : tam m o ↔ isZ (o / m) := ⟨fun z => z.2 h, fun z => ⟨fun y => absurd y h, fun _ => z⟩⟩
theorem tam_zero {o : Rat} : tam 0 o ↔ o = 0 := ⟨fun z => z.1 rfl, fun z => ⟨fun _ => z, fun y => absurd rfl y⟩⟩
theorem tam.alike {m o n d : Rat} (h : tam m o) (g : isZ (n * m * d)) : isZ (n * o * d) := by
  obtain ⟨k, e⟩ := h.mult
  rw [e, show n * ((k : Rat) * m) * d = (k : Rat) * (n * m * d) by grind]
  exact isZ_mul (isZ_int k) g
/-- a comprehension whose tests are drawn: some of them -/
theorem lcGo_sub {α : Type} {step : P → List P → (List P → Prop) → Prop} {k : List P → Prop} (g : α → P) : ∀ (l : List α) (acc : List P), (∀ a ∈ l, ∀ acc k', k' (acc ++ [g a]) → k' acc → step (g a) acc k') → (∀ m : List α, m.Sublist l → k (acc ++ m.map g)) → lcGo step (l.map g) acc k
  | [], acc, _, hk => by show k acc; simpa using hk [] (.refl _)
  | a :: r, acc, hs, hk => by
    refine hs a (List.mem_cons_self ..) acc _ ?_ ?_
    · exact lcGo_sub g r _ (fun b hb => hs b (List.mem_cons_of_mem _ hb)) fun m hm => by
        have := hk (a :: m) (hm.cons₂ a)
        simpa [List.append_assoc] using this
    · exact lcGo_sub g r _ (fun b hb => hs b (List.mem_cons_of_mem _ hb)) fun m hm => hk m (hm.cons a)
theorem fl_ne0 {l : List Rat} {Q : PQ} : cmpP .NotEq (.tup (l.map frq)) (.tup []) Q = Q (.bl (!decide (l = []))) := fl_ne (m := [])
theorem fl_eq0 {l : List Rat} {Q : PQ} : cmpP .Eq (.tup (l.map frq)) (.tup []) Q = Q (.bl (decide (l = []))) := fl_eq (m := [])
/-- times that are whole numbers over D, from one start on -/
theorem okG.ofN {ns ms : List Int} {D b : Int} (hd : D = 1 ∨ D = 2 ∨ D = 3 ∨ D = 12) (hn : ns.Nodup) (h0 : ns ≠ []) (h1 : ns.length ≤ 12) (b0 : 0 ≤ b) (b1 : b < 2 ^ 70) (hx : ∀ x ∈ ns, ∃ i : Int, x = b * D + i ∧ 0 ≤ i ∧ i ≤ 72)
    (hp : ms.Perm ns) (hs : ms.Pairwise (· ≤ ·)) : okG (ms.map fun x => Rat.divInt x D) := by
  have D0 : 0 < D := by omega
  have D12 : D ≤ 12 := by omega
  have hD : ((D : Int) : Rat) ≠ 0 := pos_ne (int_pos D0)
  have hx' : ∀ x ∈ ms, ∃ i : Int, x = b * D + i ∧ 0 ≤ i ∧ i ≤ 72 := fun x h => hx x (hp.mem_iff.mp h)
  have hbD : 0 ≤ b * D := Int.mul_nonneg b0 (by omega)
  have hbD2 : b * D < 2 ^ 74 := by
    have := Int.mul_le_mul (show b ≤ 2 ^ 70 by omega) D12 (by omega) (by decide)
    omega
  refine ⟨fun e => ?_, by rw [List.length_map, hp.length_eq]; exact h1, fun q hq => ?_, ?_, fun p hp' q hq => ?_⟩
  · have : ms = [] := List.map_eq_nil_iff.mp e
    rw [this] at hp
    exact h0 (List.Perm.nil_eq hp).symm
  · obtain ⟨x, h, rfl⟩ := List.mem_map.mp hq
    obtain ⟨i, e, i0, i1⟩ := hx' x h
    refine ⟨p12.sz.divInt_nonneg' (by omega) D0, sz_divInt (by omega) (by omega) (by omega)⟩
  · refine List.pairwise_map.mpr ?_
    have hn' : ms.Nodup := hp.nodup_iff.mpr hn
    refine (hs.and hn').imp fun {x y} h => ?_
    rw [divInt_q, divInt_q, Rat.div_def, Rat.div_def]
    refine Rat.mul_lt_mul_of_pos_right (Rat.intCast_lt_intCast.mpr ?_) (Rat.inv_pos.mpr (int_pos D0))
    have h1 := h.1
    have h2 := h.2
    omega
  · obtain ⟨x, h, rfl⟩ := List.mem_map.mp hp'
    obtain ⟨y, h', rfl⟩ := List.mem_map.mp hq
    obtain ⟨i, e, i0, i1⟩ := hx' x h
    obtain ⟨j, e', j0, j1⟩ := hx' y h'
    have hk : ∃ c : Int, c * D = 12 ∧ 0 < c ∧ c ≤ 12 := by
      rcases hd with rfl | rfl | rfl | rfl
      · exact ⟨12, by decide⟩
      · exact ⟨6, by decide⟩
      · exact ⟨4, by decide⟩
      · exact ⟨1, by decide⟩
    obtain ⟨c, hc, c0, c1⟩ := hk
    refine ⟨(x - y) * c, ?_, ?_⟩
    · rw [divInt_q, divInt_q, ← hc, Rat.intCast_mul, Rat.intCast_mul, Rat.intCast_sub]
      have hcn : ((c : Int) : Rat) ≠ 0 := pos_ne (int_pos c0)
      grind
    · have e2 : x - y = i - j := by omega
      rw [e2, Int.natAbs_mul]
      have : (i - j).natAbs * c.natAbs ≤ 72 * 12 := Nat.mul_le_mul (by omega) (by omega)
      omega
end Fw
namespace K31
open PySem L2 Fw
/-! law_take: 0 well, 1 many, 2 digit -/
def N_law_take : List Str := ["well", "many", "digit"]
def b_law_take : List Sx := [
  .ite (.cmp .Gt (.ix (.var 0) (.int 0)) (.int 0)) [.asg (.t [(.p 0 0), (.n 2)]) (.blt .divmod [(.ix (.var 0) (.int 0)), (.var 1)]), .ret (.var 2)] [],
  .asg (.p 0 2) (.bin .Add (.ix (.var 0) (.int 2)) (.int 1)),
  .asg (.p 0 1) (.bin .Mod (.blt .int [(.bin .Add (.bin .Add (.bin .Mult (.ix (.var 0) (.int 1)) (.int 39373)) (.bin .Mult (.ix (.var 0) (.int 2)) (.int 30323))) (.int 11))]) (.int 2147483543)),
  .ret (.bin .Mod (.blt .int [(.bin .FloorDiv (.ix (.var 0) (.int 1)) (.int 128))]) (.var 1))]
/-! law_of: 0 well, 1 things -/
def N_law_of : List Str := ["well", "things"]
def b_law_of : List Sx := [
  .ret (.ix (.var 1) (.call 0 [(.var 0), (.blt .len [(.var 1)])]))]
/-! law_part: 0 one, 1 two, 2 low, 3 high -/
def N_law_part : List Str := ["one", "two", "low", "high"]
def b_law_part : List Sx := [
  .ite (.cmp .Lt (.var 1) (.int 0)) [.par [(0, false), (1, false)] [(.bin .Sub (.int 0) (.var 0)), (.bin .Sub (.int 0) (.var 1))]] [],
  .par [(2, false), (3, false)] [(.blt .abs [(.var 0)]), (.var 1)],
  .whl (.cmp .Gt (.var 3) (.int 0)) [.par [(2, false), (3, false)] [(.var 3), (.bin .Mod (.blt .int [(.var 2)]) (.var 3))]],
  .ret (.tup [(.bin .FloorDiv (.var 0) (.var 2)), (.bin .FloorDiv (.var 1) (.var 2))])]
/-! law_flashes: 0 well, 1 most, 2 parts, 3 found, 4 step, 5 start, 6 turn, 7 time -/
def N_law_flashes : List Str := ["well", "most", "parts", "found", "step", "start", "turn", "time"]
def b_law_flashes : List Sx := [
  .par [(2, false), (3, true)] [(.call 1 [(.var 0), (.tup [(.int 1), (.int 1), (.int 2), (.int 3), (.int 12)])]), .dct0],
  .par [(4, false), (5, false)] [(.call 1 [(.var 0), (.tup [(.int 1), (.int 1), (.int 2), (.int 6)])]), (.call 1 [(.var 0), (.tup [(.int 0), (.int 0), (.int 1), (.int 5), (.bin .Pow (.int 10) (.int 20))])])],
  .for_ (.n 6) (.rng [(.bin .Add (.int 1) (.call 0 [(.var 0), (.var 1)]))]) [.asg (.n 7) (.bin .Add (.bin .Mult (.var 5) (.var 2)) (.bin .Mult (.var 4) (.call 0 [(.var 0), (.int 13)]))), .setd 3 (.var 7) (.bl true)],
  .ret (.blt .tuple [(.lc (.call 2 [(.var 7), (.var 2)]) (.n 7) (.blt .sorted [(.blt .list [(.var 3)])]) [] [7])])]
/-! law_less: 0 one, 1 two -/
def N_law_less : List Str := ["one", "two"]
def b_law_less : List Sx := [
  .ret (.call 2 [(.bin .Sub (.bin .Mult (.ix (.var 0) (.int 0)) (.ix (.var 1) (.int 1))) (.bin .Mult (.ix (.var 1) (.int 0)) (.ix (.var 0) (.int 1)))), (.bin .Mult (.ix (.var 0) (.int 1)) (.ix (.var 1) (.int 1)))])]
/-! law_by: 0 one, 1 two -/
def N_law_by : List Str := ["one", "two"]
def b_law_by : List Sx := [
  .ret (.call 2 [(.bin .Mult (.ix (.var 0) (.int 0)) (.ix (.var 1) (.int 0))), (.bin .Mult (.ix (.var 0) (.int 1)) (.ix (.var 1) (.int 1)))])]
/-! law_floor: 0 one -/
def N_law_floor : List Str := ["one"]
def b_law_floor : List Sx := [
  .ret (.bin .FloorDiv (.ix (.var 0) (.int 0)) (.ix (.var 0) (.int 1)))]
/-! law_over: 0 one, 1 two -/
def N_law_over : List Str := ["one", "two"]
def b_law_over : List Sx := [
  .ret (.call 2 [(.bin .Mult (.ix (.var 0) (.int 0)) (.ix (.var 1) (.int 1))), (.bin .Mult (.ix (.var 0) (.int 1)) (.ix (.var 1) (.int 0)))])]
/-! law_rest: 0 one, 1 two -/
def N_law_rest : List Str := ["one", "two"]
def b_law_rest : List Sx := [
  .ret (.call 4 [(.var 0), (.call 5 [(.tup [(.call 6 [(.call 7 [(.var 0), (.var 1)])]), (.int 1)]), (.var 1)])])]
/-! law_measure: 0 some, 1 found, 2 one, 3 low, 4 high -/
def N_law_measure : List Str := ["some", "found", "one", "low", "high"]
def b_law_measure : List Sx := [
  .asg (.n 1) (.tup [(.int 0), (.int 1)]),
  .for_ (.n 2) (.var 0) [.par [(3, false), (4, false)] [(.var 1), (.tup [(.blt .abs [(.ix (.var 2) (.int 0))]), (.ix (.var 2) (.int 1))])], .whl (.cmp .Gt (.ix (.var 4) (.int 0)) (.int 0)) [.par [(3, false), (4, false)] [(.var 4), (.call 8 [(.var 3), (.var 4)])]], .asg (.n 1) (.var 3)],
  .ret (.var 1)]
/-! law_flash_measure: 0 flashes, 1 time -/
def N_law_flash_measure : List Str := ["flashes", "time"]
def b_law_flash_measure : List Sx := [
  .ret (.call 9 [(.lc (.call 4 [(.var 1), (.ix (.var 0) (.int 0))]) (.n 1) (.var 0) [] [1])])]
/-! law_tell_as_much: 0 one, 1 two, 2 measure, 3 other -/
def N_law_tell_as_much : List Str := ["one", "two", "measure", "other"]
def b_law_tell_as_much : List Sx := [
  .par [(2, false), (3, false)] [(.call 10 [(.var 0)]), (.call 10 [(.var 1)])],
  .ret (.or [(.cmp .Eq (.var 3) (.tup [(.int 0), (.int 1)])), (.and [(.cmp .Gt (.ix (.var 2) (.int 0)) (.int 0)), (.cmp .Eq (.ix (.call 7 [(.var 3), (.var 2)]) (.int 1)) (.int 1))])])]
/-! is_tuple_up_to: 0 value, 1 low, 2 high -/
def N_is_tuple_up_to : List Str := ["value", "low", "high"]
def b_is_tuple_up_to : List Sx := [
  .ret (.and [(.isi (.var 0) ["tuple"]), (.chain .LtE .LtE (.var 1) (.blt .len [(.var 0)]) (.var 2))])]
/-! is_tuple_of: 0 value, 1 many -/
def N_is_tuple_of : List Str := ["value", "many"]
def b_is_tuple_of : List Sx := [
  .ret (.call 12 [(.var 0), (.var 1), (.var 1)])]
/-! is_pair: 0 value -/
def N_is_pair : List Str := ["value"]
def b_is_pair : List Sx := [
  .ret (.call 13 [(.var 0), (.int 2)])]
/-! is_whole: 0 value -/
def N_is_whole : List Str := ["value"]
def b_is_whole : List Sx := [
  .ret (.and [(.isi (.var 0) ["int"]), (.not (.isi (.var 0) ["bool"]))])]
/-! is_from: 0 value, 1 least -/
def N_is_from : List Str := ["value", "least"]
def b_is_from : List Sx := [
  .ret (.and [(.call 15 [(.var 0)]), (.cmp .GtE (.var 0) (.var 1))])]
/-! is_fraction_of: 0 value -/
def N_is_fraction_of : List Str := ["value"]
def b_is_fraction_of : List Sx := [
  .ite (.or [(.not (.call 14 [(.var 0)])), (.not (.call 15 [(.ix (.var 0) (.int 0))])), (.not (.call 16 [(.ix (.var 0) (.int 1)), (.int 1)]))]) [.ret (.bl false)] [],
  .ret (.cmp .Eq (.blt .gcd [(.ix (.var 0) (.int 0)), (.ix (.var 0) (.int 1))]) (.int 1))]
/-! is_time_of: 0 value -/
def N_is_time_of : List Str := ["value"]
def b_is_time_of : List Sx := [
  .ret (.and [(.call 17 [(.var 0)]), (.cmp .GtE (.ix (.var 0) (.int 0)) (.int 0))])]
/-! is_less: 0 one, 1 other -/
def N_is_less : List Str := ["one", "other"]
def b_is_less : List Sx := [
  .ret (.cmp .Lt (.bin .Mult (.ix (.var 0) (.int 0)) (.ix (.var 1) (.int 1))) (.bin .Mult (.ix (.var 1) (.int 0)) (.ix (.var 0) (.int 1))))]
/-! wrong_in_flashes: 0 value, 1 most, 2 index, 3 each -/
def N_wrong_in_flashes : List Str := ["value", "most", "index", "each"]
def b_wrong_in_flashes : List Sx := [
  .ite (.not (.call 12 [(.var 0), (.int 1), (.var 1)])) [.ret (.lst [.non])] [],
  .for_ (.t [(.n 2), (.n 3)]) (.enum (.var 0)) [.ite (.or [(.not (.call 18 [(.var 3)])), (.and [(.cmp .Gt (.var 2) (.int 0)), (.not (.call 19 [(.ix (.var 0) (.bin .Sub (.var 2) (.int 1))), (.var 3)]))])]) [.ret (.lst [(.var 2)])] []],
  .ret (.lst [])]
/-! check_flashes: 0 flashes, 1 index -/
def N_check_flashes : List Str := ["flashes", "index"]
def b_check_flashes : List Sx := [
  .for_ (.n 1) (.callD 20 [(.var 0)] 12) [.never]]
/-! is_whole_one: 0 fraction -/
def N_is_whole_one : List Str := ["fraction"]
def b_is_whole_one : List Sx := [
  .ret (.cmp .Eq (.ix (.var 0) (.int 1)) (.int 1))]
/-! plain_of: 0 number, 1 divisor, 2 common -/
def N_plain_of : List Str := ["number", "divisor", "common"]
def b_plain_of : List Sx := [
  .asg (.n 2) (.ite (.cmp .Gt (.var 1) (.int 0)) (.blt .gcd [(.var 0), (.var 1)]) (.neg (.blt .gcd [(.var 0), (.var 1)]))),
  .ret (.tup [(.bin .FloorDiv (.var 0) (.var 2)), (.bin .FloorDiv (.var 1) (.var 2))])]
/-! over: 0 one, 1 other -/
def N_over : List Str := ["one", "other"]
def b_over : List Sx := [
  .ret (.call 23 [(.bin .Mult (.ix (.var 0) (.int 0)) (.ix (.var 1) (.int 1))), (.bin .Mult (.ix (.var 0) (.int 1)) (.ix (.var 1) (.int 0)))])]
/-! is_multiple: 0 fraction, 1 measure -/
def N_is_multiple : List Str := ["fraction", "measure"]
def b_is_multiple : List Sx := [
  .ite (.cmp .Eq (.var 1) (.cst 0)) [.ret (.cmp .Eq (.var 0) (.cst 0))] [],
  .ret (.call 22 [(.call 24 [(.var 0), (.var 1)])])]
/-! measure_of_two: 0 one, 1 other -/
def N_measure_of_two : List Str := ["one", "other"]
def b_measure_of_two : List Sx := [
  .ret (.call 23 [(.blt .gcd [(.bin .Mult (.ix (.var 0) (.int 0)) (.ix (.var 1) (.int 1))), (.bin .Mult (.ix (.var 1) (.int 0)) (.ix (.var 0) (.int 1)))]), (.bin .Mult (.ix (.var 0) (.int 1)) (.ix (.var 1) (.int 1)))])]
/-! measure_by: 0 fractions, 1 found, 2 fraction -/
def N_measure_by : List Str := ["fractions", "found", "fraction"]
def b_measure_by : List Sx := [
  .asg (.n 1) (.cst 0),
  .for_ (.n 2) (.var 0) [.asg (.n 1) (.call 26 [(.var 1), (.var 2)])],
  .ret (.var 1)]
/-! plus: 0 one, 1 other -/
def N_plus : List Str := ["one", "other"]
def b_plus : List Sx := [
  .ret (.call 23 [(.bin .Add (.bin .Mult (.ix (.var 0) (.int 0)) (.ix (.var 1) (.int 1))) (.bin .Mult (.ix (.var 1) (.int 0)) (.ix (.var 0) (.int 1)))), (.bin .Mult (.ix (.var 0) (.int 1)) (.ix (.var 1) (.int 1)))])]
/-! negative: 0 fraction -/
def N_negative : List Str := ["fraction"]
def b_negative : List Sx := [
  .ret (.tup [(.neg (.ix (.var 0) (.int 0))), (.ix (.var 0) (.int 1))])]
/-! minus: 0 one, 1 other -/
def N_minus : List Str := ["one", "other"]
def b_minus : List Sx := [
  .ret (.call 28 [(.var 0), (.call 29 [(.var 1)])])]
/-! flash_measure_by: 0 flashes, 1 time -/
def N_flash_measure_by : List Str := ["flashes", "time"]
def b_flash_measure_by : List Sx := [
  .ret (.call 27 [(.lc (.call 30 [(.var 1), (.ix (.var 0) (.int 0))]) (.n 1) (.sl (.var 0) (.int 1) .no) [] [1])])]
/-! tell_as_much_by: 0 flashes, 1 other -/
def N_tell_as_much_by : List Str := ["flashes", "other"]
def b_tell_as_much_by : List Sx := [
  .ret (.call 25 [(.call 31 [(.var 1)]), (.call 31 [(.var 0)])])]
/-! tell_as_much: 0 flashes, 1 other -/
def N_tell_as_much : List Str := ["flashes", "other"]
def b_tell_as_much : List Sx := [
  .expr (.call 21 [(.var 0)]),
  .expr (.call 21 [(.var 1)]),
  .ret (.call 32 [(.var 0), (.var 1)])]
/-! law_plus: 0 one, 1 two -/
def N_law_plus : List Str := ["one", "two"]
def b_law_plus : List Sx := [
  .ret (.call 2 [(.bin .Add (.bin .Mult (.ix (.var 0) (.int 0)) (.ix (.var 1) (.int 1))) (.bin .Mult (.ix (.var 1) (.int 0)) (.ix (.var 0) (.int 1)))), (.bin .Mult (.ix (.var 0) (.int 1)) (.ix (.var 1) (.int 1)))])]
/-! law_same_0: 0 told, 1 due, 2 at -/
def N_law_same_0 : List Str := ["told", "due", "at"]
def b_law_same_0 : List Sx := [
  .ite (.or [(.and [(.isi (.var 1) ["tuple"]), (.not (.isi (.var 0) ["tuple"]))]), (.and [(.isi (.var 1) ["list"]), (.not (.isi (.var 0) ["list"]))])]) [.ret (.bl false)] [],
  .ite (.isi (.var 1) ["tuple", "list"]) [.never] [],
  .ite (.or [(.cmp .Is (.var 1) .non), (.cmp .Is (.var 0) .non)]) [.ret (.and [(.cmp .Is (.var 1) .non), (.cmp .Is (.var 0) .non)])] [],
  .ite (.or [(.isi (.var 1) ["bool"]), (.isi (.var 0) ["bool"])]) [.ret (.and [(.isi (.var 1) ["bool"]), (.isi (.var 0) ["bool"]), (.cmp .Eq (.var 1) (.var 0))])] [],
  .ite (.isi (.var 1) ["int"]) [.ret (.and [(.isi (.var 0) ["int"]), (.cmp .Eq (.var 0) (.var 1))])] [],
  .ite (.isi (.var 1) ["str"]) [.ret (.and [(.isi (.var 0) ["str"]), (.cmp .Eq (.var 0) (.var 1))])] [],
  .ret (.and [(.isi (.var 1) ["dict"]), (.isi (.var 0) ["dict"]), (.cmp .Eq (.blt .len [(.var 0)]) (.blt .len [(.var 1)])), (.cmp .Eq (.var 0) (.var 1))])]
/-! law_same_1: 0 told, 1 due, 2 at -/
def N_law_same_1 : List Str := ["told", "due", "at"]
def b_law_same_1 : List Sx := [
  .ite (.or [(.and [(.isi (.var 1) ["tuple"]), (.not (.isi (.var 0) ["tuple"]))]), (.and [(.isi (.var 1) ["list"]), (.not (.isi (.var 0) ["list"]))])]) [.ret (.bl false)] [],
  .ite (.isi (.var 1) ["tuple", "list"]) [.ret (.and [(.cmp .Eq (.blt .len [(.var 0)]) (.blt .len [(.var 1)])), (.blt .all [(.lc (.call 35 [(.ix (.var 0) (.var 2)), (.ix (.var 1) (.var 2))]) (.n 2) (.rng [(.blt .len [(.var 1)])]) [] [2])])])] [],
  .ite (.or [(.cmp .Is (.var 1) .non), (.cmp .Is (.var 0) .non)]) [.ret (.and [(.cmp .Is (.var 1) .non), (.cmp .Is (.var 0) .non)])] [],
  .ite (.or [(.isi (.var 1) ["bool"]), (.isi (.var 0) ["bool"])]) [.ret (.and [(.isi (.var 1) ["bool"]), (.isi (.var 0) ["bool"]), (.cmp .Eq (.var 1) (.var 0))])] [],
  .ite (.isi (.var 1) ["int"]) [.ret (.and [(.isi (.var 0) ["int"]), (.cmp .Eq (.var 0) (.var 1))])] [],
  .ite (.isi (.var 1) ["str"]) [.ret (.and [(.isi (.var 0) ["str"]), (.cmp .Eq (.var 0) (.var 1))])] [],
  .ret (.and [(.isi (.var 1) ["dict"]), (.isi (.var 0) ["dict"]), (.cmp .Eq (.blt .len [(.var 0)]) (.blt .len [(.var 1)])), (.cmp .Eq (.var 0) (.var 1))])]
/-! law_same_2: 0 told, 1 due, 2 at -/
def N_law_same_2 : List Str := ["told", "due", "at"]
def b_law_same_2 : List Sx := [
  .ite (.or [(.and [(.isi (.var 1) ["tuple"]), (.not (.isi (.var 0) ["tuple"]))]), (.and [(.isi (.var 1) ["list"]), (.not (.isi (.var 0) ["list"]))])]) [.ret (.bl false)] [],
  .ite (.isi (.var 1) ["tuple", "list"]) [.ret (.and [(.cmp .Eq (.blt .len [(.var 0)]) (.blt .len [(.var 1)])), (.blt .all [(.lc (.call 36 [(.ix (.var 0) (.var 2)), (.ix (.var 1) (.var 2))]) (.n 2) (.rng [(.blt .len [(.var 1)])]) [] [2])])])] [],
  .ite (.or [(.cmp .Is (.var 1) .non), (.cmp .Is (.var 0) .non)]) [.ret (.and [(.cmp .Is (.var 1) .non), (.cmp .Is (.var 0) .non)])] [],
  .ite (.or [(.isi (.var 1) ["bool"]), (.isi (.var 0) ["bool"])]) [.ret (.and [(.isi (.var 1) ["bool"]), (.isi (.var 0) ["bool"]), (.cmp .Eq (.var 1) (.var 0))])] [],
  .ite (.isi (.var 1) ["int"]) [.ret (.and [(.isi (.var 0) ["int"]), (.cmp .Eq (.var 0) (.var 1))])] [],
  .ite (.isi (.var 1) ["str"]) [.ret (.and [(.isi (.var 0) ["str"]), (.cmp .Eq (.var 0) (.var 1))])] [],
  .ret (.and [(.isi (.var 1) ["dict"]), (.isi (.var 0) ["dict"]), (.cmp .Eq (.blt .len [(.var 0)]) (.blt .len [(.var 1)])), (.cmp .Eq (.var 0) (.var 1))])]
/-! law_order: 0 well -/
def N_law_order : List Str := ["well"]
def b_law_order : List Sx := [
  .ret (.call 1 [(.var 0), (.tup [(.int 1), (.int 1), (.int 2), (.int 3), (.int 4), (.int 24)])])]
/-! law_fraction: 0 well -/
def N_law_fraction : List Str := ["well"]
def b_law_fraction : List Sx := [
  .ret (.call 2 [(.bin .Sub (.call 0 [(.var 0), (.int 25)]) (.int 12)), (.bin .Add (.int 1) (.call 0 [(.var 0), (.call 1 [(.var 0), (.tup [(.int 1), (.int 4), (.int 12)])])]))])]
/-! law_step: 0 order, 1 flashes, 2 measure -/
def N_law_step : List Str := ["order", "flashes", "measure"]
def b_law_step : List Sx := [
  .asg (.n 2) (.call 10 [(.var 1)]),
  .ret (.ite (.cmp .Gt (.ix (.var 2) (.int 0)) (.int 0)) (.call 7 [(.tup [(.int 1), (.var 0)]), (.var 2)]) (.tup [(.int 0), (.int 1)]))]
/-! is_between: 0 value, 1 low, 2 high -/
def N_is_between : List Str := ["value", "low", "high"]
def b_is_between : List Sx := [
  .ret (.and [(.call 15 [(.var 0)]), (.chain .LtE .LtE (.var 1) (.var 0) (.var 2))])]
/-! is_order_of: 0 value -/
def N_is_order_of : List Str := ["value"]
def b_is_order_of : List Sx := [
  .ret (.call 41 [(.var 0), (.int 1), (.cst 1)])]
/-! check_order: 0 order -/
def N_check_order : List Str := ["order"]
def b_check_order : List Sx := [
  .ite (.not (.call 42 [(.var 0)])) [.never] []]
/-! check_lit: 0 order, 1 flashes -/
def N_check_lit : List Str := ["order", "flashes"]
def b_check_lit : List Sx := [
  .expr (.call 43 [(.var 0)]),
  .expr (.call 21 [(.var 1)])]
/-! check_fraction: 0 value -/
def N_check_fraction : List Str := ["value"]
def b_check_fraction : List Sx := [
  .ite (.not (.call 17 [(.var 0)])) [.never] []]
/-! times: 0 one, 1 other -/
def N_times : List Str := ["one", "other"]
def b_times : List Sx := [
  .ret (.call 23 [(.bin .Mult (.ix (.var 0) (.int 0)) (.ix (.var 1) (.int 0))), (.bin .Mult (.ix (.var 0) (.int 1)) (.ix (.var 1) (.int 1)))])]
/-! whole: 0 number -/
def N_whole : List Str := ["number"]
def b_whole : List Sx := [
  .ret (.tup [(.var 0), (.int 1)])]
/-! rate_step_by: 0 order, 1 flashes, 2 found -/
def N_rate_step_by : List Str := ["order", "flashes", "found"]
def b_rate_step_by : List Sx := [
  .asg (.n 2) (.call 46 [(.call 47 [(.var 0)]), (.call 31 [(.var 1)])]),
  .ret (.ite (.cmp .NotEq (.var 2) (.cst 0)) (.call 24 [(.tup [(.int 1), (.int 1)]), (.var 2)]) (.cst 0))]
/-! are_alike_by: 0 order, 1 flashes, 2 rate, 3 other, 4 step -/
def N_are_alike_by : List Str := ["order", "flashes", "rate", "other", "step"]
def b_are_alike_by : List Sx := [
  .asg (.n 4) (.call 48 [(.var 0), (.var 1)]),
  .ret (.or [(.cmp .Eq (.var 4) (.cst 0)), (.call 25 [(.call 30 [(.var 2), (.var 3)]), (.var 4)])])]
/-! are_alike: 0 order, 1 flashes, 2 rate, 3 other -/
def N_are_alike : List Str := ["order", "flashes", "rate", "other"]
def b_are_alike : List Sx := [
  .expr (.call 44 [(.var 0), (.var 1)]),
  .expr (.call 45 [(.var 2)]),
  .expr (.call 45 [(.var 3)]),
  .ret (.call 49 [(.var 0), (.var 1), (.var 2), (.var 3)])]
/-! flash_measure: 0 flashes -/
def N_flash_measure : List Str := ["flashes"]
def b_flash_measure : List Sx := [
  .expr (.call 21 [(.var 0)]),
  .ret (.call 31 [(.var 0)])]
/-! law_is_told: 0 well, 1 one, 2 two, 3 due, 4 told, 5 order, 6 rate, 7 step, 8 other -/
def N_law_is_told : List Str := ["well", "one", "two", "due", "told", "order", "rate", "step", "other"]
def b_law_is_told : List Sx := [
  .asg (.n 3) (.call 11 [(.var 1), (.var 2)]),
  .asg (.n 4) (.ite (.cmp .Eq (.call 0 [(.var 0), (.int 2)]) (.int 0)) (.call 33 [(.var 1), (.var 2)]) (.callK 33 [] [(.var 2), (.var 1)] [1, 0])),
  .ite (.not (.call 37 [(.lst [(.var 4), (.call 51 [(.var 1)])]), (.lst [(.var 3), (.call 10 [(.var 1)])])])) [.ret (.bl false)] [],
  .par [(5, false), (6, false)] [(.call 38 [(.var 0)]), (.call 39 [(.var 0)])],
  .asg (.n 7) (.ite (.cmp .Gt (.blt .len [(.var 1)]) (.int 1)) (.call 40 [(.var 5), (.var 1)]) (.call 2 [(.bin .Add (.int 1) (.call 0 [(.var 0), (.int 9)])), (.int 7)])),
  .asg (.n 8) (.call 34 [(.var 6), (.call 5 [(.tup [(.bin .Sub (.call 0 [(.var 0), (.int 9)]) (.int 4)), (.int 1)]), (.var 7)])]),
  .ite (.and [(.var 3), (.cmp .Is (.call 50 [(.var 5), (.var 1), (.var 6), (.var 8)]) (.bl true)), (.cmp .IsNot (.call 50 [(.var 5), (.var 2), (.var 6), (.var 8)]) (.bl true))]) [.ret (.bl false)] [],
  .ite (.and [(.not (.var 3)), (.cmp .Gt (.blt .len [(.var 1)]) (.int 1))]) [.asg (.n 7) (.call 40 [(.int 1), (.var 1)]), .ret (.and [(.cmp .Is (.call 50 [(.int 1), (.var 1), (.var 6), (.call 34 [(.var 6), (.var 7)])]) (.bl true)), (.cmp .Is (.call 50 [(.int 1), (.var 2), (.var 6), (.call 34 [(.var 6), (.var 7)])]) (.bl false))])] [],
  .ret (.cmp .Is (.call 33 [(.var 1), (.var 1)]) (.bl true))]
/-! law_right: 0 well, 1 turn, 2 one, 3 shift, 4 times_v, 5 moved, 6 some, 7 two, 8 three, 9 time -/
def N_law_right : List Str := ["well", "turn", "one", "shift", "times_v", "moved", "some", "two", "three", "time"]
def b_law_right : List Sx := [
  .for_ (.n 1) (.rng [(.int 18)]) [.asg (.n 2) (.call 3 [(.var 0), (.int 6)]), .asg (.t [(.n 3), (.n 4)]) (.tup [(.call 2 [(.call 0 [(.var 0), (.int 9)]), (.bin .Add (.int 1) (.call 0 [(.var 0), (.int 3)]))]), (.bin .Add (.int 1) (.call 0 [(.var 0), (.int 4)]))]), .asg (.n 5) (.blt .tuple [(.lc (.call 34 [(.call 5 [(.tup [(.var 4), (.int 1)]), (.var 9)]), (.var 3)]) (.n 9) (.var 2) [] [9])]), .asg (.n 6) (.blt .tuple [(.lc (.var 9) (.n 9) (.var 2) [(.cmp .Gt (.call 0 [(.var 0), (.int 3)]) (.int 0))] [9])]), .asg (.n 7) (.call 1 [(.var 0), (.tup [(.var 5), (.ite (.cmp .NotEq (.var 6) (.tup [])) (.var 6) (.sl (.var 2) .no (.int 1))), (.call 3 [(.var 0), (.int 4)]), (.call 3 [(.var 0), (.int 2)])])]), .ite (.or [(.not (.call 52 [(.var 0), (.var 2), (.var 7)])), (.not (.call 52 [(.var 0), (.var 7), (.var 2)])), (.cmp .IsNot (.call 33 [(.var 2), (.ite (.cmp .NotEq (.var 6) (.tup [])) (.var 6) (.var 2))]) (.bl true))]) [.ret (.bl false)] [], .asg (.n 8) (.call 3 [(.var 0), (.int 3)]), .ite (.and [(.call 11 [(.var 2), (.var 7)]), (.call 11 [(.var 7), (.var 8)]), (.cmp .IsNot (.call 33 [(.var 2), (.var 8)]) (.bl true))]) [.ret (.bl false)] []],
  .ret (.cmp .Eq (.lst [(.call 33 [(.tup [(.tup [(.int 5), (.int 1)])]), (.tup [(.tup [(.int 0), (.int 1)])])]), (.call 33 [(.tup [(.tup [(.int 5), (.int 1)])]), (.tup [(.tup [(.int 0), (.int 1)]), (.tup [(.int 1), (.int 1)])])]), (.call 33 [(.tup [(.tup [(.int 0), (.int 1)]), (.tup [(.int 2), (.int 1)])]), (.tup [(.tup [(.int 3), (.int 1)]), (.tup [(.int 9), (.int 1)])])])]) (.lst [(.bl true), (.bl false), (.bl true)]))]
/-! law_well: 0 script, 1 lap, 2 own, 3 stir, 4 each -/
def N_law_well : List Str := ["script", "lap", "own", "stir", "each"]
def b_law_well : List Sx := [
  .asg (.n 2) (.ite (.cmp .Lt (.var 1) (.blt .len [(.var 0)])) (.blt .int [(.ix (.var 0) (.var 1))]) (.int 0)),
  .asg (.n 3) (.bin .Add (.int 52027) (.bin .Mult (.int 6971) (.var 1))),
  .for_ (.n 4) (.bin .Add (.sl (.var 0) .no (.int 8)) (.lst [(.var 2)])) [.asg (.n 3) (.bin .Mod (.blt .int [(.bin .Add (.bin .Add (.bin .Mult (.var 3) (.int 44497)) (.bin .Mod (.blt .int [(.var 4)]) (.int 2147483587))) (.int 29))]) (.int 2147483563))],
  .retP (.lst [(.ite (.or [(.cmp .Lt (.var 2) (.int 0)), (.cmp .GtE (.var 2) (.bin .Pow (.int 10) (.int 18)))]) (.blt .abs [(.var 2)]) (.int 0)), (.var 3), (.int 0)])]
/-! law: 0 script, 1 lap -/
def N_law : List Str := ["script", "lap"]
def b_law : List Sx := [
  .ret (.blt .all [(.lc (.call 53 [(.call 54 [(.var 0), (.var 1)])]) (.n 1) (.rng [(.blt .max [(.int 2), (.blt .min [(.blt .len [(.var 0)]), (.int 3)])])]) [] [1])])]
def sp_law_take : Fw.Spec := mk (fun m : Int => [.pool, .int m]) (fun m => 0 < m ∧ Bt 8000 m) fun m p => ∃ r, p = .int r ∧ 0 ≤ r ∧ r < m
def sp_law_of : Fw.Spec := mk (fun xs : List P => [.pool, .tup xs]) (fun xs => xs ≠ [] ∧ xs.length ≤ 1000) fun xs p => p ∈ xs
def sp_law_part : Fw.Spec := mkD (fun a : Int × Int => [.int a.1, .int a.2]) (fun a => a.2 ≠ 0 ∧ Bt 8000 a.1 ∧ Bt 8000 a.2) fun a => fr a.1 a.2
def sp_law_flashes : Fw.Spec := mk (fun m : Int => [.pool, .int m]) (fun m => 1 ≤ m ∧ m ≤ 12) fun m p => ∃ l : List Rat, p = .tup (l.map frq) ∧ okG l ∧ (l.length : Int) ≤ m ∧ okB l
def sp_law_less : Fw.Spec := mkD (fun a : Rat × Rat => [frq a.1, frq a.2]) (fun a => Sz 3900 a.1 ∧ Sz 3900 a.2) fun a => frq (a.1 - a.2)
def sp_law_by : Fw.Spec := mkD (fun a : Rat × Rat => [frq a.1, frq a.2]) (fun a => Sz 3900 a.1 ∧ Sz 3900 a.2) fun a => frq (a.1 * a.2)
def sp_law_floor : Fw.Spec := mkD (fun q : Rat => [frq q]) (fun q => Bt 8000 q.den) fun q => .int q.floor
def sp_law_over : Fw.Spec := mkD (fun a : Rat × Rat => [frq a.1, frq a.2]) (fun a => a.2 ≠ 0 ∧ Sz 3900 a.1 ∧ Sz 3900 a.2) fun a => frq (a.1 / a.2)
def sp_law_rest : Fw.Spec := mkD (fun a : Rat × Rat => [frq a.1, frq a.2]) (fun a => 0 < a.2 ∧ Sz 900 a.1 ∧ Sz 900 a.2) fun a => frq (rmd a.1 a.2)
def sp_law_measure : Fw.Spec := mkD (fun a : P × List Rat => [a.1]) (fun a => elems a.1 = some (a.2.map frq) ∧ ∃ D : Int, 0 < D ∧ D < 2 ^ 200 ∧ ∀ q ∈ a.2, ∃ y : Int, q = (y : Rat) / (D : Rat) ∧ y.natAbs < 2 ^ 200) fun a => frq (qms a.2)
def sp_law_flash_measure : Fw.Spec := mkD (fun l : List Rat => [.tup (l.map frq)]) (fun l => okG l) fun l => frq (fms l)
def sp_law_tell_as_much : Fw.Spec := mkD (fun a : List Rat × List Rat => [.tup (a.1.map frq), .tup (a.2.map frq)]) (fun a => okG a.1 ∧ okG a.2) fun a => .bl (decide (tam (fms a.1) (fms a.2)))
def sp_is_tuple_up_to : Fw.Spec := mkD (fun a : P × Int × Int => [a.1, .int a.2.1, .int a.2.2]) (fun a => pl a.1 = true) fun a => .bl (isTup a.1 && decide (a.2.1 ≤ len0 a.1) && decide (len0 a.1 ≤ a.2.2))
def sp_is_tuple_of : Fw.Spec := mkD (fun a : P × Int => [a.1, .int a.2]) (fun a => pl a.1 = true) fun a => .bl (isTup a.1 && decide (len0 a.1 = a.2))
def sp_is_pair : Fw.Spec := mkD (fun a : P => [a]) (fun a => pl a = true) fun a => .bl (isTup a && decide (len0 a = 2))
def sp_is_whole : Fw.Spec := mkD (fun p : P => [p]) (fun p => pl p = true) fun p => .bl (isInt p)
def sp_is_from : Fw.Spec := mkD (fun a : P × Int => [a.1, .int a.2]) (fun a => pl a.1 = true) fun a => .bl (geP a.2 a.1)
def sp_is_fraction_of : Fw.Spec := mkD (fun p : P => [p]) (fun p => pl2 p = true) fun p => .bl (isFrac p)
def sp_is_time_of : Fw.Spec := mkD (fun q : Rat => [frq q]) (fun q => 0 ≤ q) fun _ => .bl true
def sp_is_less : Fw.Spec := mkD (fun a : Rat × Rat => [frq a.1, frq a.2]) (fun a => Sz 3000 a.1 ∧ Sz 3000 a.2) fun a => .bl (decide (a.1 < a.2))
def sp_wrong_in_flashes : Fw.Spec := mkD (fun a : List Rat × Int => [.tup (a.1.map frq), .int a.2]) (fun a => okG a.1 ∧ (a.1.length : Int) ≤ a.2) fun _ => .lst []
def sp_check_flashes : Fw.Spec := mkD (fun l : List Rat => [.tup (l.map frq)]) (fun l => okG l) fun _ => .non
def sp_is_whole_one : Fw.Spec := mkD (fun q : Rat => [frq q]) (fun _ => True) fun q => .bl (decide (isZ q))
def sp_plain_of : Fw.Spec := mkD (fun a : Int × Int => [.int a.1, .int a.2]) (fun a => a.2 ≠ 0 ∧ Bt 8000 a.1 ∧ Bt 8000 a.2) fun a => fr a.1 a.2
def sp_over : Fw.Spec := mkD (fun a : Rat × Rat => [frq a.1, frq a.2]) (fun a => a.2 ≠ 0 ∧ Sz 3000 a.1 ∧ Sz 3000 a.2) fun a => frq (a.1 / a.2)
def sp_is_multiple : Fw.Spec := mkD (fun a : Rat × Rat => [frq a.1, frq a.2]) (fun a => Sz 3000 a.1 ∧ Sz 3000 a.2) fun a => .bl (decide (tam a.2 a.1))
def sp_measure_of_two : Fw.Spec := mkD (fun a : Rat × Rat => [frq a.1, frq a.2]) (fun a => Sz 3000 a.1 ∧ Sz 3000 a.2) fun a => frq (qg a.1 a.2)
def sp_measure_by : Fw.Spec := mkD (fun a : P × List Rat => [a.1]) (fun a => elems a.1 = some (a.2.map frq) ∧ SzL a.2) fun a => frq (qms a.2)
def sp_plus : Fw.Spec := mkD (fun a : Rat × Rat => [frq a.1, frq a.2]) (fun a => Sz 3000 a.1 ∧ Sz 3000 a.2) fun a => frq (a.1 + a.2)
def sp_negative : Fw.Spec := mkD (fun a : Rat => [frq a]) (fun _ => True) fun a => frq (-a)
def sp_minus : Fw.Spec := mkD (fun a : Rat × Rat => [frq a.1, frq a.2]) (fun a => Sz 3000 a.1 ∧ Sz 3000 a.2) fun a => frq (a.1 - a.2)
def sp_flash_measure_by : Fw.Spec := mkD (fun l : List Rat => [.tup (l.map frq)]) (fun l => okG l) fun l => frq (fms l)
def sp_tell_as_much_by : Fw.Spec := mkD (fun a : List Rat × List Rat => [.tup (a.1.map frq), .tup (a.2.map frq)]) (fun a => okG a.1 ∧ okG a.2) fun a => .bl (decide (tam (fms a.1) (fms a.2)))
def sp_tell_as_much : Fw.Spec := sp_tell_as_much_by
def sp_law_plus : Fw.Spec := mkD (fun a : Rat × Rat => [frq a.1, frq a.2]) (fun a => Sz 3900 a.1 ∧ Sz 3900 a.2) fun a => frq (a.1 + a.2)
def sp_law_same_0 : Fw.Spec := mkD (fun p : P => [p, p]) (fun p => depg 0 p = true) fun _ => .bl true
def sp_law_same_1 : Fw.Spec := mkD (fun p : P => [p, p]) (fun p => depg 1 p = true) fun _ => .bl true
def sp_law_same_2 : Fw.Spec := mkD (fun p : P => [p, p]) (fun p => depg 2 p = true) fun _ => .bl true
def sp_law_order : Fw.Spec := mk (fun _ : Unit => [.pool]) (fun _ => True) fun _ p => ∃ n : Int, p = .int n ∧ 1 ≤ n ∧ n ≤ 24
def sp_law_fraction : Fw.Spec := mk (fun _ : Unit => [.pool]) (fun _ => True) fun _ p => ∃ q : Rat, p = frq q ∧ Sz 5 q ∧ q.num.natAbs ≤ 12 ∧ q.den ≤ 12
def sp_law_step : Fw.Spec := mkD (fun a : Int × List Rat => [.int a.1, .tup (a.2.map frq)]) (fun a => 1 ≤ a.1 ∧ a.1 ≤ 24 ∧ okG a.2) fun a => frq (rst a.1 a.2)
def sp_is_between : Fw.Spec := mkD (fun a : Int × Int × Int => [.int a.1, .int a.2.1, .int a.2.2]) (fun _ => True) fun a => .bl (decide (a.2.1 ≤ a.1) && decide (a.1 ≤ a.2.2))
def sp_is_order_of : Fw.Spec := mkD (fun a : Int => [.int a]) (fun _ => True) fun a => .bl (decide (1 ≤ a) && decide (a ≤ 24))
def sp_check_order : Fw.Spec := mkD (fun a : Int => [.int a]) (fun a => 1 ≤ a ∧ a ≤ 24) fun _ => .non
def sp_check_lit : Fw.Spec := mkD (fun a : Int × List Rat => [.int a.1, .tup (a.2.map frq)]) (fun a => 1 ≤ a.1 ∧ a.1 ≤ 24 ∧ okG a.2) fun _ => .non
def sp_check_fraction : Fw.Spec := mkD (fun a : Rat => [frq a]) (fun _ => True) fun _ => .non
def sp_times : Fw.Spec := mkD (fun a : Rat × Rat => [frq a.1, frq a.2]) (fun a => Sz 3000 a.1 ∧ Sz 3000 a.2) fun a => frq (a.1 * a.2)
def sp_whole : Fw.Spec := mkD (fun i : Int => [.int i]) (fun _ => True) fun i => frq (i : Rat)
def sp_rate_step_by : Fw.Spec := mkD (fun a : Int × List Rat => [.int a.1, .tup (a.2.map frq)]) (fun a => 1 ≤ a.1 ∧ a.1 ≤ 24 ∧ okG a.2) fun a => frq (rst a.1 a.2)
def sp_are_alike_by : Fw.Spec := mkD (fun a : Int × List Rat × Rat × Rat => [.int a.1, .tup (a.2.1.map frq), frq a.2.2.1, frq a.2.2.2]) (fun a => 1 ≤ a.1 ∧ a.1 ≤ 24 ∧ okG a.2.1 ∧ Sz 300 a.2.2.1 ∧ Sz 300 a.2.2.2) fun a => .bl (decide (rst a.1 a.2.1 = 0 ∨ isZ ((a.2.2.1 - a.2.2.2) / rst a.1 a.2.1)))
def sp_are_alike : Fw.Spec := sp_are_alike_by
def sp_flash_measure : Fw.Spec := mkD (fun l : List Rat => [.tup (l.map frq)]) (fun l => okG l) fun l => frq (fms l)
def sp_law_is_told : Fw.Spec := mkD (fun a : List Rat × List Rat => [.pool, .tup (a.1.map frq), .tup (a.2.map frq)]) (fun a => okG a.1 ∧ okG a.2) fun _ => .bl true
def sp_law_right : Fw.Spec := mkD (fun _ : Unit => [.pool]) (fun _ => True) fun _ => .bl true
def sp_law_well : Fw.Spec := mkD (fun a : List Int × Int => [.scr a.1, .int a.2]) (fun a => 0 ≤ a.2 ∧ a.2 < 10) fun _ => .pool
def sp_law : Fw.Spec := mkD (fun a : List Int => [.scr a]) (fun a => a.length ≤ 63) fun _ => .bl true

def tfn : Nat → Fw.Spec
  | 0 => sp_law_take
  | 1 => sp_law_of
  | 2 => sp_law_part
  | 3 => sp_law_flashes
  | 4 => sp_law_less
  | 5 => sp_law_by
  | 6 => sp_law_floor
  | 7 => sp_law_over
  | 8 => sp_law_rest
  | 9 => sp_law_measure
  | 10 => sp_law_flash_measure
  | 11 => sp_law_tell_as_much
  | 12 => sp_is_tuple_up_to
  | 13 => sp_is_tuple_of
  | 14 => sp_is_pair
  | 15 => sp_is_whole
  | 16 => sp_is_from
  | 17 => sp_is_fraction_of
  | 18 => sp_is_time_of
  | 19 => sp_is_less
  | 20 => sp_wrong_in_flashes
  | 21 => sp_check_flashes
  | 22 => sp_is_whole_one
  | 23 => sp_plain_of
  | 24 => sp_over
  | 25 => sp_is_multiple
  | 26 => sp_measure_of_two
  | 27 => sp_measure_by
  | 28 => sp_plus
  | 29 => sp_negative
  | 30 => sp_minus
  | 31 => sp_flash_measure_by
  | 32 => sp_tell_as_much_by
  | 33 => sp_tell_as_much
  | 34 => sp_law_plus
  | 35 => sp_law_same_0
  | 36 => sp_law_same_1
  | 37 => sp_law_same_2
  | 38 => sp_law_order
  | 39 => sp_law_fraction
  | 40 => sp_law_step
  | 41 => sp_is_between
  | 42 => sp_is_order_of
  | 43 => sp_check_order
  | 44 => sp_check_lit
  | 45 => sp_check_fraction
  | 46 => sp_times
  | 47 => sp_whole
  | 48 => sp_rate_step_by
  | 49 => sp_are_alike_by
  | 50 => sp_are_alike
  | 51 => sp_flash_measure
  | 52 => sp_law_is_told
  | 53 => sp_law_right
  | 54 => sp_law_well
  | 55 => sp_law
  | _ => fun _ _ _ => False
def T : Tab where
  fn := tfn
  nm := fun i => ([("_law_take" : Str), ("_law_of" : Str), ("_law_part" : Str), ("_law_flashes" : Str), ("_law_less" : Str), ("_law_by" : Str), ("_law_floor" : Str), ("_law_over" : Str), ("_law_rest" : Str), ("_law_measure" : Str), ("_law_flash_measure" : Str), ("_law_tell_as_much" : Str), ("is_tuple_up_to" : Str), ("is_tuple_of" : Str), ("is_pair" : Str), ("is_whole" : Str), ("is_from" : Str), ("is_fraction_of" : Str), ("is_time_of" : Str), ("is_less" : Str), ("wrong_in_flashes" : Str), ("check_flashes" : Str), ("is_whole_one" : Str), ("plain_of" : Str), ("over" : Str), ("is_multiple" : Str), ("measure_of_two" : Str), ("measure_by" : Str), ("plus" : Str), ("negative" : Str), ("minus" : Str), ("flash_measure_by" : Str), ("tell_as_much_by" : Str), ("tell_as_much" : Str), ("_law_plus" : Str), ("_law_same" : Str), ("_law_same" : Str), ("_law_same" : Str), ("_law_order" : Str), ("_law_fraction" : Str), ("_law_step" : Str), ("is_between" : Str), ("is_order_of" : Str), ("check_order" : Str), ("check_lit" : Str), ("check_fraction" : Str), ("times" : Str), ("whole" : Str), ("rate_step_by" : Str), ("are_alike_by" : Str), ("are_alike" : Str), ("flash_measure" : Str), ("_law_is_told" : Str), ("_law_right" : Str), ("_law_well" : Str), ("law" : Str)] : List Str).getD i ""
  np := fun i => ([2, 2, 2, 2, 2, 2, 1, 2, 2, 1, 1, 2, 3, 2, 1, 1, 2, 1, 1, 2, 2, 1, 1, 2, 2, 2, 2, 1, 2, 1, 2, 1, 2, 2, 2, 2, 2, 2, 1, 1, 2, 3, 1, 1, 2, 1, 2, 1, 2, 4, 4, 1, 3, 1, 2, 1] : List Nat).getD i 0
  nf := 56
  cn := fun i => ([("NOUGHT" : Str), ("MOST_ORDER" : Str)] : List Str).getD i ""
  cv := fun i => ([.tup [.int 0, .int 1], .int 24] : List P).getD i .non
  xn := fun _ => ""
  xs := fun _ _ => none
def M : Mk where
  nx := 0
  rz := []
  nc := 2
  gcd := true
  bo := fun i => ([[], [], [], [], [], [], [], [], [], [], [], [], [], [], [], [], [], [], [], [], [], [], [], [], [], [], [], [], [], [], [], [], [], [], [], [], [], [], [], [], [], [], [], [], [], [], [], [], [], [], [], [], [], [], [], []] : List (List Nat)).getD i []
  kws := [(33, 0, ["other", "flashes"], [1, 0])]
  dfl := [(20, 12)]
theorem tn_0 {k : Nat} : (T.upto k).fn 0 = sp_law_take := rfl
theorem tn_1 {k : Nat} : (T.upto k).fn 1 = sp_law_of := rfl
theorem tn_2 {k : Nat} : (T.upto k).fn 2 = sp_law_part := rfl
theorem tn_3 {k : Nat} : (T.upto k).fn 3 = sp_law_flashes := rfl
theorem tn_4 {k : Nat} : (T.upto k).fn 4 = sp_law_less := rfl
theorem tn_5 {k : Nat} : (T.upto k).fn 5 = sp_law_by := rfl
theorem tn_6 {k : Nat} : (T.upto k).fn 6 = sp_law_floor := rfl
theorem tn_7 {k : Nat} : (T.upto k).fn 7 = sp_law_over := rfl
theorem tn_8 {k : Nat} : (T.upto k).fn 8 = sp_law_rest := rfl
theorem tn_9 {k : Nat} : (T.upto k).fn 9 = sp_law_measure := rfl
theorem tn_10 {k : Nat} : (T.upto k).fn 10 = sp_law_flash_measure := rfl
theorem tn_11 {k : Nat} : (T.upto k).fn 11 = sp_law_tell_as_much := rfl
theorem tn_12 {k : Nat} : (T.upto k).fn 12 = sp_is_tuple_up_to := rfl
theorem tn_13 {k : Nat} : (T.upto k).fn 13 = sp_is_tuple_of := rfl
theorem tn_14 {k : Nat} : (T.upto k).fn 14 = sp_is_pair := rfl
theorem tn_15 {k : Nat} : (T.upto k).fn 15 = sp_is_whole := rfl
theorem tn_16 {k : Nat} : (T.upto k).fn 16 = sp_is_from := rfl
theorem tn_17 {k : Nat} : (T.upto k).fn 17 = sp_is_fraction_of := rfl
theorem tn_18 {k : Nat} : (T.upto k).fn 18 = sp_is_time_of := rfl
theorem tn_19 {k : Nat} : (T.upto k).fn 19 = sp_is_less := rfl
theorem tn_20 {k : Nat} : (T.upto k).fn 20 = sp_wrong_in_flashes := rfl
theorem tn_21 {k : Nat} : (T.upto k).fn 21 = sp_check_flashes := rfl
theorem tn_22 {k : Nat} : (T.upto k).fn 22 = sp_is_whole_one := rfl
theorem tn_23 {k : Nat} : (T.upto k).fn 23 = sp_plain_of := rfl
theorem tn_24 {k : Nat} : (T.upto k).fn 24 = sp_over := rfl
theorem tn_25 {k : Nat} : (T.upto k).fn 25 = sp_is_multiple := rfl
theorem tn_26 {k : Nat} : (T.upto k).fn 26 = sp_measure_of_two := rfl
theorem tn_27 {k : Nat} : (T.upto k).fn 27 = sp_measure_by := rfl
theorem tn_28 {k : Nat} : (T.upto k).fn 28 = sp_plus := rfl
theorem tn_29 {k : Nat} : (T.upto k).fn 29 = sp_negative := rfl
theorem tn_30 {k : Nat} : (T.upto k).fn 30 = sp_minus := rfl
theorem tn_31 {k : Nat} : (T.upto k).fn 31 = sp_flash_measure_by := rfl
theorem tn_32 {k : Nat} : (T.upto k).fn 32 = sp_tell_as_much_by := rfl
theorem tn_33 {k : Nat} : (T.upto k).fn 33 = sp_tell_as_much := rfl
theorem tn_34 {k : Nat} : (T.upto k).fn 34 = sp_law_plus := rfl
theorem tn_35 {k : Nat} : (T.upto k).fn 35 = sp_law_same_0 := rfl
theorem tn_36 {k : Nat} : (T.upto k).fn 36 = sp_law_same_1 := rfl
theorem tn_37 {k : Nat} : (T.upto k).fn 37 = sp_law_same_2 := rfl
theorem tn_38 {k : Nat} : (T.upto k).fn 38 = sp_law_order := rfl
theorem tn_39 {k : Nat} : (T.upto k).fn 39 = sp_law_fraction := rfl
theorem tn_40 {k : Nat} : (T.upto k).fn 40 = sp_law_step := rfl
theorem tn_41 {k : Nat} : (T.upto k).fn 41 = sp_is_between := rfl
theorem tn_42 {k : Nat} : (T.upto k).fn 42 = sp_is_order_of := rfl
theorem tn_43 {k : Nat} : (T.upto k).fn 43 = sp_check_order := rfl
theorem tn_44 {k : Nat} : (T.upto k).fn 44 = sp_check_lit := rfl
theorem tn_45 {k : Nat} : (T.upto k).fn 45 = sp_check_fraction := rfl
theorem tn_46 {k : Nat} : (T.upto k).fn 46 = sp_times := rfl
theorem tn_47 {k : Nat} : (T.upto k).fn 47 = sp_whole := rfl
theorem tn_48 {k : Nat} : (T.upto k).fn 48 = sp_rate_step_by := rfl
theorem tn_49 {k : Nat} : (T.upto k).fn 49 = sp_are_alike_by := rfl
theorem tn_50 {k : Nat} : (T.upto k).fn 50 = sp_are_alike := rfl
theorem tn_51 {k : Nat} : (T.upto k).fn 51 = sp_flash_measure := rfl
theorem tn_52 {k : Nat} : (T.upto k).fn 52 = sp_law_is_told := rfl
theorem tn_53 {k : Nat} : (T.upto k).fn 53 = sp_law_right := rfl
theorem tn_54 {k : Nat} : (T.upto k).fn 54 = sp_law_well := rfl
theorem tn_55 {k : Nat} : (T.upto k).fn 55 = sp_law := rfl
theorem tc_0 {k : Nat} : (T.upto k).cv 0 = .tup [.int 0, .int 1] := rfl
theorem tc_1 {k : Nat} : (T.upto k).cv 1 = .int 24 := rfl

theorem tm : TMono T := fun n => by
  show SMono (tfn n)
  unfold tfn
  split <;> first | exact mono_mk | exact mono_mkD | exact mono_mkX | exact mono_mkY | exact mono_no
theorem tmu (k : Nat) : TMono (T.upto k) := tm
local macro_rules | `(tactic| kcj_m) => `(tactic| first
  | assumption
  | exact sz_zero
  | exact sz_one
  | (apply sz_add <;> kcj_m)
  | (apply sz_sub <;> kcj_m)
  | (apply sz_mul <;> kcj_m)
  | (apply sz_neg; kcj_m)
  | (apply sz_inv; (focus kst_mem); kcj_m)
  | (apply sz_div; (focus kst_mem); kcj_m; kcj_m)
  | (apply sz_qg <;> kcj_m)
  | exact sz_lit4 (by decide +kernel)
  | exact sz_lit16 (by decide +kernel)
  | exact sz_lit (by decide +kernel)
  | exact sz_int8 (by omega)
  | exact sz_int32 (by omega)
  | exact sz_intB (by omega)
  | exact sz_dv8 (by omega) (by omega) (by omega)
  | exact sz_divIntB (by omega) (by omega) (by omega))
local macro_rules | `(tactic| mem_news) => `(tactic| ((try dsimp only); apply Sz.le; (focus kcj_m); decide))
local macro_rules | `(tactic| kcf_m) => `(tactic| first
  | assumption
  | exact bt_intB (by omega)
  | (apply Sz.nB; (focus kcj_m); decide)
  | (apply Sz.dB; (focus kcj_m); decide))
local macro_rules | `(tactic| kst_mem) => `(tactic| first
  | assumption
  | exact rfl
  | exact trivial
  | omega
  | (dsimp only; omega)
  | ((with_reducible refine And.intro ?_ ?_) <;> kst_mem)
  | ((try dsimp only); apply Sz.le; (focus kcj_m); decide)
  | kcf_m
  | exact SzL.of (by assumption) (by assumption) (by decide)
  | (apply pairBt_sz; (focus kcj_m); decide)
  | exact Or.inl (Or.inl (bt64 (by omega)))
  | exact Or.inl (Or.inr (bt64 (by omega)))
  | exact Or.inr ⟨by kcf_m, by kcf_m⟩
  | (refine pos_ne ?_; kst_mem)
  | exact fun _ => by kst_mem
  | decide)
local macro_rules | `(tactic| tlg_ne) => `(tactic| first
  | refine s_seti ?_ | refine s_setd ?_ | refine s_ext ?_ | refine s_asg ?_ | refine s_asgT ?_ | refine s_asgP ?_ | refine s_own ?_ | refine s_par ?_ | refine s_expr ?_ | refine s_ret ?_ | refine s_raise ?_ | refine s_try ?_ | refine s_retN ?_ | refine s_ite ?_ | refine s_for ?_ | refine s_app ?_ | refine s_pass ?_ | refine s_cnt ?_ | refine s_brk ?_)
local macro_rules | `(tactic| kas_types) => `(tactic| repeat ((with_reducible refine And.intro ?_ ?_); (focus kst_mem)))
local macro_rules | `(tactic| kqd_in) => `(tactic| first | ((with_reducible refine And.intro ?_ ?_); (focus kst_mem); kqd_in) | kst_mem)
local macro_rules | `(tactic| kst_allIn) => `(tactic| first | exact rfl | exact trivial | (apply Exists.intro; kst_allIn) | (refine And.intro ?_ ?_ <;> first | assumption | kst_allIn | kst_mem))
local macro_rules | `(tactic| krn_off) => `(tactic| try dsimp only at *)

local macro_rules | `(tactic| kcf_all) => `(tactic| simp only [wpE, wpEs, wpAnd, wpOr, wpIfs, tn_0, tn_1, tn_2, tn_3, tn_4, tn_5, tn_6, tn_7, tn_8, tn_9, tn_10, tn_11, tn_12, tn_13, tn_14, tn_15, tn_16, tn_17, tn_18, tn_19, tn_20, tn_21, tn_22, tn_23, tn_24, tn_25, tn_26, tn_27, tn_28, tn_29, tn_30, tn_31, tn_32, tn_33, tn_34, tn_35, tn_36, tn_37, tn_38, tn_39, tn_40, tn_41, tn_42, tn_43, tn_44, tn_45, tn_46, tn_47, tn_48, tn_49, tn_50, tn_51, tn_52, tn_53, tn_54, tn_55, tc_0, tc_1, setAll, v_truth, v_truthI, v_truthT, v_truthL, v_truthN, v_tru, v_add, v_addL, v_addT, v_sub, v_mul, v_fdiv, v_mod, v_pow, v_neg, v_lt, v_le, v_gt, v_ge, v_isN, v_isnN, v_isB, v_isnB, v_eqI, v_neI, v_eqB, v_neB, v_bt, v_bts, v_bt0, v_btn, v_btp, v_ixT, v_ixL, v_ixP, v_ixS, v_len, v_lenT, v_lenL, v_lenS, v_abs, v_int, v_tupL, v_tupT, v_lstL, v_lstT, v_lstD, v_all, v_any, v_gcd, v_max, v_min, v_divmod, v_rng1, v_rng2, v_elT, v_elL, v_isi, v_mk, v_mkD, List.map_cons, List.map_nil, List.length_cons, List.length_nil, List.getElem?_cons_zero, List.getElem?_cons_succ, List.set_cons_zero, List.set_cons_succ, List.isEmpty_cons, List.isEmpty_nil, Option.some.injEq, exists_eq_left', exists_eq_left, Nat.reduceAdd, Nat.reduceSub, Nat.zero_add, List.cons.injEq, P.int.injEq, P.bl.injEq, P.tup.injEq, P.lst.injEq, and_true, true_and, Bool.false_eq_true, if_true, if_false, reduceIte, env0, List.map_cons, List.map_nil, List.length_cons, List.length_nil, Nat.reduceSub, Nat.reduceAdd, List.replicate_succ, List.replicate_zero, List.cons_append, List.nil_append, v_tru, mk, mkD, mkX, mkY, oc_v, oc_x, hdP, cval, cvals, Option.map_some, Prod.exists, forall_exists_index, and_imp, forall_eq, exists_const, exists_false, exists_and_left, exists_and_right, exists_eq_right, frq_inj, f_ix0, f_ix1, f_eq, f_ne, fr_add, fr_mul, frq_neg, frq_neg', ite_self, decide_eq_true_eq, decide_true, decide_false, Bool.not_true, Bool.not_false, Bool.not_eq_true', Bool.and_true, Bool.true_and, Bool.and_false, Bool.false_and, Bool.or_true, Bool.true_or, Bool.or_false, Bool.false_or, and_self, List.getD_cons_zero, List.getD_cons_succ, List.nil_append, s_nil, wipeE, Int.reduceLT, Int.reduceLE, Int.reduceAdd, Int.reduceSub, Int.reduceMul, Int.reduceNeg, Int.reduceEq, Int.reduceNe, ne_eq, not_true_eq_false, not_false_eq_true, reduceCtorEq, true_implies, imp_self, f_bt, den_one, frl_inj, fa_eq, fa_mem, sm62, inL_cons, inL_nil, revP, isStr, List.cons_append, fa_memq, frl_snoc, frl_app, frl_rev, fl_eq, fl_ne, fll_eq, fll_ne, fll_eq0, fll_ne0, fl_eq0, fl_ne0, exists_eq', i_tup, i_lst, i_int, i_bl, i_non, i_str, i_dct, String.reduceBEq, Bool.or_false, Bool.false_or, i_frq, l_frq, fr12, two_frq, num_zero, dep_bb, forGo_nil, f_inT, f_inL, f_ninT, f_ninL, sIx_nat, isTup_t, len0_t, dep_i, dep_non, dep_bl, dep_ii, sub_zero', Int.cast_ofNat_Int, e_frq, isInt, pl, fa_eq2, fa_eq3, atI_1, atI_2, atI_3, l0_ne, l0_eq, frl_eq, dep_p2, dep_p3, wl_inj, w_eq, w_ne, w_len, v_mulT,  dep_frq2, dep_frq1, isNo, partP, slP, cut_map, sIx_n, sIx_1, List.drop_zero, Nat.sub_zero, decide_eq_false_iff_not, Decidable.not_not, List.take_zero, atI_0,  isFrac_frq, pl_frq, Bool.true_eq_false, Bool.not_eq_false', abs_if, Nat.reduceEqDiff, one_frq, zero_frq, one_div', t_nf, t_np, P.fn.injEq, Nat.reduceLT, and_assoc, false_or, or_false, true_or, or_true, List.length_map, len_range, sizeLine_eq, beq_self_eq_true, Bool.true_beq, Bool.false_beq, tw_inj, pw_inj, and_false, false_and, b_int, rd_inj, il_inj, zip_map2, nn_frq, nn_tup, nn_non, il_eq, il_ne, il_eq0, il_ne0, il_eq1, il_ne1, i_nin2, i_in2])
local macro_rules | `(tactic| kcj_in) => `(tactic| simp only [wpE, wpEs, wpAnd, wpOr, wpIfs, tn_0, tn_1, tn_2, tn_3, tn_4, tn_5, tn_6, tn_7, tn_8, tn_9, tn_10, tn_11, tn_12, tn_13, tn_14, tn_15, tn_16, tn_17, tn_18, tn_19, tn_20, tn_21, tn_22, tn_23, tn_24, tn_25, tn_26, tn_27, tn_28, tn_29, tn_30, tn_31, tn_32, tn_33, tn_34, tn_35, tn_36, tn_37, tn_38, tn_39, tn_40, tn_41, tn_42, tn_43, tn_44, tn_45, tn_46, tn_47, tn_48, tn_49, tn_50, tn_51, tn_52, tn_53, tn_54, tn_55, tc_0, tc_1, setAll, v_truth, v_truthI, v_truthT, v_truthL, v_truthN, v_tru, v_add, v_addL, v_addT, v_sub, v_mul, v_fdiv, v_mod, v_pow, v_neg, v_lt, v_le, v_gt, v_ge, v_isN, v_isnN, v_isB, v_isnB, v_eqI, v_neI, v_eqB, v_neB, v_bt, v_bts, v_bt0, v_btn, v_btp, v_ixT, v_ixL, v_ixP, v_ixS, v_len, v_lenT, v_lenL, v_lenS, v_abs, v_int, v_tupL, v_tupT, v_lstL, v_lstT, v_lstD, v_all, v_any, v_gcd, v_max, v_min, v_divmod, v_rng1, v_rng2, v_elT, v_elL, v_isi, v_mk, v_mkD, List.map_cons, List.map_nil, List.length_cons, List.length_nil, List.getElem?_cons_zero, List.getElem?_cons_succ, List.set_cons_zero, List.set_cons_succ, List.isEmpty_cons, List.isEmpty_nil, Option.some.injEq, exists_eq_left', exists_eq_left, Nat.reduceAdd, Nat.reduceSub, Nat.zero_add, List.cons.injEq, P.int.injEq, P.bl.injEq, P.tup.injEq, P.lst.injEq, and_true, true_and, Bool.false_eq_true, if_true, if_false, reduceIte, env0, List.map_cons, List.map_nil, List.length_cons, List.length_nil, Nat.reduceSub, Nat.reduceAdd, List.replicate_succ, List.replicate_zero, List.cons_append, List.nil_append, v_tru, mk, mkD, mkX, mkY, oc_v, oc_x, hdP, cval, cvals, Option.map_some, Prod.exists, forall_exists_index, and_imp, forall_eq, exists_const, exists_false, exists_and_left, exists_and_right, exists_eq_right, frq_inj, f_ix0, f_ix1, f_eq, f_ne, fr_add, fr_mul, frq_neg, frq_neg', ite_self, decide_eq_true_eq, decide_true, decide_false, Bool.not_true, Bool.not_false, Bool.not_eq_true', Bool.and_true, Bool.true_and, Bool.and_false, Bool.false_and, Bool.or_true, Bool.true_or, Bool.or_false, Bool.false_or, and_self, List.getD_cons_zero, List.getD_cons_succ, List.nil_append, s_nil, wipeE, Int.reduceLT, Int.reduceLE, Int.reduceAdd, Int.reduceSub, Int.reduceMul, Int.reduceNeg, Int.reduceEq, Int.reduceNe, ne_eq, not_true_eq_false, not_false_eq_true, reduceCtorEq, true_implies, imp_self, f_bt, den_one, frl_inj, fa_eq, fa_mem, sm62, inL_cons, inL_nil, revP, isStr, List.cons_append, fa_memq, frl_snoc, frl_app, frl_rev, fl_eq, fl_ne, fll_eq, fll_ne, fll_eq0, fll_ne0, fl_eq0, fl_ne0, exists_eq', i_tup, i_lst, i_int, i_bl, i_non, i_str, i_dct, String.reduceBEq, Bool.or_false, Bool.false_or, i_frq, l_frq, fr12, two_frq, num_zero, dep_bb, forGo_nil, f_inT, f_inL, f_ninT, f_ninL, sIx_nat, isTup_t, len0_t, dep_i, dep_non, dep_bl, dep_ii, sub_zero', Int.cast_ofNat_Int, e_frq, isInt, pl, fa_eq2, fa_eq3, atI_1, atI_2, atI_3, l0_ne, l0_eq, frl_eq, dep_p2, dep_p3, wl_inj, w_eq, w_ne, w_len, v_mulT,  dep_frq2, dep_frq1, isNo, partP, slP, cut_map, sIx_n, sIx_1, List.drop_zero, Nat.sub_zero, decide_eq_false_iff_not, Decidable.not_not, List.take_zero, atI_0,  isFrac_frq, pl_frq, Bool.true_eq_false, Bool.not_eq_false', abs_if, Nat.reduceEqDiff, one_frq, zero_frq, one_div', t_nf, t_np, P.fn.injEq, Nat.reduceLT, and_assoc, false_or, or_false, true_or, or_true, List.length_map, len_range, sizeLine_eq, beq_self_eq_true, Bool.true_beq, Bool.false_beq, tw_inj, pw_inj, and_false, false_and, b_int, rd_inj, il_inj, zip_map2, nn_frq, nn_tup, nn_non, il_eq, il_ne, il_eq0, il_ne0, il_eq1, il_ne1, i_nin2, i_in2, sp_law_take, sp_law_of, sp_law_part, sp_law_flashes, sp_law_less, sp_law_by, sp_law_floor, sp_law_over, sp_law_rest, sp_law_measure, sp_law_flash_measure, sp_law_tell_as_much, sp_is_tuple_up_to, sp_is_tuple_of, sp_is_pair, sp_is_whole, sp_is_from, sp_is_fraction_of, sp_is_time_of, sp_is_less, sp_wrong_in_flashes, sp_check_flashes, sp_is_whole_one, sp_plain_of, sp_over, sp_is_multiple, sp_measure_of_two, sp_measure_by, sp_plus, sp_negative, sp_minus, sp_flash_measure_by, sp_tell_as_much_by, sp_tell_as_much, sp_law_plus, sp_law_same_0, sp_law_same_1, sp_law_same_2, sp_law_order, sp_law_fraction, sp_law_step, sp_is_between, sp_is_order_of, sp_check_order, sp_check_lit, sp_check_fraction, sp_times, sp_whole, sp_rate_step_by, sp_are_alike_by, sp_are_alike, sp_flash_measure, sp_law_is_told, sp_law_right, sp_law_well, sp_law])
local macro_rules | `(tactic| kat_tups) => `(tactic| (refine w_no (tmu _) ?_ ?_))
theorem ok_law_take : BodyOk (T.upto 0) 2 3 b_law_take sp_law_take := by
  refine bodyM (fun _ => rfl) ?_
  rintro m Q E ⟨h0, hb⟩ k
  krn_off
  have fin : ∀ r : Int, Q (.int (r.fmod m)) := fun r => k _ ⟨_, rfl, by rw [fmod_pos (by omega)]; exact Int.emod_nonneg _ (by omega), by rw [fmod_pos (by omega)]; exact Int.emod_lt_of_pos _ h0⟩
  tlg_ne; kcj_in; kas_types
  intro x hx
  simp [PoolIn] at hx
  split
  · tlg_ne; kcj_in
    intro y hy
    simp [PoolIn] at hy
    refine ⟨h0, hb, by first | exact Int.ediv_nonneg hy (by omega) | (simp [PoolIn]; exact Int.ediv_nonneg hy (by omega)), ?_⟩
    tlg_ne; kcj_in
    exact k _ ⟨_, rfl, Int.emod_nonneg _ (by omega), Int.emod_lt_of_pos _ h0⟩
  · tlg_ne; kcj_in
    intro y hy
    simp [PoolIn] at hy
    refine ⟨by simp [PoolIn]; omega, ?_⟩
    tlg_ne; kcj_in
    intro z hz
    refine ⟨.inl (.inr (bt64 (by decide))), ?_⟩
    intro u hu
    refine ⟨.inl (.inr (bt64 (by decide))), ?_, ?_⟩
    · rw [fmod_pos (by decide)]
      exact Int.emod_nonneg _ (by decide)
    tlg_ne; kcj_in
    exact fun x2 hx2 => ⟨bt_intB (by decide), by omega, fin _⟩
theorem ok_law_of : BodyOk (T.upto 1) 2 2 b_law_of sp_law_of := by
  refine bodyM (fun _ => rfl) ?_
  rintro xs Q E ⟨h0, h1⟩ k
  krn_off
  have hl : 0 < xs.length := List.length_pos_iff.mpr h0
  tlg_ne; kcj_in
  refine ⟨by omega, bt_small (by omega), fun r r0 r1 => ?_⟩
  exact ⟨_, atI_get r0 r1, k _ (List.getElem_mem _)⟩
theorem ok_law_part : BodyOk (T.upto 2) 2 4 b_law_part sp_law_part := by
  refine bodyD (fun _ => rfl) ?_
  rintro ⟨a, b⟩ Q E ⟨h0, ha, hb⟩ k
  krn_off
  have hg := g2_pos (a := a) h0
  have hB : Bt 8000 (g2 a b) := g2_bt h0 hb
  have hg0 : g2 a b ≠ 0 := by omega
  have e2 : ∀ d c : Int, d.natAbs = a.natAbs → c.natAbs = b.natAbs → g2 (d.natAbs : Int) c = g2 a b := fun d c hd hc => by unfold g2; rw [Int.natAbs_natCast, hd, hc]
  tlg_ne; kcj_in
  split
  · rename_i h
    tlg_ne; kcj_in
    tlg_ne; kcj_in
    refine whl_gcd (tmu _) (i := 2) (j := 3) (by decide) rfl rfl (by omega) (by omega) ?_
    kcj_in
    rw [e2 _ _ (by omega) (by omega)]
    tlg_ne; kcj_in
    refine ⟨hg0, hB, hg0, hB, k _ ?_⟩
    rw [fdiv_pos (by omega), fdiv_pos (by omega), show (0 : Int) - a = -a by omega, show (0 : Int) - b = -b by omega, Int.neg_ediv_of_dvd (g2_dl a b), Int.neg_ediv_of_dvd (g2_dr a b)]
    simp [fr, show ¬ 0 < b by omega]
  · rename_i h
    tlg_ne; kcj_in
    refine whl_gcd (tmu _) (i := 2) (j := 3) (by decide) rfl rfl (by omega) (by omega) ?_
    kcj_in
    rw [e2 _ _ rfl (by omega)]
    tlg_ne; kcj_in
    refine ⟨hg0, hB, hg0, hB, k _ ?_⟩
    rw [fdiv_pos (by omega), fdiv_pos (by omega)]
    simp [fr, show 0 < b by omega]
theorem ok_law_flashes : BodyOk (T.upto 3) 2 8 b_law_flashes sp_law_flashes := by
  refine bodyM (fun _ => rfl) ?_
  rintro m Q E ⟨m1, m2⟩ k
  krn_off
  tlg_ne; kcj_in; kas_types
  intro D hD
  have hD4 : D = 1 ∨ D = 2 ∨ D = 3 ∨ D = 12 := by omega
  tlg_ne; kcj_in; kas_types
  intro st hst; kas_types
  intro b hb
  have hb2 : 0 ≤ b ∧ b < 2 ^ 70 := by
    have : (10 : Int) ^ Int.toNat 20 = 100000000000000000000 := by decide
    omega
  obtain ⟨b0, b1⟩ := hb2
  have hst2 : 0 ≤ st ∧ st ≤ 6 := by omega
  tlg_ne; kcj_in; kas_types
  intro n n0 n1
  refine ⟨by omega, by omega, ?_⟩
  refine forNN (fun i env => ∃ ns : List Int, ∃ o6 o7 : Option P, env = [some .pool, some (.int m), some (.int D), some (dI ns), some (.int st), some (.int b), o6, o7] ∧ ns.Nodup ∧ (ns.length : Int) ≤ i ∧ (0 < i → ns ≠ []) ∧ ∀ x ∈ ns, ∃ j : Int, x = b * D + j ∧ 0 ≤ j ∧ j ≤ 72) (1 + n).toNat (by omega) ⟨[], _, _, rfl, .nil, by simp, fun z => absurd z (by decide), by simp⟩ ?_ ?_
  · rintro i i0 i1 env ⟨ns, o6, o7, rfl, hn, hl, he, hx⟩ k' hk
    kcj_in
    tlg_ne; kcj_in; kas_types
    intro c c0 c1
    refine ⟨.inl (.inl (bt64 (by omega))), ?_⟩
    have hsc : 0 ≤ st * c ∧ st * c ≤ 72 := by
      refine ⟨Int.mul_nonneg hst2.1 c0, ?_⟩
      have := Int.mul_le_mul hst2.2 (show c ≤ 12 by omega) c0 (by decide)
      omega
    refine s_setd ?_
    simp only [wpE, wpEs, wpAnd, wpOr, wpIfs, tn_0, tn_1, tn_2, tn_3, tn_4, tn_5, tn_6, tn_7, tn_8, tn_9, tn_10, tn_11, tn_12, tn_13, tn_14, tn_15, tn_16, tn_17, tn_18, tn_19, tn_20, tn_21, tn_22, tn_23, tn_24, tn_25, tn_26, tn_27, tn_28, tn_29, tn_30, tn_31, tn_32, tn_33, tn_34, tn_35, tn_36, tn_37, tn_38, tn_39, tn_40, tn_41, tn_42, tn_43, tn_44, tn_45, tn_46, tn_47, tn_48, tn_49, tn_50, tn_51, tn_52, tn_53, tn_54, tn_55, tc_0, tc_1, setAll, v_truth, v_truthI, v_truthT, v_truthL, v_truthN, v_tru, v_add, v_addL, v_addT, v_sub, v_mul, v_fdiv, v_mod, v_pow, v_neg, v_lt, v_le, v_gt, v_ge, v_isN, v_isnN, v_isB, v_isnB, v_eqI, v_neI, v_eqB, v_neB, v_bt, v_bts, v_bt0, v_btn, v_btp, v_ixT, v_ixL, v_ixP, v_ixS, v_len, v_lenT, v_lenL, v_lenS, v_abs, v_int, v_tupL, v_tupT, v_lstL, v_lstT, v_lstD, v_all, v_any, v_gcd, v_max, v_min, v_divmod, v_rng1, v_rng2, v_elT, v_elL, v_isi, v_mk, v_mkD, List.map_cons, List.map_nil, List.length_cons, List.length_nil, List.getElem?_cons_zero, List.getElem?_cons_succ, List.set_cons_zero, List.set_cons_succ, List.isEmpty_cons, List.isEmpty_nil, Option.some.injEq, exists_eq_left', exists_eq_left, Nat.reduceAdd, Nat.reduceSub, Nat.zero_add, List.cons.injEq, P.int.injEq, P.bl.injEq, P.tup.injEq, P.lst.injEq, and_true, true_and, Bool.false_eq_true, if_true, if_false, reduceIte]
    refine ⟨_, _, rfl, by rw [List.length_map, sizeLine_eq]; omega, Sum.inl (b * D + st * c), rfl, ?_⟩
    rw [dI_put]
    refine hk _ ⟨_, _, _, rfl, dI_nodup hn, ?_, fun _ => dI_ne, fun x hx2 => ?_⟩
    · have := dI_len (ns := ns) (n := b * D + st * c)
      omega
    · rcases dI_mem hx2 with h | h
      · exact hx x h
      · exact ⟨_, h, hsc.1, hsc.2⟩
  · rintro env ⟨ns, o6, o7, rfl, hn, hl, he, hx⟩
    have hne : ns ≠ [] := he (by omega)
    refine s_ret ?_
    unfold dI
    simp only [wpE, wpEs, wpAnd, wpOr, wpIfs, tn_0, tn_1, tn_2, tn_3, tn_4, tn_5, tn_6, tn_7, tn_8, tn_9, tn_10, tn_11, tn_12, tn_13, tn_14, tn_15, tn_16, tn_17, tn_18, tn_19, tn_20, tn_21, tn_22, tn_23, tn_24, tn_25, tn_26, tn_27, tn_28, tn_29, tn_30, tn_31, tn_32, tn_33, tn_34, tn_35, tn_36, tn_37, tn_38, tn_39, tn_40, tn_41, tn_42, tn_43, tn_44, tn_45, tn_46, tn_47, tn_48, tn_49, tn_50, tn_51, tn_52, tn_53, tn_54, tn_55, tc_0, tc_1, setAll, v_truth, v_truthI, v_truthT, v_truthL, v_truthN, v_tru, v_add, v_addL, v_addT, v_sub, v_mul, v_fdiv, v_mod, v_pow, v_neg, v_lt, v_le, v_gt, v_ge, v_isN, v_isnN, v_isB, v_isnB, v_eqI, v_neI, v_eqB, v_neB, v_bt, v_bts, v_bt0, v_btn, v_btp, v_ixT, v_ixL, v_ixP, v_ixS, v_len, v_lenT, v_lenL, v_lenS, v_abs, v_int, v_tupL, v_tupT, v_lstL, v_lstT, v_lstD, v_all, v_any, v_gcd, v_max, v_min, v_divmod, v_rng1, v_rng2, v_elT, v_elL, v_isi, v_mk, v_mkD, List.map_cons, List.map_nil, List.length_cons, List.length_nil, List.getElem?_cons_zero, List.getElem?_cons_succ, List.set_cons_zero, List.set_cons_succ, List.isEmpty_cons, List.isEmpty_nil, Option.some.injEq, exists_eq_left', exists_eq_left, Nat.reduceAdd, Nat.reduceSub, Nat.zero_add, List.cons.injEq, P.int.injEq, P.bl.injEq, P.tup.injEq, P.lst.injEq, and_true, true_and, Bool.false_eq_true, if_true, if_false, reduceIte, env0, List.map_cons, List.map_nil, List.length_cons, List.length_nil, Nat.reduceSub, Nat.reduceAdd, List.replicate_succ, List.replicate_zero, List.cons_append, List.nil_append, v_tru, mk, mkD, mkX, mkY, oc_v, oc_x, hdP, cval, cvals, Option.map_some, Prod.exists, forall_exists_index, and_imp, forall_eq, exists_const, exists_false, exists_and_left, exists_and_right, exists_eq_right, frq_inj, f_ix0, f_ix1, f_eq, f_ne, fr_add, fr_mul, frq_neg, frq_neg', ite_self, decide_eq_true_eq, decide_true, decide_false, Bool.not_true, Bool.not_false, Bool.not_eq_true', Bool.and_true, Bool.true_and, Bool.and_false, Bool.false_and, Bool.or_true, Bool.true_or, Bool.or_false, Bool.false_or, and_self, List.getD_cons_zero, List.getD_cons_succ, List.nil_append, s_nil, wipeE, Int.reduceLT, Int.reduceLE, Int.reduceAdd, Int.reduceSub, Int.reduceMul, Int.reduceNeg, Int.reduceEq, Int.reduceNe, ne_eq, not_true_eq_false, not_false_eq_true, reduceCtorEq, true_implies, imp_self, f_bt, den_one, frl_inj, fa_eq, fa_mem, sm62, inL_cons, inL_nil, revP, isStr, List.cons_append, fa_memq, frl_snoc, frl_app, frl_rev, fl_eq, fl_ne, fll_eq, fll_ne, fll_eq0, fll_ne0, fl_eq0, fl_ne0, exists_eq', i_tup, i_lst, i_int, i_bl, i_non, i_str, i_dct, String.reduceBEq, Bool.or_false, Bool.false_or, i_frq, l_frq, fr12, two_frq, num_zero, dep_bb, forGo_nil, f_inT, f_inL, f_ninT, f_ninL, sIx_nat, isTup_t, len0_t, dep_i, dep_non, dep_bl, dep_ii, sub_zero', Int.cast_ofNat_Int, e_frq, isInt, pl, fa_eq2, fa_eq3, atI_1, atI_2, atI_3, l0_ne, l0_eq, frl_eq, dep_p2, dep_p3, wl_inj, w_eq, w_ne, w_len, v_mulT,  dep_frq2, dep_frq1, isNo, partP, slP, cut_map, sIx_n, sIx_1, List.drop_zero, Nat.sub_zero, decide_eq_false_iff_not, Decidable.not_not, List.take_zero, atI_0,  isFrac_frq, pl_frq, Bool.true_eq_false, Bool.not_eq_false', abs_if, Nat.reduceEqDiff, one_frq, zero_frq, one_div', t_nf, t_np, P.fn.injEq, Nat.reduceLT, and_assoc, false_or, or_false, true_or, or_true, List.length_map, len_range, sizeLine_eq, beq_self_eq_true, Bool.true_beq, Bool.false_beq, tw_inj, pw_inj, and_false, false_and, b_int, rd_inj, il_inj, zip_map2, nn_frq, nn_tup, nn_non, il_eq, il_ne, il_eq0, il_ne0, il_eq1, il_ne1, i_nin2, i_in2, sp_law_take, sp_law_of, sp_law_part, sp_law_flashes, sp_law_less, sp_law_by, sp_law_floor, sp_law_over, sp_law_rest, sp_law_measure, sp_law_flash_measure, sp_law_tell_as_much, sp_is_tuple_up_to, sp_is_tuple_of, sp_is_pair, sp_is_whole, sp_is_from, sp_is_fraction_of, sp_is_time_of, sp_is_less, sp_wrong_in_flashes, sp_check_flashes, sp_is_whole_one, sp_plain_of, sp_over, sp_is_multiple, sp_measure_of_two, sp_measure_by, sp_plus, sp_negative, sp_minus, sp_flash_measure_by, sp_tell_as_much_by, sp_tell_as_much, sp_law_plus, sp_law_same_0, sp_law_same_1, sp_law_same_2, sp_law_order, sp_law_fraction, sp_law_step, sp_is_between, sp_is_order_of, sp_check_order, sp_check_lit, sp_check_fraction, sp_times, sp_whole, sp_rate_step_by, sp_are_alike_by, sp_are_alike, sp_flash_measure, sp_law_is_told, sp_law_right, sp_law_well, sp_law, dI_keys]
    refine sort_int fun ms hp hs => ?_
    have hok := okG.ofN hD4 hn hne (by omega) b0 b1 hx hp hs
    have hbD2 : 0 ≤ b * D ∧ b * D < 2 ^ 74 := by
      refine ⟨Int.mul_nonneg b0 (by omega), ?_⟩
      have := Int.mul_le_mul (show b ≤ 2 ^ 70 by omega) (show D ≤ 12 by omega) (by omega) (by decide)
      omega
    refine ⟨_, rfl, by rw [List.length_map, hp.length_eq]; omega, lcGo_tt P.int frq (fun x => Rat.divInt x D) ms (fun x hx2 acc k2 hk2 => ?_) (k _ ⟨_, rfl, hok, by rw [List.length_map, hp.length_eq]; omega, okB.ofN hD4 b0 b1 hx hp⟩)⟩
    obtain ⟨j, e, j0, j1⟩ := hx x (hp.mem_iff.mp hx2)
    refine ⟨x, rfl, by omega, bt_intB (by omega), bt_intB (by omega), ?_⟩
    rw [fr_frq (by omega)]
    exact hk2
theorem ok_law_less : BodyOk (T.upto 4) 2 2 b_law_less sp_law_less := by
  refine bodyD (fun _ => rfl) ?_
  rintro ⟨p, q⟩ Q E ⟨h1, h2⟩ k
  krn_off
  tlg_ne; kcj_in; kas_types
  refine ⟨mul_ne (dn_ne p) (dn_ne q), bt_pow (bt_sub (bt_mul h1.1 h2.dd) (bt_mul h2.1 h1.dd)) (by decide), bt_pow (bt_mul h1.dd h2.dd) (by decide), k _ ?_⟩
  rw [fr_sub]
theorem ok_law_by : BodyOk (T.upto 5) 2 2 b_law_by sp_law_by := by
  refine bodyD (fun _ => rfl) ?_
  rintro ⟨p, q⟩ Q E ⟨h1, h2⟩ k
  krn_off
  tlg_ne; kcj_in; kas_types
  exact ⟨mul_ne (dn_ne p) (dn_ne q), bt_pow (bt_mul h1.1 h2.1) (by decide), bt_pow (bt_mul h1.dd h2.dd) (by decide), k _ rfl⟩
theorem ok_law_floor : BodyOk (T.upto 6) 1 1 b_law_floor sp_law_floor := by
  refine bodyD (fun _ => rfl) ?_
  rintro q Q E h k
  krn_off
  tlg_ne; kcj_in
  exact ⟨dn_ne q, h, k _ (by rw [floor_fdiv])⟩
theorem ok_law_over : BodyOk (T.upto 7) 2 2 b_law_over sp_law_over := by
  refine bodyD (fun _ => rfl) ?_
  rintro ⟨p, q⟩ Q E ⟨h0, h1, h2⟩ k
  krn_off
  tlg_ne; kcj_in; kas_types
  refine ⟨mul_ne (dn_ne p) (num_ne h0), bt_pow (bt_mul h1.1 h2.dd) (by decide), bt_pow (bt_mul h1.dd h2.1) (by decide), ?_⟩
  rw [fr_div p h0]
  exact k _ rfl
theorem ok_law_rest : BodyOk (T.upto 8) 2 2 b_law_rest sp_law_rest := by
  refine bodyD (fun _ => rfl) ?_
  rintro ⟨p, q⟩ Q E ⟨h0, h1, h2⟩ k
  krn_off
  have hq := pos_ne h0
  have z1 : Sz 1800 (p / q) := sz_div hq h1 h2
  have z2 : Sz 1800 ((p / q).floor : Rat) := sz_floor z1 (by decide)
  have zm : Sz 2700 (((p / q).floor : Rat) * q) := sz_mul z2 h2
  tlg_ne; simp only [wpE, wpEs, wpAnd, wpOr, wpIfs, tn_0, tn_1, tn_2, tn_3, tn_4, tn_5, tn_6, tn_7, tn_8, tn_9, tn_10, tn_11, tn_12, tn_13, tn_14, tn_15, tn_16, tn_17, tn_18, tn_19, tn_20, tn_21, tn_22, tn_23, tn_24, tn_25, tn_26, tn_27, tn_28, tn_29, tn_30, tn_31, tn_32, tn_33, tn_34, tn_35, tn_36, tn_37, tn_38, tn_39, tn_40, tn_41, tn_42, tn_43, tn_44, tn_45, tn_46, tn_47, tn_48, tn_49, tn_50, tn_51, tn_52, tn_53, tn_54, tn_55, tc_0, tc_1, setAll, v_truth, v_truthI, v_truthT, v_truthL, v_truthN, v_tru, v_add, v_addL, v_addT, v_sub, v_mul, v_fdiv, v_mod, v_pow, v_neg, v_lt, v_le, v_gt, v_ge, v_isN, v_isnN, v_isB, v_isnB, v_eqI, v_neI, v_eqB, v_neB, v_bt, v_bts, v_bt0, v_btn, v_btp, v_ixT, v_ixL, v_ixP, v_ixS, v_len, v_lenT, v_lenL, v_lenS, v_abs, v_int, v_tupL, v_tupT, v_lstL, v_lstT, v_lstD, v_all, v_any, v_gcd, v_max, v_min, v_divmod, v_rng1, v_rng2, v_elT, v_elL, v_isi, v_mk, v_mkD, List.map_cons, List.map_nil, List.length_cons, List.length_nil, List.getElem?_cons_zero, List.getElem?_cons_succ, List.set_cons_zero, List.set_cons_succ, List.isEmpty_cons, List.isEmpty_nil, Option.some.injEq, exists_eq_left', exists_eq_left, Nat.reduceAdd, Nat.reduceSub, Nat.zero_add, List.cons.injEq, P.int.injEq, P.bl.injEq, P.tup.injEq, P.lst.injEq, and_true, true_and, Bool.false_eq_true, if_true, if_false, reduceIte, env0, List.map_cons, List.map_nil, List.length_cons, List.length_nil, Nat.reduceSub, Nat.reduceAdd, List.replicate_succ, List.replicate_zero, List.cons_append, List.nil_append, v_tru, mk, mkD, mkX, mkY, oc_v, oc_x, hdP, cval, cvals, Option.map_some, Prod.exists, forall_exists_index, and_imp, forall_eq, exists_const, exists_false, exists_and_left, exists_and_right, exists_eq_right, frq_inj, f_ix0, f_ix1, f_eq, f_ne, fr_add, fr_mul, frq_neg, frq_neg', ite_self, decide_eq_true_eq, decide_true, decide_false, Bool.not_true, Bool.not_false, Bool.not_eq_true', Bool.and_true, Bool.true_and, Bool.and_false, Bool.false_and, Bool.or_true, Bool.true_or, Bool.or_false, Bool.false_or, and_self, List.getD_cons_zero, List.getD_cons_succ, List.nil_append, s_nil, wipeE, Int.reduceLT, Int.reduceLE, Int.reduceAdd, Int.reduceSub, Int.reduceMul, Int.reduceNeg, Int.reduceEq, Int.reduceNe, ne_eq, not_true_eq_false, not_false_eq_true, reduceCtorEq, true_implies, imp_self, f_bt, den_one, frl_inj, fa_eq, fa_mem, sm62, inL_cons, inL_nil, revP, isStr, List.cons_append, fa_memq, frl_snoc, frl_app, frl_rev, fl_eq, fl_ne, fll_eq, fll_ne, fll_eq0, fll_ne0, fl_eq0, fl_ne0, exists_eq', i_tup, i_lst, i_int, i_bl, i_non, i_str, i_dct, String.reduceBEq, Bool.or_false, Bool.false_or, i_frq, l_frq, fr12, two_frq, num_zero, dep_bb, forGo_nil, f_inT, f_inL, f_ninT, f_ninL, sIx_nat, isTup_t, len0_t, dep_i, dep_non, dep_bl, dep_ii, sub_zero', Int.cast_ofNat_Int, e_frq, isInt, pl, fa_eq2, fa_eq3, atI_1, atI_2, atI_3, l0_ne, l0_eq, frl_eq, dep_p2, dep_p3, wl_inj, w_eq, w_ne, w_len, v_mulT,  dep_frq2, dep_frq1, isNo, partP, slP, cut_map, sIx_n, sIx_1, List.drop_zero, Nat.sub_zero, decide_eq_false_iff_not, Decidable.not_not, List.take_zero, atI_0,  isFrac_frq, pl_frq, Bool.true_eq_false, Bool.not_eq_false', abs_if, Nat.reduceEqDiff, one_frq, zero_frq, one_div', t_nf, t_np, P.fn.injEq, Nat.reduceLT, and_assoc, false_or, or_false, true_or, or_true, List.length_map, len_range, sizeLine_eq, beq_self_eq_true, Bool.true_beq, Bool.false_beq, tw_inj, pw_inj, and_false, false_and, b_int, rd_inj, il_inj, zip_map2, nn_frq, nn_tup, nn_non, il_eq, il_ne, il_eq0, il_ne0, il_eq1, il_ne1, i_nin2, i_in2, sp_law_take, sp_law_of, sp_law_part, sp_law_flashes, sp_law_less, sp_law_by, sp_law_floor, sp_law_over, sp_law_rest, sp_law_measure, sp_law_flash_measure, sp_law_tell_as_much, sp_is_tuple_up_to, sp_is_tuple_of, sp_is_pair, sp_is_whole, sp_is_from, sp_is_fraction_of, sp_is_time_of, sp_is_less, sp_wrong_in_flashes, sp_check_flashes, sp_is_whole_one, sp_plain_of, sp_over, sp_is_multiple, sp_measure_of_two, sp_measure_by, sp_plus, sp_negative, sp_minus, sp_flash_measure_by, sp_tell_as_much_by, sp_tell_as_much, sp_law_plus, sp_law_same_0, sp_law_same_1, sp_law_same_2, sp_law_order, sp_law_fraction, sp_law_step, sp_is_between, sp_is_order_of, sp_check_order, sp_check_lit, sp_check_fraction, sp_times, sp_whole, sp_rate_step_by, sp_are_alike_by, sp_are_alike, sp_flash_measure, sp_law_is_told, sp_law_right, sp_law_well, sp_law, frq_int (p / q).floor]
  exact ⟨hq, by kst_mem, by kst_mem, z1.d (by decide), by kst_mem, by kst_mem, by kst_mem, by kst_mem, k _ rfl⟩
theorem ok_law_measure : BodyOk (T.upto 9) 1 5 b_law_measure sp_law_measure := by
  refine bodyD (fun _ => rfl) ?_
  rintro ⟨p, l⟩ Q E ⟨he, D, D0, D1, hl⟩ k
  simp only [] at he hl k
  have D1' : D.natAbs < 2 ^ 200 := by omega
  tlg_ne; kcj_in
  tlg_ne; simp only [wpE, wpEs, wpAnd, wpOr, wpIfs, tn_0, tn_1, tn_2, tn_3, tn_4, tn_5, tn_6, tn_7, tn_8, tn_9, tn_10, tn_11, tn_12, tn_13, tn_14, tn_15, tn_16, tn_17, tn_18, tn_19, tn_20, tn_21, tn_22, tn_23, tn_24, tn_25, tn_26, tn_27, tn_28, tn_29, tn_30, tn_31, tn_32, tn_33, tn_34, tn_35, tn_36, tn_37, tn_38, tn_39, tn_40, tn_41, tn_42, tn_43, tn_44, tn_45, tn_46, tn_47, tn_48, tn_49, tn_50, tn_51, tn_52, tn_53, tn_54, tn_55, tc_0, tc_1, setAll, v_truth, v_truthI, v_truthT, v_truthL, v_truthN, v_tru, v_add, v_addL, v_addT, v_sub, v_mul, v_fdiv, v_mod, v_pow, v_neg, v_lt, v_le, v_gt, v_ge, v_isN, v_isnN, v_isB, v_isnB, v_eqI, v_neI, v_eqB, v_neB, v_bt, v_bts, v_bt0, v_btn, v_btp, v_ixT, v_ixL, v_ixP, v_ixS, v_len, v_lenT, v_lenL, v_lenS, v_abs, v_int, v_tupL, v_tupT, v_lstL, v_lstT, v_lstD, v_all, v_any, v_gcd, v_max, v_min, v_divmod, v_rng1, v_rng2, v_elT, v_elL, v_isi, v_mk, v_mkD, List.map_cons, List.map_nil, List.length_cons, List.length_nil, List.getElem?_cons_zero, List.getElem?_cons_succ, List.set_cons_zero, List.set_cons_succ, List.isEmpty_cons, List.isEmpty_nil, Option.some.injEq, exists_eq_left', exists_eq_left, Nat.reduceAdd, Nat.reduceSub, Nat.zero_add, List.cons.injEq, P.int.injEq, P.bl.injEq, P.tup.injEq, P.lst.injEq, and_true, true_and, Bool.false_eq_true, if_true, if_false, reduceIte, env0, List.map_cons, List.map_nil, List.length_cons, List.length_nil, Nat.reduceSub, Nat.reduceAdd, List.replicate_succ, List.replicate_zero, List.cons_append, List.nil_append, v_tru, mk, mkD, mkX, mkY, oc_v, oc_x, hdP, cval, cvals, Option.map_some, Prod.exists, forall_exists_index, and_imp, forall_eq, exists_const, exists_false, exists_and_left, exists_and_right, exists_eq_right, frq_inj, f_ix0, f_ix1, f_eq, f_ne, fr_add, fr_mul, frq_neg, frq_neg', ite_self, decide_eq_true_eq, decide_true, decide_false, Bool.not_true, Bool.not_false, Bool.not_eq_true', Bool.and_true, Bool.true_and, Bool.and_false, Bool.false_and, Bool.or_true, Bool.true_or, Bool.or_false, Bool.false_or, and_self, List.getD_cons_zero, List.getD_cons_succ, List.nil_append, s_nil, wipeE, Int.reduceLT, Int.reduceLE, Int.reduceAdd, Int.reduceSub, Int.reduceMul, Int.reduceNeg, Int.reduceEq, Int.reduceNe, ne_eq, not_true_eq_false, not_false_eq_true, reduceCtorEq, true_implies, imp_self, f_bt, den_one, frl_inj, fa_eq, fa_mem, sm62, inL_cons, inL_nil, revP, isStr, List.cons_append, fa_memq, frl_snoc, frl_app, frl_rev, fl_eq, fl_ne, fll_eq, fll_ne, fll_eq0, fll_ne0, fl_eq0, fl_ne0, exists_eq', i_tup, i_lst, i_int, i_bl, i_non, i_str, i_dct, String.reduceBEq, Bool.or_false, Bool.false_or, i_frq, l_frq, fr12, two_frq, num_zero, dep_bb, forGo_nil, f_inT, f_inL, f_ninT, f_ninL, sIx_nat, isTup_t, len0_t, dep_i, dep_non, dep_bl, dep_ii, sub_zero', Int.cast_ofNat_Int, e_frq, isInt, pl, fa_eq2, fa_eq3, atI_1, atI_2, atI_3, l0_ne, l0_eq, frl_eq, dep_p2, dep_p3, wl_inj, w_eq, w_ne, w_len, v_mulT,  dep_frq2, dep_frq1, isNo, partP, slP, cut_map, sIx_n, sIx_1, List.drop_zero, Nat.sub_zero, decide_eq_false_iff_not, Decidable.not_not, List.take_zero, atI_0,  isFrac_frq, pl_frq, Bool.true_eq_false, Bool.not_eq_false', abs_if, Nat.reduceEqDiff, one_frq, zero_frq, one_div', t_nf, t_np, P.fn.injEq, Nat.reduceLT, and_assoc, false_or, or_false, true_or, or_true, List.length_map, len_range, sizeLine_eq, beq_self_eq_true, Bool.true_beq, Bool.false_beq, tw_inj, pw_inj, and_false, false_and, b_int, rd_inj, il_inj, zip_map2, nn_frq, nn_tup, nn_non, il_eq, il_ne, il_eq0, il_ne0, il_eq1, il_ne1, i_nin2, i_in2, sp_law_take, sp_law_of, sp_law_part, sp_law_flashes, sp_law_less, sp_law_by, sp_law_floor, sp_law_over, sp_law_rest, sp_law_measure, sp_law_flash_measure, sp_law_tell_as_much, sp_is_tuple_up_to, sp_is_tuple_of, sp_is_pair, sp_is_whole, sp_is_from, sp_is_fraction_of, sp_is_time_of, sp_is_less, sp_wrong_in_flashes, sp_check_flashes, sp_is_whole_one, sp_plain_of, sp_over, sp_is_multiple, sp_measure_of_two, sp_measure_by, sp_plus, sp_negative, sp_minus, sp_flash_measure_by, sp_tell_as_much_by, sp_tell_as_much, sp_law_plus, sp_law_same_0, sp_law_same_1, sp_law_same_2, sp_law_order, sp_law_fraction, sp_law_step, sp_is_between, sp_is_order_of, sp_check_order, sp_check_lit, sp_check_fraction, sp_times, sp_whole, sp_rate_step_by, sp_are_alike_by, sp_are_alike, sp_flash_measure, sp_law_is_told, sp_law_right, sp_law_well, sp_law, he]
  refine forTy frq (fun pre r env => ∃ o2 o3 o4 : Option P, env = [some p, some (frq (qms pre)), o2, o3, o4] ∧ pre ++ r = l) l [] _ ⟨none, none, none, rfl, rfl⟩ ?_ ?_
  · rintro pre q r env ⟨o2, o3, o4, rfl, el⟩ k' hk
    obtain ⟨G, eG, hG⟩ := qms_parts (l := pre) (n := 2 ^ 200) D0 (by decide) (fun x hx => hl x (by rw [← el]; simp [hx]))
    obtain ⟨y, eq, hy⟩ := hl q (by rw [← el]; simp)
    have eq' : q = Rat.divInt y D := by rw [eq, divInt_q]
    have hs : qms (pre ++ [q]) = Rat.divInt ((Nat.gcd G y.natAbs : Nat) : Int) D := by
      rw [qms_snoc, eG, eq', qg_over D0, Int.natAbs_natCast]
    have hqa : qa q = Rat.divInt (y.natAbs : Int) D := by rw [eq', qa_divInt D0]
    have hk2 := hk [some p, some (frq (qms (pre ++ [q]))), some (frq q), some (frq (Rat.divInt ((Nat.gcd G y.natAbs : Nat) : Int) D)), some (frq (Rat.divInt ((0 : Nat) : Int) D))] ⟨_, _, _, rfl, by simpa using el⟩
    rw [hs] at hk2
    kcj_in
    tlg_ne; simp only [wpE, wpEs, wpAnd, wpOr, wpIfs, tn_0, tn_1, tn_2, tn_3, tn_4, tn_5, tn_6, tn_7, tn_8, tn_9, tn_10, tn_11, tn_12, tn_13, tn_14, tn_15, tn_16, tn_17, tn_18, tn_19, tn_20, tn_21, tn_22, tn_23, tn_24, tn_25, tn_26, tn_27, tn_28, tn_29, tn_30, tn_31, tn_32, tn_33, tn_34, tn_35, tn_36, tn_37, tn_38, tn_39, tn_40, tn_41, tn_42, tn_43, tn_44, tn_45, tn_46, tn_47, tn_48, tn_49, tn_50, tn_51, tn_52, tn_53, tn_54, tn_55, tc_0, tc_1, setAll, v_truth, v_truthI, v_truthT, v_truthL, v_truthN, v_tru, v_add, v_addL, v_addT, v_sub, v_mul, v_fdiv, v_mod, v_pow, v_neg, v_lt, v_le, v_gt, v_ge, v_isN, v_isnN, v_isB, v_isnB, v_eqI, v_neI, v_eqB, v_neB, v_bt, v_bts, v_bt0, v_btn, v_btp, v_ixT, v_ixL, v_ixP, v_ixS, v_len, v_lenT, v_lenL, v_lenS, v_abs, v_int, v_tupL, v_tupT, v_lstL, v_lstT, v_lstD, v_all, v_any, v_gcd, v_max, v_min, v_divmod, v_rng1, v_rng2, v_elT, v_elL, v_isi, v_mk, v_mkD, List.map_cons, List.map_nil, List.length_cons, List.length_nil, List.getElem?_cons_zero, List.getElem?_cons_succ, List.set_cons_zero, List.set_cons_succ, List.isEmpty_cons, List.isEmpty_nil, Option.some.injEq, exists_eq_left', exists_eq_left, Nat.reduceAdd, Nat.reduceSub, Nat.zero_add, List.cons.injEq, P.int.injEq, P.bl.injEq, P.tup.injEq, P.lst.injEq, and_true, true_and, Bool.false_eq_true, if_true, if_false, reduceIte, env0, List.map_cons, List.map_nil, List.length_cons, List.length_nil, Nat.reduceSub, Nat.reduceAdd, List.replicate_succ, List.replicate_zero, List.cons_append, List.nil_append, v_tru, mk, mkD, mkX, mkY, oc_v, oc_x, hdP, cval, cvals, Option.map_some, Prod.exists, forall_exists_index, and_imp, forall_eq, exists_const, exists_false, exists_and_left, exists_and_right, exists_eq_right, frq_inj, f_ix0, f_ix1, f_eq, f_ne, fr_add, fr_mul, frq_neg, frq_neg', ite_self, decide_eq_true_eq, decide_true, decide_false, Bool.not_true, Bool.not_false, Bool.not_eq_true', Bool.and_true, Bool.true_and, Bool.and_false, Bool.false_and, Bool.or_true, Bool.true_or, Bool.or_false, Bool.false_or, and_self, List.getD_cons_zero, List.getD_cons_succ, List.nil_append, s_nil, wipeE, Int.reduceLT, Int.reduceLE, Int.reduceAdd, Int.reduceSub, Int.reduceMul, Int.reduceNeg, Int.reduceEq, Int.reduceNe, ne_eq, not_true_eq_false, not_false_eq_true, reduceCtorEq, true_implies, imp_self, f_bt, den_one, frl_inj, fa_eq, fa_mem, sm62, inL_cons, inL_nil, revP, isStr, List.cons_append, fa_memq, frl_snoc, frl_app, frl_rev, fl_eq, fl_ne, fll_eq, fll_ne, fll_eq0, fll_ne0, fl_eq0, fl_ne0, exists_eq', i_tup, i_lst, i_int, i_bl, i_non, i_str, i_dct, String.reduceBEq, Bool.or_false, Bool.false_or, i_frq, l_frq, fr12, two_frq, num_zero, dep_bb, forGo_nil, f_inT, f_inL, f_ninT, f_ninL, sIx_nat, isTup_t, len0_t, dep_i, dep_non, dep_bl, dep_ii, sub_zero', Int.cast_ofNat_Int, e_frq, isInt, pl, fa_eq2, fa_eq3, atI_1, atI_2, atI_3, l0_ne, l0_eq, frl_eq, dep_p2, dep_p3, wl_inj, w_eq, w_ne, w_len, v_mulT,  dep_frq2, dep_frq1, isNo, partP, slP, cut_map, sIx_n, sIx_1, List.drop_zero, Nat.sub_zero, decide_eq_false_iff_not, Decidable.not_not, List.take_zero, atI_0,  isFrac_frq, pl_frq, Bool.true_eq_false, Bool.not_eq_false', abs_if, Nat.reduceEqDiff, one_frq, zero_frq, one_div', t_nf, t_np, P.fn.injEq, Nat.reduceLT, and_assoc, false_or, or_false, true_or, or_true, List.length_map, len_range, sizeLine_eq, beq_self_eq_true, Bool.true_beq, Bool.false_beq, tw_inj, pw_inj, and_false, false_and, b_int, rd_inj, il_inj, zip_map2, nn_frq, nn_tup, nn_non, il_eq, il_ne, il_eq0, il_ne0, il_eq1, il_ne1, i_nin2, i_in2, sp_law_take, sp_law_of, sp_law_part, sp_law_flashes, sp_law_less, sp_law_by, sp_law_floor, sp_law_over, sp_law_rest, sp_law_measure, sp_law_flash_measure, sp_law_tell_as_much, sp_is_tuple_up_to, sp_is_tuple_of, sp_is_pair, sp_is_whole, sp_is_from, sp_is_fraction_of, sp_is_time_of, sp_is_less, sp_wrong_in_flashes, sp_check_flashes, sp_is_whole_one, sp_plain_of, sp_over, sp_is_multiple, sp_measure_of_two, sp_measure_by, sp_plus, sp_negative, sp_minus, sp_flash_measure_by, sp_tell_as_much_by, sp_tell_as_much, sp_law_plus, sp_law_same_0, sp_law_same_1, sp_law_same_2, sp_law_order, sp_law_fraction, sp_law_step, sp_is_between, sp_is_order_of, sp_check_order, sp_check_lit, sp_check_fraction, sp_times, sp_whole, sp_rate_step_by, sp_are_alike_by, sp_are_alike, sp_flash_measure, sp_law_is_told, sp_law_right, sp_law_well, sp_law, frq_qa, hqa, eG]
    refine ⟨fun m env => ∃ a : Nat, env = [some p, some (frq (Rat.divInt (G : Int) D)), some (frq q), some (frq (Rat.divInt (a : Int) D)), some (frq (Rat.divInt (m : Int) D))] ∧ a < 2 ^ 200 ∧ m < 2 ^ 200 ∧ Nat.gcd a m = Nat.gcd G y.natAbs, ⟨y.natAbs, G, rfl, hG, hy, rfl⟩, ?_⟩
    rintro m env ⟨a, rfl, ha, hm, hg⟩
    simp only [wpE, wpEs, wpAnd, wpOr, wpIfs, tn_0, tn_1, tn_2, tn_3, tn_4, tn_5, tn_6, tn_7, tn_8, tn_9, tn_10, tn_11, tn_12, tn_13, tn_14, tn_15, tn_16, tn_17, tn_18, tn_19, tn_20, tn_21, tn_22, tn_23, tn_24, tn_25, tn_26, tn_27, tn_28, tn_29, tn_30, tn_31, tn_32, tn_33, tn_34, tn_35, tn_36, tn_37, tn_38, tn_39, tn_40, tn_41, tn_42, tn_43, tn_44, tn_45, tn_46, tn_47, tn_48, tn_49, tn_50, tn_51, tn_52, tn_53, tn_54, tn_55, tc_0, tc_1, setAll, v_truth, v_truthI, v_truthT, v_truthL, v_truthN, v_tru, v_add, v_addL, v_addT, v_sub, v_mul, v_fdiv, v_mod, v_pow, v_neg, v_lt, v_le, v_gt, v_ge, v_isN, v_isnN, v_isB, v_isnB, v_eqI, v_neI, v_eqB, v_neB, v_bt, v_bts, v_bt0, v_btn, v_btp, v_ixT, v_ixL, v_ixP, v_ixS, v_len, v_lenT, v_lenL, v_lenS, v_abs, v_int, v_tupL, v_tupT, v_lstL, v_lstT, v_lstD, v_all, v_any, v_gcd, v_max, v_min, v_divmod, v_rng1, v_rng2, v_elT, v_elL, v_isi, v_mk, v_mkD, List.map_cons, List.map_nil, List.length_cons, List.length_nil, List.getElem?_cons_zero, List.getElem?_cons_succ, List.set_cons_zero, List.set_cons_succ, List.isEmpty_cons, List.isEmpty_nil, Option.some.injEq, exists_eq_left', exists_eq_left, Nat.reduceAdd, Nat.reduceSub, Nat.zero_add, List.cons.injEq, P.int.injEq, P.bl.injEq, P.tup.injEq, P.lst.injEq, and_true, true_and, Bool.false_eq_true, if_true, if_false, reduceIte, env0, List.map_cons, List.map_nil, List.length_cons, List.length_nil, Nat.reduceSub, Nat.reduceAdd, List.replicate_succ, List.replicate_zero, List.cons_append, List.nil_append, v_tru, mk, mkD, mkX, mkY, oc_v, oc_x, hdP, cval, cvals, Option.map_some, Prod.exists, forall_exists_index, and_imp, forall_eq, exists_const, exists_false, exists_and_left, exists_and_right, exists_eq_right, frq_inj, f_ix0, f_ix1, f_eq, f_ne, fr_add, fr_mul, frq_neg, frq_neg', ite_self, decide_eq_true_eq, decide_true, decide_false, Bool.not_true, Bool.not_false, Bool.not_eq_true', Bool.and_true, Bool.true_and, Bool.and_false, Bool.false_and, Bool.or_true, Bool.true_or, Bool.or_false, Bool.false_or, and_self, List.getD_cons_zero, List.getD_cons_succ, List.nil_append, s_nil, wipeE, Int.reduceLT, Int.reduceLE, Int.reduceAdd, Int.reduceSub, Int.reduceMul, Int.reduceNeg, Int.reduceEq, Int.reduceNe, ne_eq, not_true_eq_false, not_false_eq_true, reduceCtorEq, true_implies, imp_self, f_bt, den_one, frl_inj, fa_eq, fa_mem, sm62, inL_cons, inL_nil, revP, isStr, List.cons_append, fa_memq, frl_snoc, frl_app, frl_rev, fl_eq, fl_ne, fll_eq, fll_ne, fll_eq0, fll_ne0, fl_eq0, fl_ne0, exists_eq', i_tup, i_lst, i_int, i_bl, i_non, i_str, i_dct, String.reduceBEq, Bool.or_false, Bool.false_or, i_frq, l_frq, fr12, two_frq, num_zero, dep_bb, forGo_nil, f_inT, f_inL, f_ninT, f_ninL, sIx_nat, isTup_t, len0_t, dep_i, dep_non, dep_bl, dep_ii, sub_zero', Int.cast_ofNat_Int, e_frq, isInt, pl, fa_eq2, fa_eq3, atI_1, atI_2, atI_3, l0_ne, l0_eq, frl_eq, dep_p2, dep_p3, wl_inj, w_eq, w_ne, w_len, v_mulT,  dep_frq2, dep_frq1, isNo, partP, slP, cut_map, sIx_n, sIx_1, List.drop_zero, Nat.sub_zero, decide_eq_false_iff_not, Decidable.not_not, List.take_zero, atI_0,  isFrac_frq, pl_frq, Bool.true_eq_false, Bool.not_eq_false', abs_if, Nat.reduceEqDiff, one_frq, zero_frq, one_div', t_nf, t_np, P.fn.injEq, Nat.reduceLT, and_assoc, false_or, or_false, true_or, or_true, List.length_map, len_range, sizeLine_eq, beq_self_eq_true, Bool.true_beq, Bool.false_beq, tw_inj, pw_inj, and_false, false_and, b_int, rd_inj, il_inj, zip_map2, nn_frq, nn_tup, nn_non, il_eq, il_ne, il_eq0, il_ne0, il_eq1, il_ne1, i_nin2, i_in2, sp_law_take, sp_law_of, sp_law_part, sp_law_flashes, sp_law_less, sp_law_by, sp_law_floor, sp_law_over, sp_law_rest, sp_law_measure, sp_law_flash_measure, sp_law_tell_as_much, sp_is_tuple_up_to, sp_is_tuple_of, sp_is_pair, sp_is_whole, sp_is_from, sp_is_fraction_of, sp_is_time_of, sp_is_less, sp_wrong_in_flashes, sp_check_flashes, sp_is_whole_one, sp_plain_of, sp_over, sp_is_multiple, sp_measure_of_two, sp_measure_by, sp_plus, sp_negative, sp_minus, sp_flash_measure_by, sp_tell_as_much_by, sp_tell_as_much, sp_law_plus, sp_law_same_0, sp_law_same_1, sp_law_same_2, sp_law_order, sp_law_fraction, sp_law_step, sp_is_between, sp_is_order_of, sp_check_order, sp_check_lit, sp_check_fraction, sp_times, sp_whole, sp_rate_step_by, sp_are_alike_by, sp_are_alike, sp_flash_measure, sp_law_is_told, sp_law_right, sp_law_well, sp_law, divInt_num_pos D0]
    by_cases hm0 : 0 < m
    · rw [if_pos hm0]
      have z1 : Sz 200 (Rat.divInt (a : Int) D) := sz_divInt (by omega) (by omega) D1'
      have z2 : Sz 200 (Rat.divInt (m : Int) D) := sz_divInt (by omega) (by omega) D1'
      have hp : 0 < Rat.divInt (m : Int) D := divInt_pos (by omega) D0
      tlg_ne; kcj_in
      refine ⟨hp, by kst_mem, by kst_mem, a % m, Nat.mod_lt _ hm0, m, by first | exact ⟨rfl, rmd_parts D0 hm0⟩ | exact rfl, by first | exact rmd_parts D0 hm0 | exact hm, by first | exact hm | exact Nat.lt_trans (Nat.mod_lt _ hm0) hm, ?_⟩
      · first | (refine ⟨Nat.lt_trans (Nat.mod_lt _ hm0) hm, ?_⟩; rw [← hg, Nat.gcd_comm a m, Nat.gcd_rec m a, Nat.gcd_comm]) | rw [← hg, Nat.gcd_comm a m, Nat.gcd_rec m a, Nat.gcd_comm]
    · rw [if_neg hm0]
      have hm1 : m = 0 := by omega
      subst hm1
      rw [Nat.gcd_zero_right] at hg
      subst hg
      tlg_ne; kcj_in
      exact hk2
  · rintro env ⟨o2, o3, o4, rfl, el⟩
    tlg_ne; kcj_in
    exact k _ (by rw [← el, List.append_nil])
theorem ok_law_flash_measure : BodyOk (T.upto 10) 1 2 b_law_flash_measure sp_law_flash_measure := by
  refine bodyD (fun _ => rfl) ?_
  rintro l Q E h k
  krn_off
  obtain ⟨h0, h1, h2, h3, h4⟩ := id h
  obtain ⟨a, r, hl⟩ := List.exists_cons_of_ne_nil h0
  have hat : atI (l.map frq) 0 = some (frq a) := by rw [hl]; exact atI_0
  have ha : a ∈ l := by rw [hl]; simp
  have haz : Sz 80 a := (h2 a ha).2
  tlg_ne; simp only [wpE, wpEs, wpAnd, wpOr, wpIfs, tn_0, tn_1, tn_2, tn_3, tn_4, tn_5, tn_6, tn_7, tn_8, tn_9, tn_10, tn_11, tn_12, tn_13, tn_14, tn_15, tn_16, tn_17, tn_18, tn_19, tn_20, tn_21, tn_22, tn_23, tn_24, tn_25, tn_26, tn_27, tn_28, tn_29, tn_30, tn_31, tn_32, tn_33, tn_34, tn_35, tn_36, tn_37, tn_38, tn_39, tn_40, tn_41, tn_42, tn_43, tn_44, tn_45, tn_46, tn_47, tn_48, tn_49, tn_50, tn_51, tn_52, tn_53, tn_54, tn_55, tc_0, tc_1, setAll, v_truth, v_truthI, v_truthT, v_truthL, v_truthN, v_tru, v_add, v_addL, v_addT, v_sub, v_mul, v_fdiv, v_mod, v_pow, v_neg, v_lt, v_le, v_gt, v_ge, v_isN, v_isnN, v_isB, v_isnB, v_eqI, v_neI, v_eqB, v_neB, v_bt, v_bts, v_bt0, v_btn, v_btp, v_ixT, v_ixL, v_ixP, v_ixS, v_len, v_lenT, v_lenL, v_lenS, v_abs, v_int, v_tupL, v_tupT, v_lstL, v_lstT, v_lstD, v_all, v_any, v_gcd, v_max, v_min, v_divmod, v_rng1, v_rng2, v_elT, v_elL, v_isi, v_mk, v_mkD, List.map_cons, List.map_nil, List.length_cons, List.length_nil, List.getElem?_cons_zero, List.getElem?_cons_succ, List.set_cons_zero, List.set_cons_succ, List.isEmpty_cons, List.isEmpty_nil, Option.some.injEq, exists_eq_left', exists_eq_left, Nat.reduceAdd, Nat.reduceSub, Nat.zero_add, List.cons.injEq, P.int.injEq, P.bl.injEq, P.tup.injEq, P.lst.injEq, and_true, true_and, Bool.false_eq_true, if_true, if_false, reduceIte, env0, List.map_cons, List.map_nil, List.length_cons, List.length_nil, Nat.reduceSub, Nat.reduceAdd, List.replicate_succ, List.replicate_zero, List.cons_append, List.nil_append, v_tru, mk, mkD, mkX, mkY, oc_v, oc_x, hdP, cval, cvals, Option.map_some, Prod.exists, forall_exists_index, and_imp, forall_eq, exists_const, exists_false, exists_and_left, exists_and_right, exists_eq_right, frq_inj, f_ix0, f_ix1, f_eq, f_ne, fr_add, fr_mul, frq_neg, frq_neg', ite_self, decide_eq_true_eq, decide_true, decide_false, Bool.not_true, Bool.not_false, Bool.not_eq_true', Bool.and_true, Bool.true_and, Bool.and_false, Bool.false_and, Bool.or_true, Bool.true_or, Bool.or_false, Bool.false_or, and_self, List.getD_cons_zero, List.getD_cons_succ, List.nil_append, s_nil, wipeE, Int.reduceLT, Int.reduceLE, Int.reduceAdd, Int.reduceSub, Int.reduceMul, Int.reduceNeg, Int.reduceEq, Int.reduceNe, ne_eq, not_true_eq_false, not_false_eq_true, reduceCtorEq, true_implies, imp_self, f_bt, den_one, frl_inj, fa_eq, fa_mem, sm62, inL_cons, inL_nil, revP, isStr, List.cons_append, fa_memq, frl_snoc, frl_app, frl_rev, fl_eq, fl_ne, fll_eq, fll_ne, fll_eq0, fll_ne0, fl_eq0, fl_ne0, exists_eq', i_tup, i_lst, i_int, i_bl, i_non, i_str, i_dct, String.reduceBEq, Bool.or_false, Bool.false_or, i_frq, l_frq, fr12, two_frq, num_zero, dep_bb, forGo_nil, f_inT, f_inL, f_ninT, f_ninL, sIx_nat, isTup_t, len0_t, dep_i, dep_non, dep_bl, dep_ii, sub_zero', Int.cast_ofNat_Int, e_frq, isInt, pl, fa_eq2, fa_eq3, atI_1, atI_2, atI_3, l0_ne, l0_eq, frl_eq, dep_p2, dep_p3, wl_inj, w_eq, w_ne, w_len, v_mulT,  dep_frq2, dep_frq1, isNo, partP, slP, cut_map, sIx_n, sIx_1, List.drop_zero, Nat.sub_zero, decide_eq_false_iff_not, Decidable.not_not, List.take_zero, atI_0,  isFrac_frq, pl_frq, Bool.true_eq_false, Bool.not_eq_false', abs_if, Nat.reduceEqDiff, one_frq, zero_frq, one_div', t_nf, t_np, P.fn.injEq, Nat.reduceLT, and_assoc, false_or, or_false, true_or, or_true, List.length_map, len_range, sizeLine_eq, beq_self_eq_true, Bool.true_beq, Bool.false_beq, tw_inj, pw_inj, and_false, false_and, b_int, rd_inj, il_inj, zip_map2, nn_frq, nn_tup, nn_non, il_eq, il_ne, il_eq0, il_ne0, il_eq1, il_ne1, i_nin2, i_in2, sp_law_take, sp_law_of, sp_law_part, sp_law_flashes, sp_law_less, sp_law_by, sp_law_floor, sp_law_over, sp_law_rest, sp_law_measure, sp_law_flash_measure, sp_law_tell_as_much, sp_is_tuple_up_to, sp_is_tuple_of, sp_is_pair, sp_is_whole, sp_is_from, sp_is_fraction_of, sp_is_time_of, sp_is_less, sp_wrong_in_flashes, sp_check_flashes, sp_is_whole_one, sp_plain_of, sp_over, sp_is_multiple, sp_measure_of_two, sp_measure_by, sp_plus, sp_negative, sp_minus, sp_flash_measure_by, sp_tell_as_much_by, sp_tell_as_much, sp_law_plus, sp_law_same_0, sp_law_same_1, sp_law_same_2, sp_law_order, sp_law_fraction, sp_law_step, sp_is_between, sp_is_order_of, sp_check_order, sp_check_lit, sp_check_fraction, sp_times, sp_whole, sp_rate_step_by, sp_are_alike_by, sp_are_alike, sp_flash_measure, sp_law_is_told, sp_law_right, sp_law_well, sp_law, hat]
  refine ⟨by omega, lcGo_tt frq frq (fun t => t - a) l (fun q hq acc k2 hk2 => ?_) ?_⟩
  · have hqz : Sz 80 q := (h2 q hq).2
    simp only [wpE, wpEs, wpAnd, wpOr, wpIfs, tn_0, tn_1, tn_2, tn_3, tn_4, tn_5, tn_6, tn_7, tn_8, tn_9, tn_10, tn_11, tn_12, tn_13, tn_14, tn_15, tn_16, tn_17, tn_18, tn_19, tn_20, tn_21, tn_22, tn_23, tn_24, tn_25, tn_26, tn_27, tn_28, tn_29, tn_30, tn_31, tn_32, tn_33, tn_34, tn_35, tn_36, tn_37, tn_38, tn_39, tn_40, tn_41, tn_42, tn_43, tn_44, tn_45, tn_46, tn_47, tn_48, tn_49, tn_50, tn_51, tn_52, tn_53, tn_54, tn_55, tc_0, tc_1, setAll, v_truth, v_truthI, v_truthT, v_truthL, v_truthN, v_tru, v_add, v_addL, v_addT, v_sub, v_mul, v_fdiv, v_mod, v_pow, v_neg, v_lt, v_le, v_gt, v_ge, v_isN, v_isnN, v_isB, v_isnB, v_eqI, v_neI, v_eqB, v_neB, v_bt, v_bts, v_bt0, v_btn, v_btp, v_ixT, v_ixL, v_ixP, v_ixS, v_len, v_lenT, v_lenL, v_lenS, v_abs, v_int, v_tupL, v_tupT, v_lstL, v_lstT, v_lstD, v_all, v_any, v_gcd, v_max, v_min, v_divmod, v_rng1, v_rng2, v_elT, v_elL, v_isi, v_mk, v_mkD, List.map_cons, List.map_nil, List.length_cons, List.length_nil, List.getElem?_cons_zero, List.getElem?_cons_succ, List.set_cons_zero, List.set_cons_succ, List.isEmpty_cons, List.isEmpty_nil, Option.some.injEq, exists_eq_left', exists_eq_left, Nat.reduceAdd, Nat.reduceSub, Nat.zero_add, List.cons.injEq, P.int.injEq, P.bl.injEq, P.tup.injEq, P.lst.injEq, and_true, true_and, Bool.false_eq_true, if_true, if_false, reduceIte, env0, List.map_cons, List.map_nil, List.length_cons, List.length_nil, Nat.reduceSub, Nat.reduceAdd, List.replicate_succ, List.replicate_zero, List.cons_append, List.nil_append, v_tru, mk, mkD, mkX, mkY, oc_v, oc_x, hdP, cval, cvals, Option.map_some, Prod.exists, forall_exists_index, and_imp, forall_eq, exists_const, exists_false, exists_and_left, exists_and_right, exists_eq_right, frq_inj, f_ix0, f_ix1, f_eq, f_ne, fr_add, fr_mul, frq_neg, frq_neg', ite_self, decide_eq_true_eq, decide_true, decide_false, Bool.not_true, Bool.not_false, Bool.not_eq_true', Bool.and_true, Bool.true_and, Bool.and_false, Bool.false_and, Bool.or_true, Bool.true_or, Bool.or_false, Bool.false_or, and_self, List.getD_cons_zero, List.getD_cons_succ, List.nil_append, s_nil, wipeE, Int.reduceLT, Int.reduceLE, Int.reduceAdd, Int.reduceSub, Int.reduceMul, Int.reduceNeg, Int.reduceEq, Int.reduceNe, ne_eq, not_true_eq_false, not_false_eq_true, reduceCtorEq, true_implies, imp_self, f_bt, den_one, frl_inj, fa_eq, fa_mem, sm62, inL_cons, inL_nil, revP, isStr, List.cons_append, fa_memq, frl_snoc, frl_app, frl_rev, fl_eq, fl_ne, fll_eq, fll_ne, fll_eq0, fll_ne0, fl_eq0, fl_ne0, exists_eq', i_tup, i_lst, i_int, i_bl, i_non, i_str, i_dct, String.reduceBEq, Bool.or_false, Bool.false_or, i_frq, l_frq, fr12, two_frq, num_zero, dep_bb, forGo_nil, f_inT, f_inL, f_ninT, f_ninL, sIx_nat, isTup_t, len0_t, dep_i, dep_non, dep_bl, dep_ii, sub_zero', Int.cast_ofNat_Int, e_frq, isInt, pl, fa_eq2, fa_eq3, atI_1, atI_2, atI_3, l0_ne, l0_eq, frl_eq, dep_p2, dep_p3, wl_inj, w_eq, w_ne, w_len, v_mulT,  dep_frq2, dep_frq1, isNo, partP, slP, cut_map, sIx_n, sIx_1, List.drop_zero, Nat.sub_zero, decide_eq_false_iff_not, Decidable.not_not, List.take_zero, atI_0,  isFrac_frq, pl_frq, Bool.true_eq_false, Bool.not_eq_false', abs_if, Nat.reduceEqDiff, one_frq, zero_frq, one_div', t_nf, t_np, P.fn.injEq, Nat.reduceLT, and_assoc, false_or, or_false, true_or, or_true, List.length_map, len_range, sizeLine_eq, beq_self_eq_true, Bool.true_beq, Bool.false_beq, tw_inj, pw_inj, and_false, false_and, b_int, rd_inj, il_inj, zip_map2, nn_frq, nn_tup, nn_non, il_eq, il_ne, il_eq0, il_ne0, il_eq1, il_ne1, i_nin2, i_in2, sp_law_take, sp_law_of, sp_law_part, sp_law_flashes, sp_law_less, sp_law_by, sp_law_floor, sp_law_over, sp_law_rest, sp_law_measure, sp_law_flash_measure, sp_law_tell_as_much, sp_is_tuple_up_to, sp_is_tuple_of, sp_is_pair, sp_is_whole, sp_is_from, sp_is_fraction_of, sp_is_time_of, sp_is_less, sp_wrong_in_flashes, sp_check_flashes, sp_is_whole_one, sp_plain_of, sp_over, sp_is_multiple, sp_measure_of_two, sp_measure_by, sp_plus, sp_negative, sp_minus, sp_flash_measure_by, sp_tell_as_much_by, sp_tell_as_much, sp_law_plus, sp_law_same_0, sp_law_same_1, sp_law_same_2, sp_law_order, sp_law_fraction, sp_law_step, sp_is_between, sp_is_order_of, sp_check_order, sp_check_lit, sp_check_fraction, sp_times, sp_whole, sp_rate_step_by, sp_are_alike_by, sp_are_alike, sp_flash_measure, sp_law_is_told, sp_law_right, sp_law_well, sp_law, hat]
    exact ⟨by kst_mem, by kst_mem, hk2⟩
  kcj_in
  refine ⟨⟨12, by decide, by decide, fun q hq => ?_⟩, k _ ?_⟩
  · obtain ⟨t, ht, rfl⟩ := List.mem_map.mp hq
    obtain ⟨y, e, hy⟩ := h4 t ht a ha
    exact ⟨y, e, by omega⟩
  · rw [hl]
    show frq (qms ((a - a) :: r.map fun t => t - a)) = frq (fms (a :: r))
    rw [show a - a = 0 by grind, qms_zero_cons]; rfl
theorem ok_law_tell_as_much : BodyOk (T.upto 11) 2 4 b_law_tell_as_much sp_law_tell_as_much := by
  refine bodyD (fun _ => rfl) ?_
  rintro ⟨l, m⟩ Q E ⟨h, g⟩ k
  krn_off
  obtain ⟨h0, hz⟩ := h.sz
  obtain ⟨g0, gz⟩ := g.sz
  tlg_ne; kcj_in
  refine ⟨h, g, ?_⟩
  tlg_ne; kcj_in
  by_cases e : fms m = 0
  · rw [if_pos e]
    refine k _ (congrArg P.bl ?_)
    have : tam (fms l) (fms m) := tam_of (k := 0) (by rw [e]; grind)
    rw [e] at this
    simp [this, e]
  · rw [if_neg e]
    by_cases e2 : fms l = 0
    · have hn : ¬ 0 < (fms l).num := by rw [e2]; decide
      rw [if_neg hn]
      refine k _ (congrArg P.bl ?_)
      rw [e2]
      simp [tam_zero, e]
    · have hp : 0 < fms l := by
        rcases Rat.le_iff_lt_or_eq.mp h0 with z | z
        · exact z
        · exact absurd z.symm e2
      rw [if_pos (num_pos hp)]
      exact ⟨e2, by kst_mem, by kst_mem, k _ (congrArg P.bl (decide_eq_decide.mpr (tam_ne e2).symm))⟩
theorem ok_is_tuple_up_to : BodyOk (T.upto 12) 3 3 b_is_tuple_up_to sp_is_tuple_up_to := by
  refine ⟨?_, ?_⟩
  · rintro ps Q E ⟨p, rfl, _⟩; rfl
  · rintro ps Q E ⟨⟨p, l, h⟩, rfl, hp, q⟩
    refine w_ret (tmu _) (fun r => r = .bl (isTup p && decide (l ≤ len0 p) && decide (len0 p ≤ h))) ?_ (fun r e => by rw [e]; exact q)
    simp only [env0, List.map_cons, List.map_nil, List.length_cons, List.length_nil, Nat.reduceSub, Nat.reduceAdd, List.replicate_succ, List.replicate_zero, List.cons_append, List.nil_append, wpE, wpEs, wpAnd, wpOr, wpIfs, tn_0, tn_1, tn_2, tn_3, tn_4, tn_5, tn_6, tn_7, tn_8, tn_9, tn_10, tn_11, tn_12, tn_13, tn_14, tn_15, tn_16, tn_17, tn_18, tn_19, tn_20, tn_21, tn_22, tn_23, tn_24, tn_25, tn_26, tn_27, tn_28, tn_29, tn_30, tn_31, tn_32, tn_33, tn_34, tn_35, tn_36, tn_37, tn_38, tn_39, tn_40, tn_41, tn_42, tn_43, tn_44, tn_45, tn_46, tn_47, tn_48, tn_49, tn_50, tn_51, tn_52, tn_53, tn_54, tn_55, tc_0, tc_1, setAll, v_truth, v_truthI, v_truthT, v_truthL, v_truthN, v_tru, v_add, v_addL, v_addT, v_sub, v_mul, v_fdiv, v_mod, v_pow, v_neg, v_lt, v_le, v_gt, v_ge, v_isN, v_isnN, v_isB, v_isnB, v_eqI, v_neI, v_eqB, v_neB, v_bt, v_bts, v_bt0, v_btn, v_btp, v_ixT, v_ixL, v_ixP, v_ixS, v_len, v_lenT, v_lenL, v_lenS, v_abs, v_int, v_tupL, v_tupT, v_lstL, v_lstT, v_lstD, v_all, v_any, v_gcd, v_max, v_min, v_divmod, v_rng1, v_rng2, v_elT, v_elL, v_isi, v_mk, v_mkD, List.map_cons, List.map_nil, List.length_cons, List.length_nil, List.getElem?_cons_zero, List.getElem?_cons_succ, List.set_cons_zero, List.set_cons_succ, List.isEmpty_cons, List.isEmpty_nil, Option.some.injEq, exists_eq_left', exists_eq_left, Nat.reduceAdd, Nat.reduceSub, Nat.zero_add, List.cons.injEq, P.int.injEq, P.bl.injEq, P.tup.injEq, P.lst.injEq, and_true, true_and, Bool.false_eq_true, if_true, if_false, reduceIte]
    cases p <;> simp_all [pl, isiP, isTup, v_tru, len0, lenP, wpE, wpEs, wpAnd, wpOr, wpIfs, tn_0, tn_1, tn_2, tn_3, tn_4, tn_5, tn_6, tn_7, tn_8, tn_9, tn_10, tn_11, tn_12, tn_13, tn_14, tn_15, tn_16, tn_17, tn_18, tn_19, tn_20, tn_21, tn_22, tn_23, tn_24, tn_25, tn_26, tn_27, tn_28, tn_29, tn_30, tn_31, tn_32, tn_33, tn_34, tn_35, tn_36, tn_37, tn_38, tn_39, tn_40, tn_41, tn_42, tn_43, tn_44, tn_45, tn_46, tn_47, tn_48, tn_49, tn_50, tn_51, tn_52, tn_53, tn_54, tn_55, tc_0, tc_1, setAll, v_truth, v_truthI, v_truthT, v_truthL, v_truthN, v_tru, v_add, v_addL, v_addT, v_sub, v_mul, v_fdiv, v_mod, v_pow, v_neg, v_lt, v_le, v_gt, v_ge, v_isN, v_isnN, v_isB, v_isnB, v_eqI, v_neI, v_eqB, v_neB, v_bt, v_bts, v_bt0, v_btn, v_btp, v_ixT, v_ixL, v_ixP, v_ixS, v_len, v_lenT, v_lenL, v_lenS, v_abs, v_int, v_tupL, v_tupT, v_lstL, v_lstT, v_lstD, v_all, v_any, v_gcd, v_max, v_min, v_divmod, v_rng1, v_rng2, v_elT, v_elL, v_isi, v_mk, v_mkD, List.map_cons, List.map_nil, List.length_cons, List.length_nil, List.getElem?_cons_zero, List.getElem?_cons_succ, List.set_cons_zero, List.set_cons_succ, List.isEmpty_cons, List.isEmpty_nil, Option.some.injEq, exists_eq_left', exists_eq_left, Nat.reduceAdd, Nat.reduceSub, Nat.zero_add, List.cons.injEq, P.int.injEq, P.bl.injEq, P.tup.injEq, P.lst.injEq, and_true, true_and, Bool.false_eq_true, if_true, if_false, reduceIte]
    rename_i xs
    by_cases h1 : l ≤ (xs.length : Int) <;> simp [h1] <;> rfl
theorem ok_is_tuple_of : BodyOk (T.upto 13) 2 2 b_is_tuple_of sp_is_tuple_of := by
  refine ⟨?_, ?_⟩
  · rintro ps Q E ⟨p, rfl, _⟩; rfl
  · rintro ps Q E ⟨⟨p, l⟩, rfl, hp, q⟩
    refine w_ret (tmu _) (fun r => r = .bl (isTup p && decide (len0 p = l))) ?_ (fun r e => by rw [e]; exact q)
    simp only [env0, List.map_cons, List.map_nil, List.length_cons, List.length_nil, Nat.reduceSub, Nat.reduceAdd, List.replicate_succ, List.replicate_zero, List.cons_append, List.nil_append, wpE, wpEs, wpAnd, wpOr, wpIfs, tn_0, tn_1, tn_2, tn_3, tn_4, tn_5, tn_6, tn_7, tn_8, tn_9, tn_10, tn_11, tn_12, tn_13, tn_14, tn_15, tn_16, tn_17, tn_18, tn_19, tn_20, tn_21, tn_22, tn_23, tn_24, tn_25, tn_26, tn_27, tn_28, tn_29, tn_30, tn_31, tn_32, tn_33, tn_34, tn_35, tn_36, tn_37, tn_38, tn_39, tn_40, tn_41, tn_42, tn_43, tn_44, tn_45, tn_46, tn_47, tn_48, tn_49, tn_50, tn_51, tn_52, tn_53, tn_54, tn_55, tc_0, tc_1, setAll, v_truth, v_truthI, v_truthT, v_truthL, v_truthN, v_tru, v_add, v_addL, v_addT, v_sub, v_mul, v_fdiv, v_mod, v_pow, v_neg, v_lt, v_le, v_gt, v_ge, v_isN, v_isnN, v_isB, v_isnB, v_eqI, v_neI, v_eqB, v_neB, v_bt, v_bts, v_bt0, v_btn, v_btp, v_ixT, v_ixL, v_ixP, v_ixS, v_len, v_lenT, v_lenL, v_lenS, v_abs, v_int, v_tupL, v_tupT, v_lstL, v_lstT, v_lstD, v_all, v_any, v_gcd, v_max, v_min, v_divmod, v_rng1, v_rng2, v_elT, v_elL, v_isi, v_mk, v_mkD, List.map_cons, List.map_nil, List.length_cons, List.length_nil, List.getElem?_cons_zero, List.getElem?_cons_succ, List.set_cons_zero, List.set_cons_succ, List.isEmpty_cons, List.isEmpty_nil, Option.some.injEq, exists_eq_left', exists_eq_left, Nat.reduceAdd, Nat.reduceSub, Nat.zero_add, List.cons.injEq, P.int.injEq, P.bl.injEq, P.tup.injEq, P.lst.injEq, and_true, true_and, Bool.false_eq_true, if_true, if_false, reduceIte]
    refine ⟨(p, l, l), rfl, hp, ?_⟩
    congr 1
    simp only []
    by_cases h : len0 p = l
    · simp [h]
    · rcases Int.lt_or_gt_of_ne h with h1 | h1
      · simp [h, show ¬ l ≤ len0 p by omega]
      · simp [h, show ¬ len0 p ≤ l by omega]
theorem ok_is_pair : BodyOk (T.upto 14) 1 1 b_is_pair sp_is_pair := by
  refine ⟨?_, ?_⟩
  · rintro ps Q E ⟨p, rfl, _⟩; rfl
  · rintro ps Q E ⟨p, rfl, hp, q⟩
    refine w_ret (tmu _) (fun r => r = .bl (isTup p && decide (len0 p = 2))) ?_ (fun r e => by rw [e]; exact q)
    simp only [env0, List.map_cons, List.map_nil, List.length_cons, List.length_nil, Nat.reduceSub, Nat.reduceAdd, List.replicate_succ, List.replicate_zero, List.cons_append, List.nil_append, wpE, wpEs, wpAnd, wpOr, wpIfs, tn_0, tn_1, tn_2, tn_3, tn_4, tn_5, tn_6, tn_7, tn_8, tn_9, tn_10, tn_11, tn_12, tn_13, tn_14, tn_15, tn_16, tn_17, tn_18, tn_19, tn_20, tn_21, tn_22, tn_23, tn_24, tn_25, tn_26, tn_27, tn_28, tn_29, tn_30, tn_31, tn_32, tn_33, tn_34, tn_35, tn_36, tn_37, tn_38, tn_39, tn_40, tn_41, tn_42, tn_43, tn_44, tn_45, tn_46, tn_47, tn_48, tn_49, tn_50, tn_51, tn_52, tn_53, tn_54, tn_55, tc_0, tc_1, setAll, v_truth, v_truthI, v_truthT, v_truthL, v_truthN, v_tru, v_add, v_addL, v_addT, v_sub, v_mul, v_fdiv, v_mod, v_pow, v_neg, v_lt, v_le, v_gt, v_ge, v_isN, v_isnN, v_isB, v_isnB, v_eqI, v_neI, v_eqB, v_neB, v_bt, v_bts, v_bt0, v_btn, v_btp, v_ixT, v_ixL, v_ixP, v_ixS, v_len, v_lenT, v_lenL, v_lenS, v_abs, v_int, v_tupL, v_tupT, v_lstL, v_lstT, v_lstD, v_all, v_any, v_gcd, v_max, v_min, v_divmod, v_rng1, v_rng2, v_elT, v_elL, v_isi, v_mk, v_mkD, List.map_cons, List.map_nil, List.length_cons, List.length_nil, List.getElem?_cons_zero, List.getElem?_cons_succ, List.set_cons_zero, List.set_cons_succ, List.isEmpty_cons, List.isEmpty_nil, Option.some.injEq, exists_eq_left', exists_eq_left, Nat.reduceAdd, Nat.reduceSub, Nat.zero_add, List.cons.injEq, P.int.injEq, P.bl.injEq, P.tup.injEq, P.lst.injEq, and_true, true_and, Bool.false_eq_true, if_true, if_false, reduceIte]
    exact ⟨(p, 2), rfl, hp, rfl⟩
theorem ok_is_whole : BodyOk (T.upto 15) 1 1 b_is_whole sp_is_whole := by
  refine ⟨?_, ?_⟩
  · rintro ps Q E ⟨p, rfl, _⟩; rfl
  · rintro ps Q E ⟨p, rfl, hp, q⟩
    refine w_ret (tmu _) (fun r => r = .bl (isInt p)) ?_ (fun r e => by rw [e]; exact q)
    simp only [env0, List.map_cons, List.map_nil, List.length_cons, List.length_nil, Nat.reduceSub, Nat.reduceAdd, List.replicate_succ, List.replicate_zero, List.cons_append, List.nil_append, wpE, wpEs, wpAnd, wpOr, wpIfs, tn_0, tn_1, tn_2, tn_3, tn_4, tn_5, tn_6, tn_7, tn_8, tn_9, tn_10, tn_11, tn_12, tn_13, tn_14, tn_15, tn_16, tn_17, tn_18, tn_19, tn_20, tn_21, tn_22, tn_23, tn_24, tn_25, tn_26, tn_27, tn_28, tn_29, tn_30, tn_31, tn_32, tn_33, tn_34, tn_35, tn_36, tn_37, tn_38, tn_39, tn_40, tn_41, tn_42, tn_43, tn_44, tn_45, tn_46, tn_47, tn_48, tn_49, tn_50, tn_51, tn_52, tn_53, tn_54, tn_55, tc_0, tc_1, setAll, v_truth, v_truthI, v_truthT, v_truthL, v_truthN, v_tru, v_add, v_addL, v_addT, v_sub, v_mul, v_fdiv, v_mod, v_pow, v_neg, v_lt, v_le, v_gt, v_ge, v_isN, v_isnN, v_isB, v_isnB, v_eqI, v_neI, v_eqB, v_neB, v_bt, v_bts, v_bt0, v_btn, v_btp, v_ixT, v_ixL, v_ixP, v_ixS, v_len, v_lenT, v_lenL, v_lenS, v_abs, v_int, v_tupL, v_tupT, v_lstL, v_lstT, v_lstD, v_all, v_any, v_gcd, v_max, v_min, v_divmod, v_rng1, v_rng2, v_elT, v_elL, v_isi, v_mk, v_mkD, List.map_cons, List.map_nil, List.length_cons, List.length_nil, List.getElem?_cons_zero, List.getElem?_cons_succ, List.set_cons_zero, List.set_cons_succ, List.isEmpty_cons, List.isEmpty_nil, Option.some.injEq, exists_eq_left', exists_eq_left, Nat.reduceAdd, Nat.reduceSub, Nat.zero_add, List.cons.injEq, P.int.injEq, P.bl.injEq, P.tup.injEq, P.lst.injEq, and_true, true_and, Bool.false_eq_true, if_true, if_false, reduceIte]
    cases p <;> simp_all [pl, isiP, isInt, v_tru, v_truth, tru]
theorem ok_is_from : BodyOk (T.upto 16) 2 2 b_is_from sp_is_from := by
  refine ⟨?_, ?_⟩
  · rintro ps Q E ⟨p, rfl, _⟩; rfl
  · rintro ps Q E ⟨⟨p, l⟩, rfl, hp, q⟩
    refine w_ret (tmu _) (fun r => r = .bl (geP l p)) ?_ (fun r e => by rw [e]; exact q)
    simp only [env0, List.map_cons, List.map_nil, List.length_cons, List.length_nil, Nat.reduceSub, Nat.reduceAdd, List.replicate_succ, List.replicate_zero, List.cons_append, List.nil_append, wpE, wpEs, wpAnd, wpOr, wpIfs, tn_0, tn_1, tn_2, tn_3, tn_4, tn_5, tn_6, tn_7, tn_8, tn_9, tn_10, tn_11, tn_12, tn_13, tn_14, tn_15, tn_16, tn_17, tn_18, tn_19, tn_20, tn_21, tn_22, tn_23, tn_24, tn_25, tn_26, tn_27, tn_28, tn_29, tn_30, tn_31, tn_32, tn_33, tn_34, tn_35, tn_36, tn_37, tn_38, tn_39, tn_40, tn_41, tn_42, tn_43, tn_44, tn_45, tn_46, tn_47, tn_48, tn_49, tn_50, tn_51, tn_52, tn_53, tn_54, tn_55, tc_0, tc_1, setAll, v_truth, v_truthI, v_truthT, v_truthL, v_truthN, v_tru, v_add, v_addL, v_addT, v_sub, v_mul, v_fdiv, v_mod, v_pow, v_neg, v_lt, v_le, v_gt, v_ge, v_isN, v_isnN, v_isB, v_isnB, v_eqI, v_neI, v_eqB, v_neB, v_bt, v_bts, v_bt0, v_btn, v_btp, v_ixT, v_ixL, v_ixP, v_ixS, v_len, v_lenT, v_lenL, v_lenS, v_abs, v_int, v_tupL, v_tupT, v_lstL, v_lstT, v_lstD, v_all, v_any, v_gcd, v_max, v_min, v_divmod, v_rng1, v_rng2, v_elT, v_elL, v_isi, v_mk, v_mkD, List.map_cons, List.map_nil, List.length_cons, List.length_nil, List.getElem?_cons_zero, List.getElem?_cons_succ, List.set_cons_zero, List.set_cons_succ, List.isEmpty_cons, List.isEmpty_nil, Option.some.injEq, exists_eq_left', exists_eq_left, Nat.reduceAdd, Nat.reduceSub, Nat.zero_add, List.cons.injEq, P.int.injEq, P.bl.injEq, P.tup.injEq, P.lst.injEq, and_true, true_and, Bool.false_eq_true, if_true, if_false, reduceIte]
    refine ⟨p, rfl, hp, ?_⟩
    cases p <;> simp_all [pl, geP, isInt, v_tru, wpE, wpEs, wpAnd, wpOr, wpIfs, tn_0, tn_1, tn_2, tn_3, tn_4, tn_5, tn_6, tn_7, tn_8, tn_9, tn_10, tn_11, tn_12, tn_13, tn_14, tn_15, tn_16, tn_17, tn_18, tn_19, tn_20, tn_21, tn_22, tn_23, tn_24, tn_25, tn_26, tn_27, tn_28, tn_29, tn_30, tn_31, tn_32, tn_33, tn_34, tn_35, tn_36, tn_37, tn_38, tn_39, tn_40, tn_41, tn_42, tn_43, tn_44, tn_45, tn_46, tn_47, tn_48, tn_49, tn_50, tn_51, tn_52, tn_53, tn_54, tn_55, tc_0, tc_1, setAll, v_truth, v_truthI, v_truthT, v_truthL, v_truthN, v_tru, v_add, v_addL, v_addT, v_sub, v_mul, v_fdiv, v_mod, v_pow, v_neg, v_lt, v_le, v_gt, v_ge, v_isN, v_isnN, v_isB, v_isnB, v_eqI, v_neI, v_eqB, v_neB, v_bt, v_bts, v_bt0, v_btn, v_btp, v_ixT, v_ixL, v_ixP, v_ixS, v_len, v_lenT, v_lenL, v_lenS, v_abs, v_int, v_tupL, v_tupT, v_lstL, v_lstT, v_lstD, v_all, v_any, v_gcd, v_max, v_min, v_divmod, v_rng1, v_rng2, v_elT, v_elL, v_isi, v_mk, v_mkD, List.map_cons, List.map_nil, List.length_cons, List.length_nil, List.getElem?_cons_zero, List.getElem?_cons_succ, List.set_cons_zero, List.set_cons_succ, List.isEmpty_cons, List.isEmpty_nil, Option.some.injEq, exists_eq_left', exists_eq_left, Nat.reduceAdd, Nat.reduceSub, Nat.zero_add, List.cons.injEq, P.int.injEq, P.bl.injEq, P.tup.injEq, P.lst.injEq, and_true, true_and, Bool.false_eq_true, if_true, if_false, reduceIte]
theorem ok_is_fraction_of : BodyOk (T.upto 17) 1 1 b_is_fraction_of sp_is_fraction_of := by
  refine ⟨?_, ?_⟩
  · rintro ps Q E ⟨p, rfl, _⟩; rfl
  · rintro ps Q E ⟨p, rfl, hp, q⟩
    replace q : Q (.bl (isFrac p)) := q
    have hpl : pl p = true := by cases p <;> simp_all [pl2, pl]
    by_cases h2 : ∃ x y, p = .tup [x, y]
    · obtain ⟨x, y, rfl⟩ := h2
      simp [pl2] at hp
      refine w_if (tmu _) (!(isInt x) || !(geP 1 y)) ?_ ?_
      · simp only [env0, List.map_cons, List.map_nil, List.length_cons, List.length_nil, Nat.reduceSub, Nat.reduceAdd, List.replicate_succ, List.replicate_zero, List.cons_append, List.nil_append, wpE, wpEs, wpAnd, wpOr, wpIfs, tn_0, tn_1, tn_2, tn_3, tn_4, tn_5, tn_6, tn_7, tn_8, tn_9, tn_10, tn_11, tn_12, tn_13, tn_14, tn_15, tn_16, tn_17, tn_18, tn_19, tn_20, tn_21, tn_22, tn_23, tn_24, tn_25, tn_26, tn_27, tn_28, tn_29, tn_30, tn_31, tn_32, tn_33, tn_34, tn_35, tn_36, tn_37, tn_38, tn_39, tn_40, tn_41, tn_42, tn_43, tn_44, tn_45, tn_46, tn_47, tn_48, tn_49, tn_50, tn_51, tn_52, tn_53, tn_54, tn_55, tc_0, tc_1, setAll, v_truth, v_truthI, v_truthT, v_truthL, v_truthN, v_tru, v_add, v_addL, v_addT, v_sub, v_mul, v_fdiv, v_mod, v_pow, v_neg, v_lt, v_le, v_gt, v_ge, v_isN, v_isnN, v_isB, v_isnB, v_eqI, v_neI, v_eqB, v_neB, v_bt, v_bts, v_bt0, v_btn, v_btp, v_ixT, v_ixL, v_ixP, v_ixS, v_len, v_lenT, v_lenL, v_lenS, v_abs, v_int, v_tupL, v_tupT, v_lstL, v_lstT, v_lstD, v_all, v_any, v_gcd, v_max, v_min, v_divmod, v_rng1, v_rng2, v_elT, v_elL, v_isi, v_mk, v_mkD, List.map_cons, List.map_nil, List.length_cons, List.length_nil, List.getElem?_cons_zero, List.getElem?_cons_succ, List.set_cons_zero, List.set_cons_succ, List.isEmpty_cons, List.isEmpty_nil, Option.some.injEq, exists_eq_left', exists_eq_left, Nat.reduceAdd, Nat.reduceSub, Nat.zero_add, List.cons.injEq, P.int.injEq, P.bl.injEq, P.tup.injEq, P.lst.injEq, and_true, true_and, Bool.false_eq_true, if_true, if_false, reduceIte]
        refine ⟨_, rfl, hpl, ?_⟩
        simp [isTup, len0, v_tru]
        refine ⟨x, rfl, x, rfl, hp.1, ?_⟩
        simp only [v_tru]
        cases hx : isInt x
        · simp
        · simp
          refine ⟨y, rfl, (y, 1), rfl, hp.2, ?_⟩
          simp [v_tru]
      cases hx : isInt x
      · simp only [hx, Bool.not_false, Bool.true_or, if_true]
        refine w_ret (tmu _) (fun r => r = .bl false) (by simp only [wpE, wpEs, wpAnd, wpOr, wpIfs, tn_0, tn_1, tn_2, tn_3, tn_4, tn_5, tn_6, tn_7, tn_8, tn_9, tn_10, tn_11, tn_12, tn_13, tn_14, tn_15, tn_16, tn_17, tn_18, tn_19, tn_20, tn_21, tn_22, tn_23, tn_24, tn_25, tn_26, tn_27, tn_28, tn_29, tn_30, tn_31, tn_32, tn_33, tn_34, tn_35, tn_36, tn_37, tn_38, tn_39, tn_40, tn_41, tn_42, tn_43, tn_44, tn_45, tn_46, tn_47, tn_48, tn_49, tn_50, tn_51, tn_52, tn_53, tn_54, tn_55, tc_0, tc_1, setAll, v_truth, v_truthI, v_truthT, v_truthL, v_truthN, v_tru, v_add, v_addL, v_addT, v_sub, v_mul, v_fdiv, v_mod, v_pow, v_neg, v_lt, v_le, v_gt, v_ge, v_isN, v_isnN, v_isB, v_isnB, v_eqI, v_neI, v_eqB, v_neB, v_bt, v_bts, v_bt0, v_btn, v_btp, v_ixT, v_ixL, v_ixP, v_ixS, v_len, v_lenT, v_lenL, v_lenS, v_abs, v_int, v_tupL, v_tupT, v_lstL, v_lstT, v_lstD, v_all, v_any, v_gcd, v_max, v_min, v_divmod, v_rng1, v_rng2, v_elT, v_elL, v_isi, v_mk, v_mkD, List.map_cons, List.map_nil, List.length_cons, List.length_nil, List.getElem?_cons_zero, List.getElem?_cons_succ, List.set_cons_zero, List.set_cons_succ, List.isEmpty_cons, List.isEmpty_nil, Option.some.injEq, exists_eq_left', exists_eq_left, Nat.reduceAdd, Nat.reduceSub, Nat.zero_add, List.cons.injEq, P.int.injEq, P.bl.injEq, P.tup.injEq, P.lst.injEq, and_true, true_and, Bool.false_eq_true, if_true, if_false, reduceIte]) (fun r e => ?_)
        subst e
        have : isFrac (.tup [x, y]) = false := by cases x <;> simp_all [isFrac, isInt]
        rw [this] at q
        exact q
      cases hy : geP 1 y
      · simp only [hx, hy, Bool.not_false, Bool.or_true, if_true]
        refine w_ret (tmu _) (fun r => r = .bl false) (by simp only [wpE, wpEs, wpAnd, wpOr, wpIfs, tn_0, tn_1, tn_2, tn_3, tn_4, tn_5, tn_6, tn_7, tn_8, tn_9, tn_10, tn_11, tn_12, tn_13, tn_14, tn_15, tn_16, tn_17, tn_18, tn_19, tn_20, tn_21, tn_22, tn_23, tn_24, tn_25, tn_26, tn_27, tn_28, tn_29, tn_30, tn_31, tn_32, tn_33, tn_34, tn_35, tn_36, tn_37, tn_38, tn_39, tn_40, tn_41, tn_42, tn_43, tn_44, tn_45, tn_46, tn_47, tn_48, tn_49, tn_50, tn_51, tn_52, tn_53, tn_54, tn_55, tc_0, tc_1, setAll, v_truth, v_truthI, v_truthT, v_truthL, v_truthN, v_tru, v_add, v_addL, v_addT, v_sub, v_mul, v_fdiv, v_mod, v_pow, v_neg, v_lt, v_le, v_gt, v_ge, v_isN, v_isnN, v_isB, v_isnB, v_eqI, v_neI, v_eqB, v_neB, v_bt, v_bts, v_bt0, v_btn, v_btp, v_ixT, v_ixL, v_ixP, v_ixS, v_len, v_lenT, v_lenL, v_lenS, v_abs, v_int, v_tupL, v_tupT, v_lstL, v_lstT, v_lstD, v_all, v_any, v_gcd, v_max, v_min, v_divmod, v_rng1, v_rng2, v_elT, v_elL, v_isi, v_mk, v_mkD, List.map_cons, List.map_nil, List.length_cons, List.length_nil, List.getElem?_cons_zero, List.getElem?_cons_succ, List.set_cons_zero, List.set_cons_succ, List.isEmpty_cons, List.isEmpty_nil, Option.some.injEq, exists_eq_left', exists_eq_left, Nat.reduceAdd, Nat.reduceSub, Nat.zero_add, List.cons.injEq, P.int.injEq, P.bl.injEq, P.tup.injEq, P.lst.injEq, and_true, true_and, Bool.false_eq_true, if_true, if_false, reduceIte]) (fun r e => ?_)
        subst e
        have : isFrac (.tup [x, y]) = false := by
          cases x <;> cases y <;> simp_all [isFrac, isInt, geP]
          intro h; omega
        rw [this] at q
        exact q
      · simp only [hx, hy, Bool.not_true, Bool.or_false, Bool.false_eq_true, if_false]
        cases x <;> simp [isInt] at hx
        cases y <;> simp [geP] at hy
        rename_i a b
        refine w_ret (tmu _) (fun r => r = .bl (isFrac (.tup [.int a, .int b]))) ?_ (fun r e => by rw [e]; exact q)
        simp only [env0, List.map_cons, List.map_nil, List.length_cons, List.length_nil, Nat.reduceSub, Nat.reduceAdd, List.replicate_succ, List.replicate_zero, List.cons_append, List.nil_append, wpE, wpEs, wpAnd, wpOr, wpIfs, tn_0, tn_1, tn_2, tn_3, tn_4, tn_5, tn_6, tn_7, tn_8, tn_9, tn_10, tn_11, tn_12, tn_13, tn_14, tn_15, tn_16, tn_17, tn_18, tn_19, tn_20, tn_21, tn_22, tn_23, tn_24, tn_25, tn_26, tn_27, tn_28, tn_29, tn_30, tn_31, tn_32, tn_33, tn_34, tn_35, tn_36, tn_37, tn_38, tn_39, tn_40, tn_41, tn_42, tn_43, tn_44, tn_45, tn_46, tn_47, tn_48, tn_49, tn_50, tn_51, tn_52, tn_53, tn_54, tn_55, tc_0, tc_1, setAll, v_truth, v_truthI, v_truthT, v_truthL, v_truthN, v_tru, v_add, v_addL, v_addT, v_sub, v_mul, v_fdiv, v_mod, v_pow, v_neg, v_lt, v_le, v_gt, v_ge, v_isN, v_isnN, v_isB, v_isnB, v_eqI, v_neI, v_eqB, v_neB, v_bt, v_bts, v_bt0, v_btn, v_btp, v_ixT, v_ixL, v_ixP, v_ixS, v_len, v_lenT, v_lenL, v_lenS, v_abs, v_int, v_tupL, v_tupT, v_lstL, v_lstT, v_lstD, v_all, v_any, v_gcd, v_max, v_min, v_divmod, v_rng1, v_rng2, v_elT, v_elL, v_isi, v_mk, v_mkD, List.map_cons, List.map_nil, List.length_cons, List.length_nil, List.getElem?_cons_zero, List.getElem?_cons_succ, List.set_cons_zero, List.set_cons_succ, List.isEmpty_cons, List.isEmpty_nil, Option.some.injEq, exists_eq_left', exists_eq_left, Nat.reduceAdd, Nat.reduceSub, Nat.zero_add, List.cons.injEq, P.int.injEq, P.bl.injEq, P.tup.injEq, P.lst.injEq, and_true, true_and, Bool.false_eq_true, if_true, if_false, reduceIte]
        refine ⟨.int a, rfl, .int b, rfl, ?_⟩
        simp only [wpE, wpEs, wpAnd, wpOr, wpIfs, tn_0, tn_1, tn_2, tn_3, tn_4, tn_5, tn_6, tn_7, tn_8, tn_9, tn_10, tn_11, tn_12, tn_13, tn_14, tn_15, tn_16, tn_17, tn_18, tn_19, tn_20, tn_21, tn_22, tn_23, tn_24, tn_25, tn_26, tn_27, tn_28, tn_29, tn_30, tn_31, tn_32, tn_33, tn_34, tn_35, tn_36, tn_37, tn_38, tn_39, tn_40, tn_41, tn_42, tn_43, tn_44, tn_45, tn_46, tn_47, tn_48, tn_49, tn_50, tn_51, tn_52, tn_53, tn_54, tn_55, tc_0, tc_1, setAll, v_truth, v_truthI, v_truthT, v_truthL, v_truthN, v_tru, v_add, v_addL, v_addT, v_sub, v_mul, v_fdiv, v_mod, v_pow, v_neg, v_lt, v_le, v_gt, v_ge, v_isN, v_isnN, v_isB, v_isnB, v_eqI, v_neI, v_eqB, v_neB, v_bt, v_bts, v_bt0, v_btn, v_btp, v_ixT, v_ixL, v_ixP, v_ixS, v_len, v_lenT, v_lenL, v_lenS, v_abs, v_int, v_tupL, v_tupT, v_lstL, v_lstT, v_lstD, v_all, v_any, v_gcd, v_max, v_min, v_divmod, v_rng1, v_rng2, v_elT, v_elL, v_isi, v_mk, v_mkD, List.map_cons, List.map_nil, List.length_cons, List.length_nil, List.getElem?_cons_zero, List.getElem?_cons_succ, List.set_cons_zero, List.set_cons_succ, List.isEmpty_cons, List.isEmpty_nil, Option.some.injEq, exists_eq_left', exists_eq_left, Nat.reduceAdd, Nat.reduceSub, Nat.zero_add, List.cons.injEq, P.int.injEq, P.bl.injEq, P.tup.injEq, P.lst.injEq, and_true, true_and, Bool.false_eq_true, if_true, if_false, reduceIte, isFrac]
        simp [show 0 < b by omega]
        omega
    · have hc : (isTup p && decide (len0 p = 2)) = false := by
        cases p <;> simp_all [isTup, len0]
        rename_i xs
        refine decide_eq_false fun hl => ?_
        have hl : xs.length = 2 := by omega
        match xs, hl with
        | [x, y], _ => exact h2 x y rfl
      refine w_if (tmu _) true ?_ ?_
      · simp only [env0, List.map_cons, List.map_nil, List.length_cons, List.length_nil, Nat.reduceSub, Nat.reduceAdd, List.replicate_succ, List.replicate_zero, List.cons_append, List.nil_append, wpE, wpEs, wpAnd, wpOr, wpIfs, tn_0, tn_1, tn_2, tn_3, tn_4, tn_5, tn_6, tn_7, tn_8, tn_9, tn_10, tn_11, tn_12, tn_13, tn_14, tn_15, tn_16, tn_17, tn_18, tn_19, tn_20, tn_21, tn_22, tn_23, tn_24, tn_25, tn_26, tn_27, tn_28, tn_29, tn_30, tn_31, tn_32, tn_33, tn_34, tn_35, tn_36, tn_37, tn_38, tn_39, tn_40, tn_41, tn_42, tn_43, tn_44, tn_45, tn_46, tn_47, tn_48, tn_49, tn_50, tn_51, tn_52, tn_53, tn_54, tn_55, tc_0, tc_1, setAll, v_truth, v_truthI, v_truthT, v_truthL, v_truthN, v_tru, v_add, v_addL, v_addT, v_sub, v_mul, v_fdiv, v_mod, v_pow, v_neg, v_lt, v_le, v_gt, v_ge, v_isN, v_isnN, v_isB, v_isnB, v_eqI, v_neI, v_eqB, v_neB, v_bt, v_bts, v_bt0, v_btn, v_btp, v_ixT, v_ixL, v_ixP, v_ixS, v_len, v_lenT, v_lenL, v_lenS, v_abs, v_int, v_tupL, v_tupT, v_lstL, v_lstT, v_lstD, v_all, v_any, v_gcd, v_max, v_min, v_divmod, v_rng1, v_rng2, v_elT, v_elL, v_isi, v_mk, v_mkD, List.map_cons, List.map_nil, List.length_cons, List.length_nil, List.getElem?_cons_zero, List.getElem?_cons_succ, List.set_cons_zero, List.set_cons_succ, List.isEmpty_cons, List.isEmpty_nil, Option.some.injEq, exists_eq_left', exists_eq_left, Nat.reduceAdd, Nat.reduceSub, Nat.zero_add, List.cons.injEq, P.int.injEq, P.bl.injEq, P.tup.injEq, P.lst.injEq, and_true, true_and, Bool.false_eq_true, if_true, if_false, reduceIte]
        refine ⟨p, rfl, hpl, ?_⟩
        simp only [hc, v_tru]
        rfl
      rw [if_pos rfl]
      refine w_ret (tmu _) (fun r => r = .bl false) (by simp only [wpE, wpEs, wpAnd, wpOr, wpIfs, tn_0, tn_1, tn_2, tn_3, tn_4, tn_5, tn_6, tn_7, tn_8, tn_9, tn_10, tn_11, tn_12, tn_13, tn_14, tn_15, tn_16, tn_17, tn_18, tn_19, tn_20, tn_21, tn_22, tn_23, tn_24, tn_25, tn_26, tn_27, tn_28, tn_29, tn_30, tn_31, tn_32, tn_33, tn_34, tn_35, tn_36, tn_37, tn_38, tn_39, tn_40, tn_41, tn_42, tn_43, tn_44, tn_45, tn_46, tn_47, tn_48, tn_49, tn_50, tn_51, tn_52, tn_53, tn_54, tn_55, tc_0, tc_1, setAll, v_truth, v_truthI, v_truthT, v_truthL, v_truthN, v_tru, v_add, v_addL, v_addT, v_sub, v_mul, v_fdiv, v_mod, v_pow, v_neg, v_lt, v_le, v_gt, v_ge, v_isN, v_isnN, v_isB, v_isnB, v_eqI, v_neI, v_eqB, v_neB, v_bt, v_bts, v_bt0, v_btn, v_btp, v_ixT, v_ixL, v_ixP, v_ixS, v_len, v_lenT, v_lenL, v_lenS, v_abs, v_int, v_tupL, v_tupT, v_lstL, v_lstT, v_lstD, v_all, v_any, v_gcd, v_max, v_min, v_divmod, v_rng1, v_rng2, v_elT, v_elL, v_isi, v_mk, v_mkD, List.map_cons, List.map_nil, List.length_cons, List.length_nil, List.getElem?_cons_zero, List.getElem?_cons_succ, List.set_cons_zero, List.set_cons_succ, List.isEmpty_cons, List.isEmpty_nil, Option.some.injEq, exists_eq_left', exists_eq_left, Nat.reduceAdd, Nat.reduceSub, Nat.zero_add, List.cons.injEq, P.int.injEq, P.bl.injEq, P.tup.injEq, P.lst.injEq, and_true, true_and, Bool.false_eq_true, if_true, if_false, reduceIte]) (fun r e => ?_)
      subst e
      have : isFrac p = false := by
        unfold isFrac
        split
        · exact absurd ⟨_, _, rfl⟩ h2
        · rfl
      rw [this] at q
      exact q
theorem ok_is_time_of : BodyOk (T.upto 18) 1 1 b_is_time_of sp_is_time_of := by
  refine bodyD (fun _ => rfl) ?_
  rintro q Q E h k
  krn_off
  have hn : 0 ≤ q.num := Rat.num_nonneg.mpr h
  tlg_ne; kcj_in
  exact k _ (by simp [hn])
theorem ok_is_less : BodyOk (T.upto 19) 2 2 b_is_less sp_is_less := by
  refine bodyD (fun _ => rfl) ?_
  rintro ⟨p, q⟩ Q E ⟨h1, h2⟩ k
  krn_off
  tlg_ne; kcj_in; kas_types
  exact k _ (by rw [decide_eq_decide.mpr (below_iff p q)])
theorem ok_wrong_in_flashes : BodyOk (T.upto 20) 2 4 b_wrong_in_flashes sp_wrong_in_flashes := by
  refine bodyD (fun _ => rfl) ?_
  rintro ⟨l, m⟩ Q E ⟨⟨h0, h1, h2, h3, h4⟩, hm⟩ k
  krn_off
  have hl := List.length_pos_iff.mpr h0
  kat_tups
  · kcj_in
    simp; omega
  tlg_ne; kcj_in
  refine forEn0 frq (fun pre r env => pre ++ r = l ∧ ∃ u2 u3 : Option P, env = [some (.tup (l.map frq)), some (.int m), u2, u3]) l _ ⟨rfl, _, _, rfl⟩ ?_ ?_
  · rintro pre a r env ⟨e, ⟨u2, u3, rfl⟩⟩ k' hk
    have ha : 0 ≤ a := (h2 a (by rw [← e]; simp)).1
    have haz : Sz 80 a := (h2 a (by rw [← e]; simp)).2
    kcj_in
    refine s_cut (tmu _) (fun en => en = [some (.tup (l.map frq)), some (.int m), some (.int (pre.length : Nat)), some (frq a)]) ?_ ?_
    · kat_tups
      · kcj_in
        refine ⟨ha, ?_⟩
        split
        · rename_i h0p
          obtain ⟨b, hb1, hb2, hb3⟩ := F_prev e h3 (fun z => by rw [z] at h0p; simp at h0p)
          have hbz : Sz 80 b := (h2 b hb3).2
          exact ⟨_, hb1, b, rfl, by kst_mem, by kst_mem, hb2⟩
        · assumption
      rfl
    rintro _ rfl
    exact hk _ ⟨by simpa using e, _, _, rfl⟩
  · rintro env ⟨_, ⟨u2, u3, rfl⟩⟩
    tlg_ne; kcj_in
    exact k _ rfl
theorem ok_check_flashes : BodyOk (T.upto 21) 1 2 b_check_flashes sp_check_flashes := by
  refine bodyD (fun _ => rfl) ?_
  rintro l Q E h k
  krn_off
  have := h.2.1
  tlg_ne; kcj_in
  refine ⟨h, by omega, ?_⟩
  exact k _ rfl
theorem ok_is_whole_one : BodyOk (T.upto 22) 1 1 b_is_whole_one sp_is_whole_one := by
  refine bodyD (fun _ => rfl) ?_
  rintro q Q E _ k
  krn_off
  tlg_ne; kcj_in
  exact k _ rfl
theorem ok_plain_of : BodyOk (T.upto 23) 2 3 b_plain_of sp_plain_of := by
  refine ⟨?_, ?_⟩
  · rintro ps Q E ⟨p, rfl, _⟩; rfl
  · rintro ps Q E ⟨⟨a, b⟩, rfl, ⟨h0, ha, hb⟩, q⟩
    have h0 : b ≠ 0 := h0
    have hg := g2_pos (a := a) h0
    have hB : Bt 8000 (g2 a b) := g2_bt h0 hb
    refine w_asg (tmu _) (fun p => p = .int (if 0 < b then g2 a b else -g2 a b)) ?_ ?_
    · simp only [env0, List.map_cons, List.map_nil, List.length_cons, List.length_nil, Nat.reduceSub, Nat.reduceAdd, List.replicate_succ, List.replicate_zero, List.cons_append, List.nil_append, wpE, wpEs, wpAnd, wpOr, wpIfs, tn_0, tn_1, tn_2, tn_3, tn_4, tn_5, tn_6, tn_7, tn_8, tn_9, tn_10, tn_11, tn_12, tn_13, tn_14, tn_15, tn_16, tn_17, tn_18, tn_19, tn_20, tn_21, tn_22, tn_23, tn_24, tn_25, tn_26, tn_27, tn_28, tn_29, tn_30, tn_31, tn_32, tn_33, tn_34, tn_35, tn_36, tn_37, tn_38, tn_39, tn_40, tn_41, tn_42, tn_43, tn_44, tn_45, tn_46, tn_47, tn_48, tn_49, tn_50, tn_51, tn_52, tn_53, tn_54, tn_55, tc_0, tc_1, setAll, v_truth, v_truthI, v_truthT, v_truthL, v_truthN, v_tru, v_add, v_addL, v_addT, v_sub, v_mul, v_fdiv, v_mod, v_pow, v_neg, v_lt, v_le, v_gt, v_ge, v_isN, v_isnN, v_isB, v_isnB, v_eqI, v_neI, v_eqB, v_neB, v_bt, v_bts, v_bt0, v_btn, v_btp, v_ixT, v_ixL, v_ixP, v_ixS, v_len, v_lenT, v_lenL, v_lenS, v_abs, v_int, v_tupL, v_tupT, v_lstL, v_lstT, v_lstD, v_all, v_any, v_gcd, v_max, v_min, v_divmod, v_rng1, v_rng2, v_elT, v_elL, v_isi, v_mk, v_mkD, List.map_cons, List.map_nil, List.length_cons, List.length_nil, List.getElem?_cons_zero, List.getElem?_cons_succ, List.set_cons_zero, List.set_cons_succ, List.isEmpty_cons, List.isEmpty_nil, Option.some.injEq, exists_eq_left', exists_eq_left, Nat.reduceAdd, Nat.reduceSub, Nat.zero_add, List.cons.injEq, P.int.injEq, P.bl.injEq, P.tup.injEq, P.lst.injEq, and_true, true_and, Bool.false_eq_true, if_true, if_false, reduceIte, decide_eq_true_eq]
      by_cases h : 0 < b <;> simp [h, v_neg, g2]
    rintro _ rfl
    refine w_ret (tmu _) (fun r => r = fr a b) ?_ (fun r e => by rw [e]; exact q)
    simp only [env0, List.map_cons, List.map_nil, List.length_cons, List.length_nil, Nat.reduceSub, Nat.reduceAdd, List.replicate_succ, List.replicate_zero, List.cons_append, List.nil_append, wpE, wpEs, wpAnd, wpOr, wpIfs, tn_0, tn_1, tn_2, tn_3, tn_4, tn_5, tn_6, tn_7, tn_8, tn_9, tn_10, tn_11, tn_12, tn_13, tn_14, tn_15, tn_16, tn_17, tn_18, tn_19, tn_20, tn_21, tn_22, tn_23, tn_24, tn_25, tn_26, tn_27, tn_28, tn_29, tn_30, tn_31, tn_32, tn_33, tn_34, tn_35, tn_36, tn_37, tn_38, tn_39, tn_40, tn_41, tn_42, tn_43, tn_44, tn_45, tn_46, tn_47, tn_48, tn_49, tn_50, tn_51, tn_52, tn_53, tn_54, tn_55, tc_0, tc_1, setAll, v_truth, v_truthI, v_truthT, v_truthL, v_truthN, v_tru, v_add, v_addL, v_addT, v_sub, v_mul, v_fdiv, v_mod, v_pow, v_neg, v_lt, v_le, v_gt, v_ge, v_isN, v_isnN, v_isB, v_isnB, v_eqI, v_neI, v_eqB, v_neB, v_bt, v_bts, v_bt0, v_btn, v_btp, v_ixT, v_ixL, v_ixP, v_ixS, v_len, v_lenT, v_lenL, v_lenS, v_abs, v_int, v_tupL, v_tupT, v_lstL, v_lstT, v_lstD, v_all, v_any, v_gcd, v_max, v_min, v_divmod, v_rng1, v_rng2, v_elT, v_elL, v_isi, v_mk, v_mkD, List.map_cons, List.map_nil, List.length_cons, List.length_nil, List.getElem?_cons_zero, List.getElem?_cons_succ, List.set_cons_zero, List.set_cons_succ, List.isEmpty_cons, List.isEmpty_nil, Option.some.injEq, exists_eq_left', exists_eq_left, Nat.reduceAdd, Nat.reduceSub, Nat.zero_add, List.cons.injEq, P.int.injEq, P.bl.injEq, P.tup.injEq, P.lst.injEq, and_true, true_and, Bool.false_eq_true, if_true, if_false, reduceIte]
    by_cases h : 0 < b
    · simp only [if_pos h]
      refine ⟨⟨by omega, hB⟩, ⟨by omega, hB⟩, ?_⟩
      rw [fdiv_pos (by omega), fdiv_pos (by omega)]
      simp [fr, h]
    · simp only [if_neg h]
      have hB' : Bt 8000 (-g2 a b) := hB.le (by omega)
      refine ⟨⟨by omega, hB'⟩, ⟨by omega, hB'⟩, ?_⟩
      rw [fdiv_neg_dvd hg (g2_dl a b), fdiv_neg_dvd hg (g2_dr a b)]
      simp [fr, h]
theorem ok_over : BodyOk (T.upto 24) 2 2 b_over sp_over := by
  refine ⟨?_, ?_⟩
  · rintro ps Q E ⟨p, rfl, _⟩; rfl
  · rintro ps Q E ⟨⟨p, q⟩, rfl, ⟨h0, h1, h2⟩, k⟩
    replace h0 : q ≠ 0 := h0
    replace h1 : Sz 3000 p := h1
    replace h2 : Sz 3000 q := h2
    refine w_ret (tmu _) (fun r => r = frq (p / q)) ?_ (fun r e => by subst e; exact k)
    simp only [env0, List.map_cons, List.map_nil, List.length_cons, List.length_nil, Nat.reduceSub, Nat.reduceAdd, List.replicate_succ, List.replicate_zero, List.cons_append, List.nil_append, wpE, wpEs, wpAnd, wpOr, wpIfs, tn_0, tn_1, tn_2, tn_3, tn_4, tn_5, tn_6, tn_7, tn_8, tn_9, tn_10, tn_11, tn_12, tn_13, tn_14, tn_15, tn_16, tn_17, tn_18, tn_19, tn_20, tn_21, tn_22, tn_23, tn_24, tn_25, tn_26, tn_27, tn_28, tn_29, tn_30, tn_31, tn_32, tn_33, tn_34, tn_35, tn_36, tn_37, tn_38, tn_39, tn_40, tn_41, tn_42, tn_43, tn_44, tn_45, tn_46, tn_47, tn_48, tn_49, tn_50, tn_51, tn_52, tn_53, tn_54, tn_55, tc_0, tc_1, setAll, v_truth, v_truthI, v_truthT, v_truthL, v_truthN, v_tru, v_add, v_addL, v_addT, v_sub, v_mul, v_fdiv, v_mod, v_pow, v_neg, v_lt, v_le, v_gt, v_ge, v_isN, v_isnN, v_isB, v_isnB, v_eqI, v_neI, v_eqB, v_neB, v_bt, v_bts, v_bt0, v_btn, v_btp, v_ixT, v_ixL, v_ixP, v_ixS, v_len, v_lenT, v_lenL, v_lenS, v_abs, v_int, v_tupL, v_tupT, v_lstL, v_lstT, v_lstD, v_all, v_any, v_gcd, v_max, v_min, v_divmod, v_rng1, v_rng2, v_elT, v_elL, v_isi, v_mk, v_mkD, List.map_cons, List.map_nil, List.length_cons, List.length_nil, List.getElem?_cons_zero, List.getElem?_cons_succ, List.set_cons_zero, List.set_cons_succ, List.isEmpty_cons, List.isEmpty_nil, Option.some.injEq, exists_eq_left', exists_eq_left, Nat.reduceAdd, Nat.reduceSub, Nat.zero_add, List.cons.injEq, P.int.injEq, P.bl.injEq, P.tup.injEq, P.lst.injEq, and_true, true_and, Bool.false_eq_true, if_true, if_false, reduceIte, f_ix0, f_ix1]
    have b1 := h1.n (by decide)
    have b2 := h2.n (by decide)
    have b3 := h1.d (by decide)
    have b4 := h2.d (by decide)
    exact ⟨.inr ⟨b1, b4⟩, .inr ⟨b3, b2⟩, (_, _), rfl, ⟨mul_ne (dn_ne p) (num_ne h0), bt_pow (bt_mul h1.1 h2.dd) (by decide), bt_pow (bt_mul h1.dd h2.1) (by decide)⟩, fr_div p h0⟩
theorem ok_is_multiple : BodyOk (T.upto 25) 2 2 b_is_multiple sp_is_multiple := by
  refine bodyD (fun _ => rfl) ?_
  rintro ⟨p, q⟩ Q E ⟨h1, h2⟩ k
  krn_off
  tlg_ne; kcj_in
  by_cases h0 : q = 0
  · rw [if_pos h0]
    tlg_ne; kcj_in
    exact k _ (congrArg P.bl (decide_eq_decide.mpr (by rw [h0]; exact tam_zero.symm)))
  · rw [if_neg h0]
    tlg_ne; kcj_in
    exact ⟨h0, h1, h2, k _ (congrArg P.bl (decide_eq_decide.mpr (tam_ne h0).symm))⟩
theorem ok_measure_of_two : BodyOk (T.upto 26) 2 2 b_measure_of_two sp_measure_of_two := by
  refine ⟨?_, ?_⟩
  · rintro ps Q E ⟨p, rfl, _⟩; rfl
  · rintro ps Q E ⟨⟨p, q⟩, rfl, ⟨h1, h2⟩, k⟩
    replace h1 : Sz 3000 p := h1
    replace h2 : Sz 3000 q := h2
    refine w_ret (tmu _) (fun r => r = frq (qg p q)) ?_ (fun r e => by subst e; exact k)
    simp only [env0, List.map_cons, List.map_nil, List.length_cons, List.length_nil, Nat.reduceSub, Nat.reduceAdd, List.replicate_succ, List.replicate_zero, List.cons_append, List.nil_append, wpE, wpEs, wpAnd, wpOr, wpIfs, tn_0, tn_1, tn_2, tn_3, tn_4, tn_5, tn_6, tn_7, tn_8, tn_9, tn_10, tn_11, tn_12, tn_13, tn_14, tn_15, tn_16, tn_17, tn_18, tn_19, tn_20, tn_21, tn_22, tn_23, tn_24, tn_25, tn_26, tn_27, tn_28, tn_29, tn_30, tn_31, tn_32, tn_33, tn_34, tn_35, tn_36, tn_37, tn_38, tn_39, tn_40, tn_41, tn_42, tn_43, tn_44, tn_45, tn_46, tn_47, tn_48, tn_49, tn_50, tn_51, tn_52, tn_53, tn_54, tn_55, tc_0, tc_1, setAll, v_truth, v_truthI, v_truthT, v_truthL, v_truthN, v_tru, v_add, v_addL, v_addT, v_sub, v_mul, v_fdiv, v_mod, v_pow, v_neg, v_lt, v_le, v_gt, v_ge, v_isN, v_isnN, v_isB, v_isnB, v_eqI, v_neI, v_eqB, v_neB, v_bt, v_bts, v_bt0, v_btn, v_btp, v_ixT, v_ixL, v_ixP, v_ixS, v_len, v_lenT, v_lenL, v_lenS, v_abs, v_int, v_tupL, v_tupT, v_lstL, v_lstT, v_lstD, v_all, v_any, v_gcd, v_max, v_min, v_divmod, v_rng1, v_rng2, v_elT, v_elL, v_isi, v_mk, v_mkD, List.map_cons, List.map_nil, List.length_cons, List.length_nil, List.getElem?_cons_zero, List.getElem?_cons_succ, List.set_cons_zero, List.set_cons_succ, List.isEmpty_cons, List.isEmpty_nil, Option.some.injEq, exists_eq_left', exists_eq_left, Nat.reduceAdd, Nat.reduceSub, Nat.zero_add, List.cons.injEq, P.int.injEq, P.bl.injEq, P.tup.injEq, P.lst.injEq, and_true, true_and, Bool.false_eq_true, if_true, if_false, reduceIte, f_ix0, f_ix1]
    have b1 := h1.n (by decide)
    have b2 := h2.n (by decide)
    have b3 := h1.d (by decide)
    have b4 := h2.d (by decide)
    refine ⟨.inr ⟨b1, b4⟩, .inr ⟨b2, b3⟩, .inr ⟨b3, b4⟩, (_, _), rfl, ⟨mul_ne (dn_ne p) (dn_ne q), ?_, bt_pow (bt_mul h1.dd h2.dd) (by decide)⟩, fr_frq (mul_ne (dn_ne p) (dn_ne q))⟩
    exact bt_pow (gcd_bt (bt_mul h1.1 h2.dd) (bt_mul h2.1 h1.dd)) (by decide)
theorem ok_measure_by : BodyOk (T.upto 27) 1 3 b_measure_by sp_measure_by := by
  refine bodyD (fun _ => rfl) ?_
  rintro ⟨p, l⟩ Q E ⟨he, kk, hz, hl⟩ k
  simp only [] at he hl hz k
  tlg_ne; kcj_in
  tlg_ne; simp only [wpE, wpEs, wpAnd, wpOr, wpIfs, tn_0, tn_1, tn_2, tn_3, tn_4, tn_5, tn_6, tn_7, tn_8, tn_9, tn_10, tn_11, tn_12, tn_13, tn_14, tn_15, tn_16, tn_17, tn_18, tn_19, tn_20, tn_21, tn_22, tn_23, tn_24, tn_25, tn_26, tn_27, tn_28, tn_29, tn_30, tn_31, tn_32, tn_33, tn_34, tn_35, tn_36, tn_37, tn_38, tn_39, tn_40, tn_41, tn_42, tn_43, tn_44, tn_45, tn_46, tn_47, tn_48, tn_49, tn_50, tn_51, tn_52, tn_53, tn_54, tn_55, tc_0, tc_1, setAll, v_truth, v_truthI, v_truthT, v_truthL, v_truthN, v_tru, v_add, v_addL, v_addT, v_sub, v_mul, v_fdiv, v_mod, v_pow, v_neg, v_lt, v_le, v_gt, v_ge, v_isN, v_isnN, v_isB, v_isnB, v_eqI, v_neI, v_eqB, v_neB, v_bt, v_bts, v_bt0, v_btn, v_btp, v_ixT, v_ixL, v_ixP, v_ixS, v_len, v_lenT, v_lenL, v_lenS, v_abs, v_int, v_tupL, v_tupT, v_lstL, v_lstT, v_lstD, v_all, v_any, v_gcd, v_max, v_min, v_divmod, v_rng1, v_rng2, v_elT, v_elL, v_isi, v_mk, v_mkD, List.map_cons, List.map_nil, List.length_cons, List.length_nil, List.getElem?_cons_zero, List.getElem?_cons_succ, List.set_cons_zero, List.set_cons_succ, List.isEmpty_cons, List.isEmpty_nil, Option.some.injEq, exists_eq_left', exists_eq_left, Nat.reduceAdd, Nat.reduceSub, Nat.zero_add, List.cons.injEq, P.int.injEq, P.bl.injEq, P.tup.injEq, P.lst.injEq, and_true, true_and, Bool.false_eq_true, if_true, if_false, reduceIte, env0, List.map_cons, List.map_nil, List.length_cons, List.length_nil, Nat.reduceSub, Nat.reduceAdd, List.replicate_succ, List.replicate_zero, List.cons_append, List.nil_append, v_tru, mk, mkD, mkX, mkY, oc_v, oc_x, hdP, cval, cvals, Option.map_some, Prod.exists, forall_exists_index, and_imp, forall_eq, exists_const, exists_false, exists_and_left, exists_and_right, exists_eq_right, frq_inj, f_ix0, f_ix1, f_eq, f_ne, fr_add, fr_mul, frq_neg, frq_neg', ite_self, decide_eq_true_eq, decide_true, decide_false, Bool.not_true, Bool.not_false, Bool.not_eq_true', Bool.and_true, Bool.true_and, Bool.and_false, Bool.false_and, Bool.or_true, Bool.true_or, Bool.or_false, Bool.false_or, and_self, List.getD_cons_zero, List.getD_cons_succ, List.nil_append, s_nil, wipeE, Int.reduceLT, Int.reduceLE, Int.reduceAdd, Int.reduceSub, Int.reduceMul, Int.reduceNeg, Int.reduceEq, Int.reduceNe, ne_eq, not_true_eq_false, not_false_eq_true, reduceCtorEq, true_implies, imp_self, f_bt, den_one, frl_inj, fa_eq, fa_mem, sm62, inL_cons, inL_nil, revP, isStr, List.cons_append, fa_memq, frl_snoc, frl_app, frl_rev, fl_eq, fl_ne, fll_eq, fll_ne, fll_eq0, fll_ne0, fl_eq0, fl_ne0, exists_eq', i_tup, i_lst, i_int, i_bl, i_non, i_str, i_dct, String.reduceBEq, Bool.or_false, Bool.false_or, i_frq, l_frq, fr12, two_frq, num_zero, dep_bb, forGo_nil, f_inT, f_inL, f_ninT, f_ninL, sIx_nat, isTup_t, len0_t, dep_i, dep_non, dep_bl, dep_ii, sub_zero', Int.cast_ofNat_Int, e_frq, isInt, pl, fa_eq2, fa_eq3, atI_1, atI_2, atI_3, l0_ne, l0_eq, frl_eq, dep_p2, dep_p3, wl_inj, w_eq, w_ne, w_len, v_mulT,  dep_frq2, dep_frq1, isNo, partP, slP, cut_map, sIx_n, sIx_1, List.drop_zero, Nat.sub_zero, decide_eq_false_iff_not, Decidable.not_not, List.take_zero, atI_0,  isFrac_frq, pl_frq, Bool.true_eq_false, Bool.not_eq_false', abs_if, Nat.reduceEqDiff, one_frq, zero_frq, one_div', t_nf, t_np, P.fn.injEq, Nat.reduceLT, and_assoc, false_or, or_false, true_or, or_true, List.length_map, len_range, sizeLine_eq, beq_self_eq_true, Bool.true_beq, Bool.false_beq, tw_inj, pw_inj, and_false, false_and, b_int, rd_inj, il_inj, zip_map2, nn_frq, nn_tup, nn_non, il_eq, il_ne, il_eq0, il_ne0, il_eq1, il_ne1, i_nin2, i_in2, sp_law_take, sp_law_of, sp_law_part, sp_law_flashes, sp_law_less, sp_law_by, sp_law_floor, sp_law_over, sp_law_rest, sp_law_measure, sp_law_flash_measure, sp_law_tell_as_much, sp_is_tuple_up_to, sp_is_tuple_of, sp_is_pair, sp_is_whole, sp_is_from, sp_is_fraction_of, sp_is_time_of, sp_is_less, sp_wrong_in_flashes, sp_check_flashes, sp_is_whole_one, sp_plain_of, sp_over, sp_is_multiple, sp_measure_of_two, sp_measure_by, sp_plus, sp_negative, sp_minus, sp_flash_measure_by, sp_tell_as_much_by, sp_tell_as_much, sp_law_plus, sp_law_same_0, sp_law_same_1, sp_law_same_2, sp_law_order, sp_law_fraction, sp_law_step, sp_is_between, sp_is_order_of, sp_check_order, sp_check_lit, sp_check_fraction, sp_times, sp_whole, sp_rate_step_by, sp_are_alike_by, sp_are_alike, sp_flash_measure, sp_law_is_told, sp_law_right, sp_law_well, sp_law, he]
  refine forTy frq (fun pre r env => ∃ g : Rat, ∃ o : Option P, env = [some p, some (frq g), o] ∧ qms pre = g ∧ pre ++ r = l ∧ Sz (1 + kk * pre.length) g) l [] _ ⟨0, none, rfl, rfl, rfl, sz_zero.mono (by omega)⟩ ?_ ?_
  · rintro pre q r env ⟨g, o, rfl, e, el, sg⟩ k' hk
    have hq : Sz kk q := hz q (by rw [← el]; simp)
    have hm : kk * pre.length + kk ≤ kk * l.length := by
      have : pre.length + 1 ≤ l.length := by rw [← el]; simp
      have := Nat.mul_le_mul_left kk this
      rw [Nat.mul_add, Nat.mul_one] at this
      exact this
    tlg_ne
    kcj_in
    have b1 : Sz 3000 g := sg.mono (by omega)
    have b2 : Sz 3000 q := hq.mono (by omega)
    kas_types
    exact hk _ ⟨_, _, rfl, by rw [qms_snoc, e], by rw [← el]; simp, (sz_qg sg hq).mono (by simp [Nat.mul_add]; omega)⟩
  · rintro env ⟨g, o, rfl, e, _, _⟩
    tlg_ne; kcj_in
    exact k _ (by rw [← e]; rfl)
theorem ok_plus : BodyOk (T.upto 28) 2 2 b_plus sp_plus := by
  refine ⟨?_, ?_⟩
  · rintro ps Q E ⟨p, rfl, _⟩; rfl
  · rintro ps Q E ⟨⟨p, q⟩, rfl, ⟨h1, h2⟩, k⟩
    replace h1 : Sz 3000 p := h1
    replace h2 : Sz 3000 q := h2
    refine w_ret (tmu _) (fun r => r = frq (p + q)) ?_ (fun r e => by subst e; exact k)
    simp only [env0, List.map_cons, List.map_nil, List.length_cons, List.length_nil, Nat.reduceSub, Nat.reduceAdd, List.replicate_succ, List.replicate_zero, List.cons_append, List.nil_append, wpE, wpEs, wpAnd, wpOr, wpIfs, tn_0, tn_1, tn_2, tn_3, tn_4, tn_5, tn_6, tn_7, tn_8, tn_9, tn_10, tn_11, tn_12, tn_13, tn_14, tn_15, tn_16, tn_17, tn_18, tn_19, tn_20, tn_21, tn_22, tn_23, tn_24, tn_25, tn_26, tn_27, tn_28, tn_29, tn_30, tn_31, tn_32, tn_33, tn_34, tn_35, tn_36, tn_37, tn_38, tn_39, tn_40, tn_41, tn_42, tn_43, tn_44, tn_45, tn_46, tn_47, tn_48, tn_49, tn_50, tn_51, tn_52, tn_53, tn_54, tn_55, tc_0, tc_1, setAll, v_truth, v_truthI, v_truthT, v_truthL, v_truthN, v_tru, v_add, v_addL, v_addT, v_sub, v_mul, v_fdiv, v_mod, v_pow, v_neg, v_lt, v_le, v_gt, v_ge, v_isN, v_isnN, v_isB, v_isnB, v_eqI, v_neI, v_eqB, v_neB, v_bt, v_bts, v_bt0, v_btn, v_btp, v_ixT, v_ixL, v_ixP, v_ixS, v_len, v_lenT, v_lenL, v_lenS, v_abs, v_int, v_tupL, v_tupT, v_lstL, v_lstT, v_lstD, v_all, v_any, v_gcd, v_max, v_min, v_divmod, v_rng1, v_rng2, v_elT, v_elL, v_isi, v_mk, v_mkD, List.map_cons, List.map_nil, List.length_cons, List.length_nil, List.getElem?_cons_zero, List.getElem?_cons_succ, List.set_cons_zero, List.set_cons_succ, List.isEmpty_cons, List.isEmpty_nil, Option.some.injEq, exists_eq_left', exists_eq_left, Nat.reduceAdd, Nat.reduceSub, Nat.zero_add, List.cons.injEq, P.int.injEq, P.bl.injEq, P.tup.injEq, P.lst.injEq, and_true, true_and, Bool.false_eq_true, if_true, if_false, reduceIte, f_ix0, f_ix1]
    have b1 := h1.n (by decide)
    have b2 := h2.n (by decide)
    have b3 := h1.d (by decide)
    have b4 := h2.d (by decide)
    exact ⟨.inr ⟨b1, b4⟩, .inr ⟨b2, b3⟩, .inr ⟨b3, b4⟩, (_, _), rfl, ⟨mul_ne (dn_ne p) (dn_ne q), bt_pow (bt_add (bt_mul h1.1 h2.dd) (bt_mul h2.1 h1.dd)) (by decide), bt_pow (bt_mul h1.dd h2.dd) (by decide)⟩, fr_add p q⟩
theorem ok_negative : BodyOk (T.upto 29) 1 1 b_negative sp_negative := by
  refine ⟨?_, ?_⟩
  · rintro ps Q E ⟨p, rfl, _⟩; rfl
  · rintro ps Q E ⟨q, rfl, h, k⟩
    refine w_ret (tmu _) (fun r => r = frq (-q)) ?_ (fun r e => by subst e; exact k)
    simp only [env0, List.map_cons, List.map_nil, List.length_cons, List.length_nil, Nat.reduceSub, Nat.reduceAdd, List.replicate_succ, List.replicate_zero, List.cons_append, List.nil_append, wpE, wpEs, wpAnd, wpOr, wpIfs, tn_0, tn_1, tn_2, tn_3, tn_4, tn_5, tn_6, tn_7, tn_8, tn_9, tn_10, tn_11, tn_12, tn_13, tn_14, tn_15, tn_16, tn_17, tn_18, tn_19, tn_20, tn_21, tn_22, tn_23, tn_24, tn_25, tn_26, tn_27, tn_28, tn_29, tn_30, tn_31, tn_32, tn_33, tn_34, tn_35, tn_36, tn_37, tn_38, tn_39, tn_40, tn_41, tn_42, tn_43, tn_44, tn_45, tn_46, tn_47, tn_48, tn_49, tn_50, tn_51, tn_52, tn_53, tn_54, tn_55, tc_0, tc_1, setAll, v_truth, v_truthI, v_truthT, v_truthL, v_truthN, v_tru, v_add, v_addL, v_addT, v_sub, v_mul, v_fdiv, v_mod, v_pow, v_neg, v_lt, v_le, v_gt, v_ge, v_isN, v_isnN, v_isB, v_isnB, v_eqI, v_neI, v_eqB, v_neB, v_bt, v_bts, v_bt0, v_btn, v_btp, v_ixT, v_ixL, v_ixP, v_ixS, v_len, v_lenT, v_lenL, v_lenS, v_abs, v_int, v_tupL, v_tupT, v_lstL, v_lstT, v_lstD, v_all, v_any, v_gcd, v_max, v_min, v_divmod, v_rng1, v_rng2, v_elT, v_elL, v_isi, v_mk, v_mkD, List.map_cons, List.map_nil, List.length_cons, List.length_nil, List.getElem?_cons_zero, List.getElem?_cons_succ, List.set_cons_zero, List.set_cons_succ, List.isEmpty_cons, List.isEmpty_nil, Option.some.injEq, exists_eq_left', exists_eq_left, Nat.reduceAdd, Nat.reduceSub, Nat.zero_add, List.cons.injEq, P.int.injEq, P.bl.injEq, P.tup.injEq, P.lst.injEq, and_true, true_and, Bool.false_eq_true, if_true, if_false, reduceIte, f_ix0, f_ix1, frq_neg]
theorem ok_minus : BodyOk (T.upto 30) 2 2 b_minus sp_minus := by
  refine ⟨?_, ?_⟩
  · rintro ps Q E ⟨p, rfl, _⟩; rfl
  · rintro ps Q E ⟨⟨p, q⟩, rfl, ⟨h1, h2⟩, k⟩
    refine w_ret (tmu _) (fun r => r = frq (p - q)) ?_ (fun r e => by subst e; exact k)
    simp only [env0, List.map_cons, List.map_nil, List.length_cons, List.length_nil, Nat.reduceSub, Nat.reduceAdd, List.replicate_succ, List.replicate_zero, List.cons_append, List.nil_append, wpE, wpEs, wpAnd, wpOr, wpIfs, tn_0, tn_1, tn_2, tn_3, tn_4, tn_5, tn_6, tn_7, tn_8, tn_9, tn_10, tn_11, tn_12, tn_13, tn_14, tn_15, tn_16, tn_17, tn_18, tn_19, tn_20, tn_21, tn_22, tn_23, tn_24, tn_25, tn_26, tn_27, tn_28, tn_29, tn_30, tn_31, tn_32, tn_33, tn_34, tn_35, tn_36, tn_37, tn_38, tn_39, tn_40, tn_41, tn_42, tn_43, tn_44, tn_45, tn_46, tn_47, tn_48, tn_49, tn_50, tn_51, tn_52, tn_53, tn_54, tn_55, tc_0, tc_1, setAll, v_truth, v_truthI, v_truthT, v_truthL, v_truthN, v_tru, v_add, v_addL, v_addT, v_sub, v_mul, v_fdiv, v_mod, v_pow, v_neg, v_lt, v_le, v_gt, v_ge, v_isN, v_isnN, v_isB, v_isnB, v_eqI, v_neI, v_eqB, v_neB, v_bt, v_bts, v_bt0, v_btn, v_btp, v_ixT, v_ixL, v_ixP, v_ixS, v_len, v_lenT, v_lenL, v_lenS, v_abs, v_int, v_tupL, v_tupT, v_lstL, v_lstT, v_lstD, v_all, v_any, v_gcd, v_max, v_min, v_divmod, v_rng1, v_rng2, v_elT, v_elL, v_isi, v_mk, v_mkD, List.map_cons, List.map_nil, List.length_cons, List.length_nil, List.getElem?_cons_zero, List.getElem?_cons_succ, List.set_cons_zero, List.set_cons_succ, List.isEmpty_cons, List.isEmpty_nil, Option.some.injEq, exists_eq_left', exists_eq_left, Nat.reduceAdd, Nat.reduceSub, Nat.zero_add, List.cons.injEq, P.int.injEq, P.bl.injEq, P.tup.injEq, P.lst.injEq, and_true, true_and, Bool.false_eq_true, if_true, if_false, reduceIte]
    refine ⟨q, rfl, trivial, (p, -q), rfl, ⟨h1, sz_neg h2⟩, ?_⟩
    rw [Rat.sub_eq_add_neg]
theorem ok_flash_measure_by : BodyOk (T.upto 31) 1 2 b_flash_measure_by sp_flash_measure_by := by
  refine bodyD (fun _ => rfl) ?_
  rintro l Q E h k
  krn_off
  obtain ⟨h0, h1, h2, h3, h4⟩ := h
  obtain ⟨a, r, hl⟩ := List.exists_cons_of_ne_nil h0
  have hat : atI (l.map frq) 0 = some (frq a) := by rw [hl]; exact atI_0
  have hdr : (l.drop (min 1 l.length)).take (l.length - min 1 l.length) = r := by rw [hl]; simp
  have hlr : r.length + 1 = l.length := by rw [hl]; simp
  have haz : Sz 80 a := (h2 a (by rw [hl]; simp)).2
  tlg_ne; simp only [wpE, wpEs, wpAnd, wpOr, wpIfs, tn_0, tn_1, tn_2, tn_3, tn_4, tn_5, tn_6, tn_7, tn_8, tn_9, tn_10, tn_11, tn_12, tn_13, tn_14, tn_15, tn_16, tn_17, tn_18, tn_19, tn_20, tn_21, tn_22, tn_23, tn_24, tn_25, tn_26, tn_27, tn_28, tn_29, tn_30, tn_31, tn_32, tn_33, tn_34, tn_35, tn_36, tn_37, tn_38, tn_39, tn_40, tn_41, tn_42, tn_43, tn_44, tn_45, tn_46, tn_47, tn_48, tn_49, tn_50, tn_51, tn_52, tn_53, tn_54, tn_55, tc_0, tc_1, setAll, v_truth, v_truthI, v_truthT, v_truthL, v_truthN, v_tru, v_add, v_addL, v_addT, v_sub, v_mul, v_fdiv, v_mod, v_pow, v_neg, v_lt, v_le, v_gt, v_ge, v_isN, v_isnN, v_isB, v_isnB, v_eqI, v_neI, v_eqB, v_neB, v_bt, v_bts, v_bt0, v_btn, v_btp, v_ixT, v_ixL, v_ixP, v_ixS, v_len, v_lenT, v_lenL, v_lenS, v_abs, v_int, v_tupL, v_tupT, v_lstL, v_lstT, v_lstD, v_all, v_any, v_gcd, v_max, v_min, v_divmod, v_rng1, v_rng2, v_elT, v_elL, v_isi, v_mk, v_mkD, List.map_cons, List.map_nil, List.length_cons, List.length_nil, List.getElem?_cons_zero, List.getElem?_cons_succ, List.set_cons_zero, List.set_cons_succ, List.isEmpty_cons, List.isEmpty_nil, Option.some.injEq, exists_eq_left', exists_eq_left, Nat.reduceAdd, Nat.reduceSub, Nat.zero_add, List.cons.injEq, P.int.injEq, P.bl.injEq, P.tup.injEq, P.lst.injEq, and_true, true_and, Bool.false_eq_true, if_true, if_false, reduceIte, env0, List.map_cons, List.map_nil, List.length_cons, List.length_nil, Nat.reduceSub, Nat.reduceAdd, List.replicate_succ, List.replicate_zero, List.cons_append, List.nil_append, v_tru, mk, mkD, mkX, mkY, oc_v, oc_x, hdP, cval, cvals, Option.map_some, Prod.exists, forall_exists_index, and_imp, forall_eq, exists_const, exists_false, exists_and_left, exists_and_right, exists_eq_right, frq_inj, f_ix0, f_ix1, f_eq, f_ne, fr_add, fr_mul, frq_neg, frq_neg', ite_self, decide_eq_true_eq, decide_true, decide_false, Bool.not_true, Bool.not_false, Bool.not_eq_true', Bool.and_true, Bool.true_and, Bool.and_false, Bool.false_and, Bool.or_true, Bool.true_or, Bool.or_false, Bool.false_or, and_self, List.getD_cons_zero, List.getD_cons_succ, List.nil_append, s_nil, wipeE, Int.reduceLT, Int.reduceLE, Int.reduceAdd, Int.reduceSub, Int.reduceMul, Int.reduceNeg, Int.reduceEq, Int.reduceNe, ne_eq, not_true_eq_false, not_false_eq_true, reduceCtorEq, true_implies, imp_self, f_bt, den_one, frl_inj, fa_eq, fa_mem, sm62, inL_cons, inL_nil, revP, isStr, List.cons_append, fa_memq, frl_snoc, frl_app, frl_rev, fl_eq, fl_ne, fll_eq, fll_ne, fll_eq0, fll_ne0, fl_eq0, fl_ne0, exists_eq', i_tup, i_lst, i_int, i_bl, i_non, i_str, i_dct, String.reduceBEq, Bool.or_false, Bool.false_or, i_frq, l_frq, fr12, two_frq, num_zero, dep_bb, forGo_nil, f_inT, f_inL, f_ninT, f_ninL, sIx_nat, isTup_t, len0_t, dep_i, dep_non, dep_bl, dep_ii, sub_zero', Int.cast_ofNat_Int, e_frq, isInt, pl, fa_eq2, fa_eq3, atI_1, atI_2, atI_3, l0_ne, l0_eq, frl_eq, dep_p2, dep_p3, wl_inj, w_eq, w_ne, w_len, v_mulT,  dep_frq2, dep_frq1, isNo, partP, slP, cut_map, sIx_n, sIx_1, List.drop_zero, Nat.sub_zero, decide_eq_false_iff_not, Decidable.not_not, List.take_zero, atI_0,  isFrac_frq, pl_frq, Bool.true_eq_false, Bool.not_eq_false', abs_if, Nat.reduceEqDiff, one_frq, zero_frq, one_div', t_nf, t_np, P.fn.injEq, Nat.reduceLT, and_assoc, false_or, or_false, true_or, or_true, List.length_map, len_range, sizeLine_eq, beq_self_eq_true, Bool.true_beq, Bool.false_beq, tw_inj, pw_inj, and_false, false_and, b_int, rd_inj, il_inj, zip_map2, nn_frq, nn_tup, nn_non, il_eq, il_ne, il_eq0, il_ne0, il_eq1, il_ne1, i_nin2, i_in2, sp_law_take, sp_law_of, sp_law_part, sp_law_flashes, sp_law_less, sp_law_by, sp_law_floor, sp_law_over, sp_law_rest, sp_law_measure, sp_law_flash_measure, sp_law_tell_as_much, sp_is_tuple_up_to, sp_is_tuple_of, sp_is_pair, sp_is_whole, sp_is_from, sp_is_fraction_of, sp_is_time_of, sp_is_less, sp_wrong_in_flashes, sp_check_flashes, sp_is_whole_one, sp_plain_of, sp_over, sp_is_multiple, sp_measure_of_two, sp_measure_by, sp_plus, sp_negative, sp_minus, sp_flash_measure_by, sp_tell_as_much_by, sp_tell_as_much, sp_law_plus, sp_law_same_0, sp_law_same_1, sp_law_same_2, sp_law_order, sp_law_fraction, sp_law_step, sp_is_between, sp_is_order_of, sp_check_order, sp_check_lit, sp_check_fraction, sp_times, sp_whole, sp_rate_step_by, sp_are_alike_by, sp_are_alike, sp_flash_measure, sp_law_is_told, sp_law_right, sp_law_well, sp_law, hdr, hat]
  refine ⟨by omega, lcGo_tt frq frq (fun t => t - a) r (fun q hq acc k2 hk2 => ?_) ?_⟩
  · have hqz : Sz 80 q := (h2 q (by rw [hl]; simp [hq])).2
    simp only [wpE, wpEs, wpAnd, wpOr, wpIfs, tn_0, tn_1, tn_2, tn_3, tn_4, tn_5, tn_6, tn_7, tn_8, tn_9, tn_10, tn_11, tn_12, tn_13, tn_14, tn_15, tn_16, tn_17, tn_18, tn_19, tn_20, tn_21, tn_22, tn_23, tn_24, tn_25, tn_26, tn_27, tn_28, tn_29, tn_30, tn_31, tn_32, tn_33, tn_34, tn_35, tn_36, tn_37, tn_38, tn_39, tn_40, tn_41, tn_42, tn_43, tn_44, tn_45, tn_46, tn_47, tn_48, tn_49, tn_50, tn_51, tn_52, tn_53, tn_54, tn_55, tc_0, tc_1, setAll, v_truth, v_truthI, v_truthT, v_truthL, v_truthN, v_tru, v_add, v_addL, v_addT, v_sub, v_mul, v_fdiv, v_mod, v_pow, v_neg, v_lt, v_le, v_gt, v_ge, v_isN, v_isnN, v_isB, v_isnB, v_eqI, v_neI, v_eqB, v_neB, v_bt, v_bts, v_bt0, v_btn, v_btp, v_ixT, v_ixL, v_ixP, v_ixS, v_len, v_lenT, v_lenL, v_lenS, v_abs, v_int, v_tupL, v_tupT, v_lstL, v_lstT, v_lstD, v_all, v_any, v_gcd, v_max, v_min, v_divmod, v_rng1, v_rng2, v_elT, v_elL, v_isi, v_mk, v_mkD, List.map_cons, List.map_nil, List.length_cons, List.length_nil, List.getElem?_cons_zero, List.getElem?_cons_succ, List.set_cons_zero, List.set_cons_succ, List.isEmpty_cons, List.isEmpty_nil, Option.some.injEq, exists_eq_left', exists_eq_left, Nat.reduceAdd, Nat.reduceSub, Nat.zero_add, List.cons.injEq, P.int.injEq, P.bl.injEq, P.tup.injEq, P.lst.injEq, and_true, true_and, Bool.false_eq_true, if_true, if_false, reduceIte, env0, List.map_cons, List.map_nil, List.length_cons, List.length_nil, Nat.reduceSub, Nat.reduceAdd, List.replicate_succ, List.replicate_zero, List.cons_append, List.nil_append, v_tru, mk, mkD, mkX, mkY, oc_v, oc_x, hdP, cval, cvals, Option.map_some, Prod.exists, forall_exists_index, and_imp, forall_eq, exists_const, exists_false, exists_and_left, exists_and_right, exists_eq_right, frq_inj, f_ix0, f_ix1, f_eq, f_ne, fr_add, fr_mul, frq_neg, frq_neg', ite_self, decide_eq_true_eq, decide_true, decide_false, Bool.not_true, Bool.not_false, Bool.not_eq_true', Bool.and_true, Bool.true_and, Bool.and_false, Bool.false_and, Bool.or_true, Bool.true_or, Bool.or_false, Bool.false_or, and_self, List.getD_cons_zero, List.getD_cons_succ, List.nil_append, s_nil, wipeE, Int.reduceLT, Int.reduceLE, Int.reduceAdd, Int.reduceSub, Int.reduceMul, Int.reduceNeg, Int.reduceEq, Int.reduceNe, ne_eq, not_true_eq_false, not_false_eq_true, reduceCtorEq, true_implies, imp_self, f_bt, den_one, frl_inj, fa_eq, fa_mem, sm62, inL_cons, inL_nil, revP, isStr, List.cons_append, fa_memq, frl_snoc, frl_app, frl_rev, fl_eq, fl_ne, fll_eq, fll_ne, fll_eq0, fll_ne0, fl_eq0, fl_ne0, exists_eq', i_tup, i_lst, i_int, i_bl, i_non, i_str, i_dct, String.reduceBEq, Bool.or_false, Bool.false_or, i_frq, l_frq, fr12, two_frq, num_zero, dep_bb, forGo_nil, f_inT, f_inL, f_ninT, f_ninL, sIx_nat, isTup_t, len0_t, dep_i, dep_non, dep_bl, dep_ii, sub_zero', Int.cast_ofNat_Int, e_frq, isInt, pl, fa_eq2, fa_eq3, atI_1, atI_2, atI_3, l0_ne, l0_eq, frl_eq, dep_p2, dep_p3, wl_inj, w_eq, w_ne, w_len, v_mulT,  dep_frq2, dep_frq1, isNo, partP, slP, cut_map, sIx_n, sIx_1, List.drop_zero, Nat.sub_zero, decide_eq_false_iff_not, Decidable.not_not, List.take_zero, atI_0,  isFrac_frq, pl_frq, Bool.true_eq_false, Bool.not_eq_false', abs_if, Nat.reduceEqDiff, one_frq, zero_frq, one_div', t_nf, t_np, P.fn.injEq, Nat.reduceLT, and_assoc, false_or, or_false, true_or, or_true, List.length_map, len_range, sizeLine_eq, beq_self_eq_true, Bool.true_beq, Bool.false_beq, tw_inj, pw_inj, and_false, false_and, b_int, rd_inj, il_inj, zip_map2, nn_frq, nn_tup, nn_non, il_eq, il_ne, il_eq0, il_ne0, il_eq1, il_ne1, i_nin2, i_in2, sp_law_take, sp_law_of, sp_law_part, sp_law_flashes, sp_law_less, sp_law_by, sp_law_floor, sp_law_over, sp_law_rest, sp_law_measure, sp_law_flash_measure, sp_law_tell_as_much, sp_is_tuple_up_to, sp_is_tuple_of, sp_is_pair, sp_is_whole, sp_is_from, sp_is_fraction_of, sp_is_time_of, sp_is_less, sp_wrong_in_flashes, sp_check_flashes, sp_is_whole_one, sp_plain_of, sp_over, sp_is_multiple, sp_measure_of_two, sp_measure_by, sp_plus, sp_negative, sp_minus, sp_flash_measure_by, sp_tell_as_much_by, sp_tell_as_much, sp_law_plus, sp_law_same_0, sp_law_same_1, sp_law_same_2, sp_law_order, sp_law_fraction, sp_law_step, sp_is_between, sp_is_order_of, sp_check_order, sp_check_lit, sp_check_fraction, sp_times, sp_whole, sp_rate_step_by, sp_are_alike_by, sp_are_alike, sp_flash_measure, sp_law_is_told, sp_law_right, sp_law_well, sp_law, hat]
    exact ⟨by kst_mem, by kst_mem, hk2⟩
  kcj_in
  refine ⟨SzL.of (k := 161) (n := 12) (fun q hq => ?_) (by rw [List.length_map]; omega) (by decide), k _ (by rw [hl]; rfl)⟩
  obtain ⟨x, hx, rfl⟩ := List.mem_map.mp hq
  exact sz_sub (h2 x (by rw [hl]; simp [hx])).2 haz
theorem ok_tell_as_much_by : BodyOk (T.upto 32) 2 2 b_tell_as_much_by sp_tell_as_much_by := by
  refine bodyD (fun _ => rfl) ?_
  rintro ⟨l, m⟩ Q E ⟨h, g⟩ k
  krn_off
  have hz := h.sz.2
  have gz := g.sz.2
  tlg_ne; kcj_in
  exact ⟨g, h, by kst_mem, by kst_mem, k _ rfl⟩
theorem ok_tell_as_much : BodyOk (T.upto 33) 2 2 b_tell_as_much sp_tell_as_much := by
  refine bodyD (fun _ => rfl) ?_
  rintro ⟨l, m⟩ Q E ⟨h, g⟩ k
  krn_off
  tlg_ne; kcj_in
  refine ⟨h, ?_⟩
  tlg_ne; kcj_in
  refine ⟨g, ?_⟩
  tlg_ne; kcj_in
  exact ⟨h, g, k _ rfl⟩
theorem ok_law_plus : BodyOk (T.upto 34) 2 2 b_law_plus sp_law_plus := by
  refine bodyD (fun _ => rfl) ?_
  rintro ⟨p, q⟩ Q E ⟨h1, h2⟩ k
  krn_off
  tlg_ne; kcj_in; kas_types
  exact ⟨mul_ne (dn_ne p) (dn_ne q), bt_pow (bt_add (bt_mul h1.1 h2.dd) (bt_mul h2.1 h1.dd)) (by decide), bt_pow (bt_mul h1.dd h2.dd) (by decide), k _ rfl⟩
theorem ok_law_same_0 : BodyOk (T.upto 35) 2 3 b_law_same_0 sp_law_same_0 := by
  refine bodyD (fun _ => rfl) ?_
  rintro p Q E hp k
  replace k : Q (.bl true) := k _ rfl
  cases p <;> simp [depg] at hp <;> (simp [b_law_same_0, wpSs, wpS, env0, List.map_cons, List.map_nil, List.length_cons, List.length_nil, Nat.reduceSub, Nat.reduceAdd, List.replicate_succ, List.replicate_zero, List.cons_append, List.nil_append, wpE, wpEs, wpAnd, wpOr, wpIfs, tn_0, tn_1, tn_2, tn_3, tn_4, tn_5, tn_6, tn_7, tn_8, tn_9, tn_10, tn_11, tn_12, tn_13, tn_14, tn_15, tn_16, tn_17, tn_18, tn_19, tn_20, tn_21, tn_22, tn_23, tn_24, tn_25, tn_26, tn_27, tn_28, tn_29, tn_30, tn_31, tn_32, tn_33, tn_34, tn_35, tn_36, tn_37, tn_38, tn_39, tn_40, tn_41, tn_42, tn_43, tn_44, tn_45, tn_46, tn_47, tn_48, tn_49, tn_50, tn_51, tn_52, tn_53, tn_54, tn_55, tc_0, tc_1, setAll, v_truth, v_truthI, v_truthT, v_truthL, v_truthN, v_tru, v_add, v_addL, v_addT, v_sub, v_mul, v_fdiv, v_mod, v_pow, v_neg, v_lt, v_le, v_gt, v_ge, v_isN, v_isnN, v_isB, v_isnB, v_eqI, v_neI, v_eqB, v_neB, v_bt, v_bts, v_bt0, v_btn, v_btp, v_ixT, v_ixL, v_ixP, v_ixS, v_len, v_lenT, v_lenL, v_lenS, v_abs, v_int, v_tupL, v_tupT, v_lstL, v_lstT, v_lstD, v_all, v_any, v_gcd, v_max, v_min, v_divmod, v_rng1, v_rng2, v_elT, v_elL, v_isi, v_mk, v_mkD, List.map_cons, List.map_nil, List.length_cons, List.length_nil, List.getElem?_cons_zero, List.getElem?_cons_succ, List.set_cons_zero, List.set_cons_succ, List.isEmpty_cons, List.isEmpty_nil, Option.some.injEq, exists_eq_left', exists_eq_left, Nat.reduceAdd, Nat.reduceSub, Nat.zero_add, List.cons.injEq, P.int.injEq, P.bl.injEq, P.tup.injEq, P.lst.injEq, and_true, true_and, Bool.false_eq_true, if_true, if_false, reduceIte, isNonP, isiP, isiAny, Ds.fn, k])
theorem ok_law_same_1 : BodyOk (T.upto 36) 2 3 b_law_same_1 sp_law_same_1 := by
  refine bodyD (fun _ => rfl) ?_
  rintro p Q E hp k
  replace k : Q (.bl true) := k _ rfl
  cases p <;> simp [depg] at hp <;> (simp [b_law_same_1, wpSs, wpS, env0, List.map_cons, List.map_nil, List.length_cons, List.length_nil, Nat.reduceSub, Nat.reduceAdd, List.replicate_succ, List.replicate_zero, List.cons_append, List.nil_append, wpE, wpEs, wpAnd, wpOr, wpIfs, tn_0, tn_1, tn_2, tn_3, tn_4, tn_5, tn_6, tn_7, tn_8, tn_9, tn_10, tn_11, tn_12, tn_13, tn_14, tn_15, tn_16, tn_17, tn_18, tn_19, tn_20, tn_21, tn_22, tn_23, tn_24, tn_25, tn_26, tn_27, tn_28, tn_29, tn_30, tn_31, tn_32, tn_33, tn_34, tn_35, tn_36, tn_37, tn_38, tn_39, tn_40, tn_41, tn_42, tn_43, tn_44, tn_45, tn_46, tn_47, tn_48, tn_49, tn_50, tn_51, tn_52, tn_53, tn_54, tn_55, tc_0, tc_1, setAll, v_truth, v_truthI, v_truthT, v_truthL, v_truthN, v_tru, v_add, v_addL, v_addT, v_sub, v_mul, v_fdiv, v_mod, v_pow, v_neg, v_lt, v_le, v_gt, v_ge, v_isN, v_isnN, v_isB, v_isnB, v_eqI, v_neI, v_eqB, v_neB, v_bt, v_bts, v_bt0, v_btn, v_btp, v_ixT, v_ixL, v_ixP, v_ixS, v_len, v_lenT, v_lenL, v_lenS, v_abs, v_int, v_tupL, v_tupT, v_lstL, v_lstT, v_lstD, v_all, v_any, v_gcd, v_max, v_min, v_divmod, v_rng1, v_rng2, v_elT, v_elL, v_isi, v_mk, v_mkD, List.map_cons, List.map_nil, List.length_cons, List.length_nil, List.getElem?_cons_zero, List.getElem?_cons_succ, List.set_cons_zero, List.set_cons_succ, List.isEmpty_cons, List.isEmpty_nil, Option.some.injEq, exists_eq_left', exists_eq_left, Nat.reduceAdd, Nat.reduceSub, Nat.zero_add, List.cons.injEq, P.int.injEq, P.bl.injEq, P.tup.injEq, P.lst.injEq, and_true, true_and, Bool.false_eq_true, if_true, if_false, reduceIte, isNonP, isiP, isiAny, Ds.fn, k, lenP])
  all_goals
    rename_i xs
    refine ⟨by unfold Sm62; omega, by rw [len_range, sizeLine_eq]; omega, ?_⟩
    refine lcGo_map (fun _ => .bl true) _ _ (fun z hz acc k' hk => ?_) (.inr all_range)
    obtain ⟨i, x, rfl, hx, hm⟩ := rangeP_at hz
    simp only [wipeE, wpE, wpEs, wpAnd, wpOr, wpIfs, tn_0, tn_1, tn_2, tn_3, tn_4, tn_5, tn_6, tn_7, tn_8, tn_9, tn_10, tn_11, tn_12, tn_13, tn_14, tn_15, tn_16, tn_17, tn_18, tn_19, tn_20, tn_21, tn_22, tn_23, tn_24, tn_25, tn_26, tn_27, tn_28, tn_29, tn_30, tn_31, tn_32, tn_33, tn_34, tn_35, tn_36, tn_37, tn_38, tn_39, tn_40, tn_41, tn_42, tn_43, tn_44, tn_45, tn_46, tn_47, tn_48, tn_49, tn_50, tn_51, tn_52, tn_53, tn_54, tn_55, tc_0, tc_1, setAll, v_truth, v_truthI, v_truthT, v_truthL, v_truthN, v_tru, v_add, v_addL, v_addT, v_sub, v_mul, v_fdiv, v_mod, v_pow, v_neg, v_lt, v_le, v_gt, v_ge, v_isN, v_isnN, v_isB, v_isnB, v_eqI, v_neI, v_eqB, v_neB, v_bt, v_bts, v_bt0, v_btn, v_btp, v_ixT, v_ixL, v_ixP, v_ixS, v_len, v_lenT, v_lenL, v_lenS, v_abs, v_int, v_tupL, v_tupT, v_lstL, v_lstT, v_lstD, v_all, v_any, v_gcd, v_max, v_min, v_divmod, v_rng1, v_rng2, v_elT, v_elL, v_isi, v_mk, v_mkD, List.map_cons, List.map_nil, List.length_cons, List.length_nil, List.getElem?_cons_zero, List.getElem?_cons_succ, List.set_cons_zero, List.set_cons_succ, List.isEmpty_cons, List.isEmpty_nil, Option.some.injEq, exists_eq_left', exists_eq_left, Nat.reduceAdd, Nat.reduceSub, Nat.zero_add, List.cons.injEq, P.int.injEq, P.bl.injEq, P.tup.injEq, P.lst.injEq, and_true, true_and, Bool.false_eq_true, if_true, if_false, reduceIte]
    exact ⟨x, hx, x, hx, x, rfl, hp.2 x hm, hk⟩
theorem ok_law_same_2 : BodyOk (T.upto 37) 2 3 b_law_same_2 sp_law_same_2 := by
  refine bodyD (fun _ => rfl) ?_
  rintro p Q E hp k
  replace k : Q (.bl true) := k _ rfl
  cases p <;> simp [depg] at hp <;> (simp [b_law_same_2, wpSs, wpS, env0, List.map_cons, List.map_nil, List.length_cons, List.length_nil, Nat.reduceSub, Nat.reduceAdd, List.replicate_succ, List.replicate_zero, List.cons_append, List.nil_append, wpE, wpEs, wpAnd, wpOr, wpIfs, tn_0, tn_1, tn_2, tn_3, tn_4, tn_5, tn_6, tn_7, tn_8, tn_9, tn_10, tn_11, tn_12, tn_13, tn_14, tn_15, tn_16, tn_17, tn_18, tn_19, tn_20, tn_21, tn_22, tn_23, tn_24, tn_25, tn_26, tn_27, tn_28, tn_29, tn_30, tn_31, tn_32, tn_33, tn_34, tn_35, tn_36, tn_37, tn_38, tn_39, tn_40, tn_41, tn_42, tn_43, tn_44, tn_45, tn_46, tn_47, tn_48, tn_49, tn_50, tn_51, tn_52, tn_53, tn_54, tn_55, tc_0, tc_1, setAll, v_truth, v_truthI, v_truthT, v_truthL, v_truthN, v_tru, v_add, v_addL, v_addT, v_sub, v_mul, v_fdiv, v_mod, v_pow, v_neg, v_lt, v_le, v_gt, v_ge, v_isN, v_isnN, v_isB, v_isnB, v_eqI, v_neI, v_eqB, v_neB, v_bt, v_bts, v_bt0, v_btn, v_btp, v_ixT, v_ixL, v_ixP, v_ixS, v_len, v_lenT, v_lenL, v_lenS, v_abs, v_int, v_tupL, v_tupT, v_lstL, v_lstT, v_lstD, v_all, v_any, v_gcd, v_max, v_min, v_divmod, v_rng1, v_rng2, v_elT, v_elL, v_isi, v_mk, v_mkD, List.map_cons, List.map_nil, List.length_cons, List.length_nil, List.getElem?_cons_zero, List.getElem?_cons_succ, List.set_cons_zero, List.set_cons_succ, List.isEmpty_cons, List.isEmpty_nil, Option.some.injEq, exists_eq_left', exists_eq_left, Nat.reduceAdd, Nat.reduceSub, Nat.zero_add, List.cons.injEq, P.int.injEq, P.bl.injEq, P.tup.injEq, P.lst.injEq, and_true, true_and, Bool.false_eq_true, if_true, if_false, reduceIte, isNonP, isiP, isiAny, Ds.fn, k, lenP])
  all_goals
    rename_i xs
    refine ⟨by unfold Sm62; omega, by rw [len_range, sizeLine_eq]; omega, ?_⟩
    refine lcGo_map (fun _ => .bl true) _ _ (fun z hz acc k' hk => ?_) (.inr all_range)
    obtain ⟨i, x, rfl, hx, hm⟩ := rangeP_at hz
    simp only [wipeE, wpE, wpEs, wpAnd, wpOr, wpIfs, tn_0, tn_1, tn_2, tn_3, tn_4, tn_5, tn_6, tn_7, tn_8, tn_9, tn_10, tn_11, tn_12, tn_13, tn_14, tn_15, tn_16, tn_17, tn_18, tn_19, tn_20, tn_21, tn_22, tn_23, tn_24, tn_25, tn_26, tn_27, tn_28, tn_29, tn_30, tn_31, tn_32, tn_33, tn_34, tn_35, tn_36, tn_37, tn_38, tn_39, tn_40, tn_41, tn_42, tn_43, tn_44, tn_45, tn_46, tn_47, tn_48, tn_49, tn_50, tn_51, tn_52, tn_53, tn_54, tn_55, tc_0, tc_1, setAll, v_truth, v_truthI, v_truthT, v_truthL, v_truthN, v_tru, v_add, v_addL, v_addT, v_sub, v_mul, v_fdiv, v_mod, v_pow, v_neg, v_lt, v_le, v_gt, v_ge, v_isN, v_isnN, v_isB, v_isnB, v_eqI, v_neI, v_eqB, v_neB, v_bt, v_bts, v_bt0, v_btn, v_btp, v_ixT, v_ixL, v_ixP, v_ixS, v_len, v_lenT, v_lenL, v_lenS, v_abs, v_int, v_tupL, v_tupT, v_lstL, v_lstT, v_lstD, v_all, v_any, v_gcd, v_max, v_min, v_divmod, v_rng1, v_rng2, v_elT, v_elL, v_isi, v_mk, v_mkD, List.map_cons, List.map_nil, List.length_cons, List.length_nil, List.getElem?_cons_zero, List.getElem?_cons_succ, List.set_cons_zero, List.set_cons_succ, List.isEmpty_cons, List.isEmpty_nil, Option.some.injEq, exists_eq_left', exists_eq_left, Nat.reduceAdd, Nat.reduceSub, Nat.zero_add, List.cons.injEq, P.int.injEq, P.bl.injEq, P.tup.injEq, P.lst.injEq, and_true, true_and, Bool.false_eq_true, if_true, if_false, reduceIte]
    exact ⟨x, hx, x, hx, x, rfl, hp.2 x hm, hk⟩
theorem ok_law_order : BodyOk (T.upto 38) 1 1 b_law_order sp_law_order := by
  refine bodyM (fun _ => rfl) ?_
  rintro _ Q E _ k
  krn_off
  tlg_ne; kcj_in; kas_types
  intro m hm
  exact k _ ⟨m, rfl, by omega, by omega⟩
theorem ok_law_fraction : BodyOk (T.upto 39) 1 1 b_law_fraction sp_law_fraction := by
  refine bodyM (fun _ => rfl) ?_
  rintro _ Q E _ k
  krn_off
  tlg_ne; kcj_in; kas_types
  intro a a0 a1; kas_types
  intro m hm; kas_types
  intro b b0 b1; kas_types
  rw [fr_frq (by omega)]
  obtain ⟨en, ed⟩ := dvLe (a := a - 12) (b := 1 + b) (m := 12) (w := 12) (by omega) (by omega) (by omega)
  exact k _ ⟨_, rfl, szLe en ed (by decide) (by decide), by omega, by omega⟩
theorem ok_law_step : BodyOk (T.upto 40) 2 3 b_law_step sp_law_step := by
  refine bodyD (fun _ => rfl) ?_
  rintro ⟨n, l⟩ Q E ⟨n1, n2, h⟩ k
  krn_off
  obtain ⟨f0, fz⟩ := h.sz
  have hn := int_pos (show 0 < n by omega)
  have hnp := pos_ne hn
  tlg_ne; kcj_in
  refine ⟨h, ?_⟩
  tlg_ne; simp only [wpE, wpEs, wpAnd, wpOr, wpIfs, tn_0, tn_1, tn_2, tn_3, tn_4, tn_5, tn_6, tn_7, tn_8, tn_9, tn_10, tn_11, tn_12, tn_13, tn_14, tn_15, tn_16, tn_17, tn_18, tn_19, tn_20, tn_21, tn_22, tn_23, tn_24, tn_25, tn_26, tn_27, tn_28, tn_29, tn_30, tn_31, tn_32, tn_33, tn_34, tn_35, tn_36, tn_37, tn_38, tn_39, tn_40, tn_41, tn_42, tn_43, tn_44, tn_45, tn_46, tn_47, tn_48, tn_49, tn_50, tn_51, tn_52, tn_53, tn_54, tn_55, tc_0, tc_1, setAll, v_truth, v_truthI, v_truthT, v_truthL, v_truthN, v_tru, v_add, v_addL, v_addT, v_sub, v_mul, v_fdiv, v_mod, v_pow, v_neg, v_lt, v_le, v_gt, v_ge, v_isN, v_isnN, v_isB, v_isnB, v_eqI, v_neI, v_eqB, v_neB, v_bt, v_bts, v_bt0, v_btn, v_btp, v_ixT, v_ixL, v_ixP, v_ixS, v_len, v_lenT, v_lenL, v_lenS, v_abs, v_int, v_tupL, v_tupT, v_lstL, v_lstT, v_lstD, v_all, v_any, v_gcd, v_max, v_min, v_divmod, v_rng1, v_rng2, v_elT, v_elL, v_isi, v_mk, v_mkD, List.map_cons, List.map_nil, List.length_cons, List.length_nil, List.getElem?_cons_zero, List.getElem?_cons_succ, List.set_cons_zero, List.set_cons_succ, List.isEmpty_cons, List.isEmpty_nil, Option.some.injEq, exists_eq_left', exists_eq_left, Nat.reduceAdd, Nat.reduceSub, Nat.zero_add, List.cons.injEq, P.int.injEq, P.bl.injEq, P.tup.injEq, P.lst.injEq, and_true, true_and, Bool.false_eq_true, if_true, if_false, reduceIte, env0, List.map_cons, List.map_nil, List.length_cons, List.length_nil, Nat.reduceSub, Nat.reduceAdd, List.replicate_succ, List.replicate_zero, List.cons_append, List.nil_append, v_tru, mk, mkD, mkX, mkY, oc_v, oc_x, hdP, cval, cvals, Option.map_some, Prod.exists, forall_exists_index, and_imp, forall_eq, exists_const, exists_false, exists_and_left, exists_and_right, exists_eq_right, frq_inj, f_ix0, f_ix1, f_eq, f_ne, fr_add, fr_mul, frq_neg, frq_neg', ite_self, decide_eq_true_eq, decide_true, decide_false, Bool.not_true, Bool.not_false, Bool.not_eq_true', Bool.and_true, Bool.true_and, Bool.and_false, Bool.false_and, Bool.or_true, Bool.true_or, Bool.or_false, Bool.false_or, and_self, List.getD_cons_zero, List.getD_cons_succ, List.nil_append, s_nil, wipeE, Int.reduceLT, Int.reduceLE, Int.reduceAdd, Int.reduceSub, Int.reduceMul, Int.reduceNeg, Int.reduceEq, Int.reduceNe, ne_eq, not_true_eq_false, not_false_eq_true, reduceCtorEq, true_implies, imp_self, f_bt, den_one, frl_inj, fa_eq, fa_mem, sm62, inL_cons, inL_nil, revP, isStr, List.cons_append, fa_memq, frl_snoc, frl_app, frl_rev, fl_eq, fl_ne, fll_eq, fll_ne, fll_eq0, fll_ne0, fl_eq0, fl_ne0, exists_eq', i_tup, i_lst, i_int, i_bl, i_non, i_str, i_dct, String.reduceBEq, Bool.or_false, Bool.false_or, i_frq, l_frq, fr12, two_frq, num_zero, dep_bb, forGo_nil, f_inT, f_inL, f_ninT, f_ninL, sIx_nat, isTup_t, len0_t, dep_i, dep_non, dep_bl, dep_ii, sub_zero', Int.cast_ofNat_Int, e_frq, isInt, pl, fa_eq2, fa_eq3, atI_1, atI_2, atI_3, l0_ne, l0_eq, frl_eq, dep_p2, dep_p3, wl_inj, w_eq, w_ne, w_len, v_mulT,  dep_frq2, dep_frq1, isNo, partP, slP, cut_map, sIx_n, sIx_1, List.drop_zero, Nat.sub_zero, decide_eq_false_iff_not, Decidable.not_not, List.take_zero, atI_0,  isFrac_frq, pl_frq, Bool.true_eq_false, Bool.not_eq_false', abs_if, Nat.reduceEqDiff, one_frq, zero_frq, one_div', t_nf, t_np, P.fn.injEq, Nat.reduceLT, and_assoc, false_or, or_false, true_or, or_true, List.length_map, len_range, sizeLine_eq, beq_self_eq_true, Bool.true_beq, Bool.false_beq, tw_inj, pw_inj, and_false, false_and, b_int, rd_inj, il_inj, zip_map2, nn_frq, nn_tup, nn_non, il_eq, il_ne, il_eq0, il_ne0, il_eq1, il_ne1, i_nin2, i_in2, sp_law_take, sp_law_of, sp_law_part, sp_law_flashes, sp_law_less, sp_law_by, sp_law_floor, sp_law_over, sp_law_rest, sp_law_measure, sp_law_flash_measure, sp_law_tell_as_much, sp_is_tuple_up_to, sp_is_tuple_of, sp_is_pair, sp_is_whole, sp_is_from, sp_is_fraction_of, sp_is_time_of, sp_is_less, sp_wrong_in_flashes, sp_check_flashes, sp_is_whole_one, sp_plain_of, sp_over, sp_is_multiple, sp_measure_of_two, sp_measure_by, sp_plus, sp_negative, sp_minus, sp_flash_measure_by, sp_tell_as_much_by, sp_tell_as_much, sp_law_plus, sp_law_same_0, sp_law_same_1, sp_law_same_2, sp_law_order, sp_law_fraction, sp_law_step, sp_is_between, sp_is_order_of, sp_check_order, sp_check_lit, sp_check_fraction, sp_times, sp_whole, sp_rate_step_by, sp_are_alike_by, sp_are_alike, sp_flash_measure, sp_law_is_told, sp_law_right, sp_law_well, sp_law, frq_unit (show 0 < n by omega)]
  have hu := unit_sz (show 0 < n by omega) n2
  by_cases e : fms l = 0
  · have e0 : ¬ 0 < (fms l).num := by rw [e]; decide
    rw [if_neg e0]
    exact k _ (by unfold rst; rw [if_pos (by rw [e]; grind)])
  · have hp : 0 < fms l := by
      rcases Rat.le_iff_lt_or_eq.mp f0 with z | z
      · exact z
      · exact absurd z.symm e
    rw [if_pos (num_pos hp)]
    refine ⟨e, by kst_mem, by kst_mem, k _ ?_⟩
    unfold rst
    rw [if_neg (fun z => by rcases Rat.mul_eq_zero.mp z with y | y; exact hnp y; exact e y)]
    congr 1
    grind
theorem ok_is_between : BodyOk (T.upto 41) 3 3 b_is_between sp_is_between := by
  refine ⟨?_, ?_⟩
  · rintro ps Q E ⟨p, rfl, _⟩; rfl
  · rintro ps Q E ⟨⟨v, l, u⟩, rfl, h, k⟩
    refine w_ret (tmu _) (fun r => r = .bl (decide (l ≤ v) && decide (v ≤ u))) ?_ (fun r e => by subst e; exact k)
    simp only [env0, List.map_cons, List.map_nil, List.length_cons, List.length_nil, Nat.reduceSub, Nat.reduceAdd, List.replicate_succ, List.replicate_zero, List.cons_append, List.nil_append, wpE, wpEs, wpAnd, wpOr, wpIfs, tn_0, tn_1, tn_2, tn_3, tn_4, tn_5, tn_6, tn_7, tn_8, tn_9, tn_10, tn_11, tn_12, tn_13, tn_14, tn_15, tn_16, tn_17, tn_18, tn_19, tn_20, tn_21, tn_22, tn_23, tn_24, tn_25, tn_26, tn_27, tn_28, tn_29, tn_30, tn_31, tn_32, tn_33, tn_34, tn_35, tn_36, tn_37, tn_38, tn_39, tn_40, tn_41, tn_42, tn_43, tn_44, tn_45, tn_46, tn_47, tn_48, tn_49, tn_50, tn_51, tn_52, tn_53, tn_54, tn_55, tc_0, tc_1, setAll, v_truth, v_truthI, v_truthT, v_truthL, v_truthN, v_tru, v_add, v_addL, v_addT, v_sub, v_mul, v_fdiv, v_mod, v_pow, v_neg, v_lt, v_le, v_gt, v_ge, v_isN, v_isnN, v_isB, v_isnB, v_eqI, v_neI, v_eqB, v_neB, v_bt, v_bts, v_bt0, v_btn, v_btp, v_ixT, v_ixL, v_ixP, v_ixS, v_len, v_lenT, v_lenL, v_lenS, v_abs, v_int, v_tupL, v_tupT, v_lstL, v_lstT, v_lstD, v_all, v_any, v_gcd, v_max, v_min, v_divmod, v_rng1, v_rng2, v_elT, v_elL, v_isi, v_mk, v_mkD, List.map_cons, List.map_nil, List.length_cons, List.length_nil, List.getElem?_cons_zero, List.getElem?_cons_succ, List.set_cons_zero, List.set_cons_succ, List.isEmpty_cons, List.isEmpty_nil, Option.some.injEq, exists_eq_left', exists_eq_left, Nat.reduceAdd, Nat.reduceSub, Nat.zero_add, List.cons.injEq, P.int.injEq, P.bl.injEq, P.tup.injEq, P.lst.injEq, and_true, true_and, Bool.false_eq_true, if_true, if_false, reduceIte]
    refine ⟨.int v, rfl, rfl, ?_⟩
    show tru (.bl true) _
    simp only [wpE, wpEs, wpAnd, wpOr, wpIfs, tn_0, tn_1, tn_2, tn_3, tn_4, tn_5, tn_6, tn_7, tn_8, tn_9, tn_10, tn_11, tn_12, tn_13, tn_14, tn_15, tn_16, tn_17, tn_18, tn_19, tn_20, tn_21, tn_22, tn_23, tn_24, tn_25, tn_26, tn_27, tn_28, tn_29, tn_30, tn_31, tn_32, tn_33, tn_34, tn_35, tn_36, tn_37, tn_38, tn_39, tn_40, tn_41, tn_42, tn_43, tn_44, tn_45, tn_46, tn_47, tn_48, tn_49, tn_50, tn_51, tn_52, tn_53, tn_54, tn_55, tc_0, tc_1, setAll, v_truth, v_truthI, v_truthT, v_truthL, v_truthN, v_tru, v_add, v_addL, v_addT, v_sub, v_mul, v_fdiv, v_mod, v_pow, v_neg, v_lt, v_le, v_gt, v_ge, v_isN, v_isnN, v_isB, v_isnB, v_eqI, v_neI, v_eqB, v_neB, v_bt, v_bts, v_bt0, v_btn, v_btp, v_ixT, v_ixL, v_ixP, v_ixS, v_len, v_lenT, v_lenL, v_lenS, v_abs, v_int, v_tupL, v_tupT, v_lstL, v_lstT, v_lstD, v_all, v_any, v_gcd, v_max, v_min, v_divmod, v_rng1, v_rng2, v_elT, v_elL, v_isi, v_mk, v_mkD, List.map_cons, List.map_nil, List.length_cons, List.length_nil, List.getElem?_cons_zero, List.getElem?_cons_succ, List.set_cons_zero, List.set_cons_succ, List.isEmpty_cons, List.isEmpty_nil, Option.some.injEq, exists_eq_left', exists_eq_left, Nat.reduceAdd, Nat.reduceSub, Nat.zero_add, List.cons.injEq, P.int.injEq, P.bl.injEq, P.tup.injEq, P.lst.injEq, and_true, true_and, Bool.false_eq_true, if_true, if_false, reduceIte, decide_eq_true_eq]
    by_cases h1 : l ≤ v <;> simp [h1, v_le]
theorem ok_is_order_of : BodyOk (T.upto 42) 1 1 b_is_order_of sp_is_order_of := by
  refine ⟨?_, ?_⟩
  · rintro ps Q E ⟨p, rfl, _⟩; rfl
  · rintro ps Q E ⟨a, rfl, h, k⟩
    refine w_ret (tmu _) (fun r => r = .bl (decide (1 ≤ a) && decide (a ≤ 24))) ?_ (fun r e => by subst e; exact k)
    simp only [env0, List.map_cons, List.map_nil, List.length_cons, List.length_nil, Nat.reduceSub, Nat.reduceAdd, List.replicate_succ, List.replicate_zero, List.cons_append, List.nil_append, wpE, wpEs, wpAnd, wpOr, wpIfs, tn_0, tn_1, tn_2, tn_3, tn_4, tn_5, tn_6, tn_7, tn_8, tn_9, tn_10, tn_11, tn_12, tn_13, tn_14, tn_15, tn_16, tn_17, tn_18, tn_19, tn_20, tn_21, tn_22, tn_23, tn_24, tn_25, tn_26, tn_27, tn_28, tn_29, tn_30, tn_31, tn_32, tn_33, tn_34, tn_35, tn_36, tn_37, tn_38, tn_39, tn_40, tn_41, tn_42, tn_43, tn_44, tn_45, tn_46, tn_47, tn_48, tn_49, tn_50, tn_51, tn_52, tn_53, tn_54, tn_55, tc_0, tc_1, setAll, v_truth, v_truthI, v_truthT, v_truthL, v_truthN, v_tru, v_add, v_addL, v_addT, v_sub, v_mul, v_fdiv, v_mod, v_pow, v_neg, v_lt, v_le, v_gt, v_ge, v_isN, v_isnN, v_isB, v_isnB, v_eqI, v_neI, v_eqB, v_neB, v_bt, v_bts, v_bt0, v_btn, v_btp, v_ixT, v_ixL, v_ixP, v_ixS, v_len, v_lenT, v_lenL, v_lenS, v_abs, v_int, v_tupL, v_tupT, v_lstL, v_lstT, v_lstD, v_all, v_any, v_gcd, v_max, v_min, v_divmod, v_rng1, v_rng2, v_elT, v_elL, v_isi, v_mk, v_mkD, List.map_cons, List.map_nil, List.length_cons, List.length_nil, List.getElem?_cons_zero, List.getElem?_cons_succ, List.set_cons_zero, List.set_cons_succ, List.isEmpty_cons, List.isEmpty_nil, Option.some.injEq, exists_eq_left', exists_eq_left, Nat.reduceAdd, Nat.reduceSub, Nat.zero_add, List.cons.injEq, P.int.injEq, P.bl.injEq, P.tup.injEq, P.lst.injEq, and_true, true_and, Bool.false_eq_true, if_true, if_false, reduceIte]
    exact ⟨(a, 1, 24), rfl, trivial, rfl⟩
theorem ok_check_order : BodyOk (T.upto 43) 1 1 b_check_order sp_check_order := by
  refine ⟨?_, ?_⟩
  · rintro ps Q E ⟨p, rfl, _⟩; rfl
  · rintro ps Q E ⟨a, rfl, h, k⟩
    refine w_no (tmu _) ?_ k
    simp only [env0, List.map_cons, List.map_nil, List.length_cons, List.length_nil, Nat.reduceSub, Nat.reduceAdd, List.replicate_succ, List.replicate_zero, List.cons_append, List.nil_append, wpE, wpEs, wpAnd, wpOr, wpIfs, tn_0, tn_1, tn_2, tn_3, tn_4, tn_5, tn_6, tn_7, tn_8, tn_9, tn_10, tn_11, tn_12, tn_13, tn_14, tn_15, tn_16, tn_17, tn_18, tn_19, tn_20, tn_21, tn_22, tn_23, tn_24, tn_25, tn_26, tn_27, tn_28, tn_29, tn_30, tn_31, tn_32, tn_33, tn_34, tn_35, tn_36, tn_37, tn_38, tn_39, tn_40, tn_41, tn_42, tn_43, tn_44, tn_45, tn_46, tn_47, tn_48, tn_49, tn_50, tn_51, tn_52, tn_53, tn_54, tn_55, tc_0, tc_1, setAll, v_truth, v_truthI, v_truthT, v_truthL, v_truthN, v_tru, v_add, v_addL, v_addT, v_sub, v_mul, v_fdiv, v_mod, v_pow, v_neg, v_lt, v_le, v_gt, v_ge, v_isN, v_isnN, v_isB, v_isnB, v_eqI, v_neI, v_eqB, v_neB, v_bt, v_bts, v_bt0, v_btn, v_btp, v_ixT, v_ixL, v_ixP, v_ixS, v_len, v_lenT, v_lenL, v_lenS, v_abs, v_int, v_tupL, v_tupT, v_lstL, v_lstT, v_lstD, v_all, v_any, v_gcd, v_max, v_min, v_divmod, v_rng1, v_rng2, v_elT, v_elL, v_isi, v_mk, v_mkD, List.map_cons, List.map_nil, List.length_cons, List.length_nil, List.getElem?_cons_zero, List.getElem?_cons_succ, List.set_cons_zero, List.set_cons_succ, List.isEmpty_cons, List.isEmpty_nil, Option.some.injEq, exists_eq_left', exists_eq_left, Nat.reduceAdd, Nat.reduceSub, Nat.zero_add, List.cons.injEq, P.int.injEq, P.bl.injEq, P.tup.injEq, P.lst.injEq, and_true, true_and, Bool.false_eq_true, if_true, if_false, reduceIte]
    refine ⟨a, rfl, trivial, ?_⟩
    have h1 : 1 ≤ a := h.1
    have h2 : a ≤ 24 := h.2
    simp [v_tru, h1, h2]
theorem ok_check_lit : BodyOk (T.upto 44) 2 2 b_check_lit sp_check_lit := by
  refine bodyD (fun _ => rfl) ?_
  rintro ⟨n, l⟩ Q E ⟨n1, n2, h⟩ k
  krn_off
  tlg_ne; kcj_in; kas_types
  tlg_ne; kcj_in
  refine ⟨h, ?_⟩
  exact k _ rfl
theorem ok_check_fraction : BodyOk (T.upto 45) 1 1 b_check_fraction sp_check_fraction := by
  refine ⟨?_, ?_⟩
  · rintro ps Q E ⟨p, rfl, _⟩; rfl
  · rintro ps Q E ⟨q, rfl, h, k⟩
    refine w_no (tmu _) ?_ k
    simp only [env0, List.map_cons, List.map_nil, List.length_cons, List.length_nil, Nat.reduceSub, Nat.reduceAdd, List.replicate_succ, List.replicate_zero, List.cons_append, List.nil_append, wpE, wpEs, wpAnd, wpOr, wpIfs, tn_0, tn_1, tn_2, tn_3, tn_4, tn_5, tn_6, tn_7, tn_8, tn_9, tn_10, tn_11, tn_12, tn_13, tn_14, tn_15, tn_16, tn_17, tn_18, tn_19, tn_20, tn_21, tn_22, tn_23, tn_24, tn_25, tn_26, tn_27, tn_28, tn_29, tn_30, tn_31, tn_32, tn_33, tn_34, tn_35, tn_36, tn_37, tn_38, tn_39, tn_40, tn_41, tn_42, tn_43, tn_44, tn_45, tn_46, tn_47, tn_48, tn_49, tn_50, tn_51, tn_52, tn_53, tn_54, tn_55, tc_0, tc_1, setAll, v_truth, v_truthI, v_truthT, v_truthL, v_truthN, v_tru, v_add, v_addL, v_addT, v_sub, v_mul, v_fdiv, v_mod, v_pow, v_neg, v_lt, v_le, v_gt, v_ge, v_isN, v_isnN, v_isB, v_isnB, v_eqI, v_neI, v_eqB, v_neB, v_bt, v_bts, v_bt0, v_btn, v_btp, v_ixT, v_ixL, v_ixP, v_ixS, v_len, v_lenT, v_lenL, v_lenS, v_abs, v_int, v_tupL, v_tupT, v_lstL, v_lstT, v_lstD, v_all, v_any, v_gcd, v_max, v_min, v_divmod, v_rng1, v_rng2, v_elT, v_elL, v_isi, v_mk, v_mkD, List.map_cons, List.map_nil, List.length_cons, List.length_nil, List.getElem?_cons_zero, List.getElem?_cons_succ, List.set_cons_zero, List.set_cons_succ, List.isEmpty_cons, List.isEmpty_nil, Option.some.injEq, exists_eq_left', exists_eq_left, Nat.reduceAdd, Nat.reduceSub, Nat.zero_add, List.cons.injEq, P.int.injEq, P.bl.injEq, P.tup.injEq, P.lst.injEq, and_true, true_and, Bool.false_eq_true, if_true, if_false, reduceIte]
    exact ⟨frq q, rfl, rfl, by simp [isFrac_frq, v_tru]⟩
theorem ok_times : BodyOk (T.upto 46) 2 2 b_times sp_times := by
  refine ⟨?_, ?_⟩
  · rintro ps Q E ⟨p, rfl, _⟩; rfl
  · rintro ps Q E ⟨⟨p, q⟩, rfl, ⟨h1, h2⟩, k⟩
    replace h1 : Sz 3000 p := h1
    replace h2 : Sz 3000 q := h2
    refine w_ret (tmu _) (fun r => r = frq (p * q)) ?_ (fun r e => by subst e; exact k)
    simp only [env0, List.map_cons, List.map_nil, List.length_cons, List.length_nil, Nat.reduceSub, Nat.reduceAdd, List.replicate_succ, List.replicate_zero, List.cons_append, List.nil_append, wpE, wpEs, wpAnd, wpOr, wpIfs, tn_0, tn_1, tn_2, tn_3, tn_4, tn_5, tn_6, tn_7, tn_8, tn_9, tn_10, tn_11, tn_12, tn_13, tn_14, tn_15, tn_16, tn_17, tn_18, tn_19, tn_20, tn_21, tn_22, tn_23, tn_24, tn_25, tn_26, tn_27, tn_28, tn_29, tn_30, tn_31, tn_32, tn_33, tn_34, tn_35, tn_36, tn_37, tn_38, tn_39, tn_40, tn_41, tn_42, tn_43, tn_44, tn_45, tn_46, tn_47, tn_48, tn_49, tn_50, tn_51, tn_52, tn_53, tn_54, tn_55, tc_0, tc_1, setAll, v_truth, v_truthI, v_truthT, v_truthL, v_truthN, v_tru, v_add, v_addL, v_addT, v_sub, v_mul, v_fdiv, v_mod, v_pow, v_neg, v_lt, v_le, v_gt, v_ge, v_isN, v_isnN, v_isB, v_isnB, v_eqI, v_neI, v_eqB, v_neB, v_bt, v_bts, v_bt0, v_btn, v_btp, v_ixT, v_ixL, v_ixP, v_ixS, v_len, v_lenT, v_lenL, v_lenS, v_abs, v_int, v_tupL, v_tupT, v_lstL, v_lstT, v_lstD, v_all, v_any, v_gcd, v_max, v_min, v_divmod, v_rng1, v_rng2, v_elT, v_elL, v_isi, v_mk, v_mkD, List.map_cons, List.map_nil, List.length_cons, List.length_nil, List.getElem?_cons_zero, List.getElem?_cons_succ, List.set_cons_zero, List.set_cons_succ, List.isEmpty_cons, List.isEmpty_nil, Option.some.injEq, exists_eq_left', exists_eq_left, Nat.reduceAdd, Nat.reduceSub, Nat.zero_add, List.cons.injEq, P.int.injEq, P.bl.injEq, P.tup.injEq, P.lst.injEq, and_true, true_and, Bool.false_eq_true, if_true, if_false, reduceIte, f_ix0, f_ix1]
    have b1 := h1.n (by decide)
    have b2 := h2.n (by decide)
    have b3 := h1.d (by decide)
    have b4 := h2.d (by decide)
    exact ⟨.inr ⟨b1, b2⟩, .inr ⟨b3, b4⟩, (_, _), rfl, ⟨mul_ne (dn_ne p) (dn_ne q), bt_pow (bt_mul h1.1 h2.1) (by decide), bt_pow (bt_mul h1.dd h2.dd) (by decide)⟩, fr_mul p q⟩
theorem ok_whole : BodyOk (T.upto 47) 1 1 b_whole sp_whole := by
  refine ⟨?_, ?_⟩
  · rintro ps Q E ⟨p, rfl, _⟩; rfl
  · rintro ps Q E ⟨q, rfl, h, k⟩
    refine w_ret (tmu _) (fun r => r = frq (q : Rat)) ?_ (fun r e => by subst e; exact k)
    simp only [env0, List.map_cons, List.map_nil, List.length_cons, List.length_nil, Nat.reduceSub, Nat.reduceAdd, List.replicate_succ, List.replicate_zero, List.cons_append, List.nil_append, wpE, wpEs, wpAnd, wpOr, wpIfs, tn_0, tn_1, tn_2, tn_3, tn_4, tn_5, tn_6, tn_7, tn_8, tn_9, tn_10, tn_11, tn_12, tn_13, tn_14, tn_15, tn_16, tn_17, tn_18, tn_19, tn_20, tn_21, tn_22, tn_23, tn_24, tn_25, tn_26, tn_27, tn_28, tn_29, tn_30, tn_31, tn_32, tn_33, tn_34, tn_35, tn_36, tn_37, tn_38, tn_39, tn_40, tn_41, tn_42, tn_43, tn_44, tn_45, tn_46, tn_47, tn_48, tn_49, tn_50, tn_51, tn_52, tn_53, tn_54, tn_55, tc_0, tc_1, setAll, v_truth, v_truthI, v_truthT, v_truthL, v_truthN, v_tru, v_add, v_addL, v_addT, v_sub, v_mul, v_fdiv, v_mod, v_pow, v_neg, v_lt, v_le, v_gt, v_ge, v_isN, v_isnN, v_isB, v_isnB, v_eqI, v_neI, v_eqB, v_neB, v_bt, v_bts, v_bt0, v_btn, v_btp, v_ixT, v_ixL, v_ixP, v_ixS, v_len, v_lenT, v_lenL, v_lenS, v_abs, v_int, v_tupL, v_tupT, v_lstL, v_lstT, v_lstD, v_all, v_any, v_gcd, v_max, v_min, v_divmod, v_rng1, v_rng2, v_elT, v_elL, v_isi, v_mk, v_mkD, List.map_cons, List.map_nil, List.length_cons, List.length_nil, List.getElem?_cons_zero, List.getElem?_cons_succ, List.set_cons_zero, List.set_cons_succ, List.isEmpty_cons, List.isEmpty_nil, Option.some.injEq, exists_eq_left', exists_eq_left, Nat.reduceAdd, Nat.reduceSub, Nat.zero_add, List.cons.injEq, P.int.injEq, P.bl.injEq, P.tup.injEq, P.lst.injEq, and_true, true_and, Bool.false_eq_true, if_true, if_false, reduceIte, frq_int]
theorem ok_rate_step_by : BodyOk (T.upto 48) 2 3 b_rate_step_by sp_rate_step_by := by
  refine bodyD (fun _ => rfl) ?_
  rintro ⟨n, l⟩ Q E ⟨n1, n2, h⟩ k
  krn_off
  have hf := h.sz.2
  have hnz : Sz 8 (n : Rat) := sz_int8 (by omega)
  tlg_ne; kcj_in
  refine ⟨h, by kst_mem, by kst_mem, ?_⟩
  tlg_ne; kcj_in
  have h1z : Sz 20 (1 : Rat) := ⟨by decide, by decide⟩
  by_cases e : (n : Rat) * fms l = 0
  · rw [if_neg (fun z => z e)]
    exact k _ (by unfold rst; rw [if_pos e])
  · rw [if_pos e]
    exact ⟨e, by kst_mem, by kst_mem, k _ (by unfold rst; rw [if_neg e])⟩
theorem ok_are_alike_by : BodyOk (T.upto 49) 4 5 b_are_alike_by sp_are_alike_by := by
  refine bodyD (fun _ => rfl) ?_
  rintro ⟨n, l, p, q⟩ Q E ⟨n1, n2, h, z1, z2⟩ k
  krn_off
  have hrz : Sz 600 (rst n l) := (h.rst n1 (by omega)).2.mono (by decide)
  tlg_ne; kcj_in
  refine ⟨n1, n2, h, ?_⟩
  tlg_ne; kcj_in
  by_cases e : rst n l = 0
  · rw [if_pos e]
    exact k _ (by simp [e])
  · rw [if_neg e]
    exact ⟨by kst_mem, by kst_mem, by kst_mem, by kst_mem, k _ (by simp [e, tam_ne e])⟩
theorem ok_are_alike : BodyOk (T.upto 50) 4 4 b_are_alike sp_are_alike := by
  refine bodyD (fun _ => rfl) ?_
  rintro ⟨n, l, p, q⟩ Q E ⟨n1, n2, h, z1, z2⟩ k
  krn_off
  tlg_ne; kcj_in
  refine ⟨n1, n2, h, ?_⟩
  tlg_ne; kcj_in; kas_types
  tlg_ne; kcj_in; kas_types
  tlg_ne; kcj_in
  exact ⟨n1, n2, h, z1, z2, k _ rfl⟩
theorem ok_flash_measure : BodyOk (T.upto 51) 1 1 b_flash_measure sp_flash_measure := by
  refine bodyD (fun _ => rfl) ?_
  rintro l Q E h k
  krn_off
  tlg_ne; kcj_in
  refine ⟨h, ?_⟩
  tlg_ne; kcj_in
  exact ⟨h, k _ rfl⟩
theorem ok_law_is_told : BodyOk (T.upto 52) 3 9 b_law_is_told sp_law_is_told := by
  refine bodyD (fun _ => rfl) ?_
  rintro ⟨l, m⟩ Q E ⟨h, g⟩ k
  krn_off
  obtain ⟨due, hdue⟩ : ∃ d, decide (tam (fms l) (fms m)) = d := ⟨_, rfl⟩
  tlg_ne; simp only [wpE, wpEs, wpAnd, wpOr, wpIfs, tn_0, tn_1, tn_2, tn_3, tn_4, tn_5, tn_6, tn_7, tn_8, tn_9, tn_10, tn_11, tn_12, tn_13, tn_14, tn_15, tn_16, tn_17, tn_18, tn_19, tn_20, tn_21, tn_22, tn_23, tn_24, tn_25, tn_26, tn_27, tn_28, tn_29, tn_30, tn_31, tn_32, tn_33, tn_34, tn_35, tn_36, tn_37, tn_38, tn_39, tn_40, tn_41, tn_42, tn_43, tn_44, tn_45, tn_46, tn_47, tn_48, tn_49, tn_50, tn_51, tn_52, tn_53, tn_54, tn_55, tc_0, tc_1, setAll, v_truth, v_truthI, v_truthT, v_truthL, v_truthN, v_tru, v_add, v_addL, v_addT, v_sub, v_mul, v_fdiv, v_mod, v_pow, v_neg, v_lt, v_le, v_gt, v_ge, v_isN, v_isnN, v_isB, v_isnB, v_eqI, v_neI, v_eqB, v_neB, v_bt, v_bts, v_bt0, v_btn, v_btp, v_ixT, v_ixL, v_ixP, v_ixS, v_len, v_lenT, v_lenL, v_lenS, v_abs, v_int, v_tupL, v_tupT, v_lstL, v_lstT, v_lstD, v_all, v_any, v_gcd, v_max, v_min, v_divmod, v_rng1, v_rng2, v_elT, v_elL, v_isi, v_mk, v_mkD, List.map_cons, List.map_nil, List.length_cons, List.length_nil, List.getElem?_cons_zero, List.getElem?_cons_succ, List.set_cons_zero, List.set_cons_succ, List.isEmpty_cons, List.isEmpty_nil, Option.some.injEq, exists_eq_left', exists_eq_left, Nat.reduceAdd, Nat.reduceSub, Nat.zero_add, List.cons.injEq, P.int.injEq, P.bl.injEq, P.tup.injEq, P.lst.injEq, and_true, true_and, Bool.false_eq_true, if_true, if_false, reduceIte, env0, List.map_cons, List.map_nil, List.length_cons, List.length_nil, Nat.reduceSub, Nat.reduceAdd, List.replicate_succ, List.replicate_zero, List.cons_append, List.nil_append, v_tru, mk, mkD, mkX, mkY, oc_v, oc_x, hdP, cval, cvals, Option.map_some, Prod.exists, forall_exists_index, and_imp, forall_eq, exists_const, exists_false, exists_and_left, exists_and_right, exists_eq_right, frq_inj, f_ix0, f_ix1, f_eq, f_ne, fr_add, fr_mul, frq_neg, frq_neg', ite_self, decide_eq_true_eq, decide_true, decide_false, Bool.not_true, Bool.not_false, Bool.not_eq_true', Bool.and_true, Bool.true_and, Bool.and_false, Bool.false_and, Bool.or_true, Bool.true_or, Bool.or_false, Bool.false_or, and_self, List.getD_cons_zero, List.getD_cons_succ, List.nil_append, s_nil, wipeE, Int.reduceLT, Int.reduceLE, Int.reduceAdd, Int.reduceSub, Int.reduceMul, Int.reduceNeg, Int.reduceEq, Int.reduceNe, ne_eq, not_true_eq_false, not_false_eq_true, reduceCtorEq, true_implies, imp_self, f_bt, den_one, frl_inj, fa_eq, fa_mem, sm62, inL_cons, inL_nil, revP, isStr, List.cons_append, fa_memq, frl_snoc, frl_app, frl_rev, fl_eq, fl_ne, fll_eq, fll_ne, fll_eq0, fll_ne0, fl_eq0, fl_ne0, exists_eq', i_tup, i_lst, i_int, i_bl, i_non, i_str, i_dct, String.reduceBEq, Bool.or_false, Bool.false_or, i_frq, l_frq, fr12, two_frq, num_zero, dep_bb, forGo_nil, f_inT, f_inL, f_ninT, f_ninL, sIx_nat, isTup_t, len0_t, dep_i, dep_non, dep_bl, dep_ii, sub_zero', Int.cast_ofNat_Int, e_frq, isInt, pl, fa_eq2, fa_eq3, atI_1, atI_2, atI_3, l0_ne, l0_eq, frl_eq, dep_p2, dep_p3, wl_inj, w_eq, w_ne, w_len, v_mulT,  dep_frq2, dep_frq1, isNo, partP, slP, cut_map, sIx_n, sIx_1, List.drop_zero, Nat.sub_zero, decide_eq_false_iff_not, Decidable.not_not, List.take_zero, atI_0,  isFrac_frq, pl_frq, Bool.true_eq_false, Bool.not_eq_false', abs_if, Nat.reduceEqDiff, one_frq, zero_frq, one_div', t_nf, t_np, P.fn.injEq, Nat.reduceLT, and_assoc, false_or, or_false, true_or, or_true, List.length_map, len_range, sizeLine_eq, beq_self_eq_true, Bool.true_beq, Bool.false_beq, tw_inj, pw_inj, and_false, false_and, b_int, rd_inj, il_inj, zip_map2, nn_frq, nn_tup, nn_non, il_eq, il_ne, il_eq0, il_ne0, il_eq1, il_ne1, i_nin2, i_in2, sp_law_take, sp_law_of, sp_law_part, sp_law_flashes, sp_law_less, sp_law_by, sp_law_floor, sp_law_over, sp_law_rest, sp_law_measure, sp_law_flash_measure, sp_law_tell_as_much, sp_is_tuple_up_to, sp_is_tuple_of, sp_is_pair, sp_is_whole, sp_is_from, sp_is_fraction_of, sp_is_time_of, sp_is_less, sp_wrong_in_flashes, sp_check_flashes, sp_is_whole_one, sp_plain_of, sp_over, sp_is_multiple, sp_measure_of_two, sp_measure_by, sp_plus, sp_negative, sp_minus, sp_flash_measure_by, sp_tell_as_much_by, sp_tell_as_much, sp_law_plus, sp_law_same_0, sp_law_same_1, sp_law_same_2, sp_law_order, sp_law_fraction, sp_law_step, sp_is_between, sp_is_order_of, sp_check_order, sp_check_lit, sp_check_fraction, sp_times, sp_whole, sp_rate_step_by, sp_are_alike_by, sp_are_alike, sp_flash_measure, sp_law_is_told, sp_law_right, sp_law_well, sp_law, hdue]
  refine ⟨h, g, ?_⟩
  refine s_cut (tmu _) (fun e => e = [some .pool, some (.tup (l.map frq)), some (.tup (m.map frq)), some (.bl due), some (.bl due), none, none, none, none]) ?_ ?_
  · tlg_ne; simp only [wpE, wpEs, wpAnd, wpOr, wpIfs, tn_0, tn_1, tn_2, tn_3, tn_4, tn_5, tn_6, tn_7, tn_8, tn_9, tn_10, tn_11, tn_12, tn_13, tn_14, tn_15, tn_16, tn_17, tn_18, tn_19, tn_20, tn_21, tn_22, tn_23, tn_24, tn_25, tn_26, tn_27, tn_28, tn_29, tn_30, tn_31, tn_32, tn_33, tn_34, tn_35, tn_36, tn_37, tn_38, tn_39, tn_40, tn_41, tn_42, tn_43, tn_44, tn_45, tn_46, tn_47, tn_48, tn_49, tn_50, tn_51, tn_52, tn_53, tn_54, tn_55, tc_0, tc_1, setAll, v_truth, v_truthI, v_truthT, v_truthL, v_truthN, v_tru, v_add, v_addL, v_addT, v_sub, v_mul, v_fdiv, v_mod, v_pow, v_neg, v_lt, v_le, v_gt, v_ge, v_isN, v_isnN, v_isB, v_isnB, v_eqI, v_neI, v_eqB, v_neB, v_bt, v_bts, v_bt0, v_btn, v_btp, v_ixT, v_ixL, v_ixP, v_ixS, v_len, v_lenT, v_lenL, v_lenS, v_abs, v_int, v_tupL, v_tupT, v_lstL, v_lstT, v_lstD, v_all, v_any, v_gcd, v_max, v_min, v_divmod, v_rng1, v_rng2, v_elT, v_elL, v_isi, v_mk, v_mkD, List.map_cons, List.map_nil, List.length_cons, List.length_nil, List.getElem?_cons_zero, List.getElem?_cons_succ, List.set_cons_zero, List.set_cons_succ, List.isEmpty_cons, List.isEmpty_nil, Option.some.injEq, exists_eq_left', exists_eq_left, Nat.reduceAdd, Nat.reduceSub, Nat.zero_add, List.cons.injEq, P.int.injEq, P.bl.injEq, P.tup.injEq, P.lst.injEq, and_true, true_and, Bool.false_eq_true, if_true, if_false, reduceIte, env0, List.map_cons, List.map_nil, List.length_cons, List.length_nil, Nat.reduceSub, Nat.reduceAdd, List.replicate_succ, List.replicate_zero, List.cons_append, List.nil_append, v_tru, mk, mkD, mkX, mkY, oc_v, oc_x, hdP, cval, cvals, Option.map_some, Prod.exists, forall_exists_index, and_imp, forall_eq, exists_const, exists_false, exists_and_left, exists_and_right, exists_eq_right, frq_inj, f_ix0, f_ix1, f_eq, f_ne, fr_add, fr_mul, frq_neg, frq_neg', ite_self, decide_eq_true_eq, decide_true, decide_false, Bool.not_true, Bool.not_false, Bool.not_eq_true', Bool.and_true, Bool.true_and, Bool.and_false, Bool.false_and, Bool.or_true, Bool.true_or, Bool.or_false, Bool.false_or, and_self, List.getD_cons_zero, List.getD_cons_succ, List.nil_append, s_nil, wipeE, Int.reduceLT, Int.reduceLE, Int.reduceAdd, Int.reduceSub, Int.reduceMul, Int.reduceNeg, Int.reduceEq, Int.reduceNe, ne_eq, not_true_eq_false, not_false_eq_true, reduceCtorEq, true_implies, imp_self, f_bt, den_one, frl_inj, fa_eq, fa_mem, sm62, inL_cons, inL_nil, revP, isStr, List.cons_append, fa_memq, frl_snoc, frl_app, frl_rev, fl_eq, fl_ne, fll_eq, fll_ne, fll_eq0, fll_ne0, fl_eq0, fl_ne0, exists_eq', i_tup, i_lst, i_int, i_bl, i_non, i_str, i_dct, String.reduceBEq, Bool.or_false, Bool.false_or, i_frq, l_frq, fr12, two_frq, num_zero, dep_bb, forGo_nil, f_inT, f_inL, f_ninT, f_ninL, sIx_nat, isTup_t, len0_t, dep_i, dep_non, dep_bl, dep_ii, sub_zero', Int.cast_ofNat_Int, e_frq, isInt, pl, fa_eq2, fa_eq3, atI_1, atI_2, atI_3, l0_ne, l0_eq, frl_eq, dep_p2, dep_p3, wl_inj, w_eq, w_ne, w_len, v_mulT,  dep_frq2, dep_frq1, isNo, partP, slP, cut_map, sIx_n, sIx_1, List.drop_zero, Nat.sub_zero, decide_eq_false_iff_not, Decidable.not_not, List.take_zero, atI_0,  isFrac_frq, pl_frq, Bool.true_eq_false, Bool.not_eq_false', abs_if, Nat.reduceEqDiff, one_frq, zero_frq, one_div', t_nf, t_np, P.fn.injEq, Nat.reduceLT, and_assoc, false_or, or_false, true_or, or_true, List.length_map, len_range, sizeLine_eq, beq_self_eq_true, Bool.true_beq, Bool.false_beq, tw_inj, pw_inj, and_false, false_and, b_int, rd_inj, il_inj, zip_map2, nn_frq, nn_tup, nn_non, il_eq, il_ne, il_eq0, il_ne0, il_eq1, il_ne1, i_nin2, i_in2, sp_law_take, sp_law_of, sp_law_part, sp_law_flashes, sp_law_less, sp_law_by, sp_law_floor, sp_law_over, sp_law_rest, sp_law_measure, sp_law_flash_measure, sp_law_tell_as_much, sp_is_tuple_up_to, sp_is_tuple_of, sp_is_pair, sp_is_whole, sp_is_from, sp_is_fraction_of, sp_is_time_of, sp_is_less, sp_wrong_in_flashes, sp_check_flashes, sp_is_whole_one, sp_plain_of, sp_over, sp_is_multiple, sp_measure_of_two, sp_measure_by, sp_plus, sp_negative, sp_minus, sp_flash_measure_by, sp_tell_as_much_by, sp_tell_as_much, sp_law_plus, sp_law_same_0, sp_law_same_1, sp_law_same_2, sp_law_order, sp_law_fraction, sp_law_step, sp_is_between, sp_is_order_of, sp_check_order, sp_check_lit, sp_check_fraction, sp_times, sp_whole, sp_rate_step_by, sp_are_alike_by, sp_are_alike, sp_flash_measure, sp_law_is_told, sp_law_right, sp_law_well, sp_law, hdue]
    exact ⟨by kst_mem, fun _ _ _ => ⟨h, g⟩⟩
  rintro _ rfl
  tlg_ne; simp only [wpE, wpEs, wpAnd, wpOr, wpIfs, tn_0, tn_1, tn_2, tn_3, tn_4, tn_5, tn_6, tn_7, tn_8, tn_9, tn_10, tn_11, tn_12, tn_13, tn_14, tn_15, tn_16, tn_17, tn_18, tn_19, tn_20, tn_21, tn_22, tn_23, tn_24, tn_25, tn_26, tn_27, tn_28, tn_29, tn_30, tn_31, tn_32, tn_33, tn_34, tn_35, tn_36, tn_37, tn_38, tn_39, tn_40, tn_41, tn_42, tn_43, tn_44, tn_45, tn_46, tn_47, tn_48, tn_49, tn_50, tn_51, tn_52, tn_53, tn_54, tn_55, tc_0, tc_1, setAll, v_truth, v_truthI, v_truthT, v_truthL, v_truthN, v_tru, v_add, v_addL, v_addT, v_sub, v_mul, v_fdiv, v_mod, v_pow, v_neg, v_lt, v_le, v_gt, v_ge, v_isN, v_isnN, v_isB, v_isnB, v_eqI, v_neI, v_eqB, v_neB, v_bt, v_bts, v_bt0, v_btn, v_btp, v_ixT, v_ixL, v_ixP, v_ixS, v_len, v_lenT, v_lenL, v_lenS, v_abs, v_int, v_tupL, v_tupT, v_lstL, v_lstT, v_lstD, v_all, v_any, v_gcd, v_max, v_min, v_divmod, v_rng1, v_rng2, v_elT, v_elL, v_isi, v_mk, v_mkD, List.map_cons, List.map_nil, List.length_cons, List.length_nil, List.getElem?_cons_zero, List.getElem?_cons_succ, List.set_cons_zero, List.set_cons_succ, List.isEmpty_cons, List.isEmpty_nil, Option.some.injEq, exists_eq_left', exists_eq_left, Nat.reduceAdd, Nat.reduceSub, Nat.zero_add, List.cons.injEq, P.int.injEq, P.bl.injEq, P.tup.injEq, P.lst.injEq, and_true, true_and, Bool.false_eq_true, if_true, if_false, reduceIte, env0, List.map_cons, List.map_nil, List.length_cons, List.length_nil, Nat.reduceSub, Nat.reduceAdd, List.replicate_succ, List.replicate_zero, List.cons_append, List.nil_append, v_tru, mk, mkD, mkX, mkY, oc_v, oc_x, hdP, cval, cvals, Option.map_some, Prod.exists, forall_exists_index, and_imp, forall_eq, exists_const, exists_false, exists_and_left, exists_and_right, exists_eq_right, frq_inj, f_ix0, f_ix1, f_eq, f_ne, fr_add, fr_mul, frq_neg, frq_neg', ite_self, decide_eq_true_eq, decide_true, decide_false, Bool.not_true, Bool.not_false, Bool.not_eq_true', Bool.and_true, Bool.true_and, Bool.and_false, Bool.false_and, Bool.or_true, Bool.true_or, Bool.or_false, Bool.false_or, and_self, List.getD_cons_zero, List.getD_cons_succ, List.nil_append, s_nil, wipeE, Int.reduceLT, Int.reduceLE, Int.reduceAdd, Int.reduceSub, Int.reduceMul, Int.reduceNeg, Int.reduceEq, Int.reduceNe, ne_eq, not_true_eq_false, not_false_eq_true, reduceCtorEq, true_implies, imp_self, f_bt, den_one, frl_inj, fa_eq, fa_mem, sm62, inL_cons, inL_nil, revP, isStr, List.cons_append, fa_memq, frl_snoc, frl_app, frl_rev, fl_eq, fl_ne, fll_eq, fll_ne, fll_eq0, fll_ne0, fl_eq0, fl_ne0, exists_eq', i_tup, i_lst, i_int, i_bl, i_non, i_str, i_dct, String.reduceBEq, Bool.or_false, Bool.false_or, i_frq, l_frq, fr12, two_frq, num_zero, dep_bb, forGo_nil, f_inT, f_inL, f_ninT, f_ninL, sIx_nat, isTup_t, len0_t, dep_i, dep_non, dep_bl, dep_ii, sub_zero', Int.cast_ofNat_Int, e_frq, isInt, pl, fa_eq2, fa_eq3, atI_1, atI_2, atI_3, l0_ne, l0_eq, frl_eq, dep_p2, dep_p3, wl_inj, w_eq, w_ne, w_len, v_mulT,  dep_frq2, dep_frq1, isNo, partP, slP, cut_map, sIx_n, sIx_1, List.drop_zero, Nat.sub_zero, decide_eq_false_iff_not, Decidable.not_not, List.take_zero, atI_0,  isFrac_frq, pl_frq, Bool.true_eq_false, Bool.not_eq_false', abs_if, Nat.reduceEqDiff, one_frq, zero_frq, one_div', t_nf, t_np, P.fn.injEq, Nat.reduceLT, and_assoc, false_or, or_false, true_or, or_true, List.length_map, len_range, sizeLine_eq, beq_self_eq_true, Bool.true_beq, Bool.false_beq, tw_inj, pw_inj, and_false, false_and, b_int, rd_inj, il_inj, zip_map2, nn_frq, nn_tup, nn_non, il_eq, il_ne, il_eq0, il_ne0, il_eq1, il_ne1, i_nin2, i_in2, sp_law_take, sp_law_of, sp_law_part, sp_law_flashes, sp_law_less, sp_law_by, sp_law_floor, sp_law_over, sp_law_rest, sp_law_measure, sp_law_flash_measure, sp_law_tell_as_much, sp_is_tuple_up_to, sp_is_tuple_of, sp_is_pair, sp_is_whole, sp_is_from, sp_is_fraction_of, sp_is_time_of, sp_is_less, sp_wrong_in_flashes, sp_check_flashes, sp_is_whole_one, sp_plain_of, sp_over, sp_is_multiple, sp_measure_of_two, sp_measure_by, sp_plus, sp_negative, sp_minus, sp_flash_measure_by, sp_tell_as_much_by, sp_tell_as_much, sp_law_plus, sp_law_same_0, sp_law_same_1, sp_law_same_2, sp_law_order, sp_law_fraction, sp_law_step, sp_is_between, sp_is_order_of, sp_check_order, sp_check_lit, sp_check_fraction, sp_times, sp_whole, sp_rate_step_by, sp_are_alike_by, sp_are_alike, sp_flash_measure, sp_law_is_told, sp_law_right, sp_law_well, sp_law, hdue]
  refine ⟨h, h, by cases due <;> rfl, ?_⟩
  tlg_ne; kcj_in; kas_types
  intro n n1 n2 p p0 p1 p2
  obtain ⟨r0, rz⟩ := h.rst n1 (by omega)
  refine s_cut (tmu _) (fun e => ∃ st : Rat, e = [some .pool, some (.tup (l.map frq)), some (.tup (m.map frq)), some (.bl due), some (.bl due), some (.int n), some (frq p), some (frq st), none] ∧ Sz 22 st) ?_ ?_
  · tlg_ne; kcj_in
    split
    · exact ⟨n1, n2, h, rz⟩
    · refine ⟨by kst_mem, fun a a0 a1 => ⟨by kst_mem, by kst_mem, ?_⟩⟩
      rw [fr_frq (by decide)]
      exact ⟨_, rfl, sz_divInt (by decide) (by omega) (by decide)⟩
  rintro _ ⟨st, rfl, sz⟩
  refine s_cut (tmu _) (fun e => ∃ q : Rat, e = [some .pool, some (.tup (l.map frq)), some (.tup (m.map frq)), some (.bl due), some (.bl due), some (.int n), some (frq p), some (frq st), some (frq q)] ∧ Sz 40 q) ?_ ?_
  · tlg_ne; kcj_in
    refine ⟨by kst_mem, fun a a0 a1 => ⟨_, frq_int (a - 4), ?_⟩⟩
    have az : Sz 4 ((a - 4 : Int) : Rat) := sz_int (by omega) (by decide)
    exact ⟨by kst_mem, by kst_mem, by kst_mem, by kst_mem, (sz_add p0 (sz_mul az sz)).mono (by decide)⟩
  rintro _ ⟨q, rfl, qz⟩
  refine s_cut (tmu _) (fun e => e = [some .pool, some (.tup (l.map frq)), some (.tup (m.map frq)), some (.bl due), some (.bl due), some (.int n), some (frq p), some (frq st), some (frq q)]) ?_ ?_
  · tlg_ne; kcj_in
    by_cases hd : due = true
    · rw [if_pos hd]
      have ht : tam (fms l) (fms m) := by
        have := hdue.trans hd
        simpa using this
      refine ⟨n1, n2, h, by kst_mem, by kst_mem, ?_⟩
      by_cases ha : rst n l = 0 ∨ isZ ((p - q) / rst n l)
      · have hb : rst n m = 0 ∨ isZ ((p - q) / rst n m) := (alike_iff n1 _).mpr (ht.alike ((alike_iff n1 _).mp ha))
        simp [ha, hb]
        exact ⟨n1, n2, g, by kst_mem, by kst_mem⟩
      · simp [ha]
    · rw [if_neg hd]
      simp [hd]
  rintro _ rfl
  by_cases hc : due = false ∧ 1 < l.length
  · obtain ⟨rfl, hlen⟩ := hc
    have hf0 : fms l ≠ 0 := fun z => by have := (fms_zero h).mp z; omega
    obtain ⟨r0', rz'⟩ := h.rst (n := 1) (by decide) (by decide)
    have hr : rst 1 l = (fms l)⁻¹ := by
      unfold rst
      have e1 : ((1 : Int) : Rat) * fms l = fms l := by
        rw [show ((1 : Int) : Rat) = 1 by rfl, Rat.one_mul]
      rw [e1, if_neg hf0]
    have hA : decide (rst 1 l = 0 ∨ isZ ((p - (p + rst 1 l)) / rst 1 l)) = true := by
      rw [decide_eq_true_eq, alike_iff (by decide), hr, show ((1 : Int) : Rat) = 1 by rfl, show 1 * fms l * (p - (p + (fms l)⁻¹)) = -1 by grind]
      decide +kernel
    have hB : decide (rst 1 m = 0 ∨ isZ ((p - (p + rst 1 l)) / rst 1 m)) = false := by
      rw [decide_eq_false_iff_not, alike_iff (by decide), hr, show ((1 : Int) : Rat) = 1 by rfl, show 1 * fms m * (p - (p + (fms l)⁻¹)) = -(fms m / fms l) by grind, isZ_neg_iff]
      intro z
      have := (tam_ne hf0).mpr z
      simp [this] at hdue
    tlg_ne; kcj_in
    rw [if_pos (by omega)]
    tlg_ne; kcj_in
    refine ⟨h, ?_⟩
    tlg_ne; simp only [wpE, wpEs, wpAnd, wpOr, wpIfs, tn_0, tn_1, tn_2, tn_3, tn_4, tn_5, tn_6, tn_7, tn_8, tn_9, tn_10, tn_11, tn_12, tn_13, tn_14, tn_15, tn_16, tn_17, tn_18, tn_19, tn_20, tn_21, tn_22, tn_23, tn_24, tn_25, tn_26, tn_27, tn_28, tn_29, tn_30, tn_31, tn_32, tn_33, tn_34, tn_35, tn_36, tn_37, tn_38, tn_39, tn_40, tn_41, tn_42, tn_43, tn_44, tn_45, tn_46, tn_47, tn_48, tn_49, tn_50, tn_51, tn_52, tn_53, tn_54, tn_55, tc_0, tc_1, setAll, v_truth, v_truthI, v_truthT, v_truthL, v_truthN, v_tru, v_add, v_addL, v_addT, v_sub, v_mul, v_fdiv, v_mod, v_pow, v_neg, v_lt, v_le, v_gt, v_ge, v_isN, v_isnN, v_isB, v_isnB, v_eqI, v_neI, v_eqB, v_neB, v_bt, v_bts, v_bt0, v_btn, v_btp, v_ixT, v_ixL, v_ixP, v_ixS, v_len, v_lenT, v_lenL, v_lenS, v_abs, v_int, v_tupL, v_tupT, v_lstL, v_lstT, v_lstD, v_all, v_any, v_gcd, v_max, v_min, v_divmod, v_rng1, v_rng2, v_elT, v_elL, v_isi, v_mk, v_mkD, List.map_cons, List.map_nil, List.length_cons, List.length_nil, List.getElem?_cons_zero, List.getElem?_cons_succ, List.set_cons_zero, List.set_cons_succ, List.isEmpty_cons, List.isEmpty_nil, Option.some.injEq, exists_eq_left', exists_eq_left, Nat.reduceAdd, Nat.reduceSub, Nat.zero_add, List.cons.injEq, P.int.injEq, P.bl.injEq, P.tup.injEq, P.lst.injEq, and_true, true_and, Bool.false_eq_true, if_true, if_false, reduceIte, env0, List.map_cons, List.map_nil, List.length_cons, List.length_nil, Nat.reduceSub, Nat.reduceAdd, List.replicate_succ, List.replicate_zero, List.cons_append, List.nil_append, v_tru, mk, mkD, mkX, mkY, oc_v, oc_x, hdP, cval, cvals, Option.map_some, Prod.exists, forall_exists_index, and_imp, forall_eq, exists_const, exists_false, exists_and_left, exists_and_right, exists_eq_right, frq_inj, f_ix0, f_ix1, f_eq, f_ne, fr_add, fr_mul, frq_neg, frq_neg', ite_self, decide_eq_true_eq, decide_true, decide_false, Bool.not_true, Bool.not_false, Bool.not_eq_true', Bool.and_true, Bool.true_and, Bool.and_false, Bool.false_and, Bool.or_true, Bool.true_or, Bool.or_false, Bool.false_or, and_self, List.getD_cons_zero, List.getD_cons_succ, List.nil_append, s_nil, wipeE, Int.reduceLT, Int.reduceLE, Int.reduceAdd, Int.reduceSub, Int.reduceMul, Int.reduceNeg, Int.reduceEq, Int.reduceNe, ne_eq, not_true_eq_false, not_false_eq_true, reduceCtorEq, true_implies, imp_self, f_bt, den_one, frl_inj, fa_eq, fa_mem, sm62, inL_cons, inL_nil, revP, isStr, List.cons_append, fa_memq, frl_snoc, frl_app, frl_rev, fl_eq, fl_ne, fll_eq, fll_ne, fll_eq0, fll_ne0, fl_eq0, fl_ne0, exists_eq', i_tup, i_lst, i_int, i_bl, i_non, i_str, i_dct, String.reduceBEq, Bool.or_false, Bool.false_or, i_frq, l_frq, fr12, two_frq, num_zero, dep_bb, forGo_nil, f_inT, f_inL, f_ninT, f_ninL, sIx_nat, isTup_t, len0_t, dep_i, dep_non, dep_bl, dep_ii, sub_zero', Int.cast_ofNat_Int, e_frq, isInt, pl, fa_eq2, fa_eq3, atI_1, atI_2, atI_3, l0_ne, l0_eq, frl_eq, dep_p2, dep_p3, wl_inj, w_eq, w_ne, w_len, v_mulT,  dep_frq2, dep_frq1, isNo, partP, slP, cut_map, sIx_n, sIx_1, List.drop_zero, Nat.sub_zero, decide_eq_false_iff_not, Decidable.not_not, List.take_zero, atI_0,  isFrac_frq, pl_frq, Bool.true_eq_false, Bool.not_eq_false', abs_if, Nat.reduceEqDiff, one_frq, zero_frq, one_div', t_nf, t_np, P.fn.injEq, Nat.reduceLT, and_assoc, false_or, or_false, true_or, or_true, List.length_map, len_range, sizeLine_eq, beq_self_eq_true, Bool.true_beq, Bool.false_beq, tw_inj, pw_inj, and_false, false_and, b_int, rd_inj, il_inj, zip_map2, nn_frq, nn_tup, nn_non, il_eq, il_ne, il_eq0, il_ne0, il_eq1, il_ne1, i_nin2, i_in2, sp_law_take, sp_law_of, sp_law_part, sp_law_flashes, sp_law_less, sp_law_by, sp_law_floor, sp_law_over, sp_law_rest, sp_law_measure, sp_law_flash_measure, sp_law_tell_as_much, sp_is_tuple_up_to, sp_is_tuple_of, sp_is_pair, sp_is_whole, sp_is_from, sp_is_fraction_of, sp_is_time_of, sp_is_less, sp_wrong_in_flashes, sp_check_flashes, sp_is_whole_one, sp_plain_of, sp_over, sp_is_multiple, sp_measure_of_two, sp_measure_by, sp_plus, sp_negative, sp_minus, sp_flash_measure_by, sp_tell_as_much_by, sp_tell_as_much, sp_law_plus, sp_law_same_0, sp_law_same_1, sp_law_same_2, sp_law_order, sp_law_fraction, sp_law_step, sp_is_between, sp_is_order_of, sp_check_order, sp_check_lit, sp_check_fraction, sp_times, sp_whole, sp_rate_step_by, sp_are_alike_by, sp_are_alike, sp_flash_measure, sp_law_is_told, sp_law_right, sp_law_well, sp_law, hA, hB]
    exact ⟨by kst_mem, by kst_mem, h, by kst_mem, by kst_mem, by kst_mem, by kst_mem, g, by kst_mem, by kst_mem, k _ rfl⟩
  · tlg_ne; kcj_in
    have hfin : wpSs (T.upto 52) [Sx.ret (Ex.cmp CmpOp.Is (Ex.call 33 [Ex.var 1, Ex.var 1]) (Ex.bl true))] [some .pool, some (.tup (l.map frq)), some (.tup (m.map frq)), some (.bl due), some (.bl due), some (.int n), some (frq p), some (frq st), some (frq q)] (Ds.fn Q E) := by
      tlg_ne; kcj_in
      refine ⟨h, h, k _ (congrArg P.bl ?_)⟩
      simp [tam_self]
    by_cases hd : due = false
    · have hl : ¬ 1 < (l.length : Int) := fun z => hc ⟨hd, by omega⟩
      simp only [hd, if_true, hl, if_false] at hfin ⊢
      exact hfin
    · simp only [hd, if_false] at hfin ⊢
      exact hfin
theorem ok_law_right : BodyOk (T.upto 53) 1 10 b_law_right sp_law_right := by
  refine bodyD (fun _ => rfl) ?_
  rintro _ Q E _ k
  krn_off
  tlg_ne; kcj_in; kas_types
  refine forLap (fun env => ∃ u1 u2 u3 u4 u5 u6 u7 u8 u9 : Option P, env = [some (.pool), u1, u2, u3, u4, u5, u6, u7, u8, u9]) ⟨_, _, _, _, _, _, _, _, _, rfl⟩ ?_ ?_
  · rintro lap l0 l1 env ⟨u1, u2, u3, u4, u5, u6, u7, u8, u9, rfl⟩ k' hk
    kcj_in
    tlg_ne; kcj_in; kas_types
    intro l hl hll hld
    tlg_ne; kcj_in
    refine ⟨by kst_mem, fun a a0 a1 => ⟨by kst_mem, fun b b0 b1 => ⟨by omega, by kst_mem, by kst_mem, by kst_mem, fun c c0 c1 => ?_⟩⟩⟩
    obtain ⟨s, hs, s0, s1'⟩ : ∃ s : Int, Rat.divInt a (1 + b) = (s : Rat) / ((12 : Int) : Rat) ∧ 0 ≤ s ∧ s ≤ 200 := by
      have hb : b = 0 ∨ b = 1 ∨ b = 2 := by omega
      rcases hb with rfl | rfl | rfl
      · exact ⟨a * 12, by rw [divInt_q, Rat.intCast_mul, show ((1 + 0 : Int) : Rat) = 1 by rfl]; grind, by omega, by omega⟩
      · exact ⟨a * 6, by rw [divInt_q, Rat.intCast_mul, show ((1 + 1 : Int) : Rat) = 2 by rfl, show ((12 : Int) : Rat) = 12 by rfl, show ((6 : Int) : Rat) = 6 by rfl]; grind, by omega, by omega⟩
      · exact ⟨a * 4, by rw [divInt_q, Rat.intCast_mul, show ((1 + 2 : Int) : Rat) = 3 by rfl, show ((12 : Int) : Rat) = 12 by rfl, show ((4 : Int) : Rat) = 4 by rfl]; grind, by omega, by omega⟩
    have hsz : Sz 8 ((s : Rat) / ((12 : Int) : Rat)) := by rw [← divInt_q]; exact sz_divInt (by decide) (by omega) (by decide)
    rw [fr_frq (show 1 + b ≠ 0 by omega), hs]
    have hcz : Sz 4 ((1 + c : Int) : Rat) := sz_int (by omega) (by decide)
    have hmv := hl.moved hld (c := 1 + c) (s := s) (by omega) (by omega) s0 s1'
    refine s_cut (tmu _) (fun e => ∃ lm : List Rat, e = [some .pool, some (.int lap), some (.tup (l.map frq)), some (frq ((s : Rat) / ((12 : Int) : Rat))), some (.int (1 + c)), some (.tup (lm.map frq)), u6, u7, u8, u9] ∧ okG lm) ?_ ?_
    · tlg_ne; kcj_in
      refine ⟨by have := hl.2.1; omega, lcGo_tt frq frq (fun q => ((1 + c : Int) : Rat) * q + (s : Rat) / ((12 : Int) : Rat)) l (fun q hq acc k2 hk2 => ?_) ?_⟩
      · have hqz : Sz 80 q := (hl.2.2.1 q hq).2
        exact ⟨_, frq_int (1 + c), q, rfl, by kst_mem, by kst_mem, by kst_mem, by kst_mem, hk2⟩
      · exact ⟨_, rfl, hmv⟩
    rintro _ ⟨lm, rfl, hm⟩
    refine s_cut (tmu _) (fun e => ∃ ls : List Rat, e = [some .pool, some (.int lap), some (.tup (l.map frq)), some (frq ((s : Rat) / ((12 : Int) : Rat))), some (.int (1 + c)), some (.tup (lm.map frq)), some (.tup (ls.map frq)), u7, u8, u9] ∧ ls.Sublist l) ?_ ?_
    · tlg_ne; kcj_in
      refine ⟨by have := hl.2.1; omega, lcGo_sub frq l [] (fun q hq acc k2 h1 h2 => ?_) fun m hm2 => ?_⟩
      · refine ⟨by kst_mem, fun d d0 d1 => ?_⟩
        split
        · exact h1
        · exact h2
      · exact ⟨m, rfl, hm2⟩
    rintro _ ⟨ls, rfl, hls⟩
    have hsub : ls ≠ [] → okG ls := fun z => hl.sub hls z
    refine s_cut (tmu _) (fun e => ∃ lt : List Rat, e = [some .pool, some (.int lap), some (.tup (l.map frq)), some (frq ((s : Rat) / ((12 : Int) : Rat))), some (.int (1 + c)), some (.tup (lm.map frq)), some (.tup (ls.map frq)), some (.tup (lt.map frq)), u8, u9] ∧ okG lt) ?_ ?_
    · tlg_ne; kcj_in
      have fin : ∀ l2 l3 l4 : List Rat, okG l2 → okG l3 → okG l4 → ∀ r, r ∈ [P.tup (lm.map frq), .tup (l2.map frq), .tup (l3.map frq), .tup (l4.map frq)] → ∃ lt : List Rat, r = .tup (lt.map frq) ∧ okG lt := fun l2 l3 l4 g2 g3 g4 r hr => by
        simp only [List.mem_cons, List.not_mem_nil, or_false] at hr
        rcases hr with rfl | rfl | rfl | rfl
        · exact ⟨_, rfl, hm⟩
        · exact ⟨_, rfl, g2⟩
        · exact ⟨_, rfl, g3⟩
        · exact ⟨_, rfl, g4⟩
      split
      · rename_i hne
        exact fun l3 g3 _ _ l4 g4 _ _ => ⟨by decide, fin ls l3 l4 (hsub hne) g3 g4⟩
      · exact fun l3 g3 _ _ l4 g4 _ _ => ⟨by decide, fin _ l3 l4 (hl.sub (List.take_sublist _ _) (fun z => by
          have hp := List.length_pos_iff.mpr hl.1
          have := congrArg List.length z
          rw [List.length_take, List.length_nil] at this
          omega)) g3 g4⟩
    rintro _ ⟨lt, rfl, ht⟩
    refine s_cut (tmu _) (fun e => e = [some .pool, some (.int lap), some (.tup (l.map frq)), some (frq ((s : Rat) / ((12 : Int) : Rat))), some (.int (1 + c)), some (.tup (lm.map frq)), some (.tup (ls.map frq)), some (.tup (lt.map frq)), u8, u9]) ?_ ?_
    · tlg_ne; kcj_in
      refine ⟨hl, ht, ht, hl, ?_⟩
      split
      · rename_i hne
        obtain ⟨k3, e3⟩ := fms_sub (l := l) (m := ls) fun q hq => hls.subset hq
        refine ⟨hl, hsub hne, ?_⟩
        simp [tam_of e3]
      · refine ⟨hl, hl, ?_⟩
        simp [tam_self]
    rintro _ rfl
    tlg_ne; kcj_in; kas_types
    intro l3 h3 h3l h3d
    tlg_ne; kcj_in
    refine ⟨hl, ht, ?_⟩
    have hk2 : k' [some .pool, some (.int lap), some (.tup (l.map frq)), some (frq ((s : Rat) / ((12 : Int) : Rat))), some (.int (1 + c)), some (.tup (lm.map frq)), some (.tup (ls.map frq)), some (.tup (lt.map frq)), some (.tup (l3.map frq)), u9] := hk _ ⟨_, _, _, _, _, _, _, _, _, rfl⟩
    by_cases t1 : tam (fms l) (fms lt)
    · by_cases t2 : tam (fms lt) (fms l3)
      · simp only [t1, t2, t1.trans t2, if_true, decide_true]
        exact ⟨ht, h3, hl, h3, hk2⟩
      · simp only [t1, t2, if_true, if_false, decide_true, decide_false]
        exact ⟨ht, h3, hk2⟩
    · simp only [t1, if_false]
      exact hk2
  · rintro env ⟨u1, u2, u3, u4, u5, u6, u7, u8, u9, rfl⟩
    tlg_ne; kcj_in
    have mk : ∀ ns : List Int, ns.Nodup → ns ≠ [] → ns.length ≤ 12 → (∀ x ∈ ns, 0 ≤ x ∧ x ≤ 72) → ns.Pairwise (· ≤ ·) → okG (ns.map fun x => Rat.divInt x 1) := fun ns a b c d e => okG.ofN (b := 0) (.inl rfl) a b c (by decide) (by decide) (fun x hx => ⟨x, by omega, d x hx⟩) (.refl _) e
    have g5 : okG [5] := by
      have := mk [5] (by decide) (by decide) (by decide) (by decide) (by decide)
      rwa [show ([5] : List Int).map (fun x => Rat.divInt x 1) = [5] by decide +kernel] at this
    have g0 : okG [0] := by
      have := mk [0] (by decide) (by decide) (by decide) (by decide) (by decide)
      rwa [show ([0] : List Int).map (fun x => Rat.divInt x 1) = [0] by decide +kernel] at this
    have g01 : okG [0, 1] := by
      have := mk [0, 1] (by decide) (by decide) (by decide) (by decide) (by decide)
      rwa [show ([0, 1] : List Int).map (fun x => Rat.divInt x 1) = [0, 1] by decide +kernel] at this
    have g02 : okG [0, 2] := by
      have := mk [0, 2] (by decide) (by decide) (by decide) (by decide) (by decide)
      rwa [show ([0, 2] : List Int).map (fun x => Rat.divInt x 1) = [0, 2] by decide +kernel] at this
    have g39 : okG [3, 9] := by
      have := mk [3, 9] (by decide) (by decide) (by decide) (by decide) (by decide)
      rwa [show ([3, 9] : List Int).map (fun x => Rat.divInt x 1) = [3, 9] by decide +kernel] at this
    refine ⟨[5], rfl, g5, g0, [5], rfl, g5, g01, [3, 9], rfl, g02, g39, ?_⟩
    rw [show decide (tam (fms [5]) (fms [0])) = true by decide +kernel, show decide (tam (fms [5]) (fms [0, 1])) = false by decide +kernel, show decide (tam (fms [0, 2]) (fms [3, 9])) = true by decide +kernel]
    exact ⟨by decide +kernel, by decide +kernel, k _ (congrArg P.bl (by decide +kernel))⟩
theorem ok_law_well : BodyOk (T.upto 54) 2 5 b_law_well sp_law_well := by
  refine bodyD (fun _ => rfl) ?_
  rintro ⟨ns, lap⟩ Q E ⟨h0, h1⟩ k
  krn_off
  refine s_cut (tmu _) (fun e => ∃ c : Int, e = [some (.scr ns), some (.int lap), some (.int c), none, none]) ?_ ?_
  · tlg_ne; kcj_in
    split
    · rename_i h
      exact ⟨_, atI_get h0 h⟩
    · trivial
  rintro _ ⟨c, rfl⟩
  tlg_ne; kcj_in; kas_types
  tlg_ne; kcj_in
  refine ⟨by rw [sIx_s (by decide), List.length_take]; omega, ?_⟩
  refine forGo_inv (fun env => ∃ (s : Int) (o : Option P), env = [some (.scr ns), some (.int lap), some (.int c), some (.int s), o] ∧ 0 ≤ s) _ _ ⟨_, none, rfl, by omega⟩ ?_ ?_
  · rintro x hx env ⟨s, o, rfl, s0⟩ k' hk
    obtain ⟨z, rfl⟩ : ∃ z : Int, x = .int z := by
      rcases List.mem_append.mp hx with h | h
      · obtain ⟨z, _, rfl⟩ := List.mem_map.mp h; exact ⟨z, rfl⟩
      · rw [List.mem_singleton] at h; exact ⟨c, h⟩
    kcj_in
    tlg_ne; kcj_in
    refine ⟨.inl (.inr (bt64 (by decide))), hk _ ⟨_, _, rfl, ?_⟩⟩
    rw [fmod_pos (g := 2147483563) (by decide)]
    exact Int.emod_nonneg _ (by decide)
  · rintro env ⟨s, o, rfl, s0⟩
    refine s_retP ?_
    kcj_in
    have p0 : (0 : Int) ≤ (c.natAbs : Int) := by omega
    by_cases hc : c < 0
    · rw [if_pos hc, if_pos hc]
      exact ⟨p0, s0, Int.le_refl 0, k _ rfl⟩
    · rw [if_neg hc]
      refine ⟨by decide, ?_⟩
      split
      · exact ⟨p0, s0, Int.le_refl 0, k _ rfl⟩
      · exact ⟨Int.le_refl 0, s0, Int.le_refl 0, k _ rfl⟩
theorem ok_law : BodyOk (T.upto 55) 1 2 b_law sp_law := by
  refine bodyD (fun _ => rfl) ?_
  rintro ns Q E hn k
  krn_off
  tlg_ne; kcj_in
  have hm : ∃ m : Int, (if (if 3 < (ns.length : Int) then 3 else (ns.length : Int)) > 2 then if 3 < (ns.length : Int) then 3 else (ns.length : Int) else 2) = m ∧ 1 ≤ m ∧ m ≤ 5 := ⟨_, rfl, by split <;> omega, by split <;> (try split) <;> omega⟩
  obtain ⟨m, e, h1, h2⟩ := hm
  rw [e]
  refine ⟨by omega, by omega, by omega, ?_⟩
  refine lcGo_map (fun _ => .bl true) _ _ (fun z hz acc k' hk => ?_) ⟨true, allB_const, k _ rfl⟩
  obtain ⟨x, rfl, hx1, hx2⟩ := mem_range hz
  exact ⟨⟨ns, rfl⟩, x, rfl, hx1, by omega, hk⟩
theorem law_ok : LawOk sp_law := fun ns h => ⟨ns, rfl, h, rfl⟩

theorem sc_law_take : FnScope N_law_take ["well", "many"] (defScope (top 52)) := ⟨rfl, rfl, rfl, by decide +kernel, rfl, by decide +kernel, by decide +kernel⟩
theorem ck_law_take : chkSs (T.upto 0) M N_law_take (defScope (top 52)) (M.bo 0) [] [] b_law_take (defBody (top 52)) = true := by decide +kernel
theorem sc_law_of : FnScope N_law_of ["well", "things"] (defScope (top 53)) := ⟨rfl, rfl, rfl, by decide +kernel, rfl, by decide +kernel, by decide +kernel⟩
theorem ck_law_of : chkSs (T.upto 1) M N_law_of (defScope (top 53)) (M.bo 1) [] [] b_law_of (defBody (top 53)) = true := by decide +kernel
theorem sc_law_part : FnScope N_law_part ["one", "two"] (defScope (top 55)) := ⟨rfl, rfl, rfl, by decide +kernel, rfl, by decide +kernel, by decide +kernel⟩
theorem ck_law_part : chkSs (T.upto 2) M N_law_part (defScope (top 55)) (M.bo 2) [] [] b_law_part (defBody (top 55)) = true := by decide +kernel
theorem sc_law_flashes : FnScope N_law_flashes ["well", "most"] (defScope (top 64)) := ⟨rfl, rfl, rfl, by decide +kernel, rfl, by decide +kernel, by decide +kernel⟩
theorem ck_law_flashes : chkSs (T.upto 3) M N_law_flashes (defScope (top 64)) (M.bo 3) [] [] b_law_flashes (defBody (top 64)) = true := by decide +kernel
theorem sc_law_less : FnScope N_law_less ["one", "two"] (defScope (top 57)) := ⟨rfl, rfl, rfl, by decide +kernel, rfl, by decide +kernel, by decide +kernel⟩
theorem ck_law_less : chkSs (T.upto 4) M N_law_less (defScope (top 57)) (M.bo 4) [] [] b_law_less (defBody (top 57)) = true := by decide +kernel
theorem sc_law_by : FnScope N_law_by ["one", "two"] (defScope (top 58)) := ⟨rfl, rfl, rfl, by decide +kernel, rfl, by decide +kernel, by decide +kernel⟩
theorem ck_law_by : chkSs (T.upto 5) M N_law_by (defScope (top 58)) (M.bo 5) [] [] b_law_by (defBody (top 58)) = true := by decide +kernel
theorem sc_law_floor : FnScope N_law_floor ["one"] (defScope (top 60)) := ⟨rfl, rfl, rfl, by decide +kernel, rfl, by decide +kernel, by decide +kernel⟩
theorem ck_law_floor : chkSs (T.upto 6) M N_law_floor (defScope (top 60)) (M.bo 6) [] [] b_law_floor (defBody (top 60)) = true := by decide +kernel
theorem sc_law_over : FnScope N_law_over ["one", "two"] (defScope (top 59)) := ⟨rfl, rfl, rfl, by decide +kernel, rfl, by decide +kernel, by decide +kernel⟩
theorem ck_law_over : chkSs (T.upto 7) M N_law_over (defScope (top 59)) (M.bo 7) [] [] b_law_over (defBody (top 59)) = true := by decide +kernel
theorem sc_law_rest : FnScope N_law_rest ["one", "two"] (defScope (top 61)) := ⟨rfl, rfl, rfl, by decide +kernel, rfl, by decide +kernel, by decide +kernel⟩
theorem ck_law_rest : chkSs (T.upto 8) M N_law_rest (defScope (top 61)) (M.bo 8) [] [] b_law_rest (defBody (top 61)) = true := by decide +kernel
theorem sc_law_measure : FnScope N_law_measure ["some"] (defScope (top 62)) := ⟨rfl, rfl, rfl, by decide +kernel, rfl, by decide +kernel, by decide +kernel⟩
theorem ck_law_measure : chkSs (T.upto 9) M N_law_measure (defScope (top 62)) (M.bo 9) [] [] b_law_measure (defBody (top 62)) = true := by decide +kernel
theorem sc_law_flash_measure : FnScope N_law_flash_measure ["flashes"] (defScope (top 63)) := ⟨rfl, rfl, rfl, by decide +kernel, rfl, by decide +kernel, by decide +kernel⟩
theorem ck_law_flash_measure : chkSs (T.upto 10) M N_law_flash_measure (defScope (top 63)) (M.bo 10) [] [] b_law_flash_measure (defBody (top 63)) = true := by decide +kernel
theorem sc_law_tell_as_much : FnScope N_law_tell_as_much ["one", "two"] (defScope (top 68)) := ⟨rfl, rfl, rfl, by decide +kernel, rfl, by decide +kernel, by decide +kernel⟩
theorem ck_law_tell_as_much : chkSs (T.upto 11) M N_law_tell_as_much (defScope (top 68)) (M.bo 11) [] [] b_law_tell_as_much (defBody (top 68)) = true := by decide +kernel
theorem sc_is_tuple_up_to : FnScope N_is_tuple_up_to ["value", "low", "high"] (defScope (top 21)) := ⟨rfl, rfl, rfl, by decide +kernel, rfl, by decide +kernel, by decide +kernel⟩
theorem ck_is_tuple_up_to : chkSs (T.upto 12) M N_is_tuple_up_to (defScope (top 21)) (M.bo 12) [] [] b_is_tuple_up_to (defBody (top 21)) = true := by decide +kernel
theorem sc_is_tuple_of : FnScope N_is_tuple_of ["value", "many"] (defScope (top 22)) := ⟨rfl, rfl, rfl, by decide +kernel, rfl, by decide +kernel, by decide +kernel⟩
theorem ck_is_tuple_of : chkSs (T.upto 13) M N_is_tuple_of (defScope (top 22)) (M.bo 13) [] [] b_is_tuple_of (defBody (top 22)) = true := by decide +kernel
theorem sc_is_pair : FnScope N_is_pair ["value"] (defScope (top 23)) := ⟨rfl, rfl, rfl, by decide +kernel, rfl, by decide +kernel, by decide +kernel⟩
theorem ck_is_pair : chkSs (T.upto 14) M N_is_pair (defScope (top 23)) (M.bo 14) [] [] b_is_pair (defBody (top 23)) = true := by decide +kernel
theorem sc_is_whole : FnScope N_is_whole ["value"] (defScope (top 18)) := ⟨rfl, rfl, rfl, by decide +kernel, rfl, by decide +kernel, by decide +kernel⟩
theorem ck_is_whole : chkSs (T.upto 15) M N_is_whole (defScope (top 18)) (M.bo 15) [] [] b_is_whole (defBody (top 18)) = true := by decide +kernel
theorem sc_is_from : FnScope N_is_from ["value", "least"] (defScope (top 20)) := ⟨rfl, rfl, rfl, by decide +kernel, rfl, by decide +kernel, by decide +kernel⟩
theorem ck_is_from : chkSs (T.upto 16) M N_is_from (defScope (top 20)) (M.bo 16) [] [] b_is_from (defBody (top 20)) = true := by decide +kernel
theorem sc_is_fraction_of : FnScope N_is_fraction_of ["value"] (defScope (top 27)) := ⟨rfl, rfl, rfl, by decide +kernel, rfl, by decide +kernel, by decide +kernel⟩
theorem ck_is_fraction_of : chkSs (T.upto 17) M N_is_fraction_of (defScope (top 27)) (M.bo 17) [] [] b_is_fraction_of (defBody (top 27)) = true := by decide +kernel
theorem sc_is_time_of : FnScope N_is_time_of ["value"] (defScope (top 28)) := ⟨rfl, rfl, rfl, by decide +kernel, rfl, by decide +kernel, by decide +kernel⟩
theorem ck_is_time_of : chkSs (T.upto 18) M N_is_time_of (defScope (top 28)) (M.bo 18) [] [] b_is_time_of (defBody (top 28)) = true := by decide +kernel
theorem sc_is_less : FnScope N_is_less ["one", "other"] (defScope (top 15)) := ⟨rfl, rfl, rfl, by decide +kernel, rfl, by decide +kernel, by decide +kernel⟩
theorem ck_is_less : chkSs (T.upto 19) M N_is_less (defScope (top 15)) (M.bo 19) [] [] b_is_less (defBody (top 15)) = true := by decide +kernel
theorem sc_wrong_in_flashes : FnScope N_wrong_in_flashes ["value", "most"] (defScope (top 30)) := ⟨rfl, rfl, rfl, by decide +kernel, rfl, by decide +kernel, by decide +kernel⟩
theorem ck_wrong_in_flashes : chkSs (T.upto 20) M N_wrong_in_flashes (defScope (top 30)) (M.bo 20) [] [] b_wrong_in_flashes (defBody (top 30)) = true := by decide +kernel
theorem sc_check_flashes : FnScope N_check_flashes ["flashes"] (defScope (top 33)) := ⟨rfl, rfl, rfl, by decide +kernel, rfl, by decide +kernel, by decide +kernel⟩
theorem ck_check_flashes : chkSs (T.upto 21) M N_check_flashes (defScope (top 33)) (M.bo 21) [] [] b_check_flashes (defBody (top 33)) = true := by decide +kernel
theorem sc_is_whole_one : FnScope N_is_whole_one ["fraction"] (defScope (top 16)) := ⟨rfl, rfl, rfl, by decide +kernel, rfl, by decide +kernel, by decide +kernel⟩
theorem ck_is_whole_one : chkSs (T.upto 22) M N_is_whole_one (defScope (top 16)) (M.bo 22) [] [] b_is_whole_one (defBody (top 16)) = true := by decide +kernel
theorem sc_plain_of : FnScope N_plain_of ["number", "divisor"] (defScope (top 8)) := ⟨rfl, rfl, rfl, by decide +kernel, rfl, by decide +kernel, by decide +kernel⟩
theorem ck_plain_of : chkSs (T.upto 23) M N_plain_of (defScope (top 8)) (M.bo 23) [] [] b_plain_of (defBody (top 8)) = true := by decide +kernel
theorem sc_over : FnScope N_over ["one", "other"] (defScope (top 14)) := ⟨rfl, rfl, rfl, by decide +kernel, rfl, by decide +kernel, by decide +kernel⟩
theorem ck_over : chkSs (T.upto 24) M N_over (defScope (top 14)) (M.bo 24) [] [] b_over (defBody (top 14)) = true := by decide +kernel
theorem sc_is_multiple : FnScope N_is_multiple ["fraction", "measure"] (defScope (top 37)) := ⟨rfl, rfl, rfl, by decide +kernel, rfl, by decide +kernel, by decide +kernel⟩
theorem ck_is_multiple : chkSs (T.upto 25) M N_is_multiple (defScope (top 37)) (M.bo 25) [] [] b_is_multiple (defBody (top 37)) = true := by decide +kernel
theorem sc_measure_of_two : FnScope N_measure_of_two ["one", "other"] (defScope (top 35)) := ⟨rfl, rfl, rfl, by decide +kernel, rfl, by decide +kernel, by decide +kernel⟩
theorem ck_measure_of_two : chkSs (T.upto 26) M N_measure_of_two (defScope (top 35)) (M.bo 26) [] [] b_measure_of_two (defBody (top 35)) = true := by decide +kernel
theorem sc_measure_by : FnScope N_measure_by ["fractions"] (defScope (top 36)) := ⟨rfl, rfl, rfl, by decide +kernel, rfl, by decide +kernel, by decide +kernel⟩
theorem ck_measure_by : chkSs (T.upto 27) M N_measure_by (defScope (top 36)) (M.bo 27) [] [] b_measure_by (defBody (top 36)) = true := by decide +kernel
theorem sc_plus : FnScope N_plus ["one", "other"] (defScope (top 10)) := ⟨rfl, rfl, rfl, by decide +kernel, rfl, by decide +kernel, by decide +kernel⟩
theorem ck_plus : chkSs (T.upto 28) M N_plus (defScope (top 10)) (M.bo 28) [] [] b_plus (defBody (top 10)) = true := by decide +kernel
theorem sc_negative : FnScope N_negative ["fraction"] (defScope (top 11)) := ⟨rfl, rfl, rfl, by decide +kernel, rfl, by decide +kernel, by decide +kernel⟩
theorem ck_negative : chkSs (T.upto 29) M N_negative (defScope (top 11)) (M.bo 29) [] [] b_negative (defBody (top 11)) = true := by decide +kernel
theorem sc_minus : FnScope N_minus ["one", "other"] (defScope (top 12)) := ⟨rfl, rfl, rfl, by decide +kernel, rfl, by decide +kernel, by decide +kernel⟩
theorem ck_minus : chkSs (T.upto 30) M N_minus (defScope (top 12)) (M.bo 30) [] [] b_minus (defBody (top 12)) = true := by decide +kernel
theorem sc_flash_measure_by : FnScope N_flash_measure_by ["flashes"] (defScope (top 39)) := ⟨rfl, rfl, rfl, by decide +kernel, rfl, by decide +kernel, by decide +kernel⟩
theorem ck_flash_measure_by : chkSs (T.upto 31) M N_flash_measure_by (defScope (top 39)) (M.bo 31) [] [] b_flash_measure_by (defBody (top 39)) = true := by decide +kernel
theorem sc_tell_as_much_by : FnScope N_tell_as_much_by ["flashes", "other"] (defScope (top 43)) := ⟨rfl, rfl, rfl, by decide +kernel, rfl, by decide +kernel, by decide +kernel⟩
theorem ck_tell_as_much_by : chkSs (T.upto 32) M N_tell_as_much_by (defScope (top 43)) (M.bo 32) [] [] b_tell_as_much_by (defBody (top 43)) = true := by decide +kernel
theorem sc_tell_as_much : FnScope N_tell_as_much ["flashes", "other"] (defScope (top 45)) := ⟨rfl, rfl, rfl, by decide +kernel, rfl, by decide +kernel, by decide +kernel⟩
theorem ck_tell_as_much : chkSs (T.upto 33) M N_tell_as_much (defScope (top 45)) (M.bo 33) [] [] b_tell_as_much (defBody (top 45)) = true := by decide +kernel
theorem sc_law_plus : FnScope N_law_plus ["one", "two"] (defScope (top 56)) := ⟨rfl, rfl, rfl, by decide +kernel, rfl, by decide +kernel, by decide +kernel⟩
theorem ck_law_plus : chkSs (T.upto 34) M N_law_plus (defScope (top 56)) (M.bo 34) [] [] b_law_plus (defBody (top 56)) = true := by decide +kernel
theorem sc_law_same_0 : FnScope N_law_same_0 ["told", "due"] (defScope (top 54)) := ⟨rfl, rfl, rfl, by decide +kernel, rfl, by decide +kernel, by decide +kernel⟩
theorem ck_law_same_0 : chkSs (T.upto 35) M N_law_same_0 (defScope (top 54)) (M.bo 35) [] [] b_law_same_0 (defBody (top 54)) = true := by decide +kernel
theorem sc_law_same_1 : FnScope N_law_same_1 ["told", "due"] (defScope (top 54)) := sc_law_same_0
theorem ck_law_same_1 : chkSs (T.upto 36) M N_law_same_1 (defScope (top 54)) (M.bo 36) [] [] b_law_same_1 (defBody (top 54)) = true := by decide +kernel
theorem sc_law_same_2 : FnScope N_law_same_2 ["told", "due"] (defScope (top 54)) := sc_law_same_0
theorem ck_law_same_2 : chkSs (T.upto 37) M N_law_same_2 (defScope (top 54)) (M.bo 37) [] [] b_law_same_2 (defBody (top 54)) = true := by decide +kernel
theorem sc_law_order : FnScope N_law_order ["well"] (defScope (top 67)) := ⟨rfl, rfl, rfl, by decide +kernel, rfl, by decide +kernel, by decide +kernel⟩
theorem ck_law_order : chkSs (T.upto 38) M N_law_order (defScope (top 67)) (M.bo 38) [] [] b_law_order (defBody (top 67)) = true := by decide +kernel
theorem sc_law_fraction : FnScope N_law_fraction ["well"] (defScope (top 65)) := ⟨rfl, rfl, rfl, by decide +kernel, rfl, by decide +kernel, by decide +kernel⟩
theorem ck_law_fraction : chkSs (T.upto 39) M N_law_fraction (defScope (top 65)) (M.bo 39) [] [] b_law_fraction (defBody (top 65)) = true := by decide +kernel
theorem sc_law_step : FnScope N_law_step ["order", "flashes"] (defScope (top 66)) := ⟨rfl, rfl, rfl, by decide +kernel, rfl, by decide +kernel, by decide +kernel⟩
theorem ck_law_step : chkSs (T.upto 40) M N_law_step (defScope (top 66)) (M.bo 40) [] [] b_law_step (defBody (top 66)) = true := by decide +kernel
theorem sc_is_between : FnScope N_is_between ["value", "low", "high"] (defScope (top 19)) := ⟨rfl, rfl, rfl, by decide +kernel, rfl, by decide +kernel, by decide +kernel⟩
theorem ck_is_between : chkSs (T.upto 41) M N_is_between (defScope (top 19)) (M.bo 41) [] [] b_is_between (defBody (top 19)) = true := by decide +kernel
theorem sc_is_order_of : FnScope N_is_order_of ["value"] (defScope (top 29)) := ⟨rfl, rfl, rfl, by decide +kernel, rfl, by decide +kernel, by decide +kernel⟩
theorem ck_is_order_of : chkSs (T.upto 42) M N_is_order_of (defScope (top 29)) (M.bo 42) [] [] b_is_order_of (defBody (top 29)) = true := by decide +kernel
theorem sc_check_order : FnScope N_check_order ["order"] (defScope (top 32)) := ⟨rfl, rfl, rfl, by decide +kernel, rfl, by decide +kernel, by decide +kernel⟩
theorem ck_check_order : chkSs (T.upto 43) M N_check_order (defScope (top 32)) (M.bo 43) [] [] b_check_order (defBody (top 32)) = true := by decide +kernel
theorem sc_check_lit : FnScope N_check_lit ["order", "flashes"] (defScope (top 48)) := ⟨rfl, rfl, rfl, by decide +kernel, rfl, by decide +kernel, by decide +kernel⟩
theorem ck_check_lit : chkSs (T.upto 44) M N_check_lit (defScope (top 48)) (M.bo 44) [] [] b_check_lit (defBody (top 48)) = true := by decide +kernel
theorem sc_check_fraction : FnScope N_check_fraction ["value"] (defScope (top 31)) := ⟨rfl, rfl, rfl, by decide +kernel, rfl, by decide +kernel, by decide +kernel⟩
theorem ck_check_fraction : chkSs (T.upto 45) M N_check_fraction (defScope (top 31)) (M.bo 45) [] [] b_check_fraction (defBody (top 31)) = true := by decide +kernel
theorem sc_times : FnScope N_times ["one", "other"] (defScope (top 13)) := ⟨rfl, rfl, rfl, by decide +kernel, rfl, by decide +kernel, by decide +kernel⟩
theorem ck_times : chkSs (T.upto 46) M N_times (defScope (top 13)) (M.bo 46) [] [] b_times (defBody (top 13)) = true := by decide +kernel
theorem sc_whole : FnScope N_whole ["number"] (defScope (top 9)) := ⟨rfl, rfl, rfl, by decide +kernel, rfl, by decide +kernel, by decide +kernel⟩
theorem ck_whole : chkSs (T.upto 47) M N_whole (defScope (top 9)) (M.bo 47) [] [] b_whole (defBody (top 9)) = true := by decide +kernel
theorem sc_rate_step_by : FnScope N_rate_step_by ["order", "flashes"] (defScope (top 40)) := ⟨rfl, rfl, rfl, by decide +kernel, rfl, by decide +kernel, by decide +kernel⟩
theorem ck_rate_step_by : chkSs (T.upto 48) M N_rate_step_by (defScope (top 40)) (M.bo 48) [] [] b_rate_step_by (defBody (top 40)) = true := by decide +kernel
theorem sc_are_alike_by : FnScope N_are_alike_by ["order", "flashes", "rate", "other"] (defScope (top 41)) := ⟨rfl, rfl, rfl, by decide +kernel, rfl, by decide +kernel, by decide +kernel⟩
theorem ck_are_alike_by : chkSs (T.upto 49) M N_are_alike_by (defScope (top 41)) (M.bo 49) [] [] b_are_alike_by (defBody (top 41)) = true := by decide +kernel
theorem sc_are_alike : FnScope N_are_alike ["order", "flashes", "rate", "other"] (defScope (top 49)) := ⟨rfl, rfl, rfl, by decide +kernel, rfl, by decide +kernel, by decide +kernel⟩
theorem ck_are_alike : chkSs (T.upto 50) M N_are_alike (defScope (top 49)) (M.bo 50) [] [] b_are_alike (defBody (top 49)) = true := by decide +kernel
theorem sc_flash_measure : FnScope N_flash_measure ["flashes"] (defScope (top 47)) := ⟨rfl, rfl, rfl, by decide +kernel, rfl, by decide +kernel, by decide +kernel⟩
theorem ck_flash_measure : chkSs (T.upto 51) M N_flash_measure (defScope (top 47)) (M.bo 51) [] [] b_flash_measure (defBody (top 47)) = true := by decide +kernel
theorem sc_law_is_told : FnScope N_law_is_told ["well", "one", "two"] (defScope (top 69)) := ⟨rfl, rfl, rfl, by decide +kernel, rfl, by decide +kernel, by decide +kernel⟩
theorem ck_law_is_told : chkSs (T.upto 52) M N_law_is_told (defScope (top 69)) (M.bo 52) [] [] b_law_is_told (defBody (top 69)) = true := by decide +kernel
theorem sc_law_right : FnScope N_law_right ["well"] (defScope (top 70)) := ⟨rfl, rfl, rfl, by decide +kernel, rfl, by decide +kernel, by decide +kernel⟩
theorem ck_law_right : chkSs (T.upto 53) M N_law_right (defScope (top 70)) (M.bo 53) [] [] b_law_right (defBody (top 70)) = true := by decide +kernel
theorem sc_law_well : FnScope N_law_well ["script", "lap"] (defScope (top 51)) := ⟨rfl, rfl, rfl, by decide +kernel, rfl, by decide +kernel, by decide +kernel⟩
theorem ck_law_well : chkSs (T.upto 54) M N_law_well (defScope (top 51)) (M.bo 54) [] [] b_law_well (defBody (top 51)) = true := by decide +kernel
theorem sc_law : FnScope N_law ["script"] (defScope (top 71)) := ⟨rfl, rfl, rfl, by decide +kernel, rfl, by decide +kernel, by decide +kernel⟩
theorem ck_law : chkSs (T.upto 55) M N_law (defScope (top 71)) (M.bo 55) [] [] b_law (defBody (top 71)) = true := by decide +kernel
section
variable {P : Program} {w : World} {K : PySem.W.Frag} {mg : Str → Option Value} {base : Heap} {D : Ad}
theorem st_law_take {fd : FuncData} (t : Tok P w K mg base (T.upto 0) D M 0) (F : Fun K "_law_take" "_law_take" (top 52) (D.fa 0) fd) (gl : mg "_law_take" = some (.ref (D.fa 0))) (bi : Binds K fd ["well", "many"] [])
    (kw : ∀ q ∈ M.kws, q.1 = 0 → ∀ (s : Shared) (us ws : List Value), K.In s.heap → us.length = q.2.1 → ws.length = q.2.2.1.length → BindsTo s fd ⟨us, q.2.2.1.zip ws⟩ ((["well", "many"] : List Str).zip (q.2.2.2.map fun i => (us ++ ws).getD i .none)) ∧ q.2.2.2.length = (["well", "many"] : List Str).length ∧ ∀ i ∈ q.2.2.2, i < q.2.1 + q.2.2.1.length) :
    Tok P w K mg base (T.upto 1) D M 1 := tok_def t F gl bi rfl sc_law_take kw (by decide +kernel) ck_law_take ok_law_take
theorem st_law_of {fd : FuncData} (t : Tok P w K mg base (T.upto 1) D M 1) (F : Fun K "_law_of" "_law_of" (top 53) (D.fa 1) fd) (gl : mg "_law_of" = some (.ref (D.fa 1))) (bi : Binds K fd ["well", "things"] [])
    (kw : ∀ q ∈ M.kws, q.1 = 1 → ∀ (s : Shared) (us ws : List Value), K.In s.heap → us.length = q.2.1 → ws.length = q.2.2.1.length → BindsTo s fd ⟨us, q.2.2.1.zip ws⟩ ((["well", "things"] : List Str).zip (q.2.2.2.map fun i => (us ++ ws).getD i .none)) ∧ q.2.2.2.length = (["well", "things"] : List Str).length ∧ ∀ i ∈ q.2.2.2, i < q.2.1 + q.2.2.1.length) :
    Tok P w K mg base (T.upto 2) D M 2 := tok_def t F gl bi rfl sc_law_of kw (by decide +kernel) ck_law_of ok_law_of
theorem st_law_part {fd : FuncData} (t : Tok P w K mg base (T.upto 2) D M 2) (F : Fun K "_law_part" "_law_part" (top 55) (D.fa 2) fd) (gl : mg "_law_part" = some (.ref (D.fa 2))) (bi : Binds K fd ["one", "two"] [])
    (kw : ∀ q ∈ M.kws, q.1 = 2 → ∀ (s : Shared) (us ws : List Value), K.In s.heap → us.length = q.2.1 → ws.length = q.2.2.1.length → BindsTo s fd ⟨us, q.2.2.1.zip ws⟩ ((["one", "two"] : List Str).zip (q.2.2.2.map fun i => (us ++ ws).getD i .none)) ∧ q.2.2.2.length = (["one", "two"] : List Str).length ∧ ∀ i ∈ q.2.2.2, i < q.2.1 + q.2.2.1.length) :
    Tok P w K mg base (T.upto 3) D M 3 := tok_def t F gl bi rfl sc_law_part kw (by decide +kernel) ck_law_part ok_law_part
theorem st_law_flashes {fd : FuncData} (t : Tok P w K mg base (T.upto 3) D M 3) (F : Fun K "_law_flashes" "_law_flashes" (top 64) (D.fa 3) fd) (gl : mg "_law_flashes" = some (.ref (D.fa 3))) (bi : Binds K fd ["well", "most"] [])
    (kw : ∀ q ∈ M.kws, q.1 = 3 → ∀ (s : Shared) (us ws : List Value), K.In s.heap → us.length = q.2.1 → ws.length = q.2.2.1.length → BindsTo s fd ⟨us, q.2.2.1.zip ws⟩ ((["well", "most"] : List Str).zip (q.2.2.2.map fun i => (us ++ ws).getD i .none)) ∧ q.2.2.2.length = (["well", "most"] : List Str).length ∧ ∀ i ∈ q.2.2.2, i < q.2.1 + q.2.2.1.length) :
    Tok P w K mg base (T.upto 4) D M 4 := tok_def t F gl bi rfl sc_law_flashes kw (by decide +kernel) ck_law_flashes ok_law_flashes
theorem st_law_less {fd : FuncData} (t : Tok P w K mg base (T.upto 4) D M 4) (F : Fun K "_law_less" "_law_less" (top 57) (D.fa 4) fd) (gl : mg "_law_less" = some (.ref (D.fa 4))) (bi : Binds K fd ["one", "two"] [])
    (kw : ∀ q ∈ M.kws, q.1 = 4 → ∀ (s : Shared) (us ws : List Value), K.In s.heap → us.length = q.2.1 → ws.length = q.2.2.1.length → BindsTo s fd ⟨us, q.2.2.1.zip ws⟩ ((["one", "two"] : List Str).zip (q.2.2.2.map fun i => (us ++ ws).getD i .none)) ∧ q.2.2.2.length = (["one", "two"] : List Str).length ∧ ∀ i ∈ q.2.2.2, i < q.2.1 + q.2.2.1.length) :
    Tok P w K mg base (T.upto 5) D M 5 := tok_def t F gl bi rfl sc_law_less kw (by decide +kernel) ck_law_less ok_law_less
theorem st_law_by {fd : FuncData} (t : Tok P w K mg base (T.upto 5) D M 5) (F : Fun K "_law_by" "_law_by" (top 58) (D.fa 5) fd) (gl : mg "_law_by" = some (.ref (D.fa 5))) (bi : Binds K fd ["one", "two"] [])
    (kw : ∀ q ∈ M.kws, q.1 = 5 → ∀ (s : Shared) (us ws : List Value), K.In s.heap → us.length = q.2.1 → ws.length = q.2.2.1.length → BindsTo s fd ⟨us, q.2.2.1.zip ws⟩ ((["one", "two"] : List Str).zip (q.2.2.2.map fun i => (us ++ ws).getD i .none)) ∧ q.2.2.2.length = (["one", "two"] : List Str).length ∧ ∀ i ∈ q.2.2.2, i < q.2.1 + q.2.2.1.length) :
    Tok P w K mg base (T.upto 6) D M 6 := tok_def t F gl bi rfl sc_law_by kw (by decide +kernel) ck_law_by ok_law_by
theorem st_law_floor {fd : FuncData} (t : Tok P w K mg base (T.upto 6) D M 6) (F : Fun K "_law_floor" "_law_floor" (top 60) (D.fa 6) fd) (gl : mg "_law_floor" = some (.ref (D.fa 6))) (bi : Binds K fd ["one"] [])
    (kw : ∀ q ∈ M.kws, q.1 = 6 → ∀ (s : Shared) (us ws : List Value), K.In s.heap → us.length = q.2.1 → ws.length = q.2.2.1.length → BindsTo s fd ⟨us, q.2.2.1.zip ws⟩ ((["one"] : List Str).zip (q.2.2.2.map fun i => (us ++ ws).getD i .none)) ∧ q.2.2.2.length = (["one"] : List Str).length ∧ ∀ i ∈ q.2.2.2, i < q.2.1 + q.2.2.1.length) :
    Tok P w K mg base (T.upto 7) D M 7 := tok_def t F gl bi rfl sc_law_floor kw (by decide +kernel) ck_law_floor ok_law_floor
theorem st_law_over {fd : FuncData} (t : Tok P w K mg base (T.upto 7) D M 7) (F : Fun K "_law_over" "_law_over" (top 59) (D.fa 7) fd) (gl : mg "_law_over" = some (.ref (D.fa 7))) (bi : Binds K fd ["one", "two"] [])
    (kw : ∀ q ∈ M.kws, q.1 = 7 → ∀ (s : Shared) (us ws : List Value), K.In s.heap → us.length = q.2.1 → ws.length = q.2.2.1.length → BindsTo s fd ⟨us, q.2.2.1.zip ws⟩ ((["one", "two"] : List Str).zip (q.2.2.2.map fun i => (us ++ ws).getD i .none)) ∧ q.2.2.2.length = (["one", "two"] : List Str).length ∧ ∀ i ∈ q.2.2.2, i < q.2.1 + q.2.2.1.length) :
    Tok P w K mg base (T.upto 8) D M 8 := tok_def t F gl bi rfl sc_law_over kw (by decide +kernel) ck_law_over ok_law_over
theorem st_law_rest {fd : FuncData} (t : Tok P w K mg base (T.upto 8) D M 8) (F : Fun K "_law_rest" "_law_rest" (top 61) (D.fa 8) fd) (gl : mg "_law_rest" = some (.ref (D.fa 8))) (bi : Binds K fd ["one", "two"] [])
    (kw : ∀ q ∈ M.kws, q.1 = 8 → ∀ (s : Shared) (us ws : List Value), K.In s.heap → us.length = q.2.1 → ws.length = q.2.2.1.length → BindsTo s fd ⟨us, q.2.2.1.zip ws⟩ ((["one", "two"] : List Str).zip (q.2.2.2.map fun i => (us ++ ws).getD i .none)) ∧ q.2.2.2.length = (["one", "two"] : List Str).length ∧ ∀ i ∈ q.2.2.2, i < q.2.1 + q.2.2.1.length) :
    Tok P w K mg base (T.upto 9) D M 9 := tok_def t F gl bi rfl sc_law_rest kw (by decide +kernel) ck_law_rest ok_law_rest
theorem st_law_measure {fd : FuncData} (t : Tok P w K mg base (T.upto 9) D M 9) (F : Fun K "_law_measure" "_law_measure" (top 62) (D.fa 9) fd) (gl : mg "_law_measure" = some (.ref (D.fa 9))) (bi : Binds K fd ["some"] [])
    (kw : ∀ q ∈ M.kws, q.1 = 9 → ∀ (s : Shared) (us ws : List Value), K.In s.heap → us.length = q.2.1 → ws.length = q.2.2.1.length → BindsTo s fd ⟨us, q.2.2.1.zip ws⟩ ((["some"] : List Str).zip (q.2.2.2.map fun i => (us ++ ws).getD i .none)) ∧ q.2.2.2.length = (["some"] : List Str).length ∧ ∀ i ∈ q.2.2.2, i < q.2.1 + q.2.2.1.length) :
    Tok P w K mg base (T.upto 10) D M 10 := tok_def t F gl bi rfl sc_law_measure kw (by decide +kernel) ck_law_measure ok_law_measure
theorem st_law_flash_measure {fd : FuncData} (t : Tok P w K mg base (T.upto 10) D M 10) (F : Fun K "_law_flash_measure" "_law_flash_measure" (top 63) (D.fa 10) fd) (gl : mg "_law_flash_measure" = some (.ref (D.fa 10))) (bi : Binds K fd ["flashes"] [])
    (kw : ∀ q ∈ M.kws, q.1 = 10 → ∀ (s : Shared) (us ws : List Value), K.In s.heap → us.length = q.2.1 → ws.length = q.2.2.1.length → BindsTo s fd ⟨us, q.2.2.1.zip ws⟩ ((["flashes"] : List Str).zip (q.2.2.2.map fun i => (us ++ ws).getD i .none)) ∧ q.2.2.2.length = (["flashes"] : List Str).length ∧ ∀ i ∈ q.2.2.2, i < q.2.1 + q.2.2.1.length) :
    Tok P w K mg base (T.upto 11) D M 11 := tok_def t F gl bi rfl sc_law_flash_measure kw (by decide +kernel) ck_law_flash_measure ok_law_flash_measure
theorem st_law_tell_as_much {fd : FuncData} (t : Tok P w K mg base (T.upto 11) D M 11) (F : Fun K "_law_tell_as_much" "_law_tell_as_much" (top 68) (D.fa 11) fd) (gl : mg "_law_tell_as_much" = some (.ref (D.fa 11))) (bi : Binds K fd ["one", "two"] [])
    (kw : ∀ q ∈ M.kws, q.1 = 11 → ∀ (s : Shared) (us ws : List Value), K.In s.heap → us.length = q.2.1 → ws.length = q.2.2.1.length → BindsTo s fd ⟨us, q.2.2.1.zip ws⟩ ((["one", "two"] : List Str).zip (q.2.2.2.map fun i => (us ++ ws).getD i .none)) ∧ q.2.2.2.length = (["one", "two"] : List Str).length ∧ ∀ i ∈ q.2.2.2, i < q.2.1 + q.2.2.1.length) :
    Tok P w K mg base (T.upto 12) D M 12 := tok_def t F gl bi rfl sc_law_tell_as_much kw (by decide +kernel) ck_law_tell_as_much ok_law_tell_as_much
theorem st_is_tuple_up_to {fd : FuncData} (t : Tok P w K mg base (T.upto 12) D M 12) (F : Fun K "is_tuple_up_to" "is_tuple_up_to" (top 21) (D.fa 12) fd) (gl : mg "is_tuple_up_to" = some (.ref (D.fa 12))) (bi : Binds K fd ["value", "low", "high"] [])
    (kw : ∀ q ∈ M.kws, q.1 = 12 → ∀ (s : Shared) (us ws : List Value), K.In s.heap → us.length = q.2.1 → ws.length = q.2.2.1.length → BindsTo s fd ⟨us, q.2.2.1.zip ws⟩ ((["value", "low", "high"] : List Str).zip (q.2.2.2.map fun i => (us ++ ws).getD i .none)) ∧ q.2.2.2.length = (["value", "low", "high"] : List Str).length ∧ ∀ i ∈ q.2.2.2, i < q.2.1 + q.2.2.1.length) :
    Tok P w K mg base (T.upto 13) D M 13 := tok_def t F gl bi rfl sc_is_tuple_up_to kw (by decide +kernel) ck_is_tuple_up_to ok_is_tuple_up_to
theorem st_is_tuple_of {fd : FuncData} (t : Tok P w K mg base (T.upto 13) D M 13) (F : Fun K "is_tuple_of" "is_tuple_of" (top 22) (D.fa 13) fd) (gl : mg "is_tuple_of" = some (.ref (D.fa 13))) (bi : Binds K fd ["value", "many"] [])
    (kw : ∀ q ∈ M.kws, q.1 = 13 → ∀ (s : Shared) (us ws : List Value), K.In s.heap → us.length = q.2.1 → ws.length = q.2.2.1.length → BindsTo s fd ⟨us, q.2.2.1.zip ws⟩ ((["value", "many"] : List Str).zip (q.2.2.2.map fun i => (us ++ ws).getD i .none)) ∧ q.2.2.2.length = (["value", "many"] : List Str).length ∧ ∀ i ∈ q.2.2.2, i < q.2.1 + q.2.2.1.length) :
    Tok P w K mg base (T.upto 14) D M 14 := tok_def t F gl bi rfl sc_is_tuple_of kw (by decide +kernel) ck_is_tuple_of ok_is_tuple_of
theorem st_is_pair {fd : FuncData} (t : Tok P w K mg base (T.upto 14) D M 14) (F : Fun K "is_pair" "is_pair" (top 23) (D.fa 14) fd) (gl : mg "is_pair" = some (.ref (D.fa 14))) (bi : Binds K fd ["value"] [])
    (kw : ∀ q ∈ M.kws, q.1 = 14 → ∀ (s : Shared) (us ws : List Value), K.In s.heap → us.length = q.2.1 → ws.length = q.2.2.1.length → BindsTo s fd ⟨us, q.2.2.1.zip ws⟩ ((["value"] : List Str).zip (q.2.2.2.map fun i => (us ++ ws).getD i .none)) ∧ q.2.2.2.length = (["value"] : List Str).length ∧ ∀ i ∈ q.2.2.2, i < q.2.1 + q.2.2.1.length) :
    Tok P w K mg base (T.upto 15) D M 15 := tok_def t F gl bi rfl sc_is_pair kw (by decide +kernel) ck_is_pair ok_is_pair
theorem st_is_whole {fd : FuncData} (t : Tok P w K mg base (T.upto 15) D M 15) (F : Fun K "is_whole" "is_whole" (top 18) (D.fa 15) fd) (gl : mg "is_whole" = some (.ref (D.fa 15))) (bi : Binds K fd ["value"] [])
    (kw : ∀ q ∈ M.kws, q.1 = 15 → ∀ (s : Shared) (us ws : List Value), K.In s.heap → us.length = q.2.1 → ws.length = q.2.2.1.length → BindsTo s fd ⟨us, q.2.2.1.zip ws⟩ ((["value"] : List Str).zip (q.2.2.2.map fun i => (us ++ ws).getD i .none)) ∧ q.2.2.2.length = (["value"] : List Str).length ∧ ∀ i ∈ q.2.2.2, i < q.2.1 + q.2.2.1.length) :
    Tok P w K mg base (T.upto 16) D M 16 := tok_def t F gl bi rfl sc_is_whole kw (by decide +kernel) ck_is_whole ok_is_whole
theorem st_is_from {fd : FuncData} (t : Tok P w K mg base (T.upto 16) D M 16) (F : Fun K "is_from" "is_from" (top 20) (D.fa 16) fd) (gl : mg "is_from" = some (.ref (D.fa 16))) (bi : Binds K fd ["value", "least"] [])
    (kw : ∀ q ∈ M.kws, q.1 = 16 → ∀ (s : Shared) (us ws : List Value), K.In s.heap → us.length = q.2.1 → ws.length = q.2.2.1.length → BindsTo s fd ⟨us, q.2.2.1.zip ws⟩ ((["value", "least"] : List Str).zip (q.2.2.2.map fun i => (us ++ ws).getD i .none)) ∧ q.2.2.2.length = (["value", "least"] : List Str).length ∧ ∀ i ∈ q.2.2.2, i < q.2.1 + q.2.2.1.length) :
    Tok P w K mg base (T.upto 17) D M 17 := tok_def t F gl bi rfl sc_is_from kw (by decide +kernel) ck_is_from ok_is_from
theorem st_is_fraction_of {fd : FuncData} (t : Tok P w K mg base (T.upto 17) D M 17) (F : Fun K "is_fraction_of" "is_fraction_of" (top 27) (D.fa 17) fd) (gl : mg "is_fraction_of" = some (.ref (D.fa 17))) (bi : Binds K fd ["value"] [])
    (kw : ∀ q ∈ M.kws, q.1 = 17 → ∀ (s : Shared) (us ws : List Value), K.In s.heap → us.length = q.2.1 → ws.length = q.2.2.1.length → BindsTo s fd ⟨us, q.2.2.1.zip ws⟩ ((["value"] : List Str).zip (q.2.2.2.map fun i => (us ++ ws).getD i .none)) ∧ q.2.2.2.length = (["value"] : List Str).length ∧ ∀ i ∈ q.2.2.2, i < q.2.1 + q.2.2.1.length) :
    Tok P w K mg base (T.upto 18) D M 18 := tok_def t F gl bi rfl sc_is_fraction_of kw (by decide +kernel) ck_is_fraction_of ok_is_fraction_of
theorem st_is_time_of {fd : FuncData} (t : Tok P w K mg base (T.upto 18) D M 18) (F : Fun K "is_time_of" "is_time_of" (top 28) (D.fa 18) fd) (gl : mg "is_time_of" = some (.ref (D.fa 18))) (bi : Binds K fd ["value"] [])
    (kw : ∀ q ∈ M.kws, q.1 = 18 → ∀ (s : Shared) (us ws : List Value), K.In s.heap → us.length = q.2.1 → ws.length = q.2.2.1.length → BindsTo s fd ⟨us, q.2.2.1.zip ws⟩ ((["value"] : List Str).zip (q.2.2.2.map fun i => (us ++ ws).getD i .none)) ∧ q.2.2.2.length = (["value"] : List Str).length ∧ ∀ i ∈ q.2.2.2, i < q.2.1 + q.2.2.1.length) :
    Tok P w K mg base (T.upto 19) D M 19 := tok_def t F gl bi rfl sc_is_time_of kw (by decide +kernel) ck_is_time_of ok_is_time_of
theorem st_is_less {fd : FuncData} (t : Tok P w K mg base (T.upto 19) D M 19) (F : Fun K "is_less" "is_less" (top 15) (D.fa 19) fd) (gl : mg "is_less" = some (.ref (D.fa 19))) (bi : Binds K fd ["one", "other"] [])
    (kw : ∀ q ∈ M.kws, q.1 = 19 → ∀ (s : Shared) (us ws : List Value), K.In s.heap → us.length = q.2.1 → ws.length = q.2.2.1.length → BindsTo s fd ⟨us, q.2.2.1.zip ws⟩ ((["one", "other"] : List Str).zip (q.2.2.2.map fun i => (us ++ ws).getD i .none)) ∧ q.2.2.2.length = (["one", "other"] : List Str).length ∧ ∀ i ∈ q.2.2.2, i < q.2.1 + q.2.2.1.length) :
    Tok P w K mg base (T.upto 20) D M 20 := tok_def t F gl bi rfl sc_is_less kw (by decide +kernel) ck_is_less ok_is_less
theorem st_wrong_in_flashes {fd : FuncData} (t : Tok P w K mg base (T.upto 20) D M 20) (F : FunD K "wrong_in_flashes" "wrong_in_flashes" (defArgs (top 30)) (defBody (top 30)) (defScope (top 30)) [V.int 12] [] (D.fa 20) fd) (gl : mg "wrong_in_flashes" = some (.ref (D.fa 20))) (bi : Binds K fd ["value", "most"] []) (bd : ∃ ds, Vals [V.int 12] ds ∧ Binds K fd ["value", "most"] ds) :
    Tok P w K mg base (T.upto 21) D M 21 := tok_defD t F gl bi rfl sc_wrong_in_flashes (by decide +kernel) (by decide +kernel) bd ck_wrong_in_flashes ok_wrong_in_flashes
theorem st_check_flashes {fd : FuncData} (t : Tok P w K mg base (T.upto 21) D M 21) (F : Fun K "check_flashes" "check_flashes" (top 33) (D.fa 21) fd) (gl : mg "check_flashes" = some (.ref (D.fa 21))) (bi : Binds K fd ["flashes"] [])
    (kw : ∀ q ∈ M.kws, q.1 = 21 → ∀ (s : Shared) (us ws : List Value), K.In s.heap → us.length = q.2.1 → ws.length = q.2.2.1.length → BindsTo s fd ⟨us, q.2.2.1.zip ws⟩ ((["flashes"] : List Str).zip (q.2.2.2.map fun i => (us ++ ws).getD i .none)) ∧ q.2.2.2.length = (["flashes"] : List Str).length ∧ ∀ i ∈ q.2.2.2, i < q.2.1 + q.2.2.1.length) :
    Tok P w K mg base (T.upto 22) D M 22 := tok_def t F gl bi rfl sc_check_flashes kw (by decide +kernel) ck_check_flashes ok_check_flashes
theorem st_is_whole_one {fd : FuncData} (t : Tok P w K mg base (T.upto 22) D M 22) (F : Fun K "is_whole_one" "is_whole_one" (top 16) (D.fa 22) fd) (gl : mg "is_whole_one" = some (.ref (D.fa 22))) (bi : Binds K fd ["fraction"] [])
    (kw : ∀ q ∈ M.kws, q.1 = 22 → ∀ (s : Shared) (us ws : List Value), K.In s.heap → us.length = q.2.1 → ws.length = q.2.2.1.length → BindsTo s fd ⟨us, q.2.2.1.zip ws⟩ ((["fraction"] : List Str).zip (q.2.2.2.map fun i => (us ++ ws).getD i .none)) ∧ q.2.2.2.length = (["fraction"] : List Str).length ∧ ∀ i ∈ q.2.2.2, i < q.2.1 + q.2.2.1.length) :
    Tok P w K mg base (T.upto 23) D M 23 := tok_def t F gl bi rfl sc_is_whole_one kw (by decide +kernel) ck_is_whole_one ok_is_whole_one
theorem st_plain_of {fd : FuncData} (t : Tok P w K mg base (T.upto 23) D M 23) (F : Fun K "plain_of" "plain_of" (top 8) (D.fa 23) fd) (gl : mg "plain_of" = some (.ref (D.fa 23))) (bi : Binds K fd ["number", "divisor"] [])
    (kw : ∀ q ∈ M.kws, q.1 = 23 → ∀ (s : Shared) (us ws : List Value), K.In s.heap → us.length = q.2.1 → ws.length = q.2.2.1.length → BindsTo s fd ⟨us, q.2.2.1.zip ws⟩ ((["number", "divisor"] : List Str).zip (q.2.2.2.map fun i => (us ++ ws).getD i .none)) ∧ q.2.2.2.length = (["number", "divisor"] : List Str).length ∧ ∀ i ∈ q.2.2.2, i < q.2.1 + q.2.2.1.length) :
    Tok P w K mg base (T.upto 24) D M 24 := tok_def t F gl bi rfl sc_plain_of kw (by decide +kernel) ck_plain_of ok_plain_of
theorem st_over {fd : FuncData} (t : Tok P w K mg base (T.upto 24) D M 24) (F : Fun K "over" "over" (top 14) (D.fa 24) fd) (gl : mg "over" = some (.ref (D.fa 24))) (bi : Binds K fd ["one", "other"] [])
    (kw : ∀ q ∈ M.kws, q.1 = 24 → ∀ (s : Shared) (us ws : List Value), K.In s.heap → us.length = q.2.1 → ws.length = q.2.2.1.length → BindsTo s fd ⟨us, q.2.2.1.zip ws⟩ ((["one", "other"] : List Str).zip (q.2.2.2.map fun i => (us ++ ws).getD i .none)) ∧ q.2.2.2.length = (["one", "other"] : List Str).length ∧ ∀ i ∈ q.2.2.2, i < q.2.1 + q.2.2.1.length) :
    Tok P w K mg base (T.upto 25) D M 25 := tok_def t F gl bi rfl sc_over kw (by decide +kernel) ck_over ok_over
theorem st_is_multiple {fd : FuncData} (t : Tok P w K mg base (T.upto 25) D M 25) (F : Fun K "is_multiple" "is_multiple" (top 37) (D.fa 25) fd) (gl : mg "is_multiple" = some (.ref (D.fa 25))) (bi : Binds K fd ["fraction", "measure"] [])
    (kw : ∀ q ∈ M.kws, q.1 = 25 → ∀ (s : Shared) (us ws : List Value), K.In s.heap → us.length = q.2.1 → ws.length = q.2.2.1.length → BindsTo s fd ⟨us, q.2.2.1.zip ws⟩ ((["fraction", "measure"] : List Str).zip (q.2.2.2.map fun i => (us ++ ws).getD i .none)) ∧ q.2.2.2.length = (["fraction", "measure"] : List Str).length ∧ ∀ i ∈ q.2.2.2, i < q.2.1 + q.2.2.1.length) :
    Tok P w K mg base (T.upto 26) D M 26 := tok_def t F gl bi rfl sc_is_multiple kw (by decide +kernel) ck_is_multiple ok_is_multiple
theorem st_measure_of_two {fd : FuncData} (t : Tok P w K mg base (T.upto 26) D M 26) (F : Fun K "measure_of_two" "measure_of_two" (top 35) (D.fa 26) fd) (gl : mg "measure_of_two" = some (.ref (D.fa 26))) (bi : Binds K fd ["one", "other"] [])
    (kw : ∀ q ∈ M.kws, q.1 = 26 → ∀ (s : Shared) (us ws : List Value), K.In s.heap → us.length = q.2.1 → ws.length = q.2.2.1.length → BindsTo s fd ⟨us, q.2.2.1.zip ws⟩ ((["one", "other"] : List Str).zip (q.2.2.2.map fun i => (us ++ ws).getD i .none)) ∧ q.2.2.2.length = (["one", "other"] : List Str).length ∧ ∀ i ∈ q.2.2.2, i < q.2.1 + q.2.2.1.length) :
    Tok P w K mg base (T.upto 27) D M 27 := tok_def t F gl bi rfl sc_measure_of_two kw (by decide +kernel) ck_measure_of_two ok_measure_of_two
theorem st_measure_by {fd : FuncData} (t : Tok P w K mg base (T.upto 27) D M 27) (F : Fun K "measure_by" "measure_by" (top 36) (D.fa 27) fd) (gl : mg "measure_by" = some (.ref (D.fa 27))) (bi : Binds K fd ["fractions"] [])
    (kw : ∀ q ∈ M.kws, q.1 = 27 → ∀ (s : Shared) (us ws : List Value), K.In s.heap → us.length = q.2.1 → ws.length = q.2.2.1.length → BindsTo s fd ⟨us, q.2.2.1.zip ws⟩ ((["fractions"] : List Str).zip (q.2.2.2.map fun i => (us ++ ws).getD i .none)) ∧ q.2.2.2.length = (["fractions"] : List Str).length ∧ ∀ i ∈ q.2.2.2, i < q.2.1 + q.2.2.1.length) :
    Tok P w K mg base (T.upto 28) D M 28 := tok_def t F gl bi rfl sc_measure_by kw (by decide +kernel) ck_measure_by ok_measure_by
theorem st_plus {fd : FuncData} (t : Tok P w K mg base (T.upto 28) D M 28) (F : Fun K "plus" "plus" (top 10) (D.fa 28) fd) (gl : mg "plus" = some (.ref (D.fa 28))) (bi : Binds K fd ["one", "other"] [])
    (kw : ∀ q ∈ M.kws, q.1 = 28 → ∀ (s : Shared) (us ws : List Value), K.In s.heap → us.length = q.2.1 → ws.length = q.2.2.1.length → BindsTo s fd ⟨us, q.2.2.1.zip ws⟩ ((["one", "other"] : List Str).zip (q.2.2.2.map fun i => (us ++ ws).getD i .none)) ∧ q.2.2.2.length = (["one", "other"] : List Str).length ∧ ∀ i ∈ q.2.2.2, i < q.2.1 + q.2.2.1.length) :
    Tok P w K mg base (T.upto 29) D M 29 := tok_def t F gl bi rfl sc_plus kw (by decide +kernel) ck_plus ok_plus
theorem st_negative {fd : FuncData} (t : Tok P w K mg base (T.upto 29) D M 29) (F : Fun K "negative" "negative" (top 11) (D.fa 29) fd) (gl : mg "negative" = some (.ref (D.fa 29))) (bi : Binds K fd ["fraction"] [])
    (kw : ∀ q ∈ M.kws, q.1 = 29 → ∀ (s : Shared) (us ws : List Value), K.In s.heap → us.length = q.2.1 → ws.length = q.2.2.1.length → BindsTo s fd ⟨us, q.2.2.1.zip ws⟩ ((["fraction"] : List Str).zip (q.2.2.2.map fun i => (us ++ ws).getD i .none)) ∧ q.2.2.2.length = (["fraction"] : List Str).length ∧ ∀ i ∈ q.2.2.2, i < q.2.1 + q.2.2.1.length) :
    Tok P w K mg base (T.upto 30) D M 30 := tok_def t F gl bi rfl sc_negative kw (by decide +kernel) ck_negative ok_negative
theorem st_minus {fd : FuncData} (t : Tok P w K mg base (T.upto 30) D M 30) (F : Fun K "minus" "minus" (top 12) (D.fa 30) fd) (gl : mg "minus" = some (.ref (D.fa 30))) (bi : Binds K fd ["one", "other"] [])
    (kw : ∀ q ∈ M.kws, q.1 = 30 → ∀ (s : Shared) (us ws : List Value), K.In s.heap → us.length = q.2.1 → ws.length = q.2.2.1.length → BindsTo s fd ⟨us, q.2.2.1.zip ws⟩ ((["one", "other"] : List Str).zip (q.2.2.2.map fun i => (us ++ ws).getD i .none)) ∧ q.2.2.2.length = (["one", "other"] : List Str).length ∧ ∀ i ∈ q.2.2.2, i < q.2.1 + q.2.2.1.length) :
    Tok P w K mg base (T.upto 31) D M 31 := tok_def t F gl bi rfl sc_minus kw (by decide +kernel) ck_minus ok_minus
theorem st_flash_measure_by {fd : FuncData} (t : Tok P w K mg base (T.upto 31) D M 31) (F : Fun K "flash_measure_by" "flash_measure_by" (top 39) (D.fa 31) fd) (gl : mg "flash_measure_by" = some (.ref (D.fa 31))) (bi : Binds K fd ["flashes"] [])
    (kw : ∀ q ∈ M.kws, q.1 = 31 → ∀ (s : Shared) (us ws : List Value), K.In s.heap → us.length = q.2.1 → ws.length = q.2.2.1.length → BindsTo s fd ⟨us, q.2.2.1.zip ws⟩ ((["flashes"] : List Str).zip (q.2.2.2.map fun i => (us ++ ws).getD i .none)) ∧ q.2.2.2.length = (["flashes"] : List Str).length ∧ ∀ i ∈ q.2.2.2, i < q.2.1 + q.2.2.1.length) :
    Tok P w K mg base (T.upto 32) D M 32 := tok_def t F gl bi rfl sc_flash_measure_by kw (by decide +kernel) ck_flash_measure_by ok_flash_measure_by
theorem st_tell_as_much_by {fd : FuncData} (t : Tok P w K mg base (T.upto 32) D M 32) (F : Fun K "tell_as_much_by" "tell_as_much_by" (top 43) (D.fa 32) fd) (gl : mg "tell_as_much_by" = some (.ref (D.fa 32))) (bi : Binds K fd ["flashes", "other"] [])
    (kw : ∀ q ∈ M.kws, q.1 = 32 → ∀ (s : Shared) (us ws : List Value), K.In s.heap → us.length = q.2.1 → ws.length = q.2.2.1.length → BindsTo s fd ⟨us, q.2.2.1.zip ws⟩ ((["flashes", "other"] : List Str).zip (q.2.2.2.map fun i => (us ++ ws).getD i .none)) ∧ q.2.2.2.length = (["flashes", "other"] : List Str).length ∧ ∀ i ∈ q.2.2.2, i < q.2.1 + q.2.2.1.length) :
    Tok P w K mg base (T.upto 33) D M 33 := tok_def t F gl bi rfl sc_tell_as_much_by kw (by decide +kernel) ck_tell_as_much_by ok_tell_as_much_by
theorem st_tell_as_much {fd : FuncData} (t : Tok P w K mg base (T.upto 33) D M 33) (F : Fun K "tell_as_much" "tell_as_much" (top 45) (D.fa 33) fd) (gl : mg "tell_as_much" = some (.ref (D.fa 33))) (bi : Binds K fd ["flashes", "other"] [])
    (kw : ∀ q ∈ M.kws, q.1 = 33 → ∀ (s : Shared) (us ws : List Value), K.In s.heap → us.length = q.2.1 → ws.length = q.2.2.1.length → BindsTo s fd ⟨us, q.2.2.1.zip ws⟩ ((["flashes", "other"] : List Str).zip (q.2.2.2.map fun i => (us ++ ws).getD i .none)) ∧ q.2.2.2.length = (["flashes", "other"] : List Str).length ∧ ∀ i ∈ q.2.2.2, i < q.2.1 + q.2.2.1.length) :
    Tok P w K mg base (T.upto 34) D M 34 := tok_def t F gl bi rfl sc_tell_as_much kw (by decide +kernel) ck_tell_as_much ok_tell_as_much
theorem st_law_plus {fd : FuncData} (t : Tok P w K mg base (T.upto 34) D M 34) (F : Fun K "_law_plus" "_law_plus" (top 56) (D.fa 34) fd) (gl : mg "_law_plus" = some (.ref (D.fa 34))) (bi : Binds K fd ["one", "two"] [])
    (kw : ∀ q ∈ M.kws, q.1 = 34 → ∀ (s : Shared) (us ws : List Value), K.In s.heap → us.length = q.2.1 → ws.length = q.2.2.1.length → BindsTo s fd ⟨us, q.2.2.1.zip ws⟩ ((["one", "two"] : List Str).zip (q.2.2.2.map fun i => (us ++ ws).getD i .none)) ∧ q.2.2.2.length = (["one", "two"] : List Str).length ∧ ∀ i ∈ q.2.2.2, i < q.2.1 + q.2.2.1.length) :
    Tok P w K mg base (T.upto 35) D M 35 := tok_def t F gl bi rfl sc_law_plus kw (by decide +kernel) ck_law_plus ok_law_plus
theorem st_law_same_0 {fd : FuncData} (t : Tok P w K mg base (T.upto 35) D M 35) (F : Fun K "_law_same" "_law_same" (top 54) (D.fa 35) fd) (gl : mg "_law_same" = some (.ref (D.fa 35))) (bi : Binds K fd ["told", "due"] [])
    (kw : ∀ q ∈ M.kws, q.1 = 35 → ∀ (s : Shared) (us ws : List Value), K.In s.heap → us.length = q.2.1 → ws.length = q.2.2.1.length → BindsTo s fd ⟨us, q.2.2.1.zip ws⟩ ((["told", "due"] : List Str).zip (q.2.2.2.map fun i => (us ++ ws).getD i .none)) ∧ q.2.2.2.length = (["told", "due"] : List Str).length ∧ ∀ i ∈ q.2.2.2, i < q.2.1 + q.2.2.1.length) :
    Tok P w K mg base (T.upto 36) D M 36 := tok_def t F gl bi rfl sc_law_same_0 kw (by decide +kernel) ck_law_same_0 ok_law_same_0
theorem st_law_same_1 {fd : FuncData} (t : Tok P w K mg base (T.upto 36) D M 36) (F : Fun K "_law_same" "_law_same" (top 54) (D.fa 36) fd) (gl : mg "_law_same" = some (.ref (D.fa 36))) (bi : Binds K fd ["told", "due"] [])
    (kw : ∀ q ∈ M.kws, q.1 = 36 → ∀ (s : Shared) (us ws : List Value), K.In s.heap → us.length = q.2.1 → ws.length = q.2.2.1.length → BindsTo s fd ⟨us, q.2.2.1.zip ws⟩ ((["told", "due"] : List Str).zip (q.2.2.2.map fun i => (us ++ ws).getD i .none)) ∧ q.2.2.2.length = (["told", "due"] : List Str).length ∧ ∀ i ∈ q.2.2.2, i < q.2.1 + q.2.2.1.length) :
    Tok P w K mg base (T.upto 37) D M 37 := tok_def t F gl bi rfl sc_law_same_1 kw (by decide +kernel) ck_law_same_1 ok_law_same_1
theorem st_law_same_2 {fd : FuncData} (t : Tok P w K mg base (T.upto 37) D M 37) (F : Fun K "_law_same" "_law_same" (top 54) (D.fa 37) fd) (gl : mg "_law_same" = some (.ref (D.fa 37))) (bi : Binds K fd ["told", "due"] [])
    (kw : ∀ q ∈ M.kws, q.1 = 37 → ∀ (s : Shared) (us ws : List Value), K.In s.heap → us.length = q.2.1 → ws.length = q.2.2.1.length → BindsTo s fd ⟨us, q.2.2.1.zip ws⟩ ((["told", "due"] : List Str).zip (q.2.2.2.map fun i => (us ++ ws).getD i .none)) ∧ q.2.2.2.length = (["told", "due"] : List Str).length ∧ ∀ i ∈ q.2.2.2, i < q.2.1 + q.2.2.1.length) :
    Tok P w K mg base (T.upto 38) D M 38 := tok_def t F gl bi rfl sc_law_same_2 kw (by decide +kernel) ck_law_same_2 ok_law_same_2
theorem st_law_order {fd : FuncData} (t : Tok P w K mg base (T.upto 38) D M 38) (F : Fun K "_law_order" "_law_order" (top 67) (D.fa 38) fd) (gl : mg "_law_order" = some (.ref (D.fa 38))) (bi : Binds K fd ["well"] [])
    (kw : ∀ q ∈ M.kws, q.1 = 38 → ∀ (s : Shared) (us ws : List Value), K.In s.heap → us.length = q.2.1 → ws.length = q.2.2.1.length → BindsTo s fd ⟨us, q.2.2.1.zip ws⟩ ((["well"] : List Str).zip (q.2.2.2.map fun i => (us ++ ws).getD i .none)) ∧ q.2.2.2.length = (["well"] : List Str).length ∧ ∀ i ∈ q.2.2.2, i < q.2.1 + q.2.2.1.length) :
    Tok P w K mg base (T.upto 39) D M 39 := tok_def t F gl bi rfl sc_law_order kw (by decide +kernel) ck_law_order ok_law_order
theorem st_law_fraction {fd : FuncData} (t : Tok P w K mg base (T.upto 39) D M 39) (F : Fun K "_law_fraction" "_law_fraction" (top 65) (D.fa 39) fd) (gl : mg "_law_fraction" = some (.ref (D.fa 39))) (bi : Binds K fd ["well"] [])
    (kw : ∀ q ∈ M.kws, q.1 = 39 → ∀ (s : Shared) (us ws : List Value), K.In s.heap → us.length = q.2.1 → ws.length = q.2.2.1.length → BindsTo s fd ⟨us, q.2.2.1.zip ws⟩ ((["well"] : List Str).zip (q.2.2.2.map fun i => (us ++ ws).getD i .none)) ∧ q.2.2.2.length = (["well"] : List Str).length ∧ ∀ i ∈ q.2.2.2, i < q.2.1 + q.2.2.1.length) :
    Tok P w K mg base (T.upto 40) D M 40 := tok_def t F gl bi rfl sc_law_fraction kw (by decide +kernel) ck_law_fraction ok_law_fraction
theorem st_law_step {fd : FuncData} (t : Tok P w K mg base (T.upto 40) D M 40) (F : Fun K "_law_step" "_law_step" (top 66) (D.fa 40) fd) (gl : mg "_law_step" = some (.ref (D.fa 40))) (bi : Binds K fd ["order", "flashes"] [])
    (kw : ∀ q ∈ M.kws, q.1 = 40 → ∀ (s : Shared) (us ws : List Value), K.In s.heap → us.length = q.2.1 → ws.length = q.2.2.1.length → BindsTo s fd ⟨us, q.2.2.1.zip ws⟩ ((["order", "flashes"] : List Str).zip (q.2.2.2.map fun i => (us ++ ws).getD i .none)) ∧ q.2.2.2.length = (["order", "flashes"] : List Str).length ∧ ∀ i ∈ q.2.2.2, i < q.2.1 + q.2.2.1.length) :
    Tok P w K mg base (T.upto 41) D M 41 := tok_def t F gl bi rfl sc_law_step kw (by decide +kernel) ck_law_step ok_law_step
theorem st_is_between {fd : FuncData} (t : Tok P w K mg base (T.upto 41) D M 41) (F : Fun K "is_between" "is_between" (top 19) (D.fa 41) fd) (gl : mg "is_between" = some (.ref (D.fa 41))) (bi : Binds K fd ["value", "low", "high"] [])
    (kw : ∀ q ∈ M.kws, q.1 = 41 → ∀ (s : Shared) (us ws : List Value), K.In s.heap → us.length = q.2.1 → ws.length = q.2.2.1.length → BindsTo s fd ⟨us, q.2.2.1.zip ws⟩ ((["value", "low", "high"] : List Str).zip (q.2.2.2.map fun i => (us ++ ws).getD i .none)) ∧ q.2.2.2.length = (["value", "low", "high"] : List Str).length ∧ ∀ i ∈ q.2.2.2, i < q.2.1 + q.2.2.1.length) :
    Tok P w K mg base (T.upto 42) D M 42 := tok_def t F gl bi rfl sc_is_between kw (by decide +kernel) ck_is_between ok_is_between
theorem st_is_order_of {fd : FuncData} (t : Tok P w K mg base (T.upto 42) D M 42) (F : Fun K "is_order_of" "is_order_of" (top 29) (D.fa 42) fd) (gl : mg "is_order_of" = some (.ref (D.fa 42))) (bi : Binds K fd ["value"] [])
    (kw : ∀ q ∈ M.kws, q.1 = 42 → ∀ (s : Shared) (us ws : List Value), K.In s.heap → us.length = q.2.1 → ws.length = q.2.2.1.length → BindsTo s fd ⟨us, q.2.2.1.zip ws⟩ ((["value"] : List Str).zip (q.2.2.2.map fun i => (us ++ ws).getD i .none)) ∧ q.2.2.2.length = (["value"] : List Str).length ∧ ∀ i ∈ q.2.2.2, i < q.2.1 + q.2.2.1.length) :
    Tok P w K mg base (T.upto 43) D M 43 := tok_def t F gl bi rfl sc_is_order_of kw (by decide +kernel) ck_is_order_of ok_is_order_of
theorem st_check_order {fd : FuncData} (t : Tok P w K mg base (T.upto 43) D M 43) (F : Fun K "check_order" "check_order" (top 32) (D.fa 43) fd) (gl : mg "check_order" = some (.ref (D.fa 43))) (bi : Binds K fd ["order"] [])
    (kw : ∀ q ∈ M.kws, q.1 = 43 → ∀ (s : Shared) (us ws : List Value), K.In s.heap → us.length = q.2.1 → ws.length = q.2.2.1.length → BindsTo s fd ⟨us, q.2.2.1.zip ws⟩ ((["order"] : List Str).zip (q.2.2.2.map fun i => (us ++ ws).getD i .none)) ∧ q.2.2.2.length = (["order"] : List Str).length ∧ ∀ i ∈ q.2.2.2, i < q.2.1 + q.2.2.1.length) :
    Tok P w K mg base (T.upto 44) D M 44 := tok_def t F gl bi rfl sc_check_order kw (by decide +kernel) ck_check_order ok_check_order
theorem st_check_lit {fd : FuncData} (t : Tok P w K mg base (T.upto 44) D M 44) (F : Fun K "check_lit" "check_lit" (top 48) (D.fa 44) fd) (gl : mg "check_lit" = some (.ref (D.fa 44))) (bi : Binds K fd ["order", "flashes"] [])
    (kw : ∀ q ∈ M.kws, q.1 = 44 → ∀ (s : Shared) (us ws : List Value), K.In s.heap → us.length = q.2.1 → ws.length = q.2.2.1.length → BindsTo s fd ⟨us, q.2.2.1.zip ws⟩ ((["order", "flashes"] : List Str).zip (q.2.2.2.map fun i => (us ++ ws).getD i .none)) ∧ q.2.2.2.length = (["order", "flashes"] : List Str).length ∧ ∀ i ∈ q.2.2.2, i < q.2.1 + q.2.2.1.length) :
    Tok P w K mg base (T.upto 45) D M 45 := tok_def t F gl bi rfl sc_check_lit kw (by decide +kernel) ck_check_lit ok_check_lit
theorem st_check_fraction {fd : FuncData} (t : Tok P w K mg base (T.upto 45) D M 45) (F : Fun K "check_fraction" "check_fraction" (top 31) (D.fa 45) fd) (gl : mg "check_fraction" = some (.ref (D.fa 45))) (bi : Binds K fd ["value"] [])
    (kw : ∀ q ∈ M.kws, q.1 = 45 → ∀ (s : Shared) (us ws : List Value), K.In s.heap → us.length = q.2.1 → ws.length = q.2.2.1.length → BindsTo s fd ⟨us, q.2.2.1.zip ws⟩ ((["value"] : List Str).zip (q.2.2.2.map fun i => (us ++ ws).getD i .none)) ∧ q.2.2.2.length = (["value"] : List Str).length ∧ ∀ i ∈ q.2.2.2, i < q.2.1 + q.2.2.1.length) :
    Tok P w K mg base (T.upto 46) D M 46 := tok_def t F gl bi rfl sc_check_fraction kw (by decide +kernel) ck_check_fraction ok_check_fraction
theorem st_times {fd : FuncData} (t : Tok P w K mg base (T.upto 46) D M 46) (F : Fun K "times" "times" (top 13) (D.fa 46) fd) (gl : mg "times" = some (.ref (D.fa 46))) (bi : Binds K fd ["one", "other"] [])
    (kw : ∀ q ∈ M.kws, q.1 = 46 → ∀ (s : Shared) (us ws : List Value), K.In s.heap → us.length = q.2.1 → ws.length = q.2.2.1.length → BindsTo s fd ⟨us, q.2.2.1.zip ws⟩ ((["one", "other"] : List Str).zip (q.2.2.2.map fun i => (us ++ ws).getD i .none)) ∧ q.2.2.2.length = (["one", "other"] : List Str).length ∧ ∀ i ∈ q.2.2.2, i < q.2.1 + q.2.2.1.length) :
    Tok P w K mg base (T.upto 47) D M 47 := tok_def t F gl bi rfl sc_times kw (by decide +kernel) ck_times ok_times
theorem st_whole {fd : FuncData} (t : Tok P w K mg base (T.upto 47) D M 47) (F : Fun K "whole" "whole" (top 9) (D.fa 47) fd) (gl : mg "whole" = some (.ref (D.fa 47))) (bi : Binds K fd ["number"] [])
    (kw : ∀ q ∈ M.kws, q.1 = 47 → ∀ (s : Shared) (us ws : List Value), K.In s.heap → us.length = q.2.1 → ws.length = q.2.2.1.length → BindsTo s fd ⟨us, q.2.2.1.zip ws⟩ ((["number"] : List Str).zip (q.2.2.2.map fun i => (us ++ ws).getD i .none)) ∧ q.2.2.2.length = (["number"] : List Str).length ∧ ∀ i ∈ q.2.2.2, i < q.2.1 + q.2.2.1.length) :
    Tok P w K mg base (T.upto 48) D M 48 := tok_def t F gl bi rfl sc_whole kw (by decide +kernel) ck_whole ok_whole
theorem st_rate_step_by {fd : FuncData} (t : Tok P w K mg base (T.upto 48) D M 48) (F : Fun K "rate_step_by" "rate_step_by" (top 40) (D.fa 48) fd) (gl : mg "rate_step_by" = some (.ref (D.fa 48))) (bi : Binds K fd ["order", "flashes"] [])
    (kw : ∀ q ∈ M.kws, q.1 = 48 → ∀ (s : Shared) (us ws : List Value), K.In s.heap → us.length = q.2.1 → ws.length = q.2.2.1.length → BindsTo s fd ⟨us, q.2.2.1.zip ws⟩ ((["order", "flashes"] : List Str).zip (q.2.2.2.map fun i => (us ++ ws).getD i .none)) ∧ q.2.2.2.length = (["order", "flashes"] : List Str).length ∧ ∀ i ∈ q.2.2.2, i < q.2.1 + q.2.2.1.length) :
    Tok P w K mg base (T.upto 49) D M 49 := tok_def t F gl bi rfl sc_rate_step_by kw (by decide +kernel) ck_rate_step_by ok_rate_step_by
theorem st_are_alike_by {fd : FuncData} (t : Tok P w K mg base (T.upto 49) D M 49) (F : Fun K "are_alike_by" "are_alike_by" (top 41) (D.fa 49) fd) (gl : mg "are_alike_by" = some (.ref (D.fa 49))) (bi : Binds K fd ["order", "flashes", "rate", "other"] [])
    (kw : ∀ q ∈ M.kws, q.1 = 49 → ∀ (s : Shared) (us ws : List Value), K.In s.heap → us.length = q.2.1 → ws.length = q.2.2.1.length → BindsTo s fd ⟨us, q.2.2.1.zip ws⟩ ((["order", "flashes", "rate", "other"] : List Str).zip (q.2.2.2.map fun i => (us ++ ws).getD i .none)) ∧ q.2.2.2.length = (["order", "flashes", "rate", "other"] : List Str).length ∧ ∀ i ∈ q.2.2.2, i < q.2.1 + q.2.2.1.length) :
    Tok P w K mg base (T.upto 50) D M 50 := tok_def t F gl bi rfl sc_are_alike_by kw (by decide +kernel) ck_are_alike_by ok_are_alike_by
theorem st_are_alike {fd : FuncData} (t : Tok P w K mg base (T.upto 50) D M 50) (F : Fun K "are_alike" "are_alike" (top 49) (D.fa 50) fd) (gl : mg "are_alike" = some (.ref (D.fa 50))) (bi : Binds K fd ["order", "flashes", "rate", "other"] [])
    (kw : ∀ q ∈ M.kws, q.1 = 50 → ∀ (s : Shared) (us ws : List Value), K.In s.heap → us.length = q.2.1 → ws.length = q.2.2.1.length → BindsTo s fd ⟨us, q.2.2.1.zip ws⟩ ((["order", "flashes", "rate", "other"] : List Str).zip (q.2.2.2.map fun i => (us ++ ws).getD i .none)) ∧ q.2.2.2.length = (["order", "flashes", "rate", "other"] : List Str).length ∧ ∀ i ∈ q.2.2.2, i < q.2.1 + q.2.2.1.length) :
    Tok P w K mg base (T.upto 51) D M 51 := tok_def t F gl bi rfl sc_are_alike kw (by decide +kernel) ck_are_alike ok_are_alike
theorem st_flash_measure {fd : FuncData} (t : Tok P w K mg base (T.upto 51) D M 51) (F : Fun K "flash_measure" "flash_measure" (top 47) (D.fa 51) fd) (gl : mg "flash_measure" = some (.ref (D.fa 51))) (bi : Binds K fd ["flashes"] [])
    (kw : ∀ q ∈ M.kws, q.1 = 51 → ∀ (s : Shared) (us ws : List Value), K.In s.heap → us.length = q.2.1 → ws.length = q.2.2.1.length → BindsTo s fd ⟨us, q.2.2.1.zip ws⟩ ((["flashes"] : List Str).zip (q.2.2.2.map fun i => (us ++ ws).getD i .none)) ∧ q.2.2.2.length = (["flashes"] : List Str).length ∧ ∀ i ∈ q.2.2.2, i < q.2.1 + q.2.2.1.length) :
    Tok P w K mg base (T.upto 52) D M 52 := tok_def t F gl bi rfl sc_flash_measure kw (by decide +kernel) ck_flash_measure ok_flash_measure
theorem st_law_is_told {fd : FuncData} (t : Tok P w K mg base (T.upto 52) D M 52) (F : Fun K "_law_is_told" "_law_is_told" (top 69) (D.fa 52) fd) (gl : mg "_law_is_told" = some (.ref (D.fa 52))) (bi : Binds K fd ["well", "one", "two"] [])
    (kw : ∀ q ∈ M.kws, q.1 = 52 → ∀ (s : Shared) (us ws : List Value), K.In s.heap → us.length = q.2.1 → ws.length = q.2.2.1.length → BindsTo s fd ⟨us, q.2.2.1.zip ws⟩ ((["well", "one", "two"] : List Str).zip (q.2.2.2.map fun i => (us ++ ws).getD i .none)) ∧ q.2.2.2.length = (["well", "one", "two"] : List Str).length ∧ ∀ i ∈ q.2.2.2, i < q.2.1 + q.2.2.1.length) :
    Tok P w K mg base (T.upto 53) D M 53 := tok_def t F gl bi rfl sc_law_is_told kw (by decide +kernel) ck_law_is_told ok_law_is_told
theorem st_law_right {fd : FuncData} (t : Tok P w K mg base (T.upto 53) D M 53) (F : Fun K "_law_right" "_law_right" (top 70) (D.fa 53) fd) (gl : mg "_law_right" = some (.ref (D.fa 53))) (bi : Binds K fd ["well"] [])
    (kw : ∀ q ∈ M.kws, q.1 = 53 → ∀ (s : Shared) (us ws : List Value), K.In s.heap → us.length = q.2.1 → ws.length = q.2.2.1.length → BindsTo s fd ⟨us, q.2.2.1.zip ws⟩ ((["well"] : List Str).zip (q.2.2.2.map fun i => (us ++ ws).getD i .none)) ∧ q.2.2.2.length = (["well"] : List Str).length ∧ ∀ i ∈ q.2.2.2, i < q.2.1 + q.2.2.1.length) :
    Tok P w K mg base (T.upto 54) D M 54 := tok_def t F gl bi rfl sc_law_right kw (by decide +kernel) ck_law_right ok_law_right
theorem st_law_well {fd : FuncData} (t : Tok P w K mg base (T.upto 54) D M 54) (F : Fun K "_law_well" "_law_well" (top 51) (D.fa 54) fd) (gl : mg "_law_well" = some (.ref (D.fa 54))) (bi : Binds K fd ["script", "lap"] [])
    (kw : ∀ q ∈ M.kws, q.1 = 54 → ∀ (s : Shared) (us ws : List Value), K.In s.heap → us.length = q.2.1 → ws.length = q.2.2.1.length → BindsTo s fd ⟨us, q.2.2.1.zip ws⟩ ((["script", "lap"] : List Str).zip (q.2.2.2.map fun i => (us ++ ws).getD i .none)) ∧ q.2.2.2.length = (["script", "lap"] : List Str).length ∧ ∀ i ∈ q.2.2.2, i < q.2.1 + q.2.2.1.length) :
    Tok P w K mg base (T.upto 55) D M 55 := tok_def t F gl bi rfl sc_law_well kw (by decide +kernel) ck_law_well ok_law_well
theorem st_law {fd : FuncData} (t : Tok P w K mg base (T.upto 55) D M 55) (F : Fun K "law" "law" (top 71) (D.fa 55) fd) : FnOk P w K mg base (L2.CX P w) 56 (D.fa 55) fd ["script"] (spLaw K) :=
  law_imp (fn_ok F sc_law t ck_law ok_law) law_ok
end

set_option maxHeartbeats 0 in
theorem facts {l : PySem.W.OpenLaw} {w : World} {K : PySem.W.Frag} {h : Heap} {mg : Str → Option Value} {f : Addr} (X : K.In h) (G : h.Ns mainGlobals mg) (hfa : mg ("law" : Str) = some (.ref f)) (cx : exB K = true) (c : He.SaysD faL fnL K) :
    ∃ fd : FuncData, (∀ (s : Shared) (v : Value), BindsTo s fd ⟨[v], []⟩ [("script", v)]) ∧ ∀ base : Heap, K.In base → base.Ns mainGlobals mg → FnOk l.prog w K mg base (L2.CX l.prog w) 56 f fd ["script"] (spLaw K) := by
  obtain ⟨fd0, F0⟩ := c.def_ 0 (d := dd_law_take) rfl
  have g0 := He.glo_ok X G (c.fact 0 (f := .glo "_law_take") rfl)
  replace F0 : FnP K "_law_take" (top 52) (He.ga K "_law_take") fd0 := F0
  obtain ⟨fd1, F1⟩ := c.def_ 1 (d := dd_law_of) rfl
  have g1 := He.glo_ok X G (c.fact 1 (f := .glo "_law_of") rfl)
  replace F1 : FnP K "_law_of" (top 53) (He.ga K "_law_of") fd1 := F1
  obtain ⟨fd2, F2⟩ := c.def_ 2 (d := dd_law_part) rfl
  have g2 := He.glo_ok X G (c.fact 2 (f := .glo "_law_part") rfl)
  replace F2 : FnP K "_law_part" (top 55) (He.ga K "_law_part") fd2 := F2
  obtain ⟨fd3, F3⟩ := c.def_ 3 (d := dd_law_flashes) rfl
  have g3 := He.glo_ok X G (c.fact 3 (f := .glo "_law_flashes") rfl)
  replace F3 : FnP K "_law_flashes" (top 64) (He.ga K "_law_flashes") fd3 := F3
  obtain ⟨fd4, F4⟩ := c.def_ 4 (d := dd_law_less) rfl
  have g4 := He.glo_ok X G (c.fact 4 (f := .glo "_law_less") rfl)
  replace F4 : FnP K "_law_less" (top 57) (He.ga K "_law_less") fd4 := F4
  obtain ⟨fd5, F5⟩ := c.def_ 5 (d := dd_law_by) rfl
  have g5 := He.glo_ok X G (c.fact 5 (f := .glo "_law_by") rfl)
  replace F5 : FnP K "_law_by" (top 58) (He.ga K "_law_by") fd5 := F5
  obtain ⟨fd6, F6⟩ := c.def_ 6 (d := dd_law_floor) rfl
  have g6 := He.glo_ok X G (c.fact 6 (f := .glo "_law_floor") rfl)
  replace F6 : FnP K "_law_floor" (top 60) (He.ga K "_law_floor") fd6 := F6
  obtain ⟨fd7, F7⟩ := c.def_ 7 (d := dd_law_over) rfl
  have g7 := He.glo_ok X G (c.fact 7 (f := .glo "_law_over") rfl)
  replace F7 : FnP K "_law_over" (top 59) (He.ga K "_law_over") fd7 := F7
  obtain ⟨fd8, F8⟩ := c.def_ 8 (d := dd_law_rest) rfl
  have g8 := He.glo_ok X G (c.fact 8 (f := .glo "_law_rest") rfl)
  replace F8 : FnP K "_law_rest" (top 61) (He.ga K "_law_rest") fd8 := F8
  obtain ⟨fd9, F9⟩ := c.def_ 9 (d := dd_law_measure) rfl
  have g9 := He.glo_ok X G (c.fact 9 (f := .glo "_law_measure") rfl)
  replace F9 : FnP K "_law_measure" (top 62) (He.ga K "_law_measure") fd9 := F9
  obtain ⟨fd10, F10⟩ := c.def_ 10 (d := dd_law_flash_measure) rfl
  have g10 := He.glo_ok X G (c.fact 10 (f := .glo "_law_flash_measure") rfl)
  replace F10 : FnP K "_law_flash_measure" (top 63) (He.ga K "_law_flash_measure") fd10 := F10
  obtain ⟨fd11, F11⟩ := c.def_ 11 (d := dd_law_tell_as_much) rfl
  have g11 := He.glo_ok X G (c.fact 11 (f := .glo "_law_tell_as_much") rfl)
  replace F11 : FnP K "_law_tell_as_much" (top 68) (He.ga K "_law_tell_as_much") fd11 := F11
  obtain ⟨fd12, F12⟩ := c.def_ 12 (d := dd_is_tuple_up_to) rfl
  have g12 := He.glo_ok X G (c.fact 12 (f := .glo "is_tuple_up_to") rfl)
  replace F12 : FnP K "is_tuple_up_to" (top 21) (He.ga K "is_tuple_up_to") fd12 := F12
  obtain ⟨fd13, F13⟩ := c.def_ 13 (d := dd_is_tuple_of) rfl
  have g13 := He.glo_ok X G (c.fact 13 (f := .glo "is_tuple_of") rfl)
  replace F13 : FnP K "is_tuple_of" (top 22) (He.ga K "is_tuple_of") fd13 := F13
  obtain ⟨fd14, F14⟩ := c.def_ 14 (d := dd_is_pair) rfl
  have g14 := He.glo_ok X G (c.fact 14 (f := .glo "is_pair") rfl)
  replace F14 : FnP K "is_pair" (top 23) (He.ga K "is_pair") fd14 := F14
  obtain ⟨fd15, F15⟩ := c.def_ 15 (d := dd_is_whole) rfl
  have g15 := He.glo_ok X G (c.fact 15 (f := .glo "is_whole") rfl)
  replace F15 : FnP K "is_whole" (top 18) (He.ga K "is_whole") fd15 := F15
  obtain ⟨fd16, F16⟩ := c.def_ 16 (d := dd_is_from) rfl
  have g16 := He.glo_ok X G (c.fact 16 (f := .glo "is_from") rfl)
  replace F16 : FnP K "is_from" (top 20) (He.ga K "is_from") fd16 := F16
  obtain ⟨fd17, F17⟩ := c.def_ 17 (d := dd_is_fraction_of) rfl
  have g17 := He.glo_ok X G (c.fact 17 (f := .glo "is_fraction_of") rfl)
  replace F17 : FnP K "is_fraction_of" (top 27) (He.ga K "is_fraction_of") fd17 := F17
  obtain ⟨fd18, F18⟩ := c.def_ 18 (d := dd_is_time_of) rfl
  have g18 := He.glo_ok X G (c.fact 18 (f := .glo "is_time_of") rfl)
  replace F18 : FnP K "is_time_of" (top 28) (He.ga K "is_time_of") fd18 := F18
  obtain ⟨fd19, F19⟩ := c.def_ 19 (d := dd_is_less) rfl
  have g19 := He.glo_ok X G (c.fact 19 (f := .glo "is_less") rfl)
  replace F19 : FnP K "is_less" (top 15) (He.ga K "is_less") fd19 := F19
  obtain ⟨fd20, F20⟩ := c.def_ 20 (d := dd_wrong_in_flashes) rfl
  have g20 := He.glo_ok X G (c.fact 20 (f := .glo "wrong_in_flashes") rfl)
  replace F20 : FunD K "wrong_in_flashes" "wrong_in_flashes" (defArgs (top 30)) (defBody (top 30)) (defScope (top 30)) [V.int 12] [] (He.ga K "wrong_in_flashes") fd20 := F20
  obtain ⟨fd21, F21⟩ := c.def_ 21 (d := dd_check_flashes) rfl
  have g21 := He.glo_ok X G (c.fact 21 (f := .glo "check_flashes") rfl)
  replace F21 : FnP K "check_flashes" (top 33) (He.ga K "check_flashes") fd21 := F21
  obtain ⟨fd22, F22⟩ := c.def_ 22 (d := dd_is_whole_one) rfl
  have g22 := He.glo_ok X G (c.fact 22 (f := .glo "is_whole_one") rfl)
  replace F22 : FnP K "is_whole_one" (top 16) (He.ga K "is_whole_one") fd22 := F22
  obtain ⟨fd23, F23⟩ := c.def_ 23 (d := dd_plain_of) rfl
  have g23 := He.glo_ok X G (c.fact 23 (f := .glo "plain_of") rfl)
  replace F23 : FnP K "plain_of" (top 8) (He.ga K "plain_of") fd23 := F23
  obtain ⟨fd24, F24⟩ := c.def_ 24 (d := dd_over) rfl
  have g24 := He.glo_ok X G (c.fact 24 (f := .glo "over") rfl)
  replace F24 : FnP K "over" (top 14) (He.ga K "over") fd24 := F24
  obtain ⟨fd25, F25⟩ := c.def_ 25 (d := dd_is_multiple) rfl
  have g25 := He.glo_ok X G (c.fact 25 (f := .glo "is_multiple") rfl)
  replace F25 : FnP K "is_multiple" (top 37) (He.ga K "is_multiple") fd25 := F25
  obtain ⟨fd26, F26⟩ := c.def_ 26 (d := dd_measure_of_two) rfl
  have g26 := He.glo_ok X G (c.fact 26 (f := .glo "measure_of_two") rfl)
  replace F26 : FnP K "measure_of_two" (top 35) (He.ga K "measure_of_two") fd26 := F26
  obtain ⟨fd27, F27⟩ := c.def_ 27 (d := dd_measure_by) rfl
  have g27 := He.glo_ok X G (c.fact 27 (f := .glo "measure_by") rfl)
  replace F27 : FnP K "measure_by" (top 36) (He.ga K "measure_by") fd27 := F27
  obtain ⟨fd28, F28⟩ := c.def_ 28 (d := dd_plus) rfl
  have g28 := He.glo_ok X G (c.fact 28 (f := .glo "plus") rfl)
  replace F28 : FnP K "plus" (top 10) (He.ga K "plus") fd28 := F28
  obtain ⟨fd29, F29⟩ := c.def_ 29 (d := dd_negative) rfl
  have g29 := He.glo_ok X G (c.fact 29 (f := .glo "negative") rfl)
  replace F29 : FnP K "negative" (top 11) (He.ga K "negative") fd29 := F29
  obtain ⟨fd30, F30⟩ := c.def_ 30 (d := dd_minus) rfl
  have g30 := He.glo_ok X G (c.fact 30 (f := .glo "minus") rfl)
  replace F30 : FnP K "minus" (top 12) (He.ga K "minus") fd30 := F30
  obtain ⟨fd31, F31⟩ := c.def_ 31 (d := dd_flash_measure_by) rfl
  have g31 := He.glo_ok X G (c.fact 31 (f := .glo "flash_measure_by") rfl)
  replace F31 : FnP K "flash_measure_by" (top 39) (He.ga K "flash_measure_by") fd31 := F31
  obtain ⟨fd32, F32⟩ := c.def_ 32 (d := dd_tell_as_much_by) rfl
  have g32 := He.glo_ok X G (c.fact 32 (f := .glo "tell_as_much_by") rfl)
  replace F32 : FnP K "tell_as_much_by" (top 43) (He.ga K "tell_as_much_by") fd32 := F32
  obtain ⟨fd33, F33⟩ := c.def_ 33 (d := dd_tell_as_much) rfl
  have g33 := He.glo_ok X G (c.fact 33 (f := .glo "tell_as_much") rfl)
  replace F33 : FnP K "tell_as_much" (top 45) (He.ga K "tell_as_much") fd33 := F33
  obtain ⟨fd34, F34⟩ := c.def_ 34 (d := dd_law_plus) rfl
  have g34 := He.glo_ok X G (c.fact 34 (f := .glo "_law_plus") rfl)
  replace F34 : FnP K "_law_plus" (top 56) (He.ga K "_law_plus") fd34 := F34
  obtain ⟨fd35, F35⟩ := c.def_ 35 (d := dd_law_same) rfl
  have g35 := He.glo_ok X G (c.fact 35 (f := .glo "_law_same") rfl)
  replace F35 : FnP K "_law_same" (top 54) (He.ga K "_law_same") fd35 := F35
  obtain ⟨fd36, F36⟩ := c.def_ 36 (d := dd_law_order) rfl
  have g36 := He.glo_ok X G (c.fact 36 (f := .glo "_law_order") rfl)
  replace F36 : FnP K "_law_order" (top 67) (He.ga K "_law_order") fd36 := F36
  obtain ⟨fd37, F37⟩ := c.def_ 37 (d := dd_law_fraction) rfl
  have g37 := He.glo_ok X G (c.fact 37 (f := .glo "_law_fraction") rfl)
  replace F37 : FnP K "_law_fraction" (top 65) (He.ga K "_law_fraction") fd37 := F37
  obtain ⟨fd38, F38⟩ := c.def_ 38 (d := dd_law_step) rfl
  have g38 := He.glo_ok X G (c.fact 38 (f := .glo "_law_step") rfl)
  replace F38 : FnP K "_law_step" (top 66) (He.ga K "_law_step") fd38 := F38
  obtain ⟨fd39, F39⟩ := c.def_ 39 (d := dd_is_between) rfl
  have g39 := He.glo_ok X G (c.fact 39 (f := .glo "is_between") rfl)
  replace F39 : FnP K "is_between" (top 19) (He.ga K "is_between") fd39 := F39
  obtain ⟨fd40, F40⟩ := c.def_ 40 (d := dd_is_order_of) rfl
  have g40 := He.glo_ok X G (c.fact 40 (f := .glo "is_order_of") rfl)
  replace F40 : FnP K "is_order_of" (top 29) (He.ga K "is_order_of") fd40 := F40
  obtain ⟨fd41, F41⟩ := c.def_ 41 (d := dd_check_order) rfl
  have g41 := He.glo_ok X G (c.fact 41 (f := .glo "check_order") rfl)
  replace F41 : FnP K "check_order" (top 32) (He.ga K "check_order") fd41 := F41
  obtain ⟨fd42, F42⟩ := c.def_ 42 (d := dd_check_lit) rfl
  have g42 := He.glo_ok X G (c.fact 42 (f := .glo "check_lit") rfl)
  replace F42 : FnP K "check_lit" (top 48) (He.ga K "check_lit") fd42 := F42
  obtain ⟨fd43, F43⟩ := c.def_ 43 (d := dd_check_fraction) rfl
  have g43 := He.glo_ok X G (c.fact 43 (f := .glo "check_fraction") rfl)
  replace F43 : FnP K "check_fraction" (top 31) (He.ga K "check_fraction") fd43 := F43
  obtain ⟨fd44, F44⟩ := c.def_ 44 (d := dd_times) rfl
  have g44 := He.glo_ok X G (c.fact 44 (f := .glo "times") rfl)
  replace F44 : FnP K "times" (top 13) (He.ga K "times") fd44 := F44
  obtain ⟨fd45, F45⟩ := c.def_ 45 (d := dd_whole) rfl
  have g45 := He.glo_ok X G (c.fact 45 (f := .glo "whole") rfl)
  replace F45 : FnP K "whole" (top 9) (He.ga K "whole") fd45 := F45
  obtain ⟨fd46, F46⟩ := c.def_ 46 (d := dd_rate_step_by) rfl
  have g46 := He.glo_ok X G (c.fact 46 (f := .glo "rate_step_by") rfl)
  replace F46 : FnP K "rate_step_by" (top 40) (He.ga K "rate_step_by") fd46 := F46
  obtain ⟨fd47, F47⟩ := c.def_ 47 (d := dd_are_alike_by) rfl
  have g47 := He.glo_ok X G (c.fact 47 (f := .glo "are_alike_by") rfl)
  replace F47 : FnP K "are_alike_by" (top 41) (He.ga K "are_alike_by") fd47 := F47
  obtain ⟨fd48, F48⟩ := c.def_ 48 (d := dd_are_alike) rfl
  have g48 := He.glo_ok X G (c.fact 48 (f := .glo "are_alike") rfl)
  replace F48 : FnP K "are_alike" (top 49) (He.ga K "are_alike") fd48 := F48
  obtain ⟨fd49, F49⟩ := c.def_ 49 (d := dd_flash_measure) rfl
  have g49 := He.glo_ok X G (c.fact 49 (f := .glo "flash_measure") rfl)
  replace F49 : FnP K "flash_measure" (top 47) (He.ga K "flash_measure") fd49 := F49
  obtain ⟨fd50, F50⟩ := c.def_ 50 (d := dd_law_is_told) rfl
  have g50 := He.glo_ok X G (c.fact 50 (f := .glo "_law_is_told") rfl)
  replace F50 : FnP K "_law_is_told" (top 69) (He.ga K "_law_is_told") fd50 := F50
  obtain ⟨fd51, F51⟩ := c.def_ 51 (d := dd_law_right) rfl
  have g51 := He.glo_ok X G (c.fact 51 (f := .glo "_law_right") rfl)
  replace F51 : FnP K "_law_right" (top 70) (He.ga K "_law_right") fd51 := F51
  obtain ⟨fd52, F52⟩ := c.def_ 52 (d := dd_law_well) rfl
  have g52 := He.glo_ok X G (c.fact 52 (f := .glo "_law_well") rfl)
  replace F52 : FnP K "_law_well" (top 51) (He.ga K "_law_well") fd52 := F52
  obtain ⟨fd53, F53⟩ := c.def_ 53 (d := dd_law) rfl
  have g53 := He.glo_ok X G (c.fact 53 (f := .glo "law") rfl)
  replace F53 : FnP K "law" (top 71) (He.ga K "law") fd53 := F53
  have e := hfa.symm.trans g53
  cases e
  let D : Ad := ⟨fun i => He.ga K (T.nm i), fun i => He.ga K (T.xn i), fun _ => none⟩
  refine ⟨fd53, fun s v => FunD.bindsA (ps := ["script"]) F53 (fun _ _ _ _ _ _ us hl => match us, hl with | [_], _ => rfl) s [v] rfl, fun base _ _ => ?_⟩
  have cx : ex_0 K = true := cx
  unfold ex_0 at cx
  simp only [Bool.and_eq_true] at cx
  obtain ⟨⟨⟨_, x0⟩, x1⟩, x2⟩ := cx
  have t0 : Tok l.prog w K mg base (T.upto 0) D M 0 := by
    refine ⟨fun n hn => absurd hn (Nat.not_lt_zero n), fun n hn => ?_, fun b hf => ?_, fun _ => ?_, fun x hx => ?_, fun n hn => ?_, fun n hn => ?_, fun n n2 v e => ?_⟩
    · match n, hn with
      | 0, _ => exact (let y := x1; ⟨_, .ref (He.ga K "NOUGHT"), He.glo_ok X G y.1, rfl, fun G H => ⟨_, [.int 0, .int 1], rfl, (have q := He.tupB_ok y.2 H; q), ⟨.int 0, _, rfl, rfl, ⟨.int 1, _, rfl, rfl, rfl⟩⟩⟩⟩)
      | 1, _ => exact (let ⟨t, e⟩ := He.int_ok X G x2; ⟨_, .int 24, e, ⟨t, rfl⟩, fun _ _ => rfl⟩)
      | n + 2, hn => exact absurd hn (by show ¬ (n + 2 < 2); omega)
    · cases b <;> first | exact absurd rfl hf | exact He.free_ok X G (c.fact 54 (f := .free "len") rfl) | exact He.free_ok X G (c.fact 55 (f := .free "abs") rfl) | exact He.free_ok X G (c.fact 56 (f := .free "int") rfl) | exact He.free_ok X G (c.fact 57 (f := .free "tuple") rfl) | exact He.free_ok X G (c.fact 58 (f := .free "list") rfl) | exact He.free_ok X G (c.fact 59 (f := .free "all") rfl) | exact He.free_ok X G (c.fact 60 (f := .free "any") rfl) | exact He.free_ok X G (c.fact 61 (f := .free "max") rfl) | exact He.free_ok X G (c.fact 62 (f := .free "min") rfl) | exact He.free_ok X G (c.fact 63 (f := .free "divmod") rfl) | exact He.free_ok X G (c.fact 64 (f := .free "sorted") rfl)
    · exact PySem.W.mg_of X G (He.eqO_ok x0)
    · simp only [List.mem_cons, List.not_mem_nil, or_false] at hx
      rcases hx with rfl | rfl | rfl | rfl | rfl | rfl | rfl | rfl
      · exact He.free_ok X G (c.fact 65 (f := .free "range") rfl)
      · exact He.free_ok X G (c.fact 66 (f := .free "enumerate") rfl)
      · exact He.free_ok X G (c.fact 67 (f := .free "zip") rfl)
      · exact He.free_ok X G (c.fact 68 (f := .free "isinstance") rfl)
      · exact He.free_ok X G (c.fact 69 (f := .free "bool") rfl)
      · exact He.free_ok X G (c.fact 70 (f := .free "str") rfl)
      · exact He.free_ok X G (c.fact 71 (f := .free "dict") rfl)
      · exact He.free_ok X G (c.fact 72 (f := .free "set") rfl)
    · exact absurd hn (Nat.not_lt_zero n)
    · exact absurd hn (by simp [M])
    · cases e
  have b0 : Binds K fd0 ["well", "many"] [] := FunD.bindsN F0 fun _ _ _ _ _ _ us hl => match us, hl with | [_, _], _ => rfl
  have t1 := st_law_take t0 F0.fun_ g0 b0 (by
    intro q hq e
    simp only [M, List.mem_cons, List.not_mem_nil, or_false] at hq
    rcases hq with rfl
    · exact absurd e (by decide))
  have b1 : Binds K fd1 ["well", "things"] [] := FunD.bindsN F1 fun _ _ _ _ _ _ us hl => match us, hl with | [_, _], _ => rfl
  have t2 := st_law_of t1 F1.fun_ g1 b1 (by
    intro q hq e
    simp only [M, List.mem_cons, List.not_mem_nil, or_false] at hq
    rcases hq with rfl
    · exact absurd e (by decide))
  have b2 : Binds K fd2 ["one", "two"] [] := FunD.bindsN F2 fun _ _ _ _ _ _ us hl => match us, hl with | [_, _], _ => rfl
  have t3 := st_law_part t2 F2.fun_ g2 b2 (by
    intro q hq e
    simp only [M, List.mem_cons, List.not_mem_nil, or_false] at hq
    rcases hq with rfl
    · exact absurd e (by decide))
  have b3 : Binds K fd3 ["well", "most"] [] := FunD.bindsN F3 fun _ _ _ _ _ _ us hl => match us, hl with | [_, _], _ => rfl
  have t4 := st_law_flashes t3 F3.fun_ g3 b3 (by
    intro q hq e
    simp only [M, List.mem_cons, List.not_mem_nil, or_false] at hq
    rcases hq with rfl
    · exact absurd e (by decide))
  have b4 : Binds K fd4 ["one", "two"] [] := FunD.bindsN F4 fun _ _ _ _ _ _ us hl => match us, hl with | [_, _], _ => rfl
  have t5 := st_law_less t4 F4.fun_ g4 b4 (by
    intro q hq e
    simp only [M, List.mem_cons, List.not_mem_nil, or_false] at hq
    rcases hq with rfl
    · exact absurd e (by decide))
  have b5 : Binds K fd5 ["one", "two"] [] := FunD.bindsN F5 fun _ _ _ _ _ _ us hl => match us, hl with | [_, _], _ => rfl
  have t6 := st_law_by t5 F5.fun_ g5 b5 (by
    intro q hq e
    simp only [M, List.mem_cons, List.not_mem_nil, or_false] at hq
    rcases hq with rfl
    · exact absurd e (by decide))
  have b6 : Binds K fd6 ["one"] [] := FunD.bindsN F6 fun _ _ _ _ _ _ us hl => match us, hl with | [_], _ => rfl
  have t7 := st_law_floor t6 F6.fun_ g6 b6 (by
    intro q hq e
    simp only [M, List.mem_cons, List.not_mem_nil, or_false] at hq
    rcases hq with rfl
    · exact absurd e (by decide))
  have b7 : Binds K fd7 ["one", "two"] [] := FunD.bindsN F7 fun _ _ _ _ _ _ us hl => match us, hl with | [_, _], _ => rfl
  have t8 := st_law_over t7 F7.fun_ g7 b7 (by
    intro q hq e
    simp only [M, List.mem_cons, List.not_mem_nil, or_false] at hq
    rcases hq with rfl
    · exact absurd e (by decide))
  have b8 : Binds K fd8 ["one", "two"] [] := FunD.bindsN F8 fun _ _ _ _ _ _ us hl => match us, hl with | [_, _], _ => rfl
  have t9 := st_law_rest t8 F8.fun_ g8 b8 (by
    intro q hq e
    simp only [M, List.mem_cons, List.not_mem_nil, or_false] at hq
    rcases hq with rfl
    · exact absurd e (by decide))
  have b9 : Binds K fd9 ["some"] [] := FunD.bindsN F9 fun _ _ _ _ _ _ us hl => match us, hl with | [_], _ => rfl
  have t10 := st_law_measure t9 F9.fun_ g9 b9 (by
    intro q hq e
    simp only [M, List.mem_cons, List.not_mem_nil, or_false] at hq
    rcases hq with rfl
    · exact absurd e (by decide))
  have b10 : Binds K fd10 ["flashes"] [] := FunD.bindsN F10 fun _ _ _ _ _ _ us hl => match us, hl with | [_], _ => rfl
  have t11 := st_law_flash_measure t10 F10.fun_ g10 b10 (by
    intro q hq e
    simp only [M, List.mem_cons, List.not_mem_nil, or_false] at hq
    rcases hq with rfl
    · exact absurd e (by decide))
  have b11 : Binds K fd11 ["one", "two"] [] := FunD.bindsN F11 fun _ _ _ _ _ _ us hl => match us, hl with | [_, _], _ => rfl
  have t12 := st_law_tell_as_much t11 F11.fun_ g11 b11 (by
    intro q hq e
    simp only [M, List.mem_cons, List.not_mem_nil, or_false] at hq
    rcases hq with rfl
    · exact absurd e (by decide))
  have b12 : Binds K fd12 ["value", "low", "high"] [] := FunD.bindsN F12 fun _ _ _ _ _ _ us hl => match us, hl with | [_, _, _], _ => rfl
  have t13 := st_is_tuple_up_to t12 F12.fun_ g12 b12 (by
    intro q hq e
    simp only [M, List.mem_cons, List.not_mem_nil, or_false] at hq
    rcases hq with rfl
    · exact absurd e (by decide))
  have b13 : Binds K fd13 ["value", "many"] [] := FunD.bindsN F13 fun _ _ _ _ _ _ us hl => match us, hl with | [_, _], _ => rfl
  have t14 := st_is_tuple_of t13 F13.fun_ g13 b13 (by
    intro q hq e
    simp only [M, List.mem_cons, List.not_mem_nil, or_false] at hq
    rcases hq with rfl
    · exact absurd e (by decide))
  have b14 : Binds K fd14 ["value"] [] := FunD.bindsN F14 fun _ _ _ _ _ _ us hl => match us, hl with | [_], _ => rfl
  have t15 := st_is_pair t14 F14.fun_ g14 b14 (by
    intro q hq e
    simp only [M, List.mem_cons, List.not_mem_nil, or_false] at hq
    rcases hq with rfl
    · exact absurd e (by decide))
  have b15 : Binds K fd15 ["value"] [] := FunD.bindsN F15 fun _ _ _ _ _ _ us hl => match us, hl with | [_], _ => rfl
  have t16 := st_is_whole t15 F15.fun_ g15 b15 (by
    intro q hq e
    simp only [M, List.mem_cons, List.not_mem_nil, or_false] at hq
    rcases hq with rfl
    · exact absurd e (by decide))
  have b16 : Binds K fd16 ["value", "least"] [] := FunD.bindsN F16 fun _ _ _ _ _ _ us hl => match us, hl with | [_, _], _ => rfl
  have t17 := st_is_from t16 F16.fun_ g16 b16 (by
    intro q hq e
    simp only [M, List.mem_cons, List.not_mem_nil, or_false] at hq
    rcases hq with rfl
    · exact absurd e (by decide))
  have b17 : Binds K fd17 ["value"] [] := FunD.bindsN F17 fun _ _ _ _ _ _ us hl => match us, hl with | [_], _ => rfl
  have t18 := st_is_fraction_of t17 F17.fun_ g17 b17 (by
    intro q hq e
    simp only [M, List.mem_cons, List.not_mem_nil, or_false] at hq
    rcases hq with rfl
    · exact absurd e (by decide))
  have b18 : Binds K fd18 ["value"] [] := FunD.bindsN F18 fun _ _ _ _ _ _ us hl => match us, hl with | [_], _ => rfl
  have t19 := st_is_time_of t18 F18.fun_ g18 b18 (by
    intro q hq e
    simp only [M, List.mem_cons, List.not_mem_nil, or_false] at hq
    rcases hq with rfl
    · exact absurd e (by decide))
  have b19 : Binds K fd19 ["one", "other"] [] := FunD.bindsN F19 fun _ _ _ _ _ _ us hl => match us, hl with | [_, _], _ => rfl
  have t20 := st_is_less t19 F19.fun_ g19 b19 (by
    intro q hq e
    simp only [M, List.mem_cons, List.not_mem_nil, or_false] at hq
    rcases hq with rfl
    · exact absurd e (by decide))
  have b20 : Binds K fd20 ["value", "most"] [] := by
    obtain ⟨ds, hv, hb⟩ := FunD.binds1 F20 (ps := ["value", "most"]) 2 1 (by simp) rfl fun _ _ _ _ _ _ _ us its hu hi => match us, hu, its, hi with | [_, _], _, [_], _ => ⟨_, rfl, rfl⟩
    cases hv
    exact hb
  have d20 : ∃ ds, Vals [V.int 12] ds ∧ Binds K fd20 ["value", "most"] ds := FunD.binds1 F20 (ps := ["value", "most"]) 1 0 (by simp) rfl fun _ _ _ _ _ _ _ us its hu hi => match us, hu, its, hi with | [_], _, [_], _ => ⟨_, rfl, rfl⟩
  have t21 := st_wrong_in_flashes t20 F20 g20 b20 d20
  have b21 : Binds K fd21 ["flashes"] [] := FunD.bindsN F21 fun _ _ _ _ _ _ us hl => match us, hl with | [_], _ => rfl
  have t22 := st_check_flashes t21 F21.fun_ g21 b21 (by
    intro q hq e
    simp only [M, List.mem_cons, List.not_mem_nil, or_false] at hq
    rcases hq with rfl
    · exact absurd e (by decide))
  have b22 : Binds K fd22 ["fraction"] [] := FunD.bindsN F22 fun _ _ _ _ _ _ us hl => match us, hl with | [_], _ => rfl
  have t23 := st_is_whole_one t22 F22.fun_ g22 b22 (by
    intro q hq e
    simp only [M, List.mem_cons, List.not_mem_nil, or_false] at hq
    rcases hq with rfl
    · exact absurd e (by decide))
  have b23 : Binds K fd23 ["number", "divisor"] [] := FunD.bindsN F23 fun _ _ _ _ _ _ us hl => match us, hl with | [_, _], _ => rfl
  have t24 := st_plain_of t23 F23.fun_ g23 b23 (by
    intro q hq e
    simp only [M, List.mem_cons, List.not_mem_nil, or_false] at hq
    rcases hq with rfl
    · exact absurd e (by decide))
  have b24 : Binds K fd24 ["one", "other"] [] := FunD.bindsN F24 fun _ _ _ _ _ _ us hl => match us, hl with | [_, _], _ => rfl
  have t25 := st_over t24 F24.fun_ g24 b24 (by
    intro q hq e
    simp only [M, List.mem_cons, List.not_mem_nil, or_false] at hq
    rcases hq with rfl
    · exact absurd e (by decide))
  have b25 : Binds K fd25 ["fraction", "measure"] [] := FunD.bindsN F25 fun _ _ _ _ _ _ us hl => match us, hl with | [_, _], _ => rfl
  have t26 := st_is_multiple t25 F25.fun_ g25 b25 (by
    intro q hq e
    simp only [M, List.mem_cons, List.not_mem_nil, or_false] at hq
    rcases hq with rfl
    · exact absurd e (by decide))
  have b26 : Binds K fd26 ["one", "other"] [] := FunD.bindsN F26 fun _ _ _ _ _ _ us hl => match us, hl with | [_, _], _ => rfl
  have t27 := st_measure_of_two t26 F26.fun_ g26 b26 (by
    intro q hq e
    simp only [M, List.mem_cons, List.not_mem_nil, or_false] at hq
    rcases hq with rfl
    · exact absurd e (by decide))
  have b27 : Binds K fd27 ["fractions"] [] := FunD.bindsN F27 fun _ _ _ _ _ _ us hl => match us, hl with | [_], _ => rfl
  have t28 := st_measure_by t27 F27.fun_ g27 b27 (by
    intro q hq e
    simp only [M, List.mem_cons, List.not_mem_nil, or_false] at hq
    rcases hq with rfl
    · exact absurd e (by decide))
  have b28 : Binds K fd28 ["one", "other"] [] := FunD.bindsN F28 fun _ _ _ _ _ _ us hl => match us, hl with | [_, _], _ => rfl
  have t29 := st_plus t28 F28.fun_ g28 b28 (by
    intro q hq e
    simp only [M, List.mem_cons, List.not_mem_nil, or_false] at hq
    rcases hq with rfl
    · exact absurd e (by decide))
  have b29 : Binds K fd29 ["fraction"] [] := FunD.bindsN F29 fun _ _ _ _ _ _ us hl => match us, hl with | [_], _ => rfl
  have t30 := st_negative t29 F29.fun_ g29 b29 (by
    intro q hq e
    simp only [M, List.mem_cons, List.not_mem_nil, or_false] at hq
    rcases hq with rfl
    · exact absurd e (by decide))
  have b30 : Binds K fd30 ["one", "other"] [] := FunD.bindsN F30 fun _ _ _ _ _ _ us hl => match us, hl with | [_, _], _ => rfl
  have t31 := st_minus t30 F30.fun_ g30 b30 (by
    intro q hq e
    simp only [M, List.mem_cons, List.not_mem_nil, or_false] at hq
    rcases hq with rfl
    · exact absurd e (by decide))
  have b31 : Binds K fd31 ["flashes"] [] := FunD.bindsN F31 fun _ _ _ _ _ _ us hl => match us, hl with | [_], _ => rfl
  have t32 := st_flash_measure_by t31 F31.fun_ g31 b31 (by
    intro q hq e
    simp only [M, List.mem_cons, List.not_mem_nil, or_false] at hq
    rcases hq with rfl
    · exact absurd e (by decide))
  have b32 : Binds K fd32 ["flashes", "other"] [] := FunD.bindsN F32 fun _ _ _ _ _ _ us hl => match us, hl with | [_, _], _ => rfl
  have t33 := st_tell_as_much_by t32 F32.fun_ g32 b32 (by
    intro q hq e
    simp only [M, List.mem_cons, List.not_mem_nil, or_false] at hq
    rcases hq with rfl
    · exact absurd e (by decide))
  have b33 : Binds K fd33 ["flashes", "other"] [] := FunD.bindsN F33 fun _ _ _ _ _ _ us hl => match us, hl with | [_, _], _ => rfl
  have t34 := st_tell_as_much t33 F33.fun_ g33 b33 (by
    intro q hq e
    simp only [M, List.mem_cons, List.not_mem_nil, or_false] at hq
    rcases hq with rfl
    · exact F33.kw (fun _ _ _ _ _ _ us ws hl hm => match us, hl, ws, hm with | [], _, [_, _], _ => rfl) rfl (by decide))
  have b34 : Binds K fd34 ["one", "two"] [] := FunD.bindsN F34 fun _ _ _ _ _ _ us hl => match us, hl with | [_, _], _ => rfl
  have t35 := st_law_plus t34 F34.fun_ g34 b34 (by
    intro q hq e
    simp only [M, List.mem_cons, List.not_mem_nil, or_false] at hq
    rcases hq with rfl
    · exact absurd e (by decide))
  have b35 : Binds K fd35 ["told", "due"] [] := FunD.bindsN F35 fun _ _ _ _ _ _ us hl => match us, hl with | [_, _], _ => rfl
  have t36 := st_law_same_0 t35 F35.fun_ g35 b35 (by
    intro q hq e
    simp only [M, List.mem_cons, List.not_mem_nil, or_false] at hq
    rcases hq with rfl
    · exact absurd e (by decide))
  have t37 := st_law_same_1 t36 F35.fun_ g35 b35 (by
    intro q hq e
    simp only [M, List.mem_cons, List.not_mem_nil, or_false] at hq
    rcases hq with rfl
    · exact absurd e (by decide))
  have t38 := st_law_same_2 t37 F35.fun_ g35 b35 (by
    intro q hq e
    simp only [M, List.mem_cons, List.not_mem_nil, or_false] at hq
    rcases hq with rfl
    · exact absurd e (by decide))
  have b36 : Binds K fd36 ["well"] [] := FunD.bindsN F36 fun _ _ _ _ _ _ us hl => match us, hl with | [_], _ => rfl
  have t39 := st_law_order t38 F36.fun_ g36 b36 (by
    intro q hq e
    simp only [M, List.mem_cons, List.not_mem_nil, or_false] at hq
    rcases hq with rfl
    · exact absurd e (by decide))
  have b37 : Binds K fd37 ["well"] [] := FunD.bindsN F37 fun _ _ _ _ _ _ us hl => match us, hl with | [_], _ => rfl
  have t40 := st_law_fraction t39 F37.fun_ g37 b37 (by
    intro q hq e
    simp only [M, List.mem_cons, List.not_mem_nil, or_false] at hq
    rcases hq with rfl
    · exact absurd e (by decide))
  have b38 : Binds K fd38 ["order", "flashes"] [] := FunD.bindsN F38 fun _ _ _ _ _ _ us hl => match us, hl with | [_, _], _ => rfl
  have t41 := st_law_step t40 F38.fun_ g38 b38 (by
    intro q hq e
    simp only [M, List.mem_cons, List.not_mem_nil, or_false] at hq
    rcases hq with rfl
    · exact absurd e (by decide))
  have b39 : Binds K fd39 ["value", "low", "high"] [] := FunD.bindsN F39 fun _ _ _ _ _ _ us hl => match us, hl with | [_, _, _], _ => rfl
  have t42 := st_is_between t41 F39.fun_ g39 b39 (by
    intro q hq e
    simp only [M, List.mem_cons, List.not_mem_nil, or_false] at hq
    rcases hq with rfl
    · exact absurd e (by decide))
  have b40 : Binds K fd40 ["value"] [] := FunD.bindsN F40 fun _ _ _ _ _ _ us hl => match us, hl with | [_], _ => rfl
  have t43 := st_is_order_of t42 F40.fun_ g40 b40 (by
    intro q hq e
    simp only [M, List.mem_cons, List.not_mem_nil, or_false] at hq
    rcases hq with rfl
    · exact absurd e (by decide))
  have b41 : Binds K fd41 ["order"] [] := FunD.bindsN F41 fun _ _ _ _ _ _ us hl => match us, hl with | [_], _ => rfl
  have t44 := st_check_order t43 F41.fun_ g41 b41 (by
    intro q hq e
    simp only [M, List.mem_cons, List.not_mem_nil, or_false] at hq
    rcases hq with rfl
    · exact absurd e (by decide))
  have b42 : Binds K fd42 ["order", "flashes"] [] := FunD.bindsN F42 fun _ _ _ _ _ _ us hl => match us, hl with | [_, _], _ => rfl
  have t45 := st_check_lit t44 F42.fun_ g42 b42 (by
    intro q hq e
    simp only [M, List.mem_cons, List.not_mem_nil, or_false] at hq
    rcases hq with rfl
    · exact absurd e (by decide))
  have b43 : Binds K fd43 ["value"] [] := FunD.bindsN F43 fun _ _ _ _ _ _ us hl => match us, hl with | [_], _ => rfl
  have t46 := st_check_fraction t45 F43.fun_ g43 b43 (by
    intro q hq e
    simp only [M, List.mem_cons, List.not_mem_nil, or_false] at hq
    rcases hq with rfl
    · exact absurd e (by decide))
  have b44 : Binds K fd44 ["one", "other"] [] := FunD.bindsN F44 fun _ _ _ _ _ _ us hl => match us, hl with | [_, _], _ => rfl
  have t47 := st_times t46 F44.fun_ g44 b44 (by
    intro q hq e
    simp only [M, List.mem_cons, List.not_mem_nil, or_false] at hq
    rcases hq with rfl
    · exact absurd e (by decide))
  have b45 : Binds K fd45 ["number"] [] := FunD.bindsN F45 fun _ _ _ _ _ _ us hl => match us, hl with | [_], _ => rfl
  have t48 := st_whole t47 F45.fun_ g45 b45 (by
    intro q hq e
    simp only [M, List.mem_cons, List.not_mem_nil, or_false] at hq
    rcases hq with rfl
    · exact absurd e (by decide))
  have b46 : Binds K fd46 ["order", "flashes"] [] := FunD.bindsN F46 fun _ _ _ _ _ _ us hl => match us, hl with | [_, _], _ => rfl
  have t49 := st_rate_step_by t48 F46.fun_ g46 b46 (by
    intro q hq e
    simp only [M, List.mem_cons, List.not_mem_nil, or_false] at hq
    rcases hq with rfl
    · exact absurd e (by decide))
  have b47 : Binds K fd47 ["order", "flashes", "rate", "other"] [] := FunD.bindsN F47 fun _ _ _ _ _ _ us hl => match us, hl with | [_, _, _, _], _ => rfl
  have t50 := st_are_alike_by t49 F47.fun_ g47 b47 (by
    intro q hq e
    simp only [M, List.mem_cons, List.not_mem_nil, or_false] at hq
    rcases hq with rfl
    · exact absurd e (by decide))
  have b48 : Binds K fd48 ["order", "flashes", "rate", "other"] [] := FunD.bindsN F48 fun _ _ _ _ _ _ us hl => match us, hl with | [_, _, _, _], _ => rfl
  have t51 := st_are_alike t50 F48.fun_ g48 b48 (by
    intro q hq e
    simp only [M, List.mem_cons, List.not_mem_nil, or_false] at hq
    rcases hq with rfl
    · exact absurd e (by decide))
  have b49 : Binds K fd49 ["flashes"] [] := FunD.bindsN F49 fun _ _ _ _ _ _ us hl => match us, hl with | [_], _ => rfl
  have t52 := st_flash_measure t51 F49.fun_ g49 b49 (by
    intro q hq e
    simp only [M, List.mem_cons, List.not_mem_nil, or_false] at hq
    rcases hq with rfl
    · exact absurd e (by decide))
  have b50 : Binds K fd50 ["well", "one", "two"] [] := FunD.bindsN F50 fun _ _ _ _ _ _ us hl => match us, hl with | [_, _, _], _ => rfl
  have t53 := st_law_is_told t52 F50.fun_ g50 b50 (by
    intro q hq e
    simp only [M, List.mem_cons, List.not_mem_nil, or_false] at hq
    rcases hq with rfl
    · exact absurd e (by decide))
  have b51 : Binds K fd51 ["well"] [] := FunD.bindsN F51 fun _ _ _ _ _ _ us hl => match us, hl with | [_], _ => rfl
  have t54 := st_law_right t53 F51.fun_ g51 b51 (by
    intro q hq e
    simp only [M, List.mem_cons, List.not_mem_nil, or_false] at hq
    rcases hq with rfl
    · exact absurd e (by decide))
  have b52 : Binds K fd52 ["script", "lap"] [] := FunD.bindsN F52 fun _ _ _ _ _ _ us hl => match us, hl with | [_, _], _ => rfl
  have t55 := st_law_well t54 F52.fun_ g52 b52 (by
    intro q hq e
    simp only [M, List.mem_cons, List.not_mem_nil, or_false] at hq
    rcases hq with rfl
    · exact absurd e (by decide))
  exact st_law t55 F53.fun_
end K31
open PySem PySem.W PySem.Calls PyProof.Rows in
set_option maxRecDepth 100000 in
set_option maxHeartbeats 0 in
theorem PySem.Challenge.cw_flashwheels_k31_whole_telling_as_much_holds : PySem.Challenge.rw_flashwheels_k31_whole_telling_as_much.Holds := by
  w_on; o_law
  refine HandSHeadRun.head_imp (r := OpenLaw.row PySem.Challenge.rw_flashwheels_k31_whole_telling_as_much) (q := view (OpenLaw.row PySem.Challenge.rw_flashwheels_k31_whole_telling_as_much).prog [0, 71]) (H := Fw.hookE 4 K31.faL K31.fnL K31.exB) (ob := Fw.obE 4 K31.faL K31.fnL K31.exB) (M := 6000) (loose := K31.looseL) (d := HandSHeadRun.topDef (OpenLaw.row PySem.Challenge.rw_flashwheels_k31_whole_telling_as_much).prog 71) (kwd := []) Fw.obE_eq
    K31.run (by kernel_rfl) (by kernel_rfl) (by kernel_rfl) (by rfl) (by first | assumption | decide +kernel) (by decide +kernel) ⟨rfl, rfl, rfl, rfl, rfl, by decide +kernel⟩ ?hw ?hc
  case hw => w_witness2
  case hc =>
    exact Fw.walkE (k := 56) (l := PySem.Challenge.rw_flashwheels_k31_whole_telling_as_much) rfl (by kernel_rfl) ⟨rfl, by decide, by decide⟩ (by kernel_rfl) fun w K mg f h KX G hmg cx c => K31.facts KX G hmg cx c
#print axioms PySem.Challenge.cw_flashwheels_k31_whole_telling_as_much_holds
