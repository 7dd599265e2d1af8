import PyProof.Rows.All
import Wide.All
import OpenK.AllK
import Wide.FinOn
import KE.KStateDown
import Lean
import HandS.Base
import HandS.Call
import HandS.Ends
import HandS.More
import HandS.Words
import HandS.WordsExc
import HandS.Defaults
import HandS.Head0
import HandS.Head1
import HandS.Head2
import HandS.HeadEnd
import HandS.HeadHook1
import HandS.HeadHook2
import HandS.List
import HandS.Comp
import HandS.Dict
import HandS.Iter
import HandS.Text
import HandS.WordsList
import HandS.WordsDict
import HandS.Deep
import HandS.Conv
import HandS.Style
import HandS.TupAny
import HandS.IsInst
import HandS.Strs
import HandS.SortInts
import HandS.Wide
import HandS.Zip
import HandS.CallLocal
import KE.GoesEnum
import KE.KDictPairs
import KE.KDictDisplayH
import KE.GoesSet
import KE.SortKeyHeap
import HandS.WideMore
import HandS.SortKw
import KE.KSortKey
import HandS.Set
import HandS.SetBool
import PyProof.GenQ
import HandS.GenOver
import HandS.GenCall
import HandS.GenList
import HandS.ExcOwn
import HandS.ExcValue
import HandS.MakeKwOnly
import PySem.Challenge.RW_eitheronce_k26_whole_one_example_for_all
set_option Elab.async false
set_option linter.all false
set_option maxRecDepth 100000
set_option maxHeartbeats 0
namespace K26
open PySem PySem.Spec PyProof.Rows L2
def top (i : Nat) : Stmt := PySem.Challenge.pw_eitheronce_k26_whole_one_example_for_all.main.body.getD i (.Pass ⟨0, 0, 0, 0⟩)
abbrev s_is_integer : Stmt := top 13
abbrev s_is_below : Stmt := top 14
abbrev s_is_text : Stmt := top 15
abbrev s_is_sequence : Stmt := top 16
abbrev s_is_name : Stmt := top 17
abbrev s_read_number : Stmt := top 18
abbrev s_first_stranger : Stmt := top 20
abbrev s_need_names : Stmt := top 21
abbrev s_is_deed : Stmt := top 23
abbrev s_effect_then : Stmt := top 25
abbrev s_power_by : Stmt := top 26
abbrev s_made_by : Stmt := top 27
abbrev s_row_effect : Stmt := top 28
abbrev s_exchange_states : Stmt := top 29
abbrev s_all_effects : Stmt := top 32
abbrev s_lot_key : Stmt := top 35
abbrev s_lot_within : Stmt := top 36
abbrev s_lots_below : Stmt := top 37
abbrev s_states_without : Stmt := top 38
abbrev s_shared_states : Stmt := top 39
abbrev s_least_pairs : Stmt := top 40
abbrev s_lot_rows : Stmt := top 41
abbrev s_exchange_lots : Stmt := top 42
abbrev s_apart_counts : Stmt := top 43
abbrev s_least_lie : Stmt := top 44
abbrev s_is_honest : Stmt := top 45
abbrev s_meet_of : Stmt := top 47
abbrev s_vouched_states : Stmt := top 48
abbrev s_against_vouching : Stmt := top 49
abbrev s_vouched_lots : Stmt := top 50
abbrev s_vouch_grouping : Stmt := top 51
abbrev s_any_examples : Stmt := top 52
abbrev s_law_deal : Stmt := top 54
abbrev s_law_any : Stmt := top 55
abbrev s_law_of : Stmt := top 56
abbrev s_law_name : Stmt := top 57
abbrev s_law_turn : Stmt := top 58
abbrev s_law_images : Stmt := top 59
abbrev s_law_then : Stmt := top 60
abbrev s_law_effects : Stmt := top 61
abbrev s_law_shapes : Stmt := top 62
abbrev s_law_drawn : Stmt := top 63
abbrev s_law_joins_all : Stmt := top 64
abbrev s_law_unbreakable : Stmt := top 65
abbrev s_law_row : Stmt := top 66
abbrev s_law_effect : Stmt := top 67
abbrev s_law_undoing : Stmt := top 68
abbrev s_law_meets : Stmt := top 69
abbrev s_law_right : Stmt := top 70
abbrev s_law : Stmt := top 71
abbrev s_init : Stmt := inClass (top 24) 0
def d_is_integer : He.DefD := ⟨("is_integer", none), "is_integer", "is_integer", defArgs s_is_integer, defBody s_is_integer, defScope s_is_integer, [], []⟩
def d_is_below : He.DefD := ⟨("is_below", none), "is_below", "is_below", defArgs s_is_below, defBody s_is_below, defScope s_is_below, [], []⟩
def d_is_text : He.DefD := ⟨("is_text", none), "is_text", "is_text", defArgs s_is_text, defBody s_is_text, defScope s_is_text, [], []⟩
def d_is_sequence : He.DefD := ⟨("is_sequence", none), "is_sequence", "is_sequence", defArgs s_is_sequence, defBody s_is_sequence, defScope s_is_sequence, [], []⟩
def d_is_name : He.DefD := ⟨("is_name", none), "is_name", "is_name", defArgs s_is_name, defBody s_is_name, defScope s_is_name, [], []⟩
def d_read_number : He.DefD := ⟨("read_number", none), "read_number", "read_number", defArgs s_read_number, defBody s_read_number, defScope s_read_number, [], []⟩
def d_first_stranger : He.DefD := ⟨("first_stranger", none), "first_stranger", "first_stranger", defArgs s_first_stranger, defBody s_first_stranger, defScope s_first_stranger, [], []⟩
def d_need_names : He.DefD := ⟨("need_names", none), "need_names", "need_names", defArgs s_need_names, defBody s_need_names, defScope s_need_names, [], []⟩
def d_is_deed : He.DefD := ⟨("is_deed", none), "is_deed", "is_deed", defArgs s_is_deed, defBody s_is_deed, defScope s_is_deed, [], []⟩
def d_effect_then : He.DefD := ⟨("effect_then", none), "effect_then", "effect_then", defArgs s_effect_then, defBody s_effect_then, defScope s_effect_then, [], []⟩
def d_power_by : He.DefD := ⟨("power_by", none), "power_by", "power_by", defArgs s_power_by, defBody s_power_by, defScope s_power_by, [], []⟩
def d_made_by : He.DefD := ⟨("made_by", none), "made_by", "made_by", defArgs s_made_by, defBody s_made_by, defScope s_made_by, [], []⟩
def d_row_effect : He.DefD := ⟨("row_effect", none), "row_effect", "row_effect", defArgs s_row_effect, defBody s_row_effect, defScope s_row_effect, [], []⟩
def d_exchange_states : He.DefD := ⟨("exchange_states", none), "exchange_states", "exchange_states", defArgs s_exchange_states, defBody s_exchange_states, defScope s_exchange_states, [], []⟩
def d_all_effects : He.DefD := ⟨("all_effects", none), "all_effects", "all_effects", defArgs s_all_effects, defBody s_all_effects, defScope s_all_effects, [], [("most", .int 1500)]⟩
def d_lot_key : He.DefD := ⟨("lot_key", none), "lot_key", "lot_key", defArgs s_lot_key, defBody s_lot_key, defScope s_lot_key, [], []⟩
def d_lot_within : He.DefD := ⟨("lot_within", none), "lot_within", "lot_within", defArgs s_lot_within, defBody s_lot_within, defScope s_lot_within, [], []⟩
def d_lots_below : He.DefD := ⟨("lots_below", none), "lots_below", "lots_below", defArgs s_lots_below, defBody s_lots_below, defScope s_lots_below, [], []⟩
def d_states_without : He.DefD := ⟨("states_without", none), "states_without", "states_without", defArgs s_states_without, defBody s_states_without, defScope s_states_without, [], []⟩
def d_shared_states : He.DefD := ⟨("shared_states", none), "shared_states", "shared_states", defArgs s_shared_states, defBody s_shared_states, defScope s_shared_states, [], []⟩
def d_least_pairs : He.DefD := ⟨("least_pairs", none), "least_pairs", "least_pairs", defArgs s_least_pairs, defBody s_least_pairs, defScope s_least_pairs, [], []⟩
def d_lot_rows : He.DefD := ⟨("lot_rows", none), "lot_rows", "lot_rows", defArgs s_lot_rows, defBody s_lot_rows, defScope s_lot_rows, [], []⟩
def d_exchange_lots : He.DefD := ⟨("exchange_lots", none), "exchange_lots", "exchange_lots", defArgs s_exchange_lots, defBody s_exchange_lots, defScope s_exchange_lots, [], [("most", .int 400)]⟩
def d_apart_counts : He.DefD := ⟨("apart_counts", none), "apart_counts", "apart_counts", defArgs s_apart_counts, defBody s_apart_counts, defScope s_apart_counts, [], [("most", .int 400)]⟩
def d_least_lie : He.DefD := ⟨("least_lie", none), "least_lie", "least_lie", defArgs s_least_lie, defBody s_least_lie, defScope s_least_lie, [], [("most", .int 400)]⟩
def d_is_honest : He.DefD := ⟨("is_honest", none), "is_honest", "is_honest", defArgs s_is_honest, defBody s_is_honest, defScope s_is_honest, [], [("most", .int 400)]⟩
def d_meet_of : He.DefD := ⟨("meet_of", none), "meet_of", "meet_of", defArgs s_meet_of, defBody s_meet_of, defScope s_meet_of, [], []⟩
def d_vouched_states : He.DefD := ⟨("vouched_states", none), "vouched_states", "vouched_states", defArgs s_vouched_states, defBody s_vouched_states, defScope s_vouched_states, [], [("most", .int 400)]⟩
def d_against_vouching : He.DefD := ⟨("against_vouching", none), "against_vouching", "against_vouching", defArgs s_against_vouching, defBody s_against_vouching, defScope s_against_vouching, [], [("most", .int 400)]⟩
def d_vouched_lots : He.DefD := ⟨("vouched_lots", none), "vouched_lots", "vouched_lots", defArgs s_vouched_lots, defBody s_vouched_lots, defScope s_vouched_lots, [], [("most", .int 400)]⟩
def d_vouch_grouping : He.DefD := ⟨("vouch_grouping", none), "vouch_grouping", "vouch_grouping", defArgs s_vouch_grouping, defBody s_vouch_grouping, defScope s_vouch_grouping, [], [("most", .int 400)]⟩
def d_any_examples : He.DefD := ⟨("any_examples", none), "any_examples", "any_examples", defArgs s_any_examples, defBody s_any_examples, defScope s_any_examples, [], [("most", .int 400)]⟩
def d_law_deal : He.DefD := ⟨("_law_deal", none), "_law_deal", "_law_deal", defArgs s_law_deal, defBody s_law_deal, defScope s_law_deal, [], []⟩
def d_law_any : He.DefD := ⟨("_law_any", none), "_law_any", "_law_any", defArgs s_law_any, defBody s_law_any, defScope s_law_any, [], []⟩
def d_law_of : He.DefD := ⟨("_law_of", none), "_law_of", "_law_of", defArgs s_law_of, defBody s_law_of, defScope s_law_of, [], []⟩
def d_law_name : He.DefD := ⟨("_law_name", none), "_law_name", "_law_name", defArgs s_law_name, defBody s_law_name, defScope s_law_name, [], []⟩
def d_law_turn : He.DefD := ⟨("_law_turn", none), "_law_turn", "_law_turn", defArgs s_law_turn, defBody s_law_turn, defScope s_law_turn, [], []⟩
def d_law_images : He.DefD := ⟨("_law_images", none), "_law_images", "_law_images", defArgs s_law_images, defBody s_law_images, defScope s_law_images, [], []⟩
def d_law_then : He.DefD := ⟨("_law_then", none), "_law_then", "_law_then", defArgs s_law_then, defBody s_law_then, defScope s_law_then, [], []⟩
def d_law_effects : He.DefD := ⟨("_law_effects", none), "_law_effects", "_law_effects", defArgs s_law_effects, defBody s_law_effects, defScope s_law_effects, [], []⟩
def d_law_shapes : He.DefD := ⟨("_law_shapes", none), "_law_shapes", "_law_shapes", defArgs s_law_shapes, defBody s_law_shapes, defScope s_law_shapes, [], []⟩
def d_law_drawn : He.DefD := ⟨("_law_drawn", none), "_law_drawn", "_law_drawn", defArgs s_law_drawn, defBody s_law_drawn, defScope s_law_drawn, [], []⟩
def d_law_joins_all : He.DefD := ⟨("_law_joins_all", none), "_law_joins_all", "_law_joins_all", defArgs s_law_joins_all, defBody s_law_joins_all, defScope s_law_joins_all, [], []⟩
def d_law_unbreakable : He.DefD := ⟨("_law_unbreakable", none), "_law_unbreakable", "_law_unbreakable", defArgs s_law_unbreakable, defBody s_law_unbreakable, defScope s_law_unbreakable, [], []⟩
def d_law_row : He.DefD := ⟨("_law_row", none), "_law_row", "_law_row", defArgs s_law_row, defBody s_law_row, defScope s_law_row, [], []⟩
def d_law_effect : He.DefD := ⟨("_law_effect", none), "_law_effect", "_law_effect", defArgs s_law_effect, defBody s_law_effect, defScope s_law_effect, [], []⟩
def d_law_undoing : He.DefD := ⟨("_law_undoing", none), "_law_undoing", "_law_undoing", defArgs s_law_undoing, defBody s_law_undoing, defScope s_law_undoing, [], []⟩
def d_law_meets : He.DefD := ⟨("_law_meets", none), "_law_meets", "_law_meets", defArgs s_law_meets, defBody s_law_meets, defScope s_law_meets, [], []⟩
def d_law_right : He.DefD := ⟨("_law_right", none), "_law_right", "_law_right", defArgs s_law_right, defBody s_law_right, defScope s_law_right, [], []⟩
def d_law : He.DefD := ⟨("law", none), "law", "law", defArgs s_law, defBody s_law, defScope s_law, [], []⟩
def d_init : He.DefD := ⟨("Machine", some "__init__"), "__init__", "Machine.__init__", defArgs s_init, defBody s_init, defScope s_init, [], []⟩
def fn0 : List He.DefD := [d_is_integer, d_is_below, d_is_text, d_is_sequence, d_is_name, d_first_stranger, d_need_names, d_is_deed, d_effect_then, d_power_by, d_made_by, d_row_effect, d_exchange_states, d_all_effects, d_lot_key, d_lot_within, d_lots_below, d_states_without, d_shared_states, d_least_pairs]
def fn1 : List He.DefD := [d_lot_rows, d_exchange_lots, d_apart_counts, d_least_lie, d_is_honest, d_meet_of, d_vouched_states, d_against_vouching, d_vouched_lots, d_vouch_grouping, d_any_examples, d_law_deal, d_law_any, d_law_of, d_law_name, d_law_turn, d_law_images, d_law_then, d_law_effects, d_law_shapes]
def fn2 : List He.DefD := [d_law_drawn, d_law_joins_all, d_law_unbreakable, d_law_row, d_law_effect, d_law_undoing, d_law_meets, d_law_right, d_law, d_init]
def fn : List He.DefD := fn0 ++ fn1 ++ fn2
def fa0 : List He.Fa := [.glo "is_integer", .glo "is_below", .glo "is_text", .glo "is_sequence", .glo "is_name", .glo "first_stranger", .glo "need_names", .glo "is_deed", .glo "effect_then", .glo "power_by", .glo "made_by", .glo "row_effect", .glo "exchange_states", .glo "all_effects", .glo "lot_key", .glo "lot_within", .glo "lots_below", .glo "states_without", .glo "shared_states", .glo "least_pairs"]
def fa1 : List He.Fa := [.glo "lot_rows", .glo "exchange_lots", .glo "apart_counts", .glo "least_lie", .glo "is_honest", .glo "meet_of", .glo "vouched_states", .glo "against_vouching", .glo "vouched_lots", .glo "vouch_grouping", .glo "any_examples", .glo "_law_deal", .glo "_law_any", .glo "_law_of", .glo "_law_name", .glo "_law_turn", .glo "_law_images", .glo "_law_then", .glo "_law_effects", .glo "_law_shapes"]
def fa2 : List He.Fa := [.glo "_law_drawn", .glo "_law_joins_all", .glo "_law_unbreakable", .glo "_law_row", .glo "_law_effect", .glo "_law_undoing", .glo "_law_meets", .glo "_law_right", .glo "law", .glo "Machine", .free "isinstance", .free "int", .free "bool", .free "str", .free "list", .free "tuple", .free "len", .free "all", .free "any", .free "enumerate"]
def fa3 : List He.Fa := [.free "dict", .free "range", .free "sorted", .free "zip", .free "abs", .free "min", .free "max", .int "LONGEST" 8, .int "MOST_STATES" 49, .int "MOST_DEEDS" 8, .str "LETTERS" "abcdefghijklmnopqrstuvwxyz", .cls "Machine", .mkr "Machine", .noat "Machine" "deeds", .noat "Machine" "names", .noat "Machine" "size"]
def fa : List He.Fa := fa0 ++ fa1 ++ fa2 ++ fa3
def loose0 : List Str := ["OnceError", "InvalidMachine", "InvalidText", "InvalidSize", "NoName", "LETTERS", "FIGURES", "LONGEST", "MOST_STATES", "MOST_DEEDS", "MOST_FIGURES", "is_integer", "is_below", "is_text", "is_sequence", "is_name", "read_number", "first_stranger", "need_names", "is_deed"]
def loose1 : List Str := ["Machine", "effect_then", "power_by", "made_by", "row_effect", "exchange_states", "MOST_EFFECTS", "all_effects", "MOST_PAIRED", "lot_key", "lot_within", "lots_below", "states_without", "shared_states", "least_pairs", "lot_rows", "exchange_lots", "apart_counts", "least_lie", "is_honest"]
def loose2 : List Str := ["meet_of", "vouched_states", "against_vouching", "vouched_lots", "vouch_grouping", "any_examples", "_law_deal", "_law_any", "_law_of", "_law_name", "_law_turn", "_law_images", "_law_then", "_law_effects", "_law_shapes", "_law_drawn", "_law_joins_all", "_law_unbreakable", "_law_row", "_law_effect"]
def loose3 : List Str := ["_law_undoing", "_law_meets", "_law_right"]
def loose : List Str := loose0 ++ loose1 ++ loose2 ++ loose3
abbrev R : PySem.W.OpenRow := PySem.W.OpenLaw.row PySem.Challenge.rw_eitheronce_k26_whole_one_example_for_all
abbrev hk : PySem.W.Hook := He.hookD 5 fa fn
def ob (s : PySem.W.SharedT) : He.AlD := He.obsDG 5 fa fn (HandSHeadRun.getT s)
theorem ob_eq (s : PySem.W.SharedT) : ob s = hk.obs s.abs := He.obsDG_eq (HandSHeadRun.getT_eq s)
end K26
namespace K26
open PySem PySem.Spec PyProof.Rows L2
theorem run (w : World) : HandSHeadRun.RunEq R (PySem.W.view R.prog [71]) hk ob 20000 loose w := by
  intro os
  kernel_rfl
end K26
/-! what a value stands for (tuples of tuples of numbers and texts), and what an expression evaluates to. -/
namespace B
open PySem L2
/-! ### data -/
abbrev TL := Addr → List V → Prop
def tp (H : Hp) : TL := fun a vs => H a = some (.tup vs)
class Enc (α : Type) where
  rep : TL → V → α → Prop
  mono : ∀ {T T' : TL} {v : V} {x : α}, (∀ a vs, T a vs → T' a vs) → rep T v x → rep T' v x
instance : Enc Nat := ⟨fun _ v n => v = .int n, fun _ h => h⟩
instance : Enc Int := ⟨fun _ v n => v = .int n, fun _ h => h⟩
instance : Enc Bool := ⟨fun _ v b => v = .bl b, fun _ h => h⟩
instance : Enc Str := ⟨fun _ v x => v = .str x, fun _ h => h⟩
instance : Enc Unit := ⟨fun _ v _ => v = .non, fun _ h => h⟩
/-- a value as it is -/
structure Raw where
  v : V
instance : Enc Raw := ⟨fun _ v r => v = r.v, fun _ h => h⟩
section
variable {α β : Type} [Enc α] [Enc β]
def RepA (T : TL) : List V → List α → Prop
  | [], [] => True
  | v :: vs, x :: xs => Enc.rep T v x ∧ RepA T vs xs
  | _, _ => False
theorem RepA.mono {T T' : TL} (h : ∀ a vs, T a vs → T' a vs) : ∀ {vs : List V} {xs : List α}, RepA T vs xs → RepA T' vs xs
  | [], [], _ => trivial
  | _ :: _, _ :: _, ⟨r, s⟩ => ⟨Enc.mono h r, RepA.mono h s⟩
  | [], _ :: _, z => z.elim
  | _ :: _, [], z => z.elim
theorem RepA.length {T : TL} : ∀ {vs : List V} {xs : List α}, RepA T vs xs → vs.length = xs.length
  | [], [], _ => rfl
  | _ :: _, _ :: _, ⟨_, s⟩ => congrArg Nat.succ (RepA.length s)
  | [], _ :: _, z => z.elim
  | _ :: _, [], z => z.elim
theorem RepA.append {T : TL} : ∀ {vs : List V} {xs : List α} {ws : List V} {ys : List α}, RepA T vs xs → RepA T ws ys → RepA T (vs ++ ws) (xs ++ ys)
  | [], [], _, _, _, h => h
  | _ :: _, _ :: _, _, _, ⟨r, s⟩, h => ⟨r, RepA.append s h⟩
  | [], _ :: _, _, _, z, _ => z.elim
  | _ :: _, [], _, _, z, _ => z.elim
theorem RepA.snoc {T : TL} {vs : List V} {xs : List α} {v : V} {x : α} (h : RepA T vs xs) (r : Enc.rep T v x) : RepA T (vs ++ [v]) (xs ++ [x]) := h.append ⟨r, trivial⟩
theorem RepA.get {T : TL} : ∀ {vs : List V} {xs : List α} {i : Nat} {x : α}, RepA T vs xs → xs[i]? = some x → ∃ v, vs[i]? = some v ∧ Enc.rep T v x
  | _ :: _, _ :: _, 0, _, ⟨r, _⟩, e => by cases e; exact ⟨_, rfl, r⟩
  | _ :: vs, _ :: xs, i + 1, x, ⟨_, s⟩, e => RepA.get (vs := vs) (xs := xs) (i := i) s e
  | [], [], _, _, _, e => by cases e
  | [], _ :: _, _, _, z, _ => z.elim
  | _ :: _, [], _, _, z, _ => z.elim
theorem RepA.got {T : TL} : ∀ {vs : List V} {xs : List α} {i : Nat} {v : V}, RepA T vs xs → vs[i]? = some v → ∃ x, xs[i]? = some x ∧ Enc.rep T v x
  | _ :: _, _ :: _, 0, _, ⟨r, _⟩, e => by cases e; exact ⟨_, rfl, r⟩
  | _ :: vs, _ :: xs, i + 1, x, ⟨_, s⟩, e => RepA.got (vs := vs) (xs := xs) (i := i) s e
  | [], [], _, _, _, e => by cases e
  | [], _ :: _, _, _, z, _ => z.elim
  | _ :: _, [], _, _, z, _ => z.elim
theorem RepA.dropLast {T : TL} : ∀ {vs : List V} {xs : List α}, RepA T vs xs → RepA T vs.dropLast xs.dropLast
  | [], [], _ => trivial
  | [_], [_], _ => trivial
  | [_], _ :: _ :: _, ⟨_, z⟩ => z.elim
  | _ :: _ :: _, [_], ⟨_, z⟩ => z.elim
  | _ :: v :: vs, _ :: x :: xs, ⟨r, s⟩ => ⟨r, RepA.dropLast (vs := v :: vs) (xs := x :: xs) s⟩
  | [], _ :: _, z => z.elim
  | _ :: _, [], z => z.elim
theorem RepA.set {T : TL} {v : V} {x : α} (r : Enc.rep T v x) : ∀ {vs : List V} {xs : List α} {i : Nat}, RepA T vs xs → RepA T (vs.set i v) (xs.set i x)
  | [], [], _, _ => trivial
  | _ :: _, _ :: _, 0, ⟨_, s⟩ => ⟨r, s⟩
  | _ :: _, _ :: _, i + 1, ⟨q, s⟩ => ⟨q, RepA.set r s⟩
  | [], _ :: _, _, z => z.elim
  | _ :: _, [], _, z => z.elim
theorem RepA.eraseIdx {T : TL} : ∀ {vs : List V} {xs : List α} {i : Nat}, RepA T vs xs → RepA T (vs.eraseIdx i) (xs.eraseIdx i)
  | [], [], _, _ => trivial
  | _ :: _, _ :: _, 0, ⟨_, s⟩ => s
  | _ :: _, _ :: _, i + 1, ⟨q, s⟩ => ⟨q, RepA.eraseIdx s⟩
  | [], _ :: _, _, z => z.elim
  | _ :: _, [], _, z => z.elim
/-- a tuple of things of one kind -/
instance : Enc (List α) := ⟨fun T v xs => ∃ a vs, v = .ref a ∧ T a vs ∧ RepA T vs xs, fun h ⟨a, vs, e, t, r⟩ => ⟨a, vs, e, h _ _ t, r.mono h⟩⟩
/-- a tuple of two -/
instance : Enc (α × β) := ⟨fun T v p => ∃ a x y, v = .ref a ∧ T a [x, y] ∧ Enc.rep T x p.1 ∧ Enc.rep T y p.2, fun h ⟨a, x, y, e, t, r, s⟩ => ⟨a, x, y, e, h _ _ t, Enc.mono h r, Enc.mono h s⟩⟩
theorem RepA.ints {T : TL} {xs : List Nat} : ∀ {vs : List V}, RepA T vs xs ↔ vs = xs.map fun (n : Nat) => V.int n := by
  intro vs
  induction xs generalizing vs with
  | nil => cases vs with
    | nil => exact ⟨fun _ => rfl, fun _ => trivial⟩
    | cons v vs => exact ⟨fun z => z.elim, fun z => by cases z⟩
  | cons x xs ih => cases vs with
    | nil => exact ⟨fun z => z.elim, fun z => by cases z⟩
    | cons v vs =>
      refine ⟨fun ⟨r, s⟩ => ?_, fun z => ?_⟩
      · have r : v = .int x := r
        rw [r, ih.mp s]; rfl
      · injection z with z1 z2
        exact ⟨z1, ih.mpr z2⟩
theorem RepA.strs {T : TL} {xs : List Str} : ∀ {vs : List V}, RepA T vs xs ↔ vs = xs.map V.str := by
  intro vs
  induction xs generalizing vs with
  | nil => cases vs with
    | nil => exact ⟨fun _ => rfl, fun _ => trivial⟩
    | cons v vs => exact ⟨fun z => z.elim, fun z => by cases z⟩
  | cons x xs ih => cases vs with
    | nil => exact ⟨fun z => z.elim, fun z => by cases z⟩
    | cons v vs =>
      refine ⟨fun ⟨r, s⟩ => ?_, fun z => ?_⟩
      · have r : v = .str x := r
        rw [r, ih.mp s]; rfl
      · injection z with z1 z2
        exact ⟨z1, ih.mpr z2⟩
theorem RepA.bools {T : TL} {xs : List Bool} : ∀ {vs : List V}, RepA T vs xs ↔ vs = xs.map V.bl := by
  intro vs
  induction xs generalizing vs with
  | nil => cases vs with
    | nil => exact ⟨fun _ => rfl, fun _ => trivial⟩
    | cons v vs => exact ⟨fun z => z.elim, fun z => by cases z⟩
  | cons x xs ih => cases vs with
    | nil => exact ⟨fun z => z.elim, fun z => by cases z⟩
    | cons v vs =>
      refine ⟨fun ⟨r, s⟩ => ?_, fun z => ?_⟩
      · have r : v = .bl x := r
        rw [r, ih.mp s]; rfl
      · injection z with z1 z2
        exact ⟨z1, ih.mpr z2⟩
end
/-! ### data that == can compare -/
class EncD (α : Type) [DecidableEq α] extends Enc α where
  py : α → PyData
  dp : ∀ {K : PySem.W.Frag} {H : Hp} {v : V} {x : α}, Enc.rep (fun a vs => SqT K H a vs) v x → Dp K H v (py x)
  eqv : ∀ x y : α, PyData.eqv (py x) (py y) = decide (x = y)
  ok : α → Prop
  can : ∀ x : α, ok x → (py x).canLay0 = true
  dep : Nat
  dep_le : ∀ x : α, (py x).depth ≤ dep
theorem bdec {α : Type} [BEq α] [LawfulBEq α] [DecidableEq α] (a b : α) : (a == b) = decide (a = b) := by
  rw [Bool.eq_iff_iff, beq_iff_eq, decide_eq_true_eq]
instance : EncD Nat where
  py n := .int n
  dp h := by cases h; exact .int _
  eqv x y := by
    simp only [PyData.eqv]
    rw [bdec]
    exact decide_eq_decide.mpr ⟨fun e => Int.ofNat.inj e, fun e => by rw [e]⟩
  ok _ := True
  can _ _ := rfl
  dep := 0
  dep_le _ := Nat.le_refl _
instance : EncD Str where
  py n := .str n
  dp h := by cases h; exact .str _
  eqv x y := by simp only [PyData.eqv]; exact bdec x y
  ok x := PyData.strOk x = true
  can x h := by simp only [PyData.canLay0]; exact h
  dep := 0
  dep_le _ := Nat.le_refl _
section
variable {α β : Type} [DecidableEq α] [DecidableEq β] [EncD α] [EncD β]
theorem dpAll {K : PySem.W.Frag} {H : Hp} : ∀ {vs : List V} {xs : List α}, RepA (fun a vs => SqT K H a vs) vs xs → DpAll K H vs (xs.map EncD.py)
  | [], [], _ => .nil
  | _ :: _, _ :: _, ⟨r, s⟩ => .cons (EncD.dp r) (dpAll s)
  | [], _ :: _, z => z.elim
  | _ :: _, [], z => z.elim
theorem eqvAll_py : ∀ xs ys : List α, PyData.eqvAll (xs.map EncD.py) (ys.map EncD.py) = decide (xs = ys)
  | [], [] => by simp only [List.map_nil, PyData.eqvAll, decide_true]
  | [], _ :: _ => by simp [PyData.eqvAll]
  | _ :: _, [] => by simp [PyData.eqvAll]
  | x :: xs, y :: ys => by
    rw [List.map_cons, List.map_cons, PyData.eqvAll, EncD.eqv x y, eqvAll_py xs ys, ← Bool.decide_and]
    exact decide_eq_decide.mpr (by rw [List.cons.injEq])
theorem canAll_py : ∀ xs : List α, (∀ x ∈ xs, EncD.ok x) → PyData.canLayAll0 (xs.map EncD.py) = true
  | [], _ => rfl
  | x :: xs, h => by
    rw [List.map_cons, PyData.canLayAll0, EncD.can x (h x List.mem_cons_self), canAll_py xs fun y hy => h y (List.mem_cons_of_mem _ hy)]
    rfl
theorem depAll_py : ∀ xs : List α, PyData.depthAll (xs.map EncD.py) ≤ EncD.dep α
  | [] => Nat.zero_le _
  | x :: xs => by
    rw [List.map_cons, PyData.depthAll]
    exact Nat.max_le.mpr ⟨EncD.dep_le x, depAll_py xs⟩
instance : EncD (List α) where
  py xs := .tuple (xs.map EncD.py)
  dp h := by
    obtain ⟨a, vs, rfl, t, r⟩ := h
    exact .tup t (dpAll r)
  eqv xs ys := by simp only [PyData.eqv]; exact eqvAll_py xs ys
  ok xs := ∀ x ∈ xs, EncD.ok x
  can xs h := by
    simp only [PyData.canLay0]
    exact canAll_py xs h
  dep := EncD.dep α + 1
  dep_le xs := by simp only [PyData.depth]; exact Nat.succ_le_succ (depAll_py xs)
instance : EncD (α × β) where
  py p := .tuple [EncD.py p.1, EncD.py p.2]
  dp h := by
    obtain ⟨a, x, y, rfl, t, r, s⟩ := h
    exact .tup t (.cons (EncD.dp r) (.cons (EncD.dp s) .nil))
  eqv p q := by
    simp only [PyData.eqv, PyData.eqvAll]
    rw [EncD.eqv, EncD.eqv, Bool.and_true, ← Bool.decide_and]
    exact decide_eq_decide.mpr ⟨fun e => Prod.ext e.1 e.2, fun e => by rw [e]; exact ⟨rfl, rfl⟩⟩
  ok p := EncD.ok p.1 ∧ EncD.ok p.2
  can p h := by simp only [PyData.canLay0, PyData.canLayAll0, EncD.can _ h.1, EncD.can _ h.2, Bool.and_self]
  dep := max (EncD.dep α) (EncD.dep β) + 1
  dep_le p := by
    simp only [PyData.depth, PyData.depthAll]
    refine Nat.succ_le_succ (Nat.max_le.mpr ⟨Nat.le_trans (EncD.dep_le p.1) (Nat.le_max_left _ _), Nat.max_le.mpr ⟨Nat.le_trans (EncD.dep_le p.2) (Nat.le_max_right _ _), Nat.zero_le _⟩⟩)
end
end B
/-! what a reading evaluates to. -/
namespace B
open PySem L2
/-! ### how a heap may go on -/
abbrev Ex : Hp → Hp → Prop := fun H H' => ∀ a o, H a = some o → H' a = some o
theorem Ex.refl (H : Hp) : Ex H H := fun _ _ h => h
theorem Ex.trans {H H1 H2 : Hp} (a : Ex H H1) (b : Ex H1 H2) : Ex H H2 := fun x o h => b x o (a x o h)
theorem Ex.new {H : Hp} {p : Addr} {o : HO} (h : H p = none) : Ex H (upd H p o) := fun a u e => by
  rw [upd_ne (ne_of_none e h)]
  exact e
class RlOk (Rl : Hp → Hp → Prop) : Prop where
  refl : ∀ H, Rl H H
  trans : ∀ {H H1 H2}, Rl H H1 → Rl H1 H2 → Rl H H2
  ex : ∀ {H H'}, Ex H H' → Rl H H'
  tup : ∀ {H H'}, Rl H H' → ∀ a vs, tp H a vs → tp H' a vs
  put : ∀ {H H'} {p : Addr} {o : HO}, Rl H H' → H p = none → Rl H (upd H' p o)
  back : ∀ {H H'} {p : Addr}, Rl H H' → H' p = none → H p = none
instance : RlOk Ex where
  refl := Ex.refl
  trans := Ex.trans
  ex e := e
  tup e := fun a vs h => e a _ h
  put := fun {H H' p o} e h a u ha => by
    rw [upd_ne (ne_of_none ha h)]
    exact e a u ha
  back := fun {H H' p} e h => by
    cases h1 : H p with
    | none => rfl
    | some o =>
      rw [e p o h1] at h
      cases h
/-- a watched value -/
structure MP where
  p : TL → V → Prop
  mono : ∀ {T T' : TL} {v : V}, (∀ a vs, T a vs → T' a vs) → p T v → p T' v
def mp {α : Type} [Enc α] (a : α) : MP := ⟨fun T v => Enc.rep T v a, fun h r => Enc.mono h r⟩
def Reps (T : TL) : List MP → List V → Prop
  | [], [] => True
  | m :: ms, v :: vs => m.p T v ∧ Reps T ms vs
  | _, _ => False
theorem Reps.mono {T T' : TL} (h : ∀ a vs, T a vs → T' a vs) : ∀ {ms : List MP} {vs : List V}, Reps T ms vs → Reps T' ms vs
  | [], [], _ => trivial
  | m :: _, _ :: _, ⟨r, s⟩ => ⟨m.mono h r, Reps.mono h s⟩
  | [], _ :: _, z => z.elim
  | _ :: _, [], z => z.elim
section
variable (Rl : Hp → Hp → Prop)
def Ev {α : Type} [Enc α] (te : TE) (σ : L2.St) (H : Hp) (a : α) : Prop := ∀ H1, Rl H H1 → ∀ Q : VK, (∀ v H2, Rl H1 H2 → Enc.rep (tp H2) v a → Q v H2) → te σ H1 Q
/-- a new list -/
def EvL {α : Type} [Enc α] (te : TE) (σ : L2.St) (H : Hp) (xs : List α) : Prop := ∀ H1, Rl H H1 → ∀ Q : VK, (∀ p vs H2, H1 p = none → Rl H1 H2 → H2 p = some (.lst vs) → RepA (tp H2) vs xs → Q (.ref p) H2) → te σ H1 Q
def EvT (tt : TT) (σ : L2.St) (H : Hp) (b : Bool) : Prop := ∀ H1, Rl H H1 → ∀ Q : Bool → Hp → Prop, (∀ H2, Rl H1 H2 → Q b H2) → tt σ H1 Q
def EvA (ta : TA) (σ : L2.St) (H : Hp) (ms : List MP) : Prop := ∀ H1, Rl H H1 → ∀ Q : List V → Hp → Prop, (∀ vs H2, Rl H1 H2 → Reps (tp H2) ms vs → Q vs H2) → ta σ H1 Q
/-- an operation on two values, on one, a call on values -/
def RV (r : R2) (m n : MP) (H : Hp) (k : MP) : Prop := ∀ x y H1, Rl H H1 → m.p (tp H1) x → n.p (tp H1) y → ∀ Q : VK, (∀ v H2, Rl H1 H2 → k.p (tp H2) v → Q v H2) → r x y H1 Q
/-- a source walks n items, Y says the i-th -/
def Wk (wi : TI) (σ : L2.St) (H : Hp) (n : Nat) (Y : Nat → Hp → V → Prop) : Prop := ∀ H1, Rl H H1 → ∀ R : It → Hp → Prop,
  (∀ J H2, Rl H1 H2 → (∀ H3, Rl H2 H3 → (∀ i, i < n → J.go i H3) ∧ J.stop n H3 ∧ ∀ i x H4, i < n → J.yld i H3 x H4 → Ex H3 H4 ∧ Y i H4 x) → R J H2) → wi σ H1 R
end
def Tgt (g : TG) (x : V) (σ : L2.St) (H : Hp) (P : L2.St → Hp → Prop) : Prop := ∀ Q : L2.St → Hp → Prop, (∀ σ2 H2, P σ2 H2 → Q σ2 H2) → g x σ H Q
section
variable {Rl : Hp → Hp → Prop} [RlOk Rl] {K : PySem.W.Frag} {σ : L2.St} {H H' : Hp} {ta tb tc te tx : TE} {t u : TT} {v : V} {α β γ : Type} [Enc α] [Enc β] [Enc γ] {a : α} {b : β} {c : γ}
theorem up (e : Rl H H') (r : Enc.rep (tp H) v a) : Enc.rep (tp H') v a := Enc.mono (RlOk.tup e) r
theorem upA {vs : List V} {xs : List α} (e : Rl H H') (r : RepA (tp H) vs xs) : RepA (tp H') vs xs := RepA.mono (RlOk.tup e) r
theorem Ev.mono (e : Rl H H') (h : Ev Rl te σ H a) : Ev Rl te σ H' a := fun H1 z Q q => h H1 (RlOk.trans e z) Q q
theorem EvT.mono {b : Bool} (e : Rl H H') (h : EvT Rl t σ H b) : EvT Rl t σ H' b := fun H1 z Q q => h H1 (RlOk.trans e z) Q q
theorem EvL.mono {xs : List α} (e : Rl H H') (h : EvL Rl te σ H xs) : EvL Rl te σ H' xs := fun H1 z Q q => h H1 (RlOk.trans e z) Q q
theorem EvA.mono {ta : TA} {ms : List MP} (e : Rl H H') (h : EvA Rl ta σ H ms) : EvA Rl ta σ H' ms := fun H1 z Q q => h H1 (RlOk.trans e z) Q q
theorem e_is {a' : α} (h : Ev Rl te σ H a) (e : a = a') : Ev Rl te σ H a' := e ▸ h
theorem et_is {b b' : Bool} (h : EvT Rl t σ H b) (e : b = b') : EvT Rl t σ H b' := e ▸ h
theorem el_is {xs xs' : List α} (h : EvL Rl te σ H xs) (e : xs = xs') : EvL Rl te σ H xs' := e ▸ h
theorem e_var {i : Nat} (h : σ[i]? = some (some v)) (r : Enc.rep (tp H) v a) : Ev Rl (tVar i) σ H a := fun H1 e _ q => ⟨v, h, q v H1 (RlOk.refl H1) (up e r)⟩
theorem e_c (r : ∀ T, Enc.rep T v a) : Ev Rl (tC v) σ H a := fun H1 _ _ q => q v H1 (RlOk.refl H1) (r _)
/-- a Nat said as an Int -/
theorem e_ofNat {n : Nat} (h : Ev Rl te σ H n) : Ev Rl te σ H (n : Int) := fun H1 e Q q => h H1 e Q fun v H2 e2 r => q v H2 e2 r
theorem e_toNat {i : Int} {n : Nat} (h : Ev Rl te σ H i) (e : i = n) : Ev Rl te σ H n := fun H1 e1 Q q => h H1 e1 Q fun v H2 e2 r => q v H2 e2 (by
  have r : v = .int i := r
  rw [r, e]; rfl)
theorem e_raw (h : Ev Rl te σ H a) : ∀ H1, Rl H H1 → ∀ Q : VK, (∀ v H2, Rl H1 H2 → Enc.rep (tp H2) v a → Q v H2) → te σ H1 Q := h
/-! ### arguments -/
theorem ea_nil : EvA Rl tNil σ H [] := fun H1 _ _ q => q [] H1 (RlOk.refl H1) trivial
theorem ea_cons {tr : TA} {ms : List MP} (h : Ev Rl ta σ H a) (hr : EvA Rl tr σ H ms) : EvA Rl (tCons ta tr) σ H (mp a :: ms) := fun H1 e _ q =>
  h H1 e _ fun x H2 e2 r => hr H2 (RlOk.trans e e2) _ fun vs H3 e3 rs => q (x :: vs) H3 (RlOk.trans e2 e3) ⟨up e3 r, rs⟩
/-- homogeneous displays -/
def EvH (Rl : Hp → Hp → Prop) {α : Type} [Enc α] (ta : TA) (σ : L2.St) (H : Hp) (xs : List α) : Prop := ∀ H1, Rl H H1 → ∀ Q : List V → Hp → Prop, (∀ vs H2, Rl H1 H2 → RepA (tp H2) vs xs → Q vs H2) → ta σ H1 Q
theorem eh_nil : EvH Rl tNil σ H ([] : List α) := fun H1 _ _ q => q [] H1 (RlOk.refl H1) trivial
theorem eh_cons {tr : TA} {xs : List α} (h : Ev Rl ta σ H a) (hr : EvH Rl tr σ H xs) : EvH Rl (tCons ta tr) σ H (a :: xs) := fun H1 e _ q =>
  h H1 e _ fun x H2 e2 r => hr H2 (RlOk.trans e e2) _ fun vs H3 e3 rs => q (x :: vs) H3 (RlOk.trans e2 e3) ⟨up e3 r, rs⟩
theorem sz {n : Nat} (h : n ≤ 1000000) : n ≤ sizeLine := Nat.le_trans h (by decide)
theorem szl {n : Nat} (h : n < 1000000) : n < sizeLine := Nat.lt_of_lt_of_le h (by decide)
theorem e_tupH {ta : TA} {xs : List α} (h : EvH Rl ta σ H xs) (hl : xs.length ≤ 1000000) : Ev Rl (tTup ta) σ H xs := fun H1 e _ q =>
  h H1 e _ fun vs H2 e2 r => ⟨by rw [r.length]; exact sz hl, fun p hp => q _ _ (RlOk.trans e2 (RlOk.ex (Ex.new hp))) ⟨p, vs, rfl, upd_same, upA (RlOk.ex (Rl := Ex) (Ex.new hp)) r⟩⟩
theorem e_lstH {ta : TA} {xs : List α} (h : EvH Rl ta σ H xs) (hl : xs.length ≤ 1000000) : EvL Rl (tLst ta) σ H xs := fun H1 e _ q =>
  h H1 e _ fun vs H2 e2 r => ⟨by rw [r.length]; exact sz hl, fun p hp => q p vs _ (RlOk.back e2 hp) (RlOk.trans e2 (RlOk.ex (Ex.new hp))) upd_same (upA (RlOk.ex (Rl := Ex) (Ex.new hp)) r)⟩
theorem e_pair (ha : Ev Rl ta σ H a) (hb : Ev Rl tb σ H b) : Ev Rl (tTup (tCons ta (tCons tb tNil))) σ H (a, b) := fun H1 e _ q =>
  ha H1 e _ fun x H2 e2 r => hb H2 (RlOk.trans e e2) _ fun y H3 e3 s => ⟨by show 2 ≤ sizeLine; decide, fun p hp => q _ _ (RlOk.trans (RlOk.trans e2 e3) (RlOk.ex (Ex.new hp))) ⟨p, x, y, rfl, upd_same, up (RlOk.trans e3 (RlOk.ex (Ex.new hp))) r, up (RlOk.ex (Rl := Rl) (Ex.new hp)) s⟩⟩
/-! ### operations -/
theorem e_op {r : R2} (ha : Ev Rl ta σ H a) (hb : Ev Rl tb σ H b) (hr : RV Rl r (mp a) (mp b) H (mp c)) : Ev Rl (tOp r ta tb) σ H c := fun H1 e Q q =>
  ha H1 e _ fun x H2 e2 rx => hb H2 (RlOk.trans e e2) _ fun y H3 e3 ry => hr x y H3 (RlOk.trans (RlOk.trans e e2) e3) (up e3 rx) ry Q fun v H4 e4 rv => q v H4 (RlOk.trans (RlOk.trans e2 e3) e4) rv
theorem rv_left {r r' : R2} {m n k : MP} (h : RV Rl r m n H k) : RV Rl (fun x y H Q => r x y H Q ∨ r' x y H Q) m n H k := fun x y H1 e hx hy Q q => .inl (h x y H1 e hx hy Q q)
theorem rv_right {r r' : R2} {m n k : MP} (h : RV Rl r' m n H k) : RV Rl (fun x y H Q => r x y H Q ∨ r' x y H Q) m n H k := fun x y H1 e hx hy Q q => .inr (h x y H1 e hx hy Q q)
/-! ### tests, truth -/
theorem et_B {b : Bool} (h : Ev Rl te σ H b) : EvT Rl (tB te) σ H b := fun H1 e _ q => h H1 e _ fun x H2 e2 r => ⟨b, r, q H2 e2⟩
theorem et_test {b : Bool} (h : Ev Rl te σ H b) : EvT Rl (tTest te) σ H b := fun H1 e _ q => h H1 e _ fun x H2 e2 r => ⟨b, r, q H2 e2⟩
theorem et_yes : EvT Rl tYes σ H true := fun H1 _ _ q => q H1 (RlOk.refl H1)
theorem et_and {a b : Bool} (h1 : EvT Rl t σ H a) (h2 : a = true → EvT Rl u σ H b) : EvT Rl (tAnd t u) σ H (a && b) := fun H1 e Q q => h1 H1 e _ fun H2 e2 => by
  cases a with
  | true =>
    show u σ H2 Q
    exact h2 rfl H2 (RlOk.trans e e2) Q fun H3 e3 => q H3 (RlOk.trans e2 e3)
  | false =>
    show Q false H2
    exact q H2 e2
theorem et_or {a b : Bool} (h1 : EvT Rl t σ H a) (h2 : a = false → EvT Rl u σ H b) : EvT Rl (tOr t u) σ H (a || b) := fun H1 e Q q => h1 H1 e _ fun H2 e2 => by
  cases a with
  | true =>
    show Q true H2
    exact q H2 e2
  | false =>
    show u σ H2 Q
    exact h2 rfl H2 (RlOk.trans e e2) Q fun H3 e3 => q H3 (RlOk.trans e2 e3)
theorem et_not {a : Bool} (h1 : EvT Rl t σ H a) : EvT Rl (tNot t) σ H (!a) := fun H1 e _ q => h1 H1 e _ fun H2 e2 => q H2 e2
theorem e_andV {a b : Bool} (h1 : Ev Rl ta σ H a) (h2 : a = true → Ev Rl tb σ H b) : Ev Rl (tAndV ta tb) σ H (a && b) := fun H1 e Q q => h1 H1 e _ fun x H2 e2 r => ⟨a, r, by
  cases a with
  | true =>
    show tb σ H2 Q
    exact h2 rfl H2 (RlOk.trans e e2) Q fun y H3 e3 s => q y H3 (RlOk.trans e2 e3) s
  | false =>
    show Q (.bl false) H2
    exact q _ H2 e2 rfl⟩
theorem e_orV {a b : Bool} (h1 : Ev Rl ta σ H a) (h2 : a = false → Ev Rl tb σ H b) : Ev Rl (tOrV ta tb) σ H (a || b) := fun H1 e Q q => h1 H1 e _ fun x H2 e2 r => ⟨a, r, by
  cases a with
  | true =>
    show Q (.bl true) H2
    exact q _ H2 e2 rfl
  | false =>
    show tb σ H2 Q
    exact h2 rfl H2 (RlOk.trans e e2) Q fun y H3 e3 s => q y H3 (RlOk.trans e2 e3) s⟩
theorem e_notV {a : Bool} (h1 : Ev Rl ta σ H a) : Ev Rl (tNotV ta) σ H (!a) := fun H1 e _ q => h1 H1 e _ fun x H2 e2 r => ⟨a, r, q _ H2 e2 rfl⟩
theorem e_if {b : Bool} (h : EvT Rl t σ H b) (h1 : b = true → Ev Rl ta σ H a) (h2 : b = false → Ev Rl tb σ H a) : Ev Rl (tIf t ta tb) σ H a := fun H1 e Q q => h H1 e _ fun H2 e2 => by
  cases b with
  | true =>
    show ta σ H2 Q
    exact h1 rfl H2 (RlOk.trans e e2) Q fun v H3 e3 r => q v H3 (RlOk.trans e2 e3) r
  | false =>
    show tb σ H2 Q
    exact h2 rfl H2 (RlOk.trans e e2) Q fun v H3 e3 r => q v H3 (RlOk.trans e2 e3) r
theorem e_chain {r r' : R2} {p p' : Bool} (ha : Ev Rl ta σ H a) (hb : Ev Rl tb σ H b) (hr : RV Rl r (mp a) (mp b) H (mp p)) (hc : p = true → Ev Rl tc σ H c) (hr' : p = true → RV Rl r' (mp b) (mp c) H (mp p')) :
    Ev Rl (tChain r r' ta tb tc) σ H (p && p') := fun H1 e Q q => ha H1 e _ fun x H2 e2 rx => hb H2 (RlOk.trans e e2) _ fun y H3 e3 ry => hr x y H3 (RlOk.trans (RlOk.trans e e2) e3) (up e3 rx) ry _ fun z H4 e4 rz => ⟨p, rz, by
  cases p with
  | true =>
    show tc σ H4 _
    exact hc rfl H4 (RlOk.trans (RlOk.trans (RlOk.trans e e2) e3) e4) _ fun w H5 e5 rw => hr' rfl y w H5 (RlOk.trans (RlOk.trans (RlOk.trans (RlOk.trans e e2) e3) e4) e5) (up (RlOk.trans e4 e5) ry) rw Q fun k H6 e6 rk => q k H6 (RlOk.trans (RlOk.trans (RlOk.trans (RlOk.trans e2 e3) e4) e5) e6) rk
  | false =>
    show Q (.bl false) H4
    exact q _ H4 (RlOk.trans (RlOk.trans e2 e3) e4) rfl⟩
end
end B
/-! operators that look at what they get. -/
namespace B
open PySem PySem.Spec PyProof.Rows L2
section
variable {X : Cx}
theorem opr_or {f : Value → Value → Sem Value} {r r' : R2} (h : OpR X f r) (h' : OpR X f r') : OpR X f (fun x y H Q => r x y H Q ∨ r' x y H Q) := by
  intro pins s σ H x y v u Q I rx ry q
  rcases q with q | q
  · exact h pins s σ H x y v u Q I rx ry q
  · exact h' pins s σ H x y v u Q I rx ry q
def rAddI : R2 := rI0 fun i j => .int (i + j)
def rAddS : R2 := fun x y H Q => ∃ i j, x = .str i ∧ y = .str j ∧ i.length + j.length ≤ sizeLine ∧ Q (.str (i ++ j)) H
def rAddU (K : PySem.W.Frag) : R2 := fun x y H Q => rAddI x y H Q ∨ (rCatA K x y H Q ∨ (rCat x y H Q ∨ rAddS x y H Q))
theorem op_addU : OpR X (binaryOp .Add) (rAddU X.K) := opr_or op_add (opr_or op_catA (opr_or op_cat op_add_str))
def rMulI : R2 := rI CMul fun i j => .int (i * j)
def rMulU : R2 := fun x y H Q => rMulI x y H Q ∨ rRep x y H Q
theorem op_mulU : OpR X (binaryOp .Mult) rMulU := opr_or op_mul op_rep
def rSubI : R2 := rI0 fun i j => .int (i - j)
def rModI : R2 := rI (fun _ j => 0 < j) fun i j => .int (i % j)
def rDivI : R2 := rI CDivW fun i j => .int (i / j)
def rPowI : R2 := rI CPow fun i j => .int (i ^ j.toNat)
theorem op_subI : OpR X (binaryOp .Sub) rSubI := op_sub
theorem op_modI : OpR X (binaryOp .Mod) rModI := op_mod
theorem op_divI : OpR X (binaryOp .FloorDiv) rDivI := op_fdivW
theorem op_powI : OpR X (binaryOp .Pow) rPowI := op_pow
def rLtI : R2 := rI0 fun i j => .bl (decide (i < j))
def rLeI : R2 := rI0 fun i j => .bl (decide (i ≤ j))
def rGtI : R2 := rI0 fun i j => .bl (decide (j < i))
def rGeI : R2 := rI0 fun i j => .bl (decide (j ≤ i))
theorem op_ltI : OpR X (compareOp .Lt) rLtI := op_lt
theorem op_leI : OpR X (compareOp .LtE) rLeI := op_le
theorem op_gtI : OpR X (compareOp .Gt) rGtI := op_gt
theorem op_geI : OpR X (compareOp .GtE) rGeI := op_ge
def rEqU (K : PySem.W.Frag) : R2 := fun x y H Q => rEq x y H Q ∨ rEqD K x y H Q
def rNeU (K : PySem.W.Frag) : R2 := fun x y H Q => rNe x y H Q ∨ rNeD K x y H Q
theorem op_eqU (hu : X.A.units + 65 < cLine) : OpR X (compareOp .Eq) (rEqU X.K) := opr_or op_eq (op_eqD (by omega))
theorem op_neU (hu : X.A.units + 65 < cLine) : OpR X (compareOp .NotEq) (rNeU X.K) := opr_or op_ne (op_neD (by omega))
/-- x in a tuple of data -/
def rInT (K : PySem.W.Frag) : R2 := fun x y H Q => ∃ d ds, Dp K H x d ∧ Dp K H y (.tuple ds) ∧ SeqAt.shaped d = true ∧ SeqAt.shaped (.tuple ds) = true ∧ Q (.bl (ds.any fun z => PyData.eqv z d)) H
def rNinT (K : PySem.W.Frag) : R2 := fun x y H Q => ∃ d ds, Dp K H x d ∧ Dp K H y (.tuple ds) ∧ SeqAt.shaped d = true ∧ SeqAt.shaped (.tuple ds) = true ∧ Q (.bl (!ds.any fun z => PyData.eqv z d)) H
theorem room_tup {A : Around} {d : PyData} {ds : List PyData} (sd : SeqAt.shaped d = true) (hu : A.units + 65 < cLine) : A.units + 1 + min (PyData.depthAll ds) d.depth < cLine := by
  have h1 := SeqAt.depth_of_shaped sd
  have h2 : min (PyData.depthAll ds) d.depth ≤ d.depth := Nat.min_le_right _ _
  omega
theorem op_inT (hu : X.A.units + 65 < cLine) : OpR X (compareOp .In) (rInT X.K) := by
  intro pins s σ H x y v u Q I rx ry h
  obtain ⟨d, ds, hd, he, sd, se, q⟩ := h
  obtain ⟨as, r1⟩ := Dp.reads I d x v hd rx
  obtain ⟨bs, r2⟩ := Dp.reads I (.tuple ds) y u he ry
  exact SeqAt.in_tuple_reads r2 r1 (SeqAt.canLay_of_shaped se) (SeqAt.canLay_of_shaped sd) (room_tup sd hu) ⟨.bl _, H, I, rfl, q⟩
theorem op_ninT (hu : X.A.units + 65 < cLine) : OpR X (compareOp .NotIn) (rNinT X.K) := by
  intro pins s σ H x y v u Q I rx ry h
  obtain ⟨d, ds, hd, he, sd, se, q⟩ := h
  obtain ⟨as, r1⟩ := Dp.reads I d x v hd rx
  obtain ⟨bs, r2⟩ := Dp.reads I (.tuple ds) y u he ry
  exact SeqAt.notIn_tuple_reads r2 r1 (SeqAt.canLay_of_shaped se) (SeqAt.canLay_of_shaped sd) (room_tup sd hu) ⟨.bl _, H, I, rfl, q⟩
def rInDict : R2 := fun x y H Q => ∃ a o, y = .ref a ∧ DGet H a x o ∧ Q (.bl o.isSome) H
def rNinDict : R2 := fun x y H Q => ∃ a o, y = .ref a ∧ DGet H a x o ∧ Q (.bl (!o.isSome)) H
theorem op_inDict (hu : X.A.units + 65 < cLine) : OpR X (compareOp .In) rInDict := by
  intro pins s σ H x y v u Q I rx ry h
  obtain ⟨a, o, rfl, g, q⟩ := h
  cases (show u = Value.ref a from ry)
  exact d_in (by omega) I g rx fun s' I' => ⟨.bl _, H, I', rfl, q⟩
theorem op_ninDict (hu : X.A.units + 65 < cLine) : OpR X (compareOp .NotIn) rNinDict := by
  intro pins s σ H x y v u Q I rx ry h
  obtain ⟨a, o, rfl, g, q⟩ := h
  cases (show u = Value.ref a from ry)
  exact d_notIn (by omega) I g rx fun s' I' => ⟨.bl _, H, I', rfl, q⟩
def rInC : R2 := fun x y H Q => ∃ (c : Nat) (z : Str), x = .str ⟨#[c]⟩ ∧ y = .str z ∧ Q (.bl (decide (c ∈ z.cps.toList))) H
def rInU (K : PySem.W.Frag) : R2 := fun x y H Q => rIn K false x y H Q ∨ (rInD K x y H Q ∨ (rInT K x y H Q ∨ (rInDict x y H Q ∨ rInC x y H Q)))
def rNinU (K : PySem.W.Frag) : R2 := fun x y H Q => rIn K true x y H Q ∨ (rNotInD K x y H Q ∨ (rNinT K x y H Q ∨ rNinDict x y H Q))
theorem op_inU (hu : X.A.units + 65 < cLine) : OpR X (compareOp .In) (rInU X.K) := opr_or op_in_seq (opr_or (op_inD hu) (opr_or (op_inT hu) (opr_or (op_inDict hu) op_in_sign)))
theorem op_ninU (hu : X.A.units + 65 < cLine) : OpR X (compareOp .NotIn) (rNinU X.K) := opr_or op_notIn_seq (opr_or (op_notInD hu) (opr_or (op_ninT hu) (op_ninDict hu)))
def rIsNone : R2 := fun x y H Q => y = .non ∧ Q (.bl (decide (x = .non))) H
def rIsNotNone : R2 := fun x y H Q => y = .non ∧ Q (.bl (!decide (x = .non))) H
theorem op_isNone : OpR X (compareOp .Is) rIsNone := op_isN
theorem op_isNotNone : OpR X (compareOp .IsNot) rIsNotNone := op_notN
/-- the item of a dict, as a subscript -/
def rIxDict : R2 := fun x y H Q => ∃ a v, x = .ref a ∧ DGet H a y (some v) ∧ Q v H
theorem ix_dict (hu : X.A.units + 65 < cLine) : IxR X rIxDict := by
  intro value slice pins s σ H x y v u Q I rx ry h hs
  obtain ⟨a, z, rfl, g, q⟩ := h
  cases (show v = Value.ref a from rx)
  have ht := dict_typeIs I g
  unfold subscriptTail
  refine wpAny_bind ?_
  rw [getitemInPython_of_ne ht.not_modules]
  refine wpAny_bind (wpAny_specialOf ht slot_dict_getitem.lookup ?_)
  have fin : wpAny (model X.prog X.w) X.A (subscripted slice false (.ref a) u) (fun r s₃ => wpAny (model X.prog X.w) X.A (letTemporaryGo value (.ref a) r >>= fun _ => pure r) (EP X pins σ Q) X.xe s₃) X.xe s := by
    rw [hs]
    exact wpAny_operating (d_getItem (by omega) I g ry fun w' s' I' rw' => wpAny_bind (wpAny_letTemporaryGo (wpAny_pure ⟨z, H, I', rw', q⟩)))
  first
    | exact wpAny_pure (wpAny_bind fin)
    | exact wpAny_bind (wpAny_pure (wpAny_bind fin))
    | exact wpAny_bind fin
def rIxU (K : PySem.W.Frag) : R2 := fun x y H Q => rIx K x y H Q ∨ rIxDict x y H Q
theorem ix_U (hu : X.A.units + 65 < cLine) : IxR X (rIxU X.K) := ix_seq.or (ix_dict hu)
/-- len -/
def rLenU (K : PySem.W.Frag) : List V → Hp → VK → Prop := fun xs H Q => (∃ p ys, xs = [.ref p] ∧ (SqL K H p ys ∨ SqT K H p ys) ∧ Q (.int ys.length) H) ∨ ∃ z, xs = [.str z] ∧ z.length ≤ sizeLine ∧ Q (.int z.length) H
theorem call_lenU : CallR X (.builtin "len") (rLenU X.K) := by
  intro pins s σ H xs us Q I r h
  rcases h with h | h
  · exact call_len_seq pins s σ H xs us Q I r h
  · exact call_len_str pins s σ H xs us Q I r h
end
section
variable {Rl : Hp → Hp → Prop} [RlOk Rl] {K : PySem.W.Frag} {σ : L2.St} {H H' : Hp} {ta tb tc te tx : TE} {t u : TT} {v : V} {α β γ : Type} [Enc α] [Enc β] [Enc γ]
/-! ### numbers -/
theorem rv_I0 {g : Int → Int → V} {a b : Int} {m n : MP} {c : γ} (hm : ∀ T x, m.p T x → x = .int a) (hn : ∀ T x, n.p T x → x = .int b) (hc : ∀ T, Enc.rep T (g a b) c) : RV Rl (rI0 g) m n H (mp c) :=
  fun x y H1 _ hx hy _ q => ⟨a, b, hm _ _ hx, hn _ _ hy, q _ H1 (RlOk.refl H1) (hc _)⟩
theorem rv_I {C : Int → Int → Prop} {g : Int → Int → V} {a b : Int} {m n : MP} {c : γ} (hm : ∀ T x, m.p T x → x = .int a) (hn : ∀ T x, n.p T x → x = .int b) (hC : C a b) (hc : ∀ T, Enc.rep T (g a b) c) : RV Rl (rI C g) m n H (mp c) :=
  fun x y H1 _ hx hy _ q => ⟨a, b, hm _ _ hx, hn _ _ hy, hC, q _ H1 (RlOk.refl H1) (hc _)⟩
variable {a b : Nat} {i j : Int}
theorem e_addN (ha : Ev Rl ta σ H a) (hb : Ev Rl tb σ H b) : Ev Rl (tOp (rAddU K) ta tb) σ H (a + b) := e_op ha hb (rv_left (rv_I0 (fun _ _ h => h) (fun _ _ h => h) fun _ => by show V.int _ = V.int _; rw [Int.natCast_add]))
theorem e_addI (ha : Ev Rl ta σ H i) (hb : Ev Rl tb σ H j) : Ev Rl (tOp (rAddU K) ta tb) σ H (i + j) := e_op ha hb (rv_left (rv_I0 (fun _ _ h => h) (fun _ _ h => h) fun _ => rfl))
theorem e_subI (ha : Ev Rl ta σ H i) (hb : Ev Rl tb σ H j) : Ev Rl (tOp rSubI ta tb) σ H (i - j) := e_op ha hb (rv_I0 (fun _ _ h => h) (fun _ _ h => h) fun _ => rfl)
theorem e_subN (ha : Ev Rl ta σ H a) (hb : Ev Rl tb σ H b) (h : b ≤ a) : Ev Rl (tOp rSubI ta tb) σ H (a - b) := e_toNat (e_subI (e_ofNat ha) (e_ofNat hb)) (by omega)
theorem e_mulI (ha : Ev Rl ta σ H i) (hb : Ev Rl tb σ H j) (h : CMul i j) : Ev Rl (tOp rMulU ta tb) σ H (i * j) := e_op ha hb (rv_left (rv_I (fun _ _ h => h) (fun _ _ h => h) h fun _ => rfl))
theorem e_mulN (ha : Ev Rl ta σ H a) (hb : Ev Rl tb σ H b) (h : CMul a b) : Ev Rl (tOp rMulU ta tb) σ H (a * b) := e_toNat (e_mulI (e_ofNat ha) (e_ofNat hb) h) (by rw [Int.natCast_mul])
theorem e_modI (ha : Ev Rl ta σ H i) (hb : Ev Rl tb σ H j) (h : 0 < j) : Ev Rl (tOp rModI ta tb) σ H (i % j) := e_op ha hb (rv_I (fun _ _ h => h) (fun _ _ h => h) h fun _ => rfl)
theorem e_modN (ha : Ev Rl ta σ H a) (hb : Ev Rl tb σ H b) (h : 0 < b) : Ev Rl (tOp rModI ta tb) σ H (a % b) := e_toNat (e_modI (e_ofNat ha) (e_ofNat hb) (by omega)) (by omega)
theorem e_divI (ha : Ev Rl ta σ H i) (hb : Ev Rl tb σ H j) (h : CDivW i j) : Ev Rl (tOp rDivI ta tb) σ H (i / j) := e_op ha hb (rv_I (fun _ _ h => h) (fun _ _ h => h) h fun _ => rfl)
theorem cdiv_small {i : Int} {b : Nat} (h : 0 < b) (h2 : b < 2 ^ 64) : CDivW i b := ⟨by omega, by
  have h3 : ((b : Nat) : Int).natAbs = b := by omega
  rw [h3]
  have h4 : b.log2 < 64 := (Nat.log2_lt (by omega)).mpr h2
  omega⟩
theorem e_divN (ha : Ev Rl ta σ H a) (hb : Ev Rl tb σ H b) (h : 0 < b) (h2 : b < 2 ^ 64) : Ev Rl (tOp rDivI ta tb) σ H (a / b) := e_toNat (e_divI (e_ofNat ha) (e_ofNat hb) (cdiv_small h h2)) (by omega)
theorem e_powI (ha : Ev Rl ta σ H i) (hb : Ev Rl tb σ H j) (h : CPow i j) : Ev Rl (tOp rPowI ta tb) σ H (i ^ j.toNat) := e_op ha hb (rv_I (fun _ _ h => h) (fun _ _ h => h) h fun _ => rfl)
theorem dN {p q : Prop} [Decidable p] [Decidable q] (h : p ↔ q) : V.bl (decide p) = V.bl (decide q) := by rw [decide_eq_decide.mpr h]
theorem rv_ltN : RV Rl rLtI (mp a) (mp b) H (mp (decide (a < b))) := rv_I0 (fun _ _ h => h) (fun _ _ h => h) fun _ => dN (by omega)
theorem rv_leN : RV Rl rLeI (mp a) (mp b) H (mp (decide (a ≤ b))) := rv_I0 (fun _ _ h => h) (fun _ _ h => h) fun _ => dN (by omega)
theorem rv_gtN : RV Rl rGtI (mp a) (mp b) H (mp (decide (b < a))) := rv_I0 (fun _ _ h => h) (fun _ _ h => h) fun _ => dN (by omega)
theorem rv_geN : RV Rl rGeI (mp a) (mp b) H (mp (decide (b ≤ a))) := rv_I0 (fun _ _ h => h) (fun _ _ h => h) fun _ => dN (by omega)
theorem rv_ltI : RV Rl rLtI (mp i) (mp j) H (mp (decide (i < j))) := rv_I0 (fun _ _ h => h) (fun _ _ h => h) fun _ => rfl
theorem rv_leI : RV Rl rLeI (mp i) (mp j) H (mp (decide (i ≤ j))) := rv_I0 (fun _ _ h => h) (fun _ _ h => h) fun _ => rfl
theorem rv_gtI : RV Rl rGtI (mp i) (mp j) H (mp (decide (j < i))) := rv_I0 (fun _ _ h => h) (fun _ _ h => h) fun _ => rfl
theorem rv_geI : RV Rl rGeI (mp i) (mp j) H (mp (decide (j ≤ i))) := rv_I0 (fun _ _ h => h) (fun _ _ h => h) fun _ => rfl
/-! ### == -/
theorem rv_eqN : RV Rl (rEqU K) (mp a) (mp b) H (mp (decide (a = b))) := rv_left fun x y H1 _ hx hy _ q => by
  have hx : x = .int a := hx
  have hy : y = .int b := hy
  subst hx hy
  exact ⟨rfl, q _ H1 (RlOk.refl H1) (by show V.bl _ = V.bl _; exact dN ⟨fun e => by injection e with e; omega, fun e => by rw [e]⟩)⟩
theorem rv_neN : RV Rl (rNeU K) (mp a) (mp b) H (mp (!decide (a = b))) := rv_left fun x y H1 _ hx hy _ q => by
  have hx : x = .int a := hx
  have hy : y = .int b := hy
  subst hx hy
  refine ⟨rfl, q _ H1 (RlOk.refl H1) ?_⟩
  show V.bl (!decide _) = V.bl (!decide _)
  rw [decide_eq_decide.mpr (⟨fun e => by injection e with e; omega, fun e => by rw [e]⟩ : V.int (a : Int) = V.int (b : Int) ↔ a = b)]
theorem rv_eqS {a b : Str} : RV Rl (rEqU K) (mp a) (mp b) H (mp (decide (a = b))) := rv_left fun x y H1 _ hx hy _ q => by
  have hx : x = .str a := hx
  have hy : y = .str b := hy
  subst hx hy
  exact ⟨rfl, q _ H1 (RlOk.refl H1) (dN ⟨fun e => by injection e, fun e => by rw [e]⟩)⟩
theorem rv_neB {a b : Bool} : RV Rl (rNeU K) (mp a) (mp b) H (mp (!decide (a = b))) := rv_left fun x y H1 _ hx hy _ q => by
  have hx : x = .bl a := hx
  have hy : y = .bl b := hy
  subst hx hy
  refine ⟨rfl, q _ H1 (RlOk.refl H1) ?_⟩
  show V.bl (!decide _) = V.bl (!decide _)
  rw [decide_eq_decide.mpr (⟨fun e => by injection e, fun e => by rw [e]⟩ : V.bl a = V.bl b ↔ a = b)]
end
theorem toSq {K : PySem.W.Frag} {H : Hp} {α : Type} [Enc α] {v : V} {x : α} (r : Enc.rep (tp H) v x) : Enc.rep (fun a vs => SqT K H a vs) v x := Enc.mono (fun _ _ h => SqT.of h) r
theorem toSqA {K : PySem.W.Frag} {H : Hp} {α : Type} [Enc α] {vs : List V} {xs : List α} (r : RepA (tp H) vs xs) : RepA (fun a vs => SqT K H a vs) vs xs := RepA.mono (fun _ _ h => SqT.of h) r
section
variable {Rl : Hp → Hp → Prop} [RlOk Rl] {K : PySem.W.Frag} {σ : L2.St} {H H' : Hp} {ta tb tc te tx : TE} {t u : TT} {v : V} {α : Type} [DecidableEq α] [EncD α] {a b : α}
theorem shp {x : α} (h : EncD.ok x) (hd : EncD.dep α ≤ 64) : SeqAt.shaped (EncD.py x) = true := by
  unfold SeqAt.shaped
  rw [EncD.can x h, decide_eq_true (Nat.le_trans (EncD.dep_le x) hd)]
  rfl
theorem rv_eqD (ha : EncD.ok a) (hb : EncD.ok b) (hd : EncD.dep α ≤ 64) : RV Rl (rEqU K) (mp a) (mp b) H (mp (decide (a = b))) := rv_right fun x y H1 _ hx hy _ q =>
  ⟨_, _, EncD.dp (toSq hx), EncD.dp (toSq hy), shp ha hd, shp hb hd, q _ H1 (RlOk.refl H1) (by show V.bl _ = V.bl _; rw [EncD.eqv])⟩
theorem rv_neD (ha : EncD.ok a) (hb : EncD.ok b) (hd : EncD.dep α ≤ 64) : RV Rl (rNeU K) (mp a) (mp b) H (mp (!decide (a = b))) := rv_right fun x y H1 _ hx hy _ q =>
  ⟨_, _, EncD.dp (toSq hx), EncD.dp (toSq hy), shp ha hd, shp hb hd, q _ H1 (RlOk.refl H1) (by show V.bl (!_) = V.bl (!_); rw [EncD.eqv])⟩
/-- a list of data, said by what stands -/
def Ls (Rl : Hp → Hp → Prop) {α : Type} [Enc α] (H : Hp) (p : Addr) (xs : List α) : Prop := ∃ vs, RepA (tp H) vs xs ∧ ∀ H1, Rl H H1 → H1 p = some (.lst vs)
theorem Ls.mono {α : Type} [Enc α] {H H' : Hp} {p : Addr} {xs : List α} (h : Ls Rl H p xs) (e : Rl H H') : Ls Rl H' p xs := let ⟨vs, r, k⟩ := h; ⟨vs, upA e r, fun H1 e1 => k H1 (RlOk.trans e e1)⟩
theorem Ls.at {α : Type} [Enc α] {H : Hp} {p : Addr} {xs : List α} (h : Ls Rl H p xs) : ∃ vs, RepA (tp H) vs xs ∧ H p = some (.lst vs) := let ⟨vs, r, k⟩ := h; ⟨vs, r, k H (RlOk.refl H)⟩
theorem Ls.ex {α : Type} [Enc α] {H : Hp} {p : Addr} {vs : List V} {xs : List α} (h : H p = some (.lst vs)) (r : RepA (tp H) vs xs) : Ls Ex H p xs := ⟨vs, r, fun H1 e => e p _ h⟩
/-- [..] == [..] over two lists -/
def pyL {α : Type} [DecidableEq α] [EncD α] (xs : List α) : PyData := .list (xs.map EncD.py)
theorem dpL {H : Hp} {p : Addr} {vs : List V} {xs : List α} (h : H p = some (.lst vs)) (r : RepA (tp H) vs xs) : Dp K H (.ref p) (pyL xs) := .lst (SqL.of h) (dpAll (toSqA r))
theorem shpL {xs : List α} (h : ∀ x ∈ xs, EncD.ok x) (hd : EncD.dep α < 64) : SeqAt.shaped (pyL xs) = true := by
  unfold SeqAt.shaped pyL
  have h1 : (PyData.list (xs.map EncD.py)).canLay0 = true := by simp only [PyData.canLay0]; exact canAll_py xs h
  have h2 : (PyData.list (xs.map EncD.py)).depth ≤ 64 := by
    simp only [PyData.depth]
    have := depAll_py xs
    omega
  rw [h1, decide_eq_true h2]; rfl
theorem eqvL (xs ys : List α) : PyData.eqv (pyL xs) (pyL ys) = decide (xs = ys) := by simp only [pyL, PyData.eqv]; exact eqvAll_py xs ys
end
end B
/-! items, lengths, members, comprehensions, loops, calls. -/
namespace B
open PySem PySem.Spec PyProof.Rows L2
/-! ### some things may change -/
def isTupO : HO → Prop
  | .tup _ => True
  | _ => False
/-- all but the lists (and the like) at S stand -/
def ExM (S : Addr → Prop) (H H' : Hp) : Prop := (∀ a o, H a = some o → (¬ S a ∨ isTupO o) → H' a = some o) ∧ ∀ a, H' a = none → H a = none
instance (S : Addr → Prop) : RlOk (ExM S) where
  refl H := ⟨fun _ _ h _ => h, fun _ h => h⟩
  trans e f := ⟨fun a o h k => f.1 a o (e.1 a o h k) k, fun a h => e.2 a (f.2 a h)⟩
  ex e := ⟨fun a o h _ => e a o h, fun a h => by
    rename_i H H'
    cases q : H a with
    | none => rfl
    | some o => rw [e a o q] at h; cases h⟩
  tup e := fun a vs h => e.1 a _ h (.inr trivial)
  put := fun {H H' p o} e h => ⟨fun a u ha k => by rw [upd_ne (ne_of_none ha h)]; exact e.1 a u ha k, fun a q => by
    by_cases hap : a = p
    · subst hap; exact h
    · rw [upd_ne hap] at q; exact e.2 a q⟩
  back e h := e.2 _ h
theorem ExM.mut {S : Addr → Prop} {H H' : Hp} {p : Addr} {u o : HO} (e : ExM S H H') (hp : H' p = some u) (hu : ¬ isTupO u) (hS : S p) : ExM S H (upd H' p o) := by
  refine ⟨fun a v ha k => ?_, fun a q => ?_⟩
  · by_cases hap : a = p
    · subst hap
      rcases k with k | k
      · exact absurd hS k
      · have h2 := e.1 a v ha (.inr k)
        rw [hp] at h2
        cases h2
        exact absurd k hu
    · rw [upd_ne hap]; exact e.1 a v ha k
  · by_cases hap : a = p
    · subst hap; rw [upd_same] at q; cases q
    · rw [upd_ne hap] at q; exact e.2 a q
theorem ExM.mono {S S' : Addr → Prop} {H H' : Hp} (e : ExM S H H') (h : ∀ a, S a → S' a) : ExM S' H H' := ⟨fun a o ha k => e.1 a o ha (k.imp (fun z w => z (h a w)) id), e.2⟩
theorem Ex.toM {S : Addr → Prop} {H H' : Hp} (e : Ex H H') : ExM S H H' := RlOk.ex e
/-- what was there ahead of the changing things stands -/
theorem ExM.out {S : Addr → Prop} {H H1 H' : Hp} (e : Ex H H1) (f : ExM S H1 H') (h : ∀ a, S a → H a = none) : Ex H H' := fun a o ha => f.1 a o (e a o ha) (.inl fun z => by rw [h a z] at ha; cases ha)
/-- .. from one set to a smaller one -/
theorem ExM.outM {S S' : Addr → Prop} {H H1 H' : Hp} (e : ExM S' H H1) (f : ExM S H1 H') (h : ∀ a, S a → S' a ∨ H a = none) : ExM S' H H' := by
  refine ⟨fun a o ha k => ?_, fun a q => e.2 a (f.2 a q)⟩
  have h1 := e.1 a o ha k
  refine f.1 a o h1 ?_
  rcases k with k | k
  · refine .inl fun z => ?_
    rcases h a z with z | z
    · exact k z
    · rw [z] at ha; cases ha
  · exact .inr k
/-- what is new from here on stands -/
def Fr (Rl : Hp → Hp → Prop) (H : Hp) : Prop := ∀ (p : Addr) (H2 H3 H4 : Hp) (o : HO), Rl H H2 → H2 p = none → H3 p = some o → Rl H3 H4 → H4 p = some o
theorem fr_ex {H : Hp} : Fr Ex H := fun p _ H3 H4 o _ _ h e => e p o h
theorem fr_m {S : Addr → Prop} {H : Hp} (h : ∀ a, S a → H a ≠ none) : Fr (ExM S) H := fun p H2 H3 H4 o e hn ho f => f.1 p o ho (.inl fun z => h p z (e.2 p hn))
section
variable {Rl : Hp → Hp → Prop} [RlOk Rl] {K : PySem.W.Frag} {σ : L2.St} {H H' : Hp} {ta tb tc te tx : TE} {t u : TT} {v : V} {α β γ : Type} [Enc α] [Enc β] [Enc γ] {a : α} {b : β} {xs : List α} {i : Nat}
theorem Fr.mono (f : Fr Rl H) (e : Rl H H') : Fr Rl H' := fun p H2 H3 H4 o e2 => f p H2 H3 H4 o (RlOk.trans e e2)
/-! ### items -/
theorem e_ixT {x : α} (ha : Ev Rl ta σ H xs) (hb : Ev Rl tb σ H i) (hx : xs[i]? = some x) : Ev Rl (tOp (rIxU K) ta tb) σ H x := e_op ha hb fun v w H1 _ hv hw Q q => by
  obtain ⟨p, vs, rfl, hp, r⟩ := hv
  have hw : w = .int i := hw
  subst hw
  obtain ⟨y, hy, ry⟩ := r.get hx
  exact .inl (.inr (.inl ⟨p, vs, i, y, rfl, rfl, SqT.of hp, atI_nat hy, q y H1 (RlOk.refl H1) ry⟩))
theorem e_ixTlast {x : α} (ha : Ev Rl ta σ H xs) (hb : Ev Rl tb σ H (-1 : Int)) (hx : xs[xs.length - 1]? = some x) : Ev Rl (tOp (rIxU K) ta tb) σ H x := e_op ha hb fun v w H1 _ hv hw Q q => by
  obtain ⟨p, vs, rfl, hp, r⟩ := hv
  have hw : w = .int (-1) := hw
  subst hw
  obtain ⟨y, hy, ry⟩ := r.get hx
  have hl := r.length
  have hlt : xs.length - 1 < xs.length := (List.getElem?_eq_some_iff.mp hx).1
  refine .inl (.inr (.inl ⟨p, vs, -1, y, rfl, rfl, SqT.of hp, ?_, q y H1 (RlOk.refl H1) ry⟩))
  have e : ixN vs.length (-1) = some (xs.length - 1) := by
    unfold ixN
    rw [if_neg (by omega), if_pos (by omega)]
    congr 1
    omega
  unfold atI
  rw [e]
  exact hy
theorem e_fst {p : α × β} (ha : Ev Rl ta σ H p) (hb : Ev Rl tb σ H (0 : Nat)) : Ev Rl (tOp (rIxU K) ta tb) σ H p.1 := e_op ha hb fun v w H1 _ hv hw Q q => by
  obtain ⟨d, x, y, rfl, hp, r, s⟩ := hv
  have hw : w = .int (0 : Nat) := hw
  subst hw
  exact .inl (.inr (.inl ⟨d, [x, y], ((0 : Nat) : Int), x, rfl, rfl, SqT.of hp, atI_nat rfl, q x H1 (RlOk.refl H1) r⟩))
theorem e_snd {p : α × β} (ha : Ev Rl ta σ H p) (hb : Ev Rl tb σ H (1 : Nat)) : Ev Rl (tOp (rIxU K) ta tb) σ H p.2 := e_op ha hb fun v w H1 _ hv hw Q q => by
  obtain ⟨d, x, y, rfl, hp, r, s⟩ := hv
  have hw : w = .int (1 : Nat) := hw
  subst hw
  exact .inl (.inr (.inl ⟨d, [x, y], ((1 : Nat) : Int), y, rfl, rfl, SqT.of hp, atI_nat rfl, q y H1 (RlOk.refl H1) s⟩))
theorem e_ixLs {p : Addr} {x : α} (ha : Ev Rl ta σ H (Raw.mk (.ref p))) (hl : Ls Rl H p xs) (hb : Ev Rl tb σ H i) (hx : xs[i]? = some x) : Ev Rl (tOp (rIxU K) ta tb) σ H x := e_op ha hb fun v w H1 e hv hw Q q => by
  have hv : v = .ref p := hv
  have hw : w = .int i := hw
  subst hv hw
  obtain ⟨vs, r, k⟩ := hl
  obtain ⟨y, hy, ry⟩ := (upA e r).get hx
  exact .inl (.inl ⟨p, vs, i, y, rfl, rfl, SqL.of (k H1 e), atI_nat hy, q y H1 (RlOk.refl H1) ry⟩)
theorem e_ixLsLast {p : Addr} {x : α} (ha : Ev Rl ta σ H (Raw.mk (.ref p))) (hl : Ls Rl H p xs) (hb : Ev Rl tb σ H (-1 : Int)) (hx : xs[xs.length - 1]? = some x) : Ev Rl (tOp (rIxU K) ta tb) σ H x := e_op ha hb fun v w H1 e hv hw Q q => by
  have hv : v = .ref p := hv
  have hw : w = .int (-1) := hw
  subst hv hw
  obtain ⟨vs, r, k⟩ := hl
  obtain ⟨y, hy, ry⟩ := (upA e r).get hx
  have hl := r.length
  have hlt : xs.length - 1 < xs.length := (List.getElem?_eq_some_iff.mp hx).1
  refine .inl (.inl ⟨p, vs, -1, y, rfl, rfl, SqL.of (k H1 e), ?_, q y H1 (RlOk.refl H1) ry⟩)
  have e : ixN vs.length (-1) = some (xs.length - 1) := by
    unfold ixN
    rw [if_neg (by omega), if_pos (by omega)]
    congr 1
    omega
  unfold atI
  rw [e]
  exact hy
/-- an item of a list just made -/
theorem e_ixNew {x : α} (ha : EvL Rl ta σ H xs) (hb : Ev Rl tb σ H i) (hx : xs[i]? = some x) (hf : Fr Rl H) : Ev Rl (tOp (rIxU K) ta tb) σ H x := fun H1 e Q q =>
  ha H1 e _ fun p vs H2 hp e2 hl r => hb H2 (RlOk.trans e e2) _ fun w H3 e3 hw => by
    have hw : w = .int i := hw
    subst hw
    obtain ⟨y, hy, ry⟩ := (upA e3 r).get hx
    exact .inl (.inl ⟨p, vs, i, y, rfl, rfl, SqL.of (hf p H1 H2 H3 _ e hp hl e3), atI_nat hy, q y H3 (RlOk.trans e2 e3) ry⟩)
theorem e_ixStr {z : Str} {c : Nat} (ha : Ev Rl ta σ H z) (hb : Ev Rl tb σ H i) (hz : z.length ≤ sizeLine) (hc : z.cps.toList[i]? = some c) : Ev Rl (tOp (rIxU K) ta tb) σ H (⟨#[c]⟩ : Str) := e_op ha hb fun v w H1 _ hv hw Q q => by
  have hv : v = .str z := hv
  have hw : w = .int i := hw
  subst hv hw
  exact .inl (.inr (.inr ⟨z, i, c, rfl, rfl, hz, atI_nat hc, q _ H1 (RlOk.refl H1) rfl⟩))
/-! ### lengths -/
theorem e_lenT (ha : Ev Rl ta σ H xs) : Ev Rl (tCB (rLenU K) (tCons ta tNil)) σ H xs.length := fun H1 e Q q => ha H1 e _ fun v H2 e2 r => by
  obtain ⟨p, vs, rfl, hp, rs⟩ := r
  exact .inl ⟨p, vs, rfl, .inr (SqT.of hp), by rw [rs.length]; exact q _ H2 e2 rfl⟩
theorem e_lenLs {p : Addr} (ha : Ev Rl ta σ H (Raw.mk (.ref p))) (hl : Ls Rl H p xs) : Ev Rl (tCB (rLenU K) (tCons ta tNil)) σ H xs.length := fun H1 e Q q => ha H1 e _ fun v H2 e2 r => by
  obtain rfl : v = .ref p := r
  obtain ⟨vs, r, k⟩ := hl
  exact .inl ⟨p, vs, rfl, .inl (SqL.of (k H2 (RlOk.trans e e2))), by rw [r.length]; exact q _ H2 e2 rfl⟩
theorem e_lenNew (ha : EvL Rl ta σ H xs) : Ev Rl (tCB (rLenU K) (tCons ta tNil)) σ H xs.length := fun H1 e Q q => ha H1 e _ fun p vs H2 _ e2 hl r =>
  .inl ⟨p, vs, rfl, .inl (SqL.of hl), by rw [r.length]; exact q _ H2 e2 rfl⟩
theorem e_lenS {z : Str} (ha : Ev Rl ta σ H z) (hz : z.length ≤ sizeLine) : Ev Rl (tCB (rLenU K) (tCons ta tNil)) σ H z.length := fun H1 e Q q => ha H1 e _ fun v H2 e2 r => by
  obtain rfl : v = .str z := r
  exact .inr ⟨z, rfl, hz, q _ H2 e2 rfl⟩
/-! ### members -/
theorem inV_nat {a : Nat} {xs : List Nat} : inV (.int a) (xs.map fun (n : Nat) => V.int n) = decide (a ∈ xs) := by
  unfold inV
  rw [List.any_map]
  rw [Bool.eq_iff_iff, List.any_eq_true, decide_eq_true_eq]
  constructor
  · rintro ⟨y, hy, e⟩
    have e : ((y : Int) == (a : Int)) = true := e
    have e2 : y = a := by have := eq_of_beq e; omega
    exact e2 ▸ hy
  · intro h
    exact ⟨a, h, by show ((a : Int) == (a : Int)) = true; exact beq_self_eq_true _⟩
theorem inV_str {a : Str} {xs : List Str} : inV (.str a) (xs.map V.str) = decide (a ∈ xs) := by
  unfold inV
  rw [List.any_map]
  rw [Bool.eq_iff_iff, List.any_eq_true, decide_eq_true_eq]
  constructor
  · rintro ⟨y, hy, e⟩
    have e : (y == a) = true := e
    exact (eq_of_beq e) ▸ hy
  · intro h
    exact ⟨a, h, by show (a == a) = true; exact beq_self_eq_true _⟩
theorem flat_nat {xs : List Nat} : (xs.map fun (n : Nat) => V.int n).all flatV = true := by rw [List.all_map, List.all_eq_true]; intro x _; rfl
theorem flat_str {xs : List Str} : (xs.map V.str).all flatV = true := by rw [List.all_map, List.all_eq_true]; intro x _; rfl
theorem rv_inN {a : Nat} {xs : List Nat} : RV Rl (rInU K) (mp a) (mp xs) H (mp (decide (a ∈ xs))) := rv_left fun v w H1 _ hv hw Q q => by
  obtain ⟨p, vs, rfl, hp, r⟩ := hw
  obtain rfl : v = .int a := hv
  obtain rfl := RepA.ints.mp r
  exact ⟨p, _, rfl, .inr (SqT.of hp), rfl, flat_nat, q _ H1 (RlOk.refl H1) (by rw [if_neg (by decide), inV_nat]; rfl)⟩
theorem rv_ninN {a : Nat} {xs : List Nat} : RV Rl (rNinU K) (mp a) (mp xs) H (mp (!decide (a ∈ xs))) := rv_left fun v w H1 _ hv hw Q q => by
  obtain ⟨p, vs, rfl, hp, r⟩ := hw
  obtain rfl : v = .int a := hv
  obtain rfl := RepA.ints.mp r
  exact ⟨p, _, rfl, .inr (SqT.of hp), rfl, flat_nat, q _ H1 (RlOk.refl H1) (by rw [if_pos rfl, inV_nat]; rfl)⟩
theorem rv_inS {a : Str} {xs : List Str} : RV Rl (rInU K) (mp a) (mp xs) H (mp (decide (a ∈ xs))) := rv_left fun v w H1 _ hv hw Q q => by
  obtain ⟨p, vs, rfl, hp, r⟩ := hw
  obtain rfl : v = .str a := hv
  obtain rfl := RepA.strs.mp r
  exact ⟨p, _, rfl, .inr (SqT.of hp), rfl, flat_str, q _ H1 (RlOk.refl H1) (by rw [if_neg (by decide), inV_str]; rfl)⟩
theorem rv_ninS {a : Str} {xs : List Str} : RV Rl (rNinU K) (mp a) (mp xs) H (mp (!decide (a ∈ xs))) := rv_left fun v w H1 _ hv hw Q q => by
  obtain ⟨p, vs, rfl, hp, r⟩ := hw
  obtain rfl : v = .str a := hv
  obtain rfl := RepA.strs.mp r
  exact ⟨p, _, rfl, .inr (SqT.of hp), rfl, flat_str, q _ H1 (RlOk.refl H1) (by rw [if_pos rfl, inV_str]; rfl)⟩
/-- .. of a list that stands: x in xs -/
theorem e_inLsN {a : Nat} {xs : List Nat} {p : Addr} (ha : Ev Rl ta σ H a) (hb : Ev Rl tb σ H (Raw.mk (.ref p))) (hl : Ls Rl H p xs) : Ev Rl (tOp (rInU K) ta tb) σ H (decide (a ∈ xs)) := e_op ha hb (rv_left fun v w H1 e hv hw Q q => by
  obtain rfl : w = .ref p := hw
  obtain rfl : v = .int a := hv
  obtain ⟨vs, r, k⟩ := hl
  obtain rfl := RepA.ints.mp r
  exact ⟨p, _, rfl, .inl (SqL.of (k H1 e)), rfl, flat_nat, q _ H1 (RlOk.refl H1) (by rw [if_neg (by decide), inV_nat]; rfl)⟩)
theorem e_ninLsN {a : Nat} {xs : List Nat} {p : Addr} (ha : Ev Rl ta σ H a) (hb : Ev Rl tb σ H (Raw.mk (.ref p))) (hl : Ls Rl H p xs) : Ev Rl (tOp (rNinU K) ta tb) σ H (!decide (a ∈ xs)) := e_op ha hb (rv_left fun v w H1 e hv hw Q q => by
  obtain rfl : w = .ref p := hw
  obtain rfl : v = .int a := hv
  obtain ⟨vs, r, k⟩ := hl
  obtain rfl := RepA.ints.mp r
  exact ⟨p, _, rfl, .inl (SqL.of (k H1 e)), rfl, flat_nat, q _ H1 (RlOk.refl H1) (by rw [if_pos rfl, inV_nat]; rfl)⟩)
theorem e_ninLsS {a : Str} {xs : List Str} {p : Addr} (ha : Ev Rl ta σ H a) (hb : Ev Rl tb σ H (Raw.mk (.ref p))) (hl : Ls Rl H p xs) : Ev Rl (tOp (rNinU K) ta tb) σ H (!decide (a ∈ xs)) := e_op ha hb (rv_left fun v w H1 e hv hw Q q => by
  obtain rfl : w = .ref p := hw
  obtain rfl : v = .str a := hv
  obtain ⟨vs, r, k⟩ := hl
  obtain rfl := RepA.strs.mp r
  exact ⟨p, _, rfl, .inl (SqL.of (k H1 e)), rfl, flat_str, q _ H1 (RlOk.refl H1) (by rw [if_pos rfl, inV_str]; rfl)⟩)
/-- .. of a list just made -/
theorem e_inNewS {a : Str} {xs : List Str} (ha : Ev Rl ta σ H a) (hb : EvL Rl tb σ H xs) : Ev Rl (tOp (rInU K) ta tb) σ H (decide (a ∈ xs)) := fun H1 e Q q =>
  ha H1 e _ fun v H2 e2 hv => hb H2 (RlOk.trans e e2) _ fun p vs H3 hp e3 hl r => by
    obtain rfl : v = .str a := hv
    obtain rfl := RepA.strs.mp r
    exact .inl ⟨p, _, rfl, .inl (SqL.of hl), rfl, flat_str, q _ H3 (RlOk.trans e2 e3) (by rw [if_neg (by decide), inV_str]; rfl)⟩
theorem rv_inC {c : Nat} {z : Str} : RV Rl (rInU K) (mp (⟨#[c]⟩ : Str)) (mp z) H (mp (decide (c ∈ z.cps.toList))) := rv_right (rv_right (rv_right (rv_right fun v w H1 _ hv hw Q q =>
  ⟨c, z, hv, hw, q _ H1 (RlOk.refl H1) rfl⟩)))
/-! ### making tuples and lists -/
theorem e_tupleNew (ha : EvL Rl te σ H xs) : Ev Rl (tThen te (kTup K)) σ H xs := fun H1 e Q q => ha H1 e _ fun p vs H2 hp e2 hl r =>
  .inl ⟨p, vs, rfl, SqL.of hl, fun l hl' => q _ _ (RlOk.trans e2 (RlOk.ex (Ex.new hl'))) ⟨l, vs, rfl, upd_same, upA (Rl := Ex) (Ex.new hl') r⟩⟩
theorem e_tupleLs {p : Addr} (ha : Ev Rl te σ H (Raw.mk (.ref p))) (hl : Ls Rl H p xs) : Ev Rl (tThen te (kTup K)) σ H xs := fun H1 e Q q => ha H1 e _ fun v H2 e2 hv => by
  obtain rfl : v = .ref p := hv
  obtain ⟨vs, r, k⟩ := hl
  exact .inl ⟨p, vs, rfl, SqL.of (k H2 (RlOk.trans e e2)), fun l hl' => q _ _ (RlOk.trans e2 (RlOk.ex (Ex.new hl'))) ⟨l, vs, rfl, upd_same, upA (Rl := Rl) (RlOk.trans (RlOk.trans e e2) (RlOk.ex (Ex.new hl'))) r⟩⟩
theorem e_tupleT (ha : Ev Rl te σ H xs) : Ev Rl (tThen te (kTup K)) σ H xs := fun H1 e Q q => ha H1 e _ fun v H2 e2 hv => by
  obtain ⟨p, vs, rfl, hp, r⟩ := hv
  exact .inr ⟨p, vs, rfl, SqT.of hp, q _ H2 e2 ⟨p, vs, rfl, hp, r⟩⟩
theorem rgV_nat (n : Nat) : rgV 0 n = (List.range n).map fun (i : Nat) => V.int i := by
  unfold rgV
  rw [show ((n : Int) - 0).toNat = n by omega]
  exact List.map_congr_left fun i _ => by rw [Int.zero_add]
theorem rep_range {T : TL} (n : Nat) : RepA T (rgV 0 n) (List.range n) := by rw [rgV_nat]; exact RepA.ints.mpr rfl
theorem rgOk {n : Nat} (h : n ≤ 1000000) : RgOk 0 n := RgOk.of_le (by omega) (by omega) (by omega) (by omega)
theorem e_tupRg {n : Nat} (ha : Ev Rl te σ H n) (hn : n ≤ 1000000) : Ev Rl (tTupRg (tRg1 te)) σ H (List.range n) := fun H1 e Q q => ha H1 e _ fun v H2 e2 hv => by
  obtain rfl : v = .int n := hv
  exact ⟨n, rfl, rgOk hn, fun l hl => q _ _ (RlOk.trans e2 (RlOk.ex (Ex.new hl))) ⟨l, _, rfl, upd_same, rep_range n⟩⟩
theorem e_lstRg {n : Nat} (ha : Ev Rl te σ H n) (hn : n ≤ 1000000) : EvL Rl (tLstRg (tRg1 te)) σ H (List.range n) := fun H1 e Q q => ha H1 e _ fun v H2 e2 hv => by
  obtain rfl : v = .int n := hv
  exact ⟨n, rfl, rgOk hn, fun l hl => q l _ _ (RlOk.back e2 hl) (RlOk.trans e2 (RlOk.ex (Ex.new hl))) upd_same (rep_range n)⟩
/-! ### all, any -/
theorem e_all {bs : List Bool} (ha : EvL Rl te σ H bs) : Ev Rl (tCB (rAll K) (tCons te tNil)) σ H (bs.all id) := fun H1 e Q q => ha H1 e _ fun p vs H2 hp e2 hl r => by
  obtain rfl := RepA.bools.mp r
  exact ⟨p, bs, rfl, SqL.of hl, q _ H2 e2 rfl⟩
theorem e_any {bs : List Bool} (ha : EvL Rl te σ H bs) : Ev Rl (tCB (rAny K) (tCons te tNil)) σ H (bs.any id) := fun H1 e Q q => ha H1 e _ fun p vs H2 hp e2 hl r => by
  obtain rfl := RepA.bools.mp r
  exact ⟨p, bs, rfl, SqL.of hl, q _ H2 e2 rfl⟩
/-! ### calls of defs -/
def spP {ι β : Type} [Enc β] (pre : ι → Hp → Prop) (ms : ι → List MP) (res : ι → β) : Sp := fun vs H Q _ => ∃ i, pre i H ∧ Reps (tp H) (ms i) vs ∧ ∀ v H2, Ex H H2 → Enc.rep (tp H2) v (res i) → Q v H2
def spL {ι β : Type} [Enc β] (pre : ι → Hp → Prop) (ms : ι → List MP) (res : ι → List β) : Sp := fun vs H Q _ => ∃ i, pre i H ∧ Reps (tp H) (ms i) vs ∧ ∀ p ws H2, H p = none → Ex H H2 → H2 p = some (.lst ws) → RepA (tp H2) ws (res i) → Q (.ref p) H2
theorem e_call {ι : Type} {pre : ι → Hp → Prop} {ms : ι → List MP} {res : ι → β} {E : XK} {ta : TA} (i : ι) (h : EvA Rl ta σ H (ms i)) (hp : ∀ H1, Rl H H1 → pre i H1) : Ev Rl (tCall (spP pre ms res) [] E ta) σ H (res i) := fun H1 e Q q =>
  h H1 e _ fun vs H2 e2 r => ⟨i, hp H2 (RlOk.trans e e2), by rw [List.append_nil]; exact r, fun v H3 e3 rv => q v H3 (RlOk.trans e2 (RlOk.ex e3)) rv⟩
theorem e_callL {ι : Type} {pre : ι → Hp → Prop} {ms : ι → List MP} {res : ι → List β} {E : XK} {ta : TA} (i : ι) (h : EvA Rl ta σ H (ms i)) (hp : ∀ H1, Rl H H1 → pre i H1) : EvL Rl (tCall (spL pre ms res) [] E ta) σ H (res i) := fun H1 e Q q =>
  h H1 e _ fun vs H2 e2 r => ⟨i, hp H2 (RlOk.trans e e2), by rw [List.append_nil]; exact r, fun p ws H3 hn e3 hl rv => q p ws H3 (RlOk.back e2 hn) (RlOk.trans e2 (RlOk.ex e3)) hl rv⟩
/-! ### sources -/
theorem wk_tup (ha : Ev Rl te σ H xs) : Wk Rl (iTup K te) σ H xs.length (fun i H' v => ∀ x, xs[i]? = some x → Enc.rep (tp H') v x) := fun H1 e R q => ha H1 e _ fun v H2 e2 hv => by
  obtain ⟨p, vs, rfl, hp, r⟩ := hv
  have hs : ∀ H3, Rl H2 H3 → SqT K H3 p vs := fun H3 e3 => SqT.of (RlOk.tup e3 p vs hp)
  refine ⟨p, rfl, ⟨vs, hs H2 (RlOk.refl H2)⟩, q (Itt K p) H2 e2 fun H3 e3 => ⟨fun i hi => ?_, ⟨vs, hs H3 e3, by rw [r.length]; exact Nat.le_refl _⟩, fun i x H4 hi hy => ?_⟩⟩
  · exact ⟨vs, vs[i]'(by rw [r.length]; exact hi), hs H3 e3, by simp [r.length, hi]⟩
  · obtain ⟨rfl, hy⟩ := hy
    refine ⟨Ex.refl _, fun x' hx' => ?_⟩
    obtain ⟨y, h1, h2⟩ := (upA e3 r).get hx'
    have h3 := hy vs (hs H4 e3)
    rw [h1] at h3
    cases h3
    exact h2
theorem wk_ls {p : Addr} (ha : Ev Rl te σ H (Raw.mk (.ref p))) (hl : Ls Rl H p xs) : Wk Rl (iList K te) σ H xs.length (fun i H' v => ∀ x, xs[i]? = some x → Enc.rep (tp H') v x) := fun H1 e R q => ha H1 e _ fun v H2 e2 hv => by
  obtain rfl : v = .ref p := hv
  obtain ⟨vs, r, k⟩ := hl
  have hs : ∀ H3, Rl H2 H3 → SqL K H3 p vs := fun H3 e3 => SqL.of (k H3 (RlOk.trans (RlOk.trans e e2) e3))
  refine ⟨p, rfl, ⟨vs, hs H2 (RlOk.refl H2)⟩, q (Itl K p) H2 e2 fun H3 e3 => ⟨fun i hi => ?_, ⟨vs, hs H3 e3, by rw [r.length]; exact Nat.le_refl _⟩, fun i x H4 hi hy => ?_⟩⟩
  · exact ⟨vs, vs[i]'(by rw [r.length]; exact hi), hs H3 e3, by simp [r.length, hi]⟩
  · obtain ⟨rfl, hy⟩ := hy
    refine ⟨Ex.refl _, fun x' hx' => ?_⟩
    obtain ⟨y, h1, h2⟩ := (upA (RlOk.trans (RlOk.trans e e2) e3) r).get hx'
    have h3 := hy vs (hs H4 e3)
    rw [h1] at h3
    cases h3
    exact h2
theorem wk_rg1 {ta : TA} {n : Nat} (ha : EvA Rl ta σ H [mp n]) (hn : n ≤ 1000000) : Wk Rl (iRng1 ta) σ H n (fun i _ v => v = .int i) := fun H1 e R q => ha H1 e _ fun vs H2 e2 hv => by
  cases vs with
  | nil => exact hv.elim
  | cons v vs =>
    cases vs with
    | cons => exact hv.2.elim
    | nil =>
      obtain rfl : v = .int n := hv.1
      refine ⟨n, rfl, by omega, by omega, q _ H2 e2 fun H3 e3 => ⟨fun i hi => ?_, ?_, fun i x H4 hi hy => ?_⟩⟩
      · show i < (n : Int).toNat; omega
      · show (n : Int).toNat ≤ n; omega
      · obtain ⟨rfl, rfl⟩ := hy
        exact ⟨Ex.refl _, by rw [Int.zero_add]⟩
theorem wk_rg2 {ta : TA} {lo hi : Nat} (ha : EvA Rl ta σ H [mp lo, mp hi]) (h1 : lo ≤ 1000000) (h2 : hi ≤ 1000000) : Wk Rl (iRng2 ta) σ H (hi - lo) (fun i _ v => v = .int ((lo + i : Nat) : Int)) := fun H1 e R q => ha H1 e _ fun vs H2 e2 hv => by
  cases vs with
  | nil => exact hv.elim
  | cons v vs =>
    cases vs with
    | nil => exact hv.2.elim
    | cons u vs =>
      cases vs with
      | cons => exact hv.2.2.elim
      | nil =>
        obtain rfl : v = .int lo := hv.1
        obtain rfl : u = .int hi := hv.2.1
        refine ⟨lo, hi, rfl, by omega, q _ H2 e2 fun H3 e3 => ⟨fun i hi' => ?_, ?_, fun i x H4 hi' hy => ?_⟩⟩
        · show i < ((hi : Int) - lo).toNat; omega
        · show ((hi : Int) - lo).toNat ≤ hi - lo; omega
        · obtain ⟨rfl, rfl⟩ := hy
          exact ⟨Ex.refl _, by show V.int _ = V.int _; rw [Int.natCast_add]⟩
/-! ### targets -/
theorem tgt_name {j : Nat} {P : L2.St → Hp → Prop} (h : P (σ.set j (some v)) H) : Tgt (gName j) v σ H P := fun Q q => q _ _ h
theorem tgt_pair {j k : Nat} {P : L2.St → Hp → Prop} {p : α × β} (r : Enc.rep (tp H) v p) (h : ∀ x y, Enc.rep (tp H) x p.1 → Enc.rep (tp H) y p.2 → P ((σ.set j (some x)).set k (some y)) H) : Tgt (gTup K 2 (gCons (gName j) (gCons (gName k) gNil))) v σ H P := fun Q q => by
  obtain ⟨d, x, y, rfl, hd, rx, ry⟩ := r
  exact ⟨d, [x, y], rfl, SqT.of hd, rfl, x, [y], rfl, y, [], rfl, rfl, q _ _ (h x y rx ry)⟩
/-! ### comprehensions -/
theorem e_lc {wi : TI} {g : TG} {tt : TT} {vs : List Nat} {n : Nat} {Y : Nat → Hp → V → Prop} (keep : Nat → Bool) (val : Nat → β) (hf : Fr Rl H) (hw : Wk Rl wi σ H n Y) (hn : n ≤ 1000000)
    (hb : ∀ i H1 x, i < n → Rl H H1 → Y i H1 x → Tgt g x (wipe σ vs) H1 fun σ2 H2 => Rl H1 H2 ∧ wipe σ2 vs = wipe σ vs ∧ EvT Rl tt σ2 H2 (keep i) ∧ (keep i = true → Ev Rl te σ2 H2 (val i))) :
    EvL Rl (tLc wi g tt te vs) σ H (((List.range n).filter keep).map val) := by
  intro H1 e1 Q q
  refine hw H1 e1 _ fun J H2 e2 hJ D hD => ?_
  let L : Nat → List β := fun i => ((List.range i).filter keep).map val
  have hlen : ∀ i, (L i).length ≤ i := fun i => by
    show (((List.range i).filter keep).map val).length ≤ i
    rw [List.length_map]
    exact Nat.le_trans (List.length_filter_le _ _) (by rw [List.length_range]; exact Nat.le_refl _)
  have hyes : ∀ i, keep i = true → L (i + 1) = L i ++ [val i] := fun i h => by
    show ((List.range (i + 1)).filter keep).map val = _
    rw [List.range_succ, List.filter_append, List.map_append, List.filter_cons, if_pos h]; rfl
  have hno : ∀ i, keep i = false → L (i + 1) = L i := fun i h => by
    show ((List.range (i + 1)).filter keep).map val = _
    rw [List.range_succ, List.filter_append, List.map_append, List.filter_cons, if_neg (by rw [h]; decide)]
    exact List.append_nil _
  refine ⟨fun i m H3 => m = n - i ∧ i ≤ n ∧ Rl H2 H3 ∧ ∃ ws, H3 D = some (.lst ws) ∧ RepA (tp H3) ws (L i), ⟨n, by omega, Nat.zero_le _, RlOk.ex (Ex.new hD), [], upd_same, trivial⟩, ?_⟩
  rintro i m H3 ⟨rfl, hi, e3, ws, hws, rws⟩
  obtain ⟨h1, h2, h3⟩ := hJ H3 e3
  by_cases hlt : i < n
  · refine .inr ⟨h1 i hlt, fun H' => i + 1 ≤ n ∧ Rl H2 H' ∧ ∃ ws, H' D = some (.lst ws) ∧ RepA (tp H') ws (L (i + 1)), fun H' h => ⟨n - (i + 1), by omega, rfl, h⟩, fun x H4 hy => ?_⟩
    obtain ⟨e4, y4⟩ := h3 i x H4 hlt hy
    have e4' : Rl H2 H4 := RlOk.trans e3 (RlOk.ex e4)
    refine hb i H4 x hlt (RlOk.trans (RlOk.trans e1 e2) e4') y4 _ fun σ2 H5 ⟨e5, hwp, ht, he⟩ => ⟨hwp, ht H5 (RlOk.refl H5) _ fun H6 e6 => ?_⟩
    have stay : ∀ H', Rl H5 H' → H' D = some (.lst ws) := fun H' e' => hf D H2 H4 H' _ (RlOk.trans e1 e2) hD (e4 D _ hws) (RlOk.trans e5 e')
    cases hk : keep i with
    | true =>
      show te σ2 H6 _
      refine he hk H6 e6 _ fun v H7 e7 rv => ⟨ws, stay H7 (RlOk.trans e6 e7), ?_, hlt, RlOk.put (RlOk.trans e4' (RlOk.trans e5 (RlOk.trans e6 e7))) hD, ws ++ [v], upd_same, ?_⟩
      · rw [rws.length]
        have := hlen i
        exact szl (by omega)
      · rw [hyes i hk]
        have e8 : Rl H7 (upd H7 D (.lst (ws ++ [v]))) ∨ True := .inr trivial
        have tupk : ∀ a vs, tp H7 a vs → tp (upd H7 D (.lst (ws ++ [v]))) a vs := fun a vs h => by
          have ne : a ≠ D := fun z => by
            subst z
            have h2 := stay H7 (RlOk.trans e6 e7)
            have h : H7 a = some (.tup vs) := h
            rw [h] at h2; cases h2
          show upd H7 D _ a = _
          rw [upd_ne ne]; exact h
        exact RepA.snoc (RepA.mono tupk (upA (Rl := Rl) (RlOk.trans (RlOk.ex e4) (RlOk.trans e5 (RlOk.trans e6 e7))) rws)) (Enc.mono tupk rv)
    | false =>
      show i + 1 ≤ n ∧ _
      refine ⟨hlt, RlOk.trans e4' (RlOk.trans e5 e6), ws, stay H6 e6, ?_⟩
      rw [hno i hk]
      exact upA (Rl := Rl) (RlOk.trans (RlOk.ex e4) (RlOk.trans e5 e6)) rws
  · have hin : i = n := by omega
    subst hin
    exact .inl ⟨h2, q D ws H3 (RlOk.back e2 hD) (RlOk.trans e2 e3) hws rws⟩
end
end B
/-! rules that the layer lacks. -/
namespace B
open PySem PySem.Spec PyProof.Rows L2
section
variable {X : Cx}
theorem pip_of {op : Operator} {r : R2} (h : OpR X (inplaceOp op) r) : PIp X op r := fun pins s σ H x y v u Q I rx ry q => h pins s σ H x y v u Q I rx ry q
/-- xs[i] ahead of xs[i] op= .. -/
def rGetL (K : PySem.W.Frag) : R2 := fun x y H Q => ∃ (p : Addr) (xs : List V) (i : Nat) (v : V), x = .ref p ∧ y = .int (i : Nat) ∧ SqL K H p xs ∧ xs[i]? = some v ∧ Q v H
theorem get_list : PGet X (rGetL X.K) := by
  intro pins s σ H x y v u Q I rx ry h
  obtain ⟨p, xs, i, z, rfl, rfl, hq, he, q⟩ := h
  cases rx
  obtain ⟨t, rfl⟩ := ry
  obtain ⟨its, r, pl, hz⟩ := I.list hq
  obtain ⟨w, ew, rw'⟩ := r.get he
  have hl := r.length
  have hn := line63
  have hlt : i < xs.length := (List.getElem?_eq_some_iff.mp he).1
  refine wpAny_mono (wpAny_getItem_list (Q := fun r s' => r = w ∧ EP X pins σ Q w s') pl.isList (by omega) (by omega) (by simpa using ew) ⟨rfl, ⟨z, H, I, rw', q⟩⟩) (fun r s' h => by obtain ⟨rfl, h⟩ := h; exact h) fun _ _ e => e
/-! ### enumerate over a tuple -/
theorem meets_enumerate_newT (l : Addr) (items : Array Value) (n : Nat) (dct : Option Addr) (sl : Array (Option Value)) :
    Meets (Builtin.«enumerate.__new__» ⟨[.type "enumerate", .ref l], []⟩) (fun _ R s => s.heap.get? l = some { cls := .type "tuple", dict := dct, data := .seq items n, slots := sl } ∧
      R (.ok (.ret (.ref (s.heap.push { cls := .type "tuple_iterator", data := .fields #[.ref l, .int 0 0] }).objs.size)))
        { s with heap := (s.heap.push { cls := .type "tuple_iterator", data := .fields #[.ref l, .int 0 0] }).push { cls := .type "enumerate", data := .fields #[.none, .bool false, .ref s.heap.objs.size, rawInt 0, .none, .none] } }) :=
  .of_wp fun prog w A R s h => by
    obtain ⟨hp, g, d, tk, os⟩ := s; obtain ⟨hl, h⟩ := h
    have hsub := sub_enumerate
    have hL : Heap.IsTuple (Shared.heap ⟨hp, g, d, tk, os⟩) l items := ⟨_, hl, rfl, n, rfl⟩
    wp_walk using AutoSeq1.wpAny_loadPart' hl
    refine wpAny_stack_any fun st => wpAny_pure ?_
    split
    · rename_i c _ _ _ _ _
      cases (c == Value.type "enumerate")
      · wp_walk using AutoSeq1.wpAny_loadPart' hl, wpAny_pyIter_tuple hL
        exact ⟨_, rfl, h⟩
      · wp_walk using AutoSeq1.wpAny_loadPart' hl, wpAny_pyIter_tuple hL
        exact ⟨_, rfl, h⟩
    · wp_walk using AutoSeq1.wpAny_loadPart' hl, wpAny_pyIter_tuple hL
      exact ⟨_, rfl, h⟩
theorem call_enumerate_tuple {prog : Program} {w : World} {A : Around} {E : Value → Shared → Prop} {s : Shared} {l : Addr} {items : Array Value} {Q : Value → Shared → Prop} (hL : s.heap.IsTuple l items)
    (h : ∀ h', IsEnum h' (s.heap.objs.size + 1) s.heap.objs.size 0 .none → h'.IsTupleIter s.heap.objs.size l 0 → h'.objs.size = s.heap.objs.size + 2 →
      (∀ b o, s.heap.get? b = some o → h'.get? b = some o) → Q (.ref (s.heap.objs.size + 1)) { s with heap := h' }) :
    wpAny (model prog w) A (call (.type "enumerate") [.ref l]) Q E s := by
  obtain ⟨⟨c, dct, dt, sl⟩, hl, hc, n, hd⟩ := hL
  replace hc : c = .type "tuple" := hc
  replace hd : dt = .seq items n := hd
  subst hc hd
  refine callType_new F.called_enumerate (by decide) (F.typeCall_enumerate_1 _) (F.newCall_enumerate_1 _) (fun obj => F.args_object_init_2 obj _) F.entry_enumerate_new
    (meets_enumerate_newT l items n dct sl) ⟨hl, ?_⟩
  have hz : (s.heap.push { cls := .type "tuple_iterator", data := .fields #[.ref l, .int 0 0] }).objs.size = s.heap.objs.size + 1 := Heap.size_push ..
  show _ ∧ _
  rw [hz]
  have he : IsEnum ((s.heap.push { cls := .type "tuple_iterator", data := .fields #[.ref l, .int 0 0] }).push
      { cls := .type "enumerate", data := .fields #[.none, .bool false, .ref s.heap.objs.size, rawInt 0, .none, .none] }) (s.heap.objs.size + 1) s.heap.objs.size 0 .none := by
    have := Heap.get?_push_size (s.heap.push { cls := .type "tuple_iterator", data := .fields #[.ref l, .int 0 0] })
      (o := { cls := .type "enumerate", data := .fields #[.none, .bool false, .ref s.heap.objs.size, rawInt 0, .none, .none] }) rfl
    rw [hz] at this; exact this
  refine ⟨⟨_, he, rfl⟩, h _ he ⟨_, Heap.get?_push_of_some _ (Heap.get?_push_size _ rfl), rfl, rfl⟩ (by rw [Heap.size_push, hz]) fun b o x => Heap.get?_push_of_some _ (Heap.get?_push_of_some _ x)⟩
def IteT (K : PySem.W.Frag) (a : Addr) : It :=
  ⟨fun i H => ∃ (xs : List V) (x : V), SqT K H a xs ∧ xs[i]? = some x, fun i H v H' => ∃ T x, v = .ref T ∧ H T = none ∧ H' = upd H T (.tup [.int (i : Nat), x]) ∧ ∀ xs, SqT K H a xs → xs[i]? = some x, fun i H => ∃ xs : List V, SqT K H a xs ∧ xs.length ≤ i⟩
theorem turn_enumT {P : Program} {w : World} {K : PySem.W.Frag} {elts : List Expr} {kk : Nat} {tpos : Pos} (a e it : Addr) (hait : a ≠ it) (hea : e ≠ a) :
    Turn P w K (.Tuple elts kk tpos) (IteT K a) [e, it] e (fun i h => (∃ old, IsEnum h e it ((i : Nat) : Int) old) ∧ h.IsTupleIter it a i ∧ e ≠ it) where
  mem := by simp
  obj := fun i h st b hb => by
    obtain ⟨⟨old, he⟩, ⟨o, ho, hc, hd⟩, _⟩ := st
    have e' : b = e ∨ b = it := by simpa using hb
    rcases e' with z | z
    · rw [z]; exact ⟨_, he, fun v q => nomatch q⟩
    · rw [z]; exact ⟨o, ho, fun v q => by rw [hd] at q; cases q⟩
  keep := fun i h h' st k => let ⟨⟨old, he⟩, hi, hne⟩ := st; ⟨⟨old, k e (by simp) _ he⟩, hi.at fun o q => k it (by simp) o q, hne⟩
  item := by
    intro X hP hw hK hc i pins s σ H E I hf st hg
    subst hP hw hK
    obtain ⟨⟨old, he⟩, hit, hne⟩ := st
    obtain ⟨xs, x, hq, hx⟩ := hg
    obtain ⟨its, rv, p, hz⟩ := I.tuple hq
    obtain ⟨u, hu, ru⟩ := rv.get hx
    have hel : e < s.heap.objs.size := Heap.lt_size he
    have hil : it < s.heap.objs.size := by obtain ⟨_, q, _⟩ := hit; exact Heap.lt_size q
    have hil' : i < its.toArray.size := by
      have := rv.length
      have h2 := (List.getElem?_eq_some_iff.mp hx).1
      simp; omega
    refine wpAny_pyNext_enum_itemD (Draws.tuple (prog := X.prog) (w := X.w) (A := X.A.in1) (show X.A.in1.handled = none from I.ok.hd hc) it a hait its.toArray) he (i := i) ⟨hit, p⟩ hil' hne (by simp [hne, hea]) fun y h' tk hy ho hst hT hsz hk => ?_
    have hyu : y = u := by
      have h1 : its.toArray[i]? = some u := by simpa using hu
      rw [hy] at h1; exact Option.some.inj h1
    subst hyu
    refine ⟨_, rfl, wpAny_letOwnedTupleGo_enum (s := { s with heap := h', toks := tk + 1 }) ho fun h'' he' sb => ?_⟩
    have hT2 : h''.get? s.heap.objs.size = some { cls := .type "tuple", data := .seq #[.int i tk, y] } := (sb.2 _ (Nat.ne_of_gt hel)).trans hT
    have new : ObjOk X.prog X.w (upd H s.heap.objs.size (.tup [.int (i : Nat), x])) h'' s.heap.objs.size (.tup [.int (i : Nat), x]) :=
      ⟨by show 2 ≤ sizeLine; decide, [.int i tk, y], .cons ⟨_, rfl⟩ (.cons ru .nil), ⟨_, hT2, rfl, _, rfl⟩⟩
    have I1 : L2.Inv X pins σ (upd H s.heap.objs.size (.tup [.int (i : Nat), x])) { s with heap := h'', toks := tk + 1 } :=
      I.turnedNew (ch := [e, it]) (fun b ob hb q => (sb.2 b (fun z => hb (by simp [z]))).trans (hk b ob (fun z => hb (by simp [z])) (fun z => hb (by simp [z])) q)) hf (Nat.le_refl _) new
    refine ⟨.ref s.heap.objs.size, _, I1, rfl, ⟨_, x, rfl, I.hok.fresh (Nat.le_refl _), rfl, fun ys hy => by rw [I.tuple_inj hy hq]; exact hx⟩, ⟨⟨y, ?_⟩, hst.1.at fun o q => (sb.2 it (Ne.symm hne)).trans q, hne⟩, fun b hb => ?_⟩
    · have e1 : ((i + 1 : Nat) : Int) = (i : Int) + 1 := by omega
      rw [e1]; exact he'
    · have hb' : b < s.heap.objs.size := by
        have e' : b = e ∨ b = it := by simpa using hb
        rcases e' with z | z
        · rw [z]; exact hel
        · rw [z]; exact hil
      rw [upd_ne (Nat.ne_of_lt hb')]
      exact (hf b hb).1
  done := by
    intro X hP hw hK hc i pins s σ H E I hf st hg
    subst hP hw hK
    obtain ⟨⟨old, he⟩, hit, hne⟩ := st
    obtain ⟨xs, hq, hx⟩ := hg
    obtain ⟨its, rv, p, hz⟩ := I.tuple hq
    obtain ⟨f0, f1, f2, f3, f4, f5⟩ := hf it (by simp)
    have hl := rv.length
    have hT : s.TypeIs (.ref e) "enumerate" := ⟨_, he, rfl⟩
    unfold pyNext
    refine wpAny_bind (wpAny_attempt (wpAny_callSpecial?_slot (name := Str.ofString "__next__") hT F.slot_enumerate_next
      (wpAny_call_entry F.slot_enumerate_next hT F.entry_enumerate_next ?_ (F.args_enumerate_next_1 _))))
    show wpAny _ _ (field (.ref e) 2 >>= _) _ _ _
    refine wpAny_bind (wpAny_field he rfl (x := .ref it) rfl ?_)
    refine wpAny_bind (wpAny_nextOf_tuple_end (show X.A.in1.handled = none from I.ok.hd hc) hit (show s.heap.IsTuple a its.toArray from p) (by simp; omega) fun h' x he' hx' => ?_)
    obtain ⟨o, ho, hc'⟩ := hx'
    refine wpAny_bind (wpAny_isInstance (T := "StopIteration") (b := true) ⟨o, ho, hc'⟩ isSubtype_stop ?_)
    exact wpAny_pure ⟨rfl, I.turned (t' := s.toks) (fun b o hb q => he' b o hb q) f0 f1 f3 f4 f5⟩
  self := fun A i s Q E st h => let ⟨⟨_, he⟩, _⟩ := st; wpAny_pyIter_enum he h
def iEnumT (K : PySem.W.Frag) (ta : TA) : TI := fun σ H R => ta σ H fun vs H1 => ∃ a xs, vs = [.ref a] ∧ SqT K H1 a xs ∧ R (IteT K a) H1
theorem pi_enumT {e : Expr} {ta : TA} {p pos tpos : Pos} {elts : List Expr} {kk : Nat} (hg : Gl X "enumerate") (hm : X.mg "enumerate" = none) (ha : PA X [e] ta) (hs : starEach [e] X.env = [(false, eval e X.env)] := by rfl) :
    PI X (.Tuple elts kk tpos) (.Call (.Name "enumerate" p) [e] [] pos) (iEnumT X.K ta) := by
  refine ⟨fun pins s σ H R I h => ?_⟩
  refine Call_ (ld_blt I hg hm boot_enumerate (PyProof.Rows.callWith_type1 (thn (ha.run pos pins s σ H _ I h) fun us s1 ⟨vs, H1, I1, r1, q1⟩ => ?_) hs rfl))
  obtain ⟨a, xs, ex, hq, q⟩ := q1
  subst ex
  cases r1 with
  | cons r rr =>
    cases rr
    cases r
    obtain ⟨its, rv, p', hz⟩ := I1.tuple hq
    have hlt : a < s1.heap.objs.size := p'.lt
    refine call_enumerate_tuple p' fun h' he hit hsz hk => wpAny_pyIter_enum he ?_
    have I2 : L2.Inv X pins σ H1 { s1 with heap := h' } := I1.kept (t' := s1.toks) hk
    refine ⟨s1.heap.objs.size + 1, [s1.heap.objs.size + 1, s1.heap.objs.size], _, _, H1, rfl, I2, turn_enumT a (s1.heap.objs.size + 1) s1.heap.objs.size (Nat.ne_of_lt hlt) (Ne.symm (Nat.ne_of_lt (Nat.lt_succ_of_lt hlt))), ⟨⟨.none, he⟩, hit, Nat.succ_ne_self _⟩, fun b hb => ?_, q⟩
    have e' : b = s1.heap.objs.size + 1 ∨ b = s1.heap.objs.size := by simpa using hb
    have hle : s1.heap.objs.size ≤ b := by
      rcases e' with z | z
      · rw [z]; exact Nat.le_add_right _ _
      · rw [z]; exact Nat.le_refl _
    exact I1.fpOk hle (I1.hok.fresh hle)
/-! ### {tuple: v} -/
def tDisp1T (tk tv : TE) : TE := fun σ H Q => ∀ p, H p = none → tk σ (upd H p (.dT [])) fun x H1 => tv σ H1 fun y H2 => H2 p = some (.dT []) ∧ ∃ b k, x = .ref b ∧ H2 b = some (.tup (k.map kV)) ∧ Q (.ref p) (upd H2 p (.dT [(k, y)]))
theorem pe_disp1T {ke ve : Expr} {tk tv : TE} {pos : Pos} (hu : X.A.units + 1 < cLine) (hk : PE X ke tk) (hv : PE X ve tv) : PE X (.Dict [some ke] [ve] pos) (tDisp1T tk tv) := by
  refine ⟨fun pins s σ H Q I q => ?_⟩
  have hn := I.hok.fresh (Nat.le_refl s.heap.objs.size)
  have I1 := I.laid (a := s.heap.objs.size) (o := .dT []) (h' := s.heap.push { cls := .type "dict", data := .dict #[] }) (t' := s.toks) (fun _ _ q => Heap.get?_push_of_some _ q) (Nat.le_refl _) (dt_empty s.heap I.big)
  have hlen := pairTrees_length [some ke] [ve] X.env pos rfl rfl
  rw [arm_eval_Dict, zip_pairTrees [some ke] [ve] X.env pos rfl rfl, dictDisplay_pairs _ (by intro he; rw [he] at hlen; cases hlen) (by rw [hlen]; show 1 < 17; decide)]
  refine wpAny_bind (wpAny_standAt (wpAny_bind (wpAny_subDictH (knd := tupleKind (mixKind X.prog X.w)) (Q := fun d s' => wpAny (model X.prog X.w) X.A (pure (Value.ref d)) _ X.xe s') (show X.A.units < cLine by omega) (by rw [hlen]; show 1 ≤ 15; decide) ?_)))
  refine pairTrees_cons_walk (thn (hk.run pins _ σ _ _ I1 (q _ hn)) fun u s1 ⟨x, H1, I1, rx, q1⟩ => thn (hv.run pins s1 σ H1 _ I1 q1) fun w2 s2 ⟨y, H2, I2, ry, q2⟩ => pairTrees_nil_walk ?_)
  obtain ⟨hp, b, k, rfl, hb, q3⟩ := q2
  obtain rfl : u = .ref b := rx
  obtain ⟨z, hd, xs, r0, dd⟩ := dt_of I2.hok hp
  cases r0
  refine ⟨[(k, b, w2)], ⟨rfl, rfl, key_of I2.hok hb, trivial⟩, dd, fun h' tk hd' hs => wpAny_pure ⟨.ref s.heap.objs.size, _, ?_, rfl, q3⟩⟩
  obtain ⟨o, es, ep, ho, h2, h3, h4, _, h5⟩ := hd'
  refine d_write I2 (by rw [hp]; exact True.intro) hs ⟨o, ho⟩ ⟨by show 1 ≤ sizeLine; decide, hd, [(k, b, w2)], .cons ⟨rfl, ?_, ry⟩ .nil, o, es, ep, ho, h2, h3, h4, h5⟩
  rw [upd_ne (ne_of hb hp (fun z => nomatch z))]
  exact hb
/-! ### dict(tuple of pairs), the tuple's object told -/
theorem pairsT_of {pins : List (Addr × Obj)} {σ : L2.St} {H : Hp} {s : Shared} (I : L2.Inv X pins σ H s) : ∀ {ps : List Addr} {kvs : List (L2.Key × V)}, Paired (fun p kv => H p = some (.tup [kV kv.1, kv.2])) ps kvs →
    ∃ prs : List (L2.Key × Value × Value), KV kvs (prs.map fun p => (p.1, p.2.2)) ∧ prs.length = ps.length ∧ ∀ (j : Nat) (q : L2.Key × Value × Value), prs[j]? = some q → ∃ b : Addr, ps[j]? = some b ∧ IsTup s.heap b #[q.2.1, q.2.2] ∧ keyIs q.1 q.2.1 = true
  | _, _, .nil => ⟨[], .nil, rfl, fun j q e => by simp at e⟩
  | _, _, .cons (a := p) (b := kv) h t => by
    obtain ⟨prs, r, hl, hp⟩ := pairsT_of I t
    obtain ⟨its, rv, ht, _⟩ := I.tuple (SqT.of h)
    obtain ⟨u, y, ei, ru, ry⟩ := vals2 rv
    subst ei
    refine ⟨(kv.1, u, y) :: prs, .cons ⟨rfl, ry⟩ r, by rw [List.length_cons, List.length_cons, hl], fun j q e => ?_⟩
    cases j with
    | zero =>
      have e' : (kv.1, u, y) = q := Option.some.inj e
      subst e'
      exact ⟨p, rfl, ht, kV_is (P := X.prog) (w := X.w) ru⟩
    | succ j =>
      obtain ⟨b, e1, e2, e3⟩ := hp j q (by simpa using e)
      exact ⟨b, by simpa using e1, e2, e3⟩
def rDictT : List V → Hp → VK → Prop := fun xs H Q => ∃ (a : Addr) (ob : Obj) (ps : List Addr) (kvs : List (L2.Key × V)), xs = [.ref a] ∧ H a = some (.frz ob (.tup (ps.map V.ref))) ∧ ob.dict = none ∧ Paired (fun p kv => H p = some (.tup [kV kv.1, kv.2])) ps kvs ∧
    ∀ p, H p = none → Q (.ref p) (upd H p (.dK (mergeK [] kvs)))
theorem call_dictPT (hcalm : X.calm = true) : CallR X (.type "dict") rDictT := by
  intro pins s σ H xs us Q I r q
  obtain ⟨a, ob, ps, kvs, ex, hq, hdn, hp, q⟩ := q
  subst ex
  obtain ⟨u, eu, rx⟩ := vals1 r
  subst eu
  cases rx
  obtain ⟨hob, hz, its, rv, o, ho, hc, n, hdat⟩ := (show ObjOk X.prog X.w H s.heap a (.frz ob (.tup (ps.map V.ref))) from I.hok a _ hq)
  rw [hob] at ho; cases ho
  have ei := refs_at rv
  subst ei
  rw [List.length_map] at hz
  obtain ⟨prs, rel, hl, hpr⟩ := pairsT_of I hp
  have hl2 : (prs.map (·.2)).length = ps.length := by rw [List.length_map, hl]
  refine PySem.call_dict_pairs (knd := mixKind X.prog X.w) (kvs := prs.map fun p => (p.1, p.2.2)) (PairArg.tuple a (ps.map Value.ref).toArray (fun j => ps.getD j 0) (prs.map (·.2))) (I.ok.hd hcalm) ⟨⟨_, n, hob, hc, hdn, hdat⟩, ?_, ?_⟩ ⟨?_, ?_⟩ ?_ ?_
  · rw [hl2]; simp
  · intro j k v e
    rw [List.getElem?_map] at e
    cases q' : prs[j]? with
    | none => rw [q'] at e; simp at e
    | some x =>
      rw [q'] at e
      obtain ⟨p, h1, h2, h3⟩ := hpr j x q'
      have e : x.2 = (k, v) := Option.some.inj e
      refine ⟨by simp [h1], .inl ?_⟩
      show s.heap.IsTuple (ps.getD j 0) #[k, v]
      rw [List.getD_eq_getElem?_getD, h1, show k = x.2.1 by rw [e], show v = x.2.2 by rw [e]]
      exact h2
  · rw [List.length_map, List.length_map]
  · intro j k v e
    have e : (prs.map (·.2))[j]? = some (k, v) := e
    rw [List.getElem?_map] at e
    cases q' : prs[j]? with
    | none => rw [q'] at e; simp at e
    | some x =>
      rw [q'] at e
      obtain ⟨p, h1, h2, h3⟩ := hpr j x q'
      have e : x.2 = (k, v) := Option.some.inj e
      refine ⟨x.1, by rw [List.getElem?_map, q']; show some (x.1, x.2.2) = _; rw [e], ?_⟩
      rw [e] at h3
      exact h3
  · rw [hl2]; exact hz
  · intro h' tk hd' k
    have hm : (s.heap.objs.size == sysModules) = false := beq_eq_false_iff_ne.mpr (Nat.ne_of_gt I.big)
    have hlen : (mergeK [] kvs).length ≤ sizeLine := by
      refine Nat.le_trans (length_mergeK kvs []) ?_
      have := rel.length
      rw [List.length_map] at this
      rw [List.length_nil, Nat.zero_add, this, hl]
      exact hz
    exact ⟨.ref s.heap.objs.size, upd H s.heap.objs.size (.dK (mergeK [] kvs)), I.laid (t' := tk) (fun b o e => k b o (by simp) e) (Nat.le_refl _) (show ObjOk X.prog X.w _ _ _ (.dK (mergeK [] kvs)) from ⟨hlen, hm, merged [] (prs.map fun p => (p.1, p.2.2)), KV.merge rel .nil, hd'⟩), rfl, q _ (I.hok.fresh (Nat.le_refl _))⟩
end
end B
/-! more rules that the layer lacks: tuple(list) with its object told; sorted(.., key=f) for lots. -/
namespace B
open PySem PySem.Spec PyProof.Rows L2
section
variable {X : Cx}
def kTupF (K : PySem.W.Frag) (x : V) (H : Hp) (Q : VK) : Prop := ∃ p xs, x = .ref p ∧ SqL K H p xs ∧ ∀ q ob, ob.dict = none → H q = none → Q (.ref q) (upd H q (.frz ob (.tup xs)))
theorem pe_tupleF {a : Expr} {ta : TE} {p pos : Pos} (hg : Gl X "tuple") (hm : X.mg "tuple" = none) (ha : PE X a ta) (na : starEach [a] X.env = (false, eval a X.env) :: starEach [] X.env := by rfl) :
    PE X (.Call (.Name "tuple" p) [a] [] pos) (tThen ta (kTupF X.K)) := by
  refine ⟨fun pins s σ H Q I h => ?_⟩
  refine Call_ (ld_blt I hg hm boot_tuple (PyProof.Rows.callWith_type1 (one_arg ha I h (fun v s x H I r h => ?_) na) na))
  obtain ⟨p, xs, rfl, hs, q⟩ := h
  obtain rfl : v = .ref p := r
  obtain ⟨its, rv, pl, hz⟩ := I.list hs
  refine call_tuple_list pl.isList (fun h' hk => ?_) (by rw [List.size_toArray, ← rv.length]; exact hz)
  have I1 : L2.Inv X pins σ H { s with heap := h' } := I.kept (t' := s.toks) hk
  have I2 : L2.Inv X pins σ (upd H h'.objs.size (.frz { cls := .type "tuple", data := .seq its.toArray } (.tup xs))) { s with heap := h'.push { cls := .type "tuple", data := .seq its.toArray } } :=
    I1.laid (t' := s.toks) (fun b o e => Heap.get?_push_of_some _ e) (Nat.le_refl _) (show ObjOk X.prog X.w _ _ _ (.frz _ (.tup xs)) from ⟨Heap.get?_push_size _ rfl, hz, its, rv, IsTup.new _ _⟩)
  exact ⟨.ref h'.objs.size, _, I2, rfl, q _ _ rfl (I1.hok.fresh (Nat.le_refl _))⟩
/-! ### sorted(lots, key=lot_key) -/
def keyBody (p1 p2 p3 p4 p5 p6 : Pos) (k : Nat) : List Stmt := [.Return (some (.Tuple [.Call (.Name "len" p1) [.Name "lot" p2] [] p3, .Name "lot" p4] k p5)) p6]
def keyD (ns : List Nat) : PyData := .tuple [.int ns.length, .tuple (ns.map fun (n : Nat) => .int n)]
theorem alike_nats : ∀ xs ys : List Nat, PySem.W.alikeAll (xs.map fun (n : Nat) => PyData.int n) (ys.map fun (n : Nat) => PyData.int n) = true
  | [], _ => by simp [PySem.W.alikeAll]
  | _ :: _, [] => by simp [PySem.W.alikeAll]
  | _ :: xs, _ :: ys => by simp [PySem.W.alikeAll, PySem.W.alike, alike_nats xs ys]
theorem depth_nats : ∀ xs : List Nat, PyData.depthAll (xs.map fun (n : Nat) => PyData.int n) = 0
  | [] => by simp [PyData.depthAll]
  | _ :: xs => by simp [PyData.depthAll, PyData.depth, depth_nats xs]
theorem key_alike (xs ys : List Nat) : PySem.W.alike (keyD xs) (keyD ys) = true := by simp [keyD, PySem.W.alike, PySem.W.alikeAll, alike_nats]
theorem key_depth (xs : List Nat) : (keyD xs).depth = 2 := by simp [keyD, PyData.depth, PyData.depthAll, depth_nats]
theorem dp_nats {K : PySem.W.Frag} {H : Hp} : ∀ ns : List Nat, DpAll K H (ns.map fun (n : Nat) => V.int n) (ns.map fun (n : Nat) => PyData.int n)
  | [] => .nil
  | n :: ns => .cons (.int _) (dp_nats ns)
theorem reads_nats {h : Heap} : ∀ {ns : List Nat} {its : List Value}, Vals (ns.map fun (n : Nat) => V.int n) its → ReadsAll h its (ns.map fun (n : Nat) => PyData.int n) []
  | [], its, r => by cases r; exact .nil
  | n :: ns, its, r => by
    rw [List.map_cons] at r
    cases r with
    | cons a b =>
      obtain ⟨t, rfl⟩ := a
      exact .cons (as := []) (bs := []) (.int _ _) (reads_nats b)
theorem lot_key_pure {pins : List (Addr × Obj)} {σ : L2.St} {H : Hp} {s : Shared} {x qual : Str} {params : Arguments} {scope : Scope} {f : Addr} {fd : FuncData} {a : Addr} {ns : List Nat} {p1 p2 p3 p4 p5 p6 : Pos} {k : Nat}
    (I : L2.Inv X pins σ H s) (F : FunD X.K x qual params (keyBody p1 p2 p3 p4 p5 p6 k) scope [] [] f fd) (S : FnScope ["lot"] ["lot"] scope) (hlo : scope.names.lookup ("lot" : Str) = some .local) (hgl : scope.names.lookup ("len" : Str) = some .globalImplicit) (hm : X.mg "len" = none) (hb : Binds X.K fd ["lot"] [])
    (hr : Room 1 X.A.in1.in1) (hh : X.A.in1.in1.frames = X.A.frames) (ha : H a = some (.tup (ns.map fun (n : Nat) => V.int n))) {h : Heap} {tk : Nat} (kp : ∀ b o, s.heap.get? b = some o → h.get? b = some o) :
    wpAny (model X.prog X.w) X.A.in1.in1 (call (.ref f) [.ref a]) (PySem.W.KeyPure (keyD ns) { s with heap := h, toks := tk }) (fun _ _ => False) { s with heap := h, toks := tk } := by
  have J : L2.Inv X pins σ H { s with heap := h, toks := tk } := I.kept kp
  have e0 := J.env0
  have e0 : Env0 X.prog X.w X.K X.mg X.base X.A.in1.in1 X.stack { s with heap := h, toks := tk } H := ⟨hh.trans e0.frames, e0.mod, e0.bs, e0.bsz, e0.funs, e0.frf, e0.hok, e0.bare⟩
  obtain ⟨oc, od, dV, kV, doc, pm, an, cdv, ct, osl, rfl, lk, hcd, _, _⟩ := F.ex
  have KX : X.K.In h := J.kIn
  have hb' : BindsTo { s with heap := h, toks := tk } (PySem.W.fnOf x qual params (keyBody p1 p2 p3 p4 p5 p6 k) scope dV kV doc pm an cdv ct) ⟨[.ref a], []⟩ ((["lot"] : List Str).zip [Value.ref a]) := by
    have := hb { s with heap := h, toks := tk } [.ref a] KX rfl
    simpa using this
  refine wpAny_call (Att.call_fn KX J.nolimit lk hcd hr.depth hb' (by simp [hlo]) (fun s1 x => ?_) S.co S.gen S.kind)
  have J1 := inv_start (CX := CX0) (E := E0) (mg := X.mg) (K := X.K) (P := X.prog) (w := X.w) (base := X.base) (vs := [V.ref a]) S hr.hd e0 rfl (.cons rfl .nil) x
  obtain ⟨h1, tk1, e1, kp1⟩ := x.done
  have ldlot : ∀ (t : Nat) (E : Value → Shared → Prop) (p : Pos) (Q : Value → Shared → Prop), Q (.ref a) { s1 with toks := t } → wpAny (model X.prog X.w) (X.A.in1.in1.deeper (envOfC qual scope h.objs.size f cdv)) (eval (.Name "lot" p) (envOfC qual scope h.objs.size f cdv)) Q E { s1 with toks := t } := fun t E p Q q => by
    obtain ⟨m, hn, hl⟩ := (J1.tok t).loc
    obtain ⟨u, r, l⟩ := hl 0 "lot" (.ref a) rfl rfl (Or.inl hlo)
    cases r
    rcases l with ⟨hk, hm⟩ | ⟨hk, _⟩
    · exact wpAny_Name (wpAny_loadName_local S.kind hk hn hm q) (by decide)
    · have hk : scope.names.lookup ("lot" : Str) = some .cell ∨ scope.names.lookup ("lot" : Str) = some .free := hk
      rw [hlo] at hk
      rcases hk with hk | hk <;> cases hk
  refine wpAny_execs_cons (wpAny_Return_some (wpAny_Tuple_spliced (args_cons ?_ rfl)))
  refine wpAny_Call_Name_kw (ld_blt (X := cxOf CX0 X.prog X.w X.K X.mg X.base ["lot"] qual scope f cdv X.A.in1.in1 X.stack { s with heap := h, toks := tk } H E0) J1 hgl hm boot_len ?_ (by decide) (by decide))
  refine PyProof.Rows.callWith_builtin1 (args_cons (ldlot s1.toks _ _ _ (args_nil ?_)) rfl) rfl rfl
  obtain ⟨its, rv, it, hz⟩ := J1.tuple (SqT.of ha)
  have hlen := rv.length
  have hn := line63
  refine len_tuple it (by simp only [List.size_toArray]; omega) ?_
  refine args_cons (ldlot _ _ _ _ (args_nil ?_)) rfl
  refine ⟨by show 2 ≤ sizeLine; decide, ?_⟩
  have e1' : s1 = { s with heap := h1, toks := tk1 } := e1
  subst e1'
  refine ⟨_, _, rfl, fun b o e => Heap.get?_push_of_some _ (kp1 b o e), ?_⟩
  obtain ⟨o, h2, h3, n, h4⟩ := it
  refine .tuple (o := { cls := .type "tuple", data := .seq #[.int its.toArray.size (tk1 + 1), .ref a] }) (as := []) (Heap.get?_push_size _ rfl) rfl rfl ?_
  have hs : (its.toArray.size : Int) = (ns.length : Int) := by rw [List.size_toArray, ← hlen, List.length_map]
  rw [hs]
  exact .cons (as := []) (bs := []) (.int _ _) (.cons (as := []) (bs := []) (.tuple (Heap.get?_push_of_some _ h2) h3 h4 (by simpa using reads_nats rv)) .nil)
def rSortLots (K : PySem.W.Frag) (f : Addr) : List V → List V → Hp → VK → Prop := fun xs zs H Q => ∃ (a : Addr) (bs : List (Addr × List Nat)), xs = [.ref a] ∧ zs = [.ref f] ∧ SqL K H a (bs.map fun b => V.ref b.1) ∧ (∀ b ∈ bs, H b.1 = some (.tup (b.2.map fun (n : Nat) => V.int n))) ∧
  ∀ (p : Addr) (cs : List (Addr × List Nat)), H p = none → cs.Perm bs → Q (.ref p) (upd H p (.lst (cs.map fun b => V.ref b.1)))
theorem vals_map_ref {α : Type} (g : α → Addr) : ∀ {bs : List α} {us : List Value}, Vals (bs.map fun b => V.ref (g b)) us → us = bs.map fun b => Value.ref (g b)
  | [], us, r => by cases r; rfl
  | b :: bs, us, r => by
    rw [List.map_cons] at r
    cases r with
    | cons h t =>
      cases h
      rw [List.map_cons, ← vals_map_ref g t]
theorem map_ref_vals {α : Type} (g : α → Addr) : ∀ bs : List α, Vals (bs.map fun b => V.ref (g b)) (bs.map fun b => Value.ref (g b))
  | [] => .nil
  | _ :: bs => .cons rfl (map_ref_vals g bs)
theorem each_ref : ∀ {out : List Value} {cs : List (Addr × List Nat)}, PySem.W.EachIs (fun v (b : Addr × List Nat) => v = .ref b.1) out cs → out = cs.map fun b => Value.ref b.1
  | _, _, .nil => rfl
  | _, _, .cons h t => by subst h; rw [List.map_cons, ← each_ref t]
theorem ref_each : ∀ cs : List (Addr × List Nat), PySem.W.EachIs (fun v (b : Addr × List Nat) => v = .ref b.1) (cs.map fun b => Value.ref b.1) cs
  | [] => .nil
  | _ :: cs => .cons rfl (ref_each cs)
theorem cr_sortLots {x qual : Str} {params : Arguments} {scope : Scope} {f : Addr} {fd : FuncData} {p1 p2 p3 p4 p5 p6 : Pos} {k : Nat}
    (F : FunD X.K x qual params (keyBody p1 p2 p3 p4 p5 p6 k) scope [] [] f fd) (S : FnScope ["lot"] ["lot"] scope) (hlo : scope.names.lookup ("lot" : Str) = some .local) (hgl : scope.names.lookup ("len" : Str) = some .globalImplicit) (hm : X.mg "len" = none) (hb : Binds X.K fd ["lot"] [])
    (hr : Room 3 X.A) : CallRK X (.builtin "sorted") [Str.ofString "key"] (rSortLots X.K f) := by
  intro pins s σ H xs zs us ws Q I r1 r2 h
  obtain ⟨a, bs, rfl, rfl, hq, hb', q⟩ := h
  obtain ⟨u, rfl, rx⟩ := vals1 r1
  obtain ⟨w, rfl, rw⟩ := vals1 r2
  cases rx
  obtain rfl : w = .ref f := rw
  obtain ⟨its, rv, pl, hz⟩ := I.list hq
  have ei := vals_map_ref (fun b : Addr × List Nat => b.1) rv
  rw [List.length_map] at hz
  have hu := hr.units
  refine PySem.W.sorted_key_data (b := false) (fun b : Addr × List Nat => keyD b.2) (vs := its) (bs := bs) pl.isList (R := fun v b => v = .ref b.1) (by rw [ei]; exact ref_each bs) (PySem.W.AllAlike.of fun _ _ => key_alike _ _) (PySem.W.Sortable.tuples fun _ => ⟨_, _, rfl⟩) hz (fun b _ => by rw [key_depth]; omega) (ksk_s1 _ _) (fun _ => ksk_l1 _ _) (fun _ => ksk_t1 _ _)
    (fun v b hv hbm h tk kp => by subst hv; exact lot_key_pure I F S hlo hgl hm hb hr.in1.in1 rfl (hb' b hbm) kp) fun out c h' tk kp _ hD _ eo => ?_
  have e1 := each_ref eo
  subst e1
  have I1 : L2.Inv X pins σ (upd H (s.heap.objs.size + 1) (.lst ((bs.mergeSort (PySem.W.dataLe false fun b : Addr × List Nat => keyD b.2)).map fun b => V.ref b.1))) { s with heap := h', toks := tk } :=
    I.laid (a := s.heap.objs.size + 1) kp (Nat.le_succ _) ⟨by rw [List.length_map, List.length_mergeSort]; exact hz, _, c, map_ref_vals (fun b : Addr × List Nat => b.1) _, hD⟩
  exact ⟨.ref _, _, I1, rfl, q _ _ (I.hok.fresh (Nat.le_succ _)) (List.mergeSort_perm _ _)⟩
end
end B
/-! a set comprehension of whole numbers (HandS.SetBool's way, turned to ints). -/
namespace B
open PySem PySem.Spec PyProof.Rows L2 PpSet
theorem addI_ok {X : Cx} {pins : List (Addr × Obj)} {σ : L2.St} {H : Hp} {s : Shared} {E : Value → Shared → Prop} {D : Addr} {S : Int → Bool} {n : Nat} {y : Int} {tk : Tok} {Q : Value → Shared → Prop} (I : L2.Inv X pins σ H s) (hD : H D = some (SetO X.w D S n)) (room : n + 1 < scanBound)
    (h : ∀ s', L2.Inv X pins σ (upd H D (SetO X.w D (fun j => S j || decide (j = y)) (if S y = true then n else n + 1))) s' → Q .none s') : wpAny (model X.prog X.w) X.A (call (.builtin "set.add") [.ref D, .int y tk]) Q E s := by
  have R := setO_get I hD
  refine setR_add R room fun h' sb new => ?_
  have he : ∃ u, h'.get? D = some u := by
    have ⟨o, _, _, _, ho, _⟩ := new
    exact ⟨o, ho⟩
  exact h _ (I.write (e := D) (t' := s.toks + 1) (by rw [hD]; trivial) (.inl rfl) (fun b u hb hu => (sb.2 b hb).trans hu) he (setO_new new))
section
variable {X : Cx}
/-- {elt for target in iter if ..}, elt a whole number: D the new set -/
def tScI (w : World) (wi : TI) (g : TG) (tt : TT) (te : TE) (vs : List Nat) : TE := fun σ H Q => wi σ H fun J H1 => ∀ D, H1 D = none → ∃ W : Nat → Nat → Hp → Prop, (∃ m, W 0 m (upd H1 D (SetO w D (fun _ => false) 0))) ∧ ∀ i m H, W i m H →
  (J.stop i H ∧ Q (.ref D) H) ∨ (J.go i H ∧ ∃ Nx : Hp → Prop, (∀ H', Nx H' → ∃ m', m' < m ∧ W (i + 1) m' H') ∧ ∀ x H', J.yld i H x H' → g x (wipe σ vs) H' fun σ2 H2 => wipe σ2 vs = wipe σ vs ∧ tt σ2 H2 fun b H3 =>
    if b = true then te σ2 H3 fun y H4 => ∃ (c : Int) (S : Int → Bool) (n : Nat), y = .int c ∧ H4 D = some (SetO w D S n) ∧ n + 1 < scanBound ∧ Nx (upd H4 D (SetO w D (fun j => S j || decide (j = c)) (if S c = true then n else n + 1))) else Nx H3)
theorem scI_core {pins : List (Addr × Obj)} {s : Shared} {σ : L2.St} {H : Hp} {Q : VK} {elt tg iter : Expr} {ifs : List Expr} {scope : Scope} {own : List (PySem.Str × Nat)} {pos pos' : Pos} {wi : TI} {g : TG} {tt : TT} {te : TE} {use : Option (Value → Sem Unit)} {Qf : Value → Shared → Prop}
    (hc : X.calm = true) (hN : X.N.Nodup) (I : L2.Inv X pins σ H s) (hi : PI X tg iter wi) (ok : BlkOk X.N X.env.scope scope own)
    (hg : ∀ (s : Shared) (H : Hp) (C : Addr) (cl : List (PySem.Str × Addr)) (fp : List Addr), PG (X.blk s H scope (compEnvC scope cl C X.env) fp) tg g) (ht : ∀ (s : Shared) (H : Hp) (C : Addr) (cl : List (PySem.Str × Addr)) (fp : List Addr), PTs (X.blk s H scope (compEnvC scope cl C X.env) fp) ifs tt)
    (he : ∀ (s : Shared) (H : Hp) (C : Addr) (cl : List (PySem.Str × Addr)) (fp : List Addr), PE (X.blk s H scope (compEnvC scope cl C X.env) fp) elt te) (hs : ∀ x, foldedSetIterable iter X.env x = pure x)
    (h : tScI X.w wi g tt te (own.map (·.2)) σ H Q)
    (hRR : ∀ D C s' m H', L2.Inv X pins σ H' s' → Q (.ref D) H' → s'.heap.Ns C m → FpOk X pins H' C → compPost (model X.prog X.w) X.A X.xe use Qf (.ref D) C (.ok .next) s') :
    wpAny (model X.prog X.w) X.A (comprehension (.SetComp elt [⟨tg, iter, ifs, 0⟩] scope pos) scope X.env pos' (newSet (.type "set")) false (eval iter X.env) use) Qf X.xe s := by
  have hfree : ∀ y ∈ scope.names, y.2 = .free → ∃ c, X.env.cells.lookup y.1 = some c := fun y hy e => by
    rcases ok.free y hy e with k | k
    · exact I.ok.has _ (.inl k)
    · exact I.ok.has _ (.inr k)
  refine wpAny_comprehension_free (use := use) rfl hs (closure_ok hfree) ok.kind (fun y hy e => by rw [ok.uniq y hy, e])
    (thn (hi.run pins s σ H _ I h) fun xv s1 hx => thn hx fun itv s2 h2 => ?_)
  obtain ⟨it, fp, tn, J, H2, e, I2, T, st2, f2, q⟩ := h2
  subst e
  refine newSet_ok (newEnv_comp ?_)
  generalize hD : s2.heap.objs.size = D
  have hDn : H2 D = none := I2.hok.fresh (Nat.le_of_eq hD)
  obtain ⟨W, ⟨m0, w0⟩, turn⟩ := q D hDn
  -- the new list
  generalize hs3 : ({ s2 with heap := s2.heap.push { cls := .type "set", dict := none, data := .set #[] 0 (.fresh 0 0 (!X.w.params.followText "set-order")) } } : Shared) = s3
  have I3 : L2.Inv X pins σ (upd H2 D (SetO X.w D (fun _ => false) 0)) s3 := by
    rw [← hs3]
    refine I2.laid (t' := s2.toks) (fun b o e => Heap.get?_push_of_some _ e) (Nat.le_of_eq hD) ?_
    rw [← hD]
    exact setO_new (setR_fresh X.w)
  have h3 : s3.heap = s2.heap.push { cls := .type "set", dict := none, data := .set #[] 0 (.fresh 0 0 (!X.w.params.followText "set-order")) } := by rw [← hs3]
  have sz : ∀ b ∈ fp, b < s2.heap.objs.size := fun b hb => by
    obtain ⟨o, e, _⟩ := T.obj _ _ st2 b hb
    exact Heap.lt_size e
  have f3 : ∀ b ∈ fp, FpOk X pins (upd H2 D (SetO X.w D (fun _ => false) 0)) b ∧ b < s3.heap.objs.size := fun b hb => by
    have hlt := sz b hb
    refine ⟨⟨?_, (f2 b hb).2⟩, by rw [h3, Heap.size_push]; exact Nat.lt_succ_of_lt hlt⟩
    rw [upd_ne (by rw [← hD]; exact Nat.ne_of_lt hlt)]
    exact (f2 b hb).1
  have st3 : tn 0 s3.heap := T.keep _ _ _ st2 fun b _ o e => by rw [h3]; exact Heap.get?_push_of_some _ e
  have I4 := block_start I3 ok hN f3
  have pg := hg s3 (upd H2 D (SetO X.w D (fun _ => false) 0)) s3.heap.objs.size (cellsFrom (s3.heap.objs.size + 1) scope.names (cloFrom X.env.cells scope.names [])) fp
  have pt := ht s3 (upd H2 D (SetO X.w D (fun _ => false) 0)) s3.heap.objs.size (cellsFrom (s3.heap.objs.size + 1) scope.names (cloFrom X.env.cells scope.names [])) fp
  have pe := he s3 (upd H2 D (SetO X.w D (fun _ => false) 0)) s3.heap.objs.size (cellsFrom (s3.heap.objs.size + 1) scope.names (cloFrom X.env.cells scope.names [])) fp
  show codeAny _ _ (.compStart (.SetComp elt [⟨tg, iter, ifs, 0⟩] scope pos) 0 (.ref it) (.ref D) (compEnvC scope (cellsFrom (s3.heap.objs.size + 1) scope.names (cloFrom X.env.cells scope.names [])) s3.heap.objs.size X.env)) (compPost (model X.prog X.w) X.A X.xe use Qf (.ref D) s3.heap.objs.size) { s3 with heap := pushCells (s3.heap.push { cls := .type "dict", data := .dict #[] }) scope.names }
  have nfp : ∀ b ∈ fp, (upd H2 D (SetO X.w D (fun _ => false) 0)) b = none := fun b hb => (f3 b hb).1.1
  generalize hce : compEnvC scope (cellsFrom (s3.heap.objs.size + 1) scope.names (cloFrom X.env.cells scope.names [])) s3.heap.objs.size X.env = ce at I4 pg pt pe ⊢
  have cL : ce.locals = s3.heap.objs.size := by subst hce; rfl
  generalize hH3 : upd H2 D (SetO X.w D (fun _ => false) 0) = H3 at I3 I4 pg pt pe w0 nfp f3
  generalize hs4 : ({ s3 with heap := pushCells (s3.heap.push { cls := .type "dict", data := .dict #[] }) scope.names } : Shared) = s4 at I4 ⊢
  have st4 : tn 0 s4.heap := T.keep _ _ _ st3 fun b _ o e => by rw [← hs4]; exact pushCells_keeps _ _ _ _ (Heap.get?_push_of_some _ e)
  have stat : ∀ {σ' : L2.St} {H' : Hp} {s' : Shared}, L2.Inv (X.blk s3 H3 scope ce fp) [] σ' H' s' → (∀ b ∈ fp, H' b = none) → ∀ b ∈ fp, FpOk (X.blk s3 H3 scope ce fp) [] H' b := fun {σ' H' s'} I' hn b hb =>
    ⟨hn b hb, (I'.ok.exf b hb).1, I'.ok.exfs b hb, .inl hb, fun x c e => (I'.ok.exf b hb).2 x c e, fun p hp => absurd (show p ∈ ([] : List (Addr × Obj)) ++ [] from hp) (by simp)⟩
  have loop : codeAny (model X.prog X.w) X.A (.compLoop (.SetComp elt [⟨tg, iter, ifs, 0⟩] scope pos) 0 (.ref it) (.ref D) ce) (compPost (model X.prog X.w) X.A X.xe use Qf (.ref D) s3.heap.objs.size) s4 := by
    refine compLoopS_any (fun n s' => ∃ i H', L2.Inv (X.blk s3 H3 scope ce fp) [] (wipe σ (own.map (·.2))) H' s' ∧ tn i s'.heap ∧ (∀ b ∈ fp, H' b = none) ∧ W i n H') ?_ m0 ⟨0, H3, I4, st4, nfp, w0⟩
    rintro n s5 ⟨i, H5, I5, st5, n5, w5⟩
    rcases turn i n H5 w5 with ⟨stop, qq⟩ | ⟨go, Nx, hNx, step⟩
    · have td := T.done (X.blk s3 H3 scope ce fp) rfl rfl rfl hc i [] s5 _ H5 (fun _ _ => False) I5 (stat I5 n5) st5 stop
      refine thnF td fun r s6 ⟨hr, I6⟩ => ?_
      subst hr
      -- back in the def's context
      have I7 : L2.Inv X pins σ H5 s6 := I3.call' (ch := fp) I6.os I6.base I6.hok I6.bare fun b hb => ⟨(f3 b hb).1.2.2.2.1, (f3 b hb).1.2.1, (f3 b hb).1.2.2.2.2.1, (f3 b hb).1.2.2.2.2.2⟩
      have nC : H5 s3.heap.objs.size = none := by
        have z : H5 ce.locals = none := I6.free
        rw [cL] at z
        exact z
      obtain ⟨m, hn, _⟩ := I6.loc
      have hn : s6.heap.Ns ce.locals m := hn
      rw [cL] at hn
      exact hRR D s3.heap.objs.size s6 m H5 I7 qq hn (I3.fpOk (Nat.le_refl _) nC)
    · have ti := T.item (X.blk s3 H3 scope ce fp) rfl rfl rfl hc i [] s5 _ H5 (fun _ _ => False) I5 (stat I5 n5) st5 go
      refine thnF ti fun r s6 ⟨u, hr, h6⟩ => ?_
      subst hr
      refine thnF h6 fun _ s7 ⟨x, H7, I7, r7, y7, st7, n7⟩ => ?_
      have I7' := I7.pinned (stat I7 n7) (T.obj _ _ st7)
      refine thnF (pg.run _ s7 _ H7 x u _ I7' r7 (step x H7 y7)) fun _ s8 ⟨σ8, H8, I8, hw8, q8⟩ => ?_
      refine thnF (pt.run _ s8 σ8 H8 _ I8 q8) fun b s9 ⟨H9, I9, q9⟩ => ?_
      -- the turn's end
      have fin : ∀ {s' : Shared} {H' : Hp}, L2.Inv (X.blk s3 H3 scope ce fp) ([] ++ pinsAt fp s7.heap) σ8 H' s' → Nx H' → ∃ m, m < n ∧ ∃ i H', L2.Inv (X.blk s3 H3 scope ce fp) [] (wipe σ (own.map (·.2))) H' s' ∧ tn i s'.heap ∧ (∀ b ∈ fp, H' b = none) ∧ W i m H' := fun {s' H'} I' nx => by
        obtain ⟨m', hm, w'⟩ := hNx H' nx
        have pin' : ∀ b ∈ fp, ∀ o, s7.heap.get? b = some o → s'.heap.get? b = some o ∧ H' b = none := fun b hb o e =>
          let z := I'.pin (b, o) (List.mem_append_right _ (List.mem_append_right _ (mem_pinsAt hb e)))
          ⟨z.1, z.2.1⟩
        have hl : (wipe σ (own.map (·.2))).length = σ8.length := by rw [← hw8, wipe_length]
        refine ⟨m', hm, i + 1, H', (I'.unpinned (pins := [])).weak hl (fun j v e => ?_), T.keep _ _ _ st7 fun b hb o e => (pin' b hb o e).1, fun b hb => ?_, w'⟩
        · rw [← hw8] at e
          exact (wipe_some e).1
        · obtain ⟨o, e, _⟩ := T.obj _ _ st7 b hb
          exact (pin' b hb o e).2
      cases b with
      | false =>
        simp only [Bool.false_eq_true, if_false] at q9 ⊢
        exact fin I9 q9
      | true =>
        simp only [if_true] at q9 ⊢
        refine thnF (pe.run _ s9 σ8 H9 _ I9 q9) fun z s10 ⟨yv, H10, I10, r10, cb, S0, n0, ey, hD10, hz10, nx⟩ => ?_
        subst ey
        obtain ⟨tkz, rfl⟩ := r10
        exact addI_ok (X := X.blk s3 H3 scope ce fp) I10 hD10 hz10 fun s11 I11 => fin I11 nx
  exact PpSet.codeAny_compStart_set loop (T.self X.A 0 _ _ _ st4 loop)
/-- as a value -/
theorem pe_scI {elt tg iter : Expr} {ifs : List Expr} {scope : Scope} {own : List (PySem.Str × Nat)} {pos : Pos} {wi : TI} {g : TG} {tt : TT} {te : TE} (hc : X.calm = true) (hN : X.N.Nodup) (hi : PI X tg iter wi) (ok : BlkOk X.N X.env.scope scope own)
    (hg : ∀ (s : Shared) (H : Hp) (C : Addr) (cl : List (PySem.Str × Addr)) (fp : List Addr), PG (X.blk s H scope (compEnvC scope cl C X.env) fp) tg g) (ht : ∀ (s : Shared) (H : Hp) (C : Addr) (cl : List (PySem.Str × Addr)) (fp : List Addr), PTs (X.blk s H scope (compEnvC scope cl C X.env) fp) ifs tt)
    (he : ∀ (s : Shared) (H : Hp) (C : Addr) (cl : List (PySem.Str × Addr)) (fp : List Addr), PE (X.blk s H scope (compEnvC scope cl C X.env) fp) elt te) (hs : ∀ x, foldedSetIterable iter X.env x = pure x := by intro _; rfl) :
    PE X (.SetComp elt [⟨tg, iter, ifs, 0⟩] scope pos) (tScI X.w wi g tt te (own.map (·.2))) := by
  refine ⟨fun pins s σ H Q I h => ?_⟩
  rw [eval_SetComp]
  refine scI_core hc hN I hi ok hg ht he hs h fun D C s' m H' I' q hn f => ⟨m, hn, fun h'' sb => ?_⟩
  obtain ⟨f0, f1, f2, f3, f4, f5⟩ := f
  exact ⟨.ref D, H', I'.turned (t' := s'.toks) (fun b o hb e => (sb.2 b hb).trans e) f0 f1 f3 f4 f5, rfl, q⟩
end
end B
/-! Pois: a run that is known to end well from every table of generators leaves the sleeping ones as they are.
   A sleeping generator is exchanged for one that cannot be woken; the run from there shows that nobody wakes it. -/
namespace Pois
open PySem
abbrev stop : Resume → Sem Fin := fun _ => .unsupported ""
def pz : GenState → GenState
  | .suspended _ l c p fs cl => .suspended stop l c p fs cl
  | x => x
def asleep : GenState → Bool
  | .suspended .. => true
  | _ => false
theorem pz_seen (x : GenState) : (pz x).seen = x.seen := by cases x <;> rfl
theorem pz_bare (x : GenState) : (pz x).bare = x.bare := by cases x <;> rfl
theorem pz_awake {x : GenState} (h : asleep x = false) : pz x = x := by cases x <;> first | rfl | cases h
/-- no run of what is not supported -/
theorem no_unsup {M : Model} {Γ : Ctx} {p : Pos} {w : String} {fs : List Frame} {s s' : Shared} {e : End} (h : Runs M Γ p (.unsupported w) fs s e s') : False := by
  generalize ht : (Sem.unsupported w : Sem Fin) = t at h
  induction h with
  | segRet _ _ ih _ => exact ih ht
  | segGen _ _ ih _ => exact ih ht
  | segSuspOut _ _ ih => exact ih ht
  | segSuspGen _ _ _ _ ih _ => exact ih ht
  | _ => cases ht
/-- b is a, but where G sleeps: there a holds the exchanged one, b the true one -/
structure Sim (G a b : Array GenState) : Prop where
  le : G.size ≤ a.size
  sz : a.size = b.size
  at_ : ∀ (i : Nat) y, G[i]? = some y → asleep y = true → a[i]? = some (pz y) ∧ b[i]? = some y
  off : ∀ (i : Nat), (∀ y, G[i]? = some y → asleep y = false) → a[i]? = b[i]?
  plain : ∀ (i : Nat) k l c p fs cl, a[i]? = some (.suspended k l c p fs cl) → k = stop ∨ splitAtGen fs = none
section
variable {G a b : Array GenState}
theorem Sim.cases (S : Sim G a b) (i : Nat) : (∃ y, G[i]? = some y ∧ asleep y = true ∧ a[i]? = some (pz y) ∧ b[i]? = some y) ∨ ((∀ y, G[i]? = some y → asleep y = false) ∧ a[i]? = b[i]?) := by
  cases h : G[i]? with
  | none => exact .inr ⟨fun y e => (by cases e), S.off i fun y e => (by rw [h] at e; cases e)⟩
  | some y =>
    cases hy : asleep y with
    | true => exact .inl ⟨y, rfl, hy, S.at_ i y h hy⟩
    | false =>
      have k : ∀ z, G[i]? = some z → asleep z = false := fun z e => by rw [h] at e; cases e; exact hy
      exact .inr ⟨fun z e => (by cases e; exact hy), S.off i k⟩
theorem Sim.seen (S : Sim G a b) {i : Nat} {x : GenState} (h : a[i]? = some x) : ∃ y, b[i]? = some y ∧ y.seen = x.seen := by
  rcases S.cases i with ⟨y, _, _, h2, h3⟩ | ⟨_, h2⟩
  · rw [h] at h2
    cases h2
    exact ⟨y, h3, (pz_seen y).symm⟩
  · exact ⟨x, by rw [← h2]; exact h, rfl⟩
theorem pz_stop {y : GenState} {k l c p fs cl} (hy : asleep y = true) (e : pz y = .suspended k l c p fs cl) : k = stop := by
  cases y with
  | suspended k0 l0 c0 p0 fs0 cl0 =>
    have e : GenState.suspended stop l0 c0 p0 fs0 cl0 = .suspended k l c p fs cl := e
    cases e
    rfl
  | _ => cases hy
theorem Sim.other (S : Sim G a b) {i : Nat} {x : GenState} (h : a[i]? = some x) (hx : ∀ y, asleep y = true → pz y ≠ x) : (∀ y, G[i]? = some y → asleep y = false) ∧ b[i]? = some x := by
  rcases S.cases i with ⟨y, _, h1, h2, _⟩ | ⟨h1, h2⟩
  · rw [h] at h2
    cases h2
    exact absurd rfl (hx y h1)
  · exact ⟨h1, by rw [← h2]; exact h⟩
theorem pz_ne {x : GenState} (hx : asleep x = false) : ∀ y, asleep y = true → pz y ≠ x := fun y hy e => by
  have h : asleep (pz y) = asleep y := by cases y <;> rfl
  rw [e, hx, hy] at h
  cases h
theorem Sim.set (S : Sim G a b) {i : Nat} {x : GenState} (hi : ∀ y, G[i]? = some y → asleep y = false) (hp : ∀ k l c p fs cl, x = .suspended k l c p fs cl → splitAtGen fs = none) : Sim G (a.setIfInBounds i x) (b.setIfInBounds i x) where
  le := by rw [Array.size_setIfInBounds]; exact S.le
  sz := by rw [Array.size_setIfInBounds, Array.size_setIfInBounds]; exact S.sz
  at_ := fun j y h hy => by
    have ne : i ≠ j := fun e => by subst e; rw [hi y h] at hy; cases hy
    rw [Array.getElem?_setIfInBounds_ne ne, Array.getElem?_setIfInBounds_ne ne]
    exact S.at_ j y h hy
  off := fun j h => by
    by_cases e : i = j
    · subst e
      by_cases hl : i < a.size
      · rw [Array.getElem?_setIfInBounds_self_of_lt hl, Array.getElem?_setIfInBounds_self_of_lt (by rw [← S.sz]; exact hl)]
      · have h1 : (a.setIfInBounds i x)[i]? = none := Array.getElem?_eq_none_iff.mpr (by rw [Array.size_setIfInBounds]; omega)
        have h2 : (b.setIfInBounds i x)[i]? = none := Array.getElem?_eq_none_iff.mpr (by rw [Array.size_setIfInBounds, ← S.sz]; omega)
        rw [h1, h2]
    · rw [Array.getElem?_setIfInBounds_ne e, Array.getElem?_setIfInBounds_ne e]
      exact S.off j h
  plain := fun j k l c p fs cl h => by
    by_cases e : i = j
    · subst e
      by_cases hl : i < a.size
      · rw [Array.getElem?_setIfInBounds_self_of_lt hl] at h
        exact .inr (hp k l c p fs cl (Option.some.inj h))
      · have h1 : (a.setIfInBounds i x)[i]? = none := Array.getElem?_eq_none_iff.mpr (by rw [Array.size_setIfInBounds]; omega)
        rw [h1] at h
        cases h
    · rw [Array.getElem?_setIfInBounds_ne e] at h
      exact S.plain j k l c p fs cl h
theorem Sim.push (S : Sim G a b) (c : Code) : Sim G (a.push (.fresh c)) (b.push (.fresh c)) where
  le := by rw [Array.size_push]; exact Nat.le_succ_of_le S.le
  sz := by rw [Array.size_push, Array.size_push, S.sz]
  at_ := fun j y h hy => by
    have hl : j < G.size := (Array.getElem?_eq_some_iff.mp h).1
    have h1 := S.le
    have h2 := S.sz
    rw [Array.getElem?_push, Array.getElem?_push, if_neg (by omega), if_neg (by omega)]
    exact S.at_ j y h hy
  off := fun j h => by
    have h2 := S.sz
    rw [Array.getElem?_push, Array.getElem?_push, h2]
    by_cases e : j = b.size
    · rw [if_pos e, if_pos e]
    · rw [if_neg e, if_neg e]
      exact S.off j h
  plain := fun j k l cc p fs cl h => by
    rw [Array.getElem?_push] at h
    by_cases e : j = a.size
    · rw [if_pos e] at h
      cases h
    · rw [if_neg e] at h
      exact S.plain j k l cc p fs cl h
end
theorem split_append : ∀ {fs gs : List Frame}, splitAtGen fs = none → splitAtGen gs = none → splitAtGen (fs ++ gs) = none
  | [], _, _, h => h
  | .gen .. :: _, _, h, _ => by cases h
  | .ret k h g l c p kp :: r, gs, hf, hg => by
    have h1 : splitAtGen r = none := by
      have h2 : (splitAtGen r).map (fun (x : List Frame × (Nat × (GenResult → Sem Fin) × Code × Pos) × List Frame) => (Frame.ret k h g l c p kp :: x.1, x.2.1, x.2.2)) = none := hf
      exact Option.map_eq_none_iff.mp h2
    show (splitAtGen (r ++ gs)).map _ = none
    rw [split_append h1 hg]
    rfl
theorem split_tail {F : Frame} {fs : List Frame} (h : splitAtGen (F :: fs) = none) : splitAtGen fs = none := by
  cases F with
  | gen => cases h
  | ret k hh g l c p kp =>
    have h2 : (splitAtGen fs).map (fun (x : List Frame × (Nat × (GenResult → Sem Fin) × Code × Pos) × List Frame) => (Frame.ret k hh g l c p kp :: x.1, x.2.1, x.2.2)) = none := h
    exact Option.map_eq_none_iff.mp h2
abbrev wg (s : Shared) (b : Array GenState) : Shared := { s with gens := b }
def plainEnd : End → Prop
  | .ret _ => True
  | .susp _ _ _ _ _ _ fs => splitAtGen fs = none
theorem plain_state {e : End} (h : plainEnd e) : ∀ k l c p fs cl, e.genState = .suspended k l c p fs cl → splitAtGen fs = none := by
  intro k l c p fs cl q
  cases e with
  | ret r => cases q
  | susp v g l0 k0 c0 p0 fs0 =>
    have q : GenState.suspended k0 l0 c0 p0 fs0 (g || fs0.any Frame.guarded) = .suspended k l c p fs cl := q
    cases q
    exact h
/-- THE SIMULATION -/
theorem runs_sim {M : Model} {G : Array GenState} {Γ : Ctx} {p : Pos} {t : Sem Fin} {fs : List Frame} {s s' : Shared} {e : End} (h : Runs M Γ p t fs s e s') :
    ∀ b, Sim G s.gens b → splitAtGen fs = none → ∃ b', Sim G s'.gens b' ∧ plainEnd e ∧ Runs M Γ p t fs (wg s b) e (wg s' b') := by
  induction h with
  | done => exact fun b S hf => ⟨b, S, trivial, .done⟩
  | raise => exact fun b S hf => ⟨b, S, trivial, .raise⟩
  | again hq _ ih => exact fun b S hf => let ⟨b', S', pe, r⟩ := ih b S hf; ⟨b', S', pe, .again hq r⟩
  | rule _ ih => exact fun b S hf => let ⟨b', S', pe, r⟩ := ih b S hf; ⟨b', S', pe, .rule r⟩
  | «at» _ ih => exact fun b S hf => let ⟨b', S', pe, r⟩ := ih b S hf; ⟨b', S', pe, .at r⟩
  | load ho _ ih => exact fun b S hf => let ⟨b', S', pe, r⟩ := ih b S hf; ⟨b', S', pe, .load ho r⟩
  | update ho _ ih => exact fun b S hf => let ⟨b', S', pe, r⟩ := ih b S hf; ⟨b', S', pe, .update ho r⟩
  | loadIfAlive _ ih => exact fun b S hf => let ⟨b', S', pe, r⟩ := ih b S hf; ⟨b', S', pe, .loadIfAlive r⟩
  | point _ ih => exact fun b S hf => let ⟨b', S', pe, r⟩ := ih b S hf; ⟨b', S', pe, .point r⟩
  | alloc _ ih => exact fun b S hf => let ⟨b', S', pe, r⟩ := ih b S hf; ⟨b', S', pe, .alloc r⟩
  | fresh _ ih => exact fun b S hf => let ⟨b', S', pe, r⟩ := ih b S hf; ⟨b', S', pe, .fresh r⟩
  | ask _ ih => exact fun b S hf => let ⟨b', S', pe, r⟩ := ih b S hf; ⟨b', S', pe, .ask r⟩
  | choose hn _ ih => exact fun b S hf => let ⟨b', S', pe, r⟩ := ih b S hf; ⟨b', S', pe, .choose hn r⟩
  | os _ ih => exact fun b S hf => let ⟨b', S', pe, r⟩ := ih b S hf; ⟨b', S', pe, .os r⟩
  | handled _ ih => exact fun b S hf => let ⟨b', S', pe, r⟩ := ih b S hf; ⟨b', S', pe, .handled r⟩
  | stack _ ih => exact fun b S hf => let ⟨b', S', pe, r⟩ := ih b S hf; ⟨b', S', pe, .stack r⟩
  | thread _ ih => exact fun b S hf => let ⟨b', S', pe, r⟩ := ih b S hf; ⟨b', S', pe, .thread r⟩
  | genState hg _ ih =>
    intro b S hf
    obtain ⟨y, hy, es⟩ := S.seen hg
    obtain ⟨b', S', pe, r⟩ := ih b S hf
    refine ⟨b', S', pe, .genState (st := y) hy ?_⟩
    rw [es]
    exact r
  | newGen _ ih =>
    intro b S hf
    obtain ⟨b', S', pe, r⟩ := ih (b.push _) (S.push _) hf
    refine ⟨b', S', pe, .newGen ?_⟩
    rw [S.sz] at r
    exact r
  | call _ _ ih1 ih2 =>
    intro b S hf
    obtain ⟨b1, S1, _, r1⟩ := ih1 b S rfl
    obtain ⟨b2, S2, pe, r2⟩ := ih2 b1 S1 rfl
    exact ⟨b2, S2, pe, .call r1 r2⟩
  | callSusp _ ih1 =>
    intro b S hf
    obtain ⟨b1, S1, pe, r1⟩ := ih1 b S rfl
    exact ⟨b1, S1, split_append pe rfl, .callSusp r1⟩
  | yield => exact fun b S hf => ⟨b, S, rfl, .yield⟩
  | resumeFresh hg _ hq _ ih1 ih2 =>
    intro b S hf
    obtain ⟨o, hb⟩ := S.other hg (pz_ne rfl)
    obtain ⟨b1, S1, pe1, r1⟩ := ih1 _ (S.set o fun _ _ _ _ _ _ z => by cases z) rfl
    obtain ⟨b2, S2, pe2, r2⟩ := ih2 _ (S1.set o (plain_state pe1)) rfl
    exact ⟨b2, S2, pe2, .resumeFresh hb r1 hq r2⟩
  | resumeSuspended hg h1 hq _ ih1 ih2 =>
    intro b S hf
    rcases S.cases _ with ⟨y, _, hy, ha, _⟩ | ⟨o, hb⟩
    · rw [hg] at ha
      have ek := pz_stop hy (Option.some.inj ha).symm
      rw [ek] at h1
      exact (no_unsup h1).elim
    · rcases S.plain _ _ _ _ _ _ _ hg with ek | hsp
      · rw [ek] at h1
        exact (no_unsup h1).elim
      · obtain ⟨b1, S1, pe1, r1⟩ := ih1 _ (S.set o fun _ _ _ _ _ _ z => by cases z) hsp
        obtain ⟨b2, S2, pe2, r2⟩ := ih2 _ (S1.set o (plain_state pe1)) rfl
        exact ⟨b2, S2, pe2, .resumeSuspended (hb ▸ hg) r1 hq r2⟩
  | resumeJustStarted hg hv _ ih =>
    intro b S hf
    obtain ⟨o, hb⟩ := S.other hg (pz_ne rfl)
    obtain ⟨b', S', pe, r⟩ := ih b S hf
    exact ⟨b', S', pe, .resumeJustStarted hb hv r⟩
  | resumeThrowFresh hg _ ih =>
    intro b S hf
    obtain ⟨o, hb⟩ := S.other hg (pz_ne rfl)
    obtain ⟨b', S', pe, r⟩ := ih _ (S.set o fun _ _ _ _ _ _ z => by cases z) hf
    exact ⟨b', S', pe, .resumeThrowFresh hb r⟩
  | resumeRunning hg _ ih =>
    intro b S hf
    obtain ⟨o, hb⟩ := S.other hg (pz_ne rfl)
    obtain ⟨b', S', pe, r⟩ := ih b S hf
    exact ⟨b', S', pe, .resumeRunning hb r⟩
  | resumeFinished hg _ ih =>
    intro b S hf
    obtain ⟨o, hb⟩ := S.other hg (pz_ne rfl)
    obtain ⟨b', S', pe, r⟩ := ih b S hf
    exact ⟨b', S', pe, .resumeFinished hb r⟩
  | segRet _ _ ih1 ih2 =>
    intro b S hf
    obtain ⟨b1, S1, _, r1⟩ := ih1 b S rfl
    obtain ⟨b2, S2, pe, r2⟩ := ih2 b1 S1 (split_tail hf)
    exact ⟨b2, S2, pe, .segRet r1 r2⟩
  | segGen _ _ _ _ => intro b S hf; cases hf
  | segSuspOut hsp _ ih =>
    intro b S hf
    obtain ⟨b1, S1, pe, r1⟩ := ih b S rfl
    exact ⟨b1, S1, split_append pe hsp, .segSuspOut hsp r1⟩
  | segSuspGen hsp _ _ _ _ _ => intro b S hf; rw [hf] at hsp; cases hsp
/-- .. of a tree -/
theorem wp_sim {M : Model} {α : Type} {G : Array GenState} (m : Sem α) : ∀ {Γ : Ctx} {Q : α → Pos → Shared → Prop} {E : Value → Pos → Shared → Prop} {p : Pos} {s : Shared} {b : Array GenState},
    Sem.wp M Γ m Q E p s → Sim G s.gens b →
    Sem.wp M Γ m (fun a p' s1 => ∃ s2 b', Q a p' s2 ∧ Sim G s2.gens b' ∧ s1 = wg s2 b') (fun x p' s1 => ∃ s2 b', E x p' s2 ∧ Sim G s2.gens b' ∧ s1 = wg s2 b') p (wg s b) := by
  induction m with
  | pure a => intro Γ Q E p s b h S; exact ⟨s, b, h, S, rfl⟩
  | raise x => intro Γ Q E p s b h S; exact ⟨s, b, h, S, rfl⟩
  | unsupported what => intro Γ Q E p s b h; exact h.elim
  | finish x => intro Γ Q E p s b h; exact h.elim
  | register a k => intro Γ Q E p s b h; exact h.elim
  | yield v g l k => intro Γ Q E p s b h; exact h.elim
  | fork c k => intro Γ Q E p s b h; exact h.elim
  | await a f d l k => intro Γ Q E p s b h; exact h.elim
  | rule tag k ih => intro Γ Q E p s b h S; exact ih () h S
  | «at» p' k ih => intro Γ Q E p s b h S; exact ih () h S
  | load a part k ih => intro Γ Q E p s b h S; obtain ⟨o, ho, h⟩ := h; exact ⟨o, ho, ih o h S⟩
  | update a part f k ih => intro Γ Q E p s b h S; obtain ⟨ho, h⟩ := h; exact ⟨ho, ih () h S⟩
  | loadIfAlive a k ih => intro Γ Q E p s b h S; exact ih _ h S
  | point l k ih => intro Γ Q E p s b h S; exact ih () h S
  | alloc o k ih => intro Γ Q E p s b h S; exact ih _ h S
  | fresh k ih => intro Γ Q E p s b h S; exact ih _ h S
  | ask k ih => intro Γ Q E p s b h S; exact ih _ h S
  | choose src n k ih => intro Γ Q E p s b h S; obtain ⟨hn, h⟩ := h; exact ⟨hn, ih _ h S⟩
  | os q l k ih => intro Γ Q E p s b h S; exact ih _ h S
  | call c h g l k ih =>
    intro Γ Q E p s b hw S
    obtain ⟨r, s1, hr, hw⟩ := hw
    obtain ⟨b1, S1, _, r1⟩ := runs_sim hr b S rfl
    exact ⟨r, wg s1 b1, r1, ih r hw S1⟩
  | handled own k ih => intro Γ Q E p s b h S; exact ih _ h S
  | newGen c k ih =>
    intro Γ Q E p s b h S
    have h1 : Sem.wp M Γ (k s.gens.size) Q E p { s with gens := s.gens.push (.fresh c) } := h
    have q := ih _ h1 (S.push c)
    rw [S.sz] at q
    exact q
  | genState g k ih =>
    intro Γ Q E p s b h S
    obtain ⟨st, hg, h⟩ := h
    obtain ⟨y, hy, es⟩ := S.seen hg
    have q := ih _ h S
    rw [← es] at q
    exact ⟨y, hy, q⟩
  | resume g r l k ih =>
    intro Γ Q E p s b h S
    obtain ⟨res, s1, hwk, h⟩ := h
    have key : ∃ b1, Sim G s1.gens b1 ∧ Wakes M Γ p g r (wg s b) res (wg s1 b1) := by
      unfold Wakes at hwk
      cases hg : s.gens[g]? with
      | none => rw [hg] at hwk; exact hwk.elim
      | some st =>
        rw [hg] at hwk
        cases st with
        | fresh c =>
          obtain ⟨o, hb⟩ := S.other hg (pz_ne rfl)
          cases r with
          | send v =>
            by_cases hv : v = .none
            · subst hv
              obtain ⟨e1, s2, hr, hq, rfl, rfl⟩ := hwk
              obtain ⟨b1, S1, pe1, r1⟩ := runs_sim hr _ (S.set o fun _ _ _ _ _ _ z => by cases z) rfl
              refine ⟨_, S1.set o (plain_state pe1), ?_⟩
              unfold Wakes
              rw [show (wg s b).gens[g]? = some (.fresh c) from hb]
              exact ⟨e1, wg s2 b1, r1, hq, rfl, rfl⟩
            · have hwk2 : res = .justStarted ∧ s1 = s := by cases v <;> first | exact absurd rfl hv | exact hwk
              obtain ⟨rfl, rfl⟩ := hwk2
              refine ⟨b, S, ?_⟩
              unfold Wakes
              rw [show (wg s1 b).gens[g]? = some (.fresh c) from hb]
              cases v <;> first | exact absurd rfl hv | exact ⟨rfl, rfl⟩
          | throw x =>
            obtain ⟨rfl, rfl⟩ := hwk
            refine ⟨_, S.set o (fun _ _ _ _ _ _ z => by cases z), ?_⟩
            unfold Wakes
            rw [show (wg s b).gens[g]? = some (.fresh c) from hb]
            exact ⟨rfl, rfl⟩
        | suspended k0 l0 c0 p0 fs0 cl0 =>
          obtain ⟨e1, s2, hr, hq, rfl, rfl⟩ := hwk
          rcases S.cases g with ⟨y, _, hy, ha, _⟩ | ⟨o, hb⟩
          · rw [hg] at ha
            have ek := pz_stop hy (Option.some.inj ha).symm
            rw [ek] at hr
            exact (no_unsup hr).elim
          · rcases S.plain _ _ _ _ _ _ _ hg with ek | hsp
            · rw [ek] at hr
              exact (no_unsup hr).elim
            · obtain ⟨b1, S1, pe1, r1⟩ := runs_sim hr _ (S.set o fun _ _ _ _ _ _ z => by cases z) hsp
              refine ⟨_, S1.set o (plain_state pe1), ?_⟩
              unfold Wakes
              rw [show (wg s b).gens[g]? = some (.suspended k0 l0 c0 p0 fs0 cl0) from hb ▸ hg]
              exact ⟨e1, wg s2 b1, r1, hq, rfl, rfl⟩
        | running =>
          obtain ⟨o, hb⟩ := S.other hg (pz_ne rfl)
          obtain ⟨rfl, rfl⟩ := hwk
          refine ⟨b, S, ?_⟩
          unfold Wakes
          rw [show (wg s1 b).gens[g]? = some .running from hb]
          exact ⟨rfl, rfl⟩
        | finished =>
          obtain ⟨o, hb⟩ := S.other hg (pz_ne rfl)
          obtain ⟨rfl, rfl⟩ := hwk
          refine ⟨b, S, ?_⟩
          unfold Wakes
          rw [show (wg s1 b).gens[g]? = some .finished from hb]
          exact ⟨rfl, rfl⟩
    obtain ⟨b1, S1, hw⟩ := key
    exact ⟨res, wg s1 b1, hw, ih res h S1⟩
  | stack k ih => intro Γ Q E p s b h S; exact ih _ h S
  | thread k ih => intro Γ Q E p s b h S; exact ih _ h S
/-- every sleeper exchanged -/
def dull (G : Array GenState) : Array GenState := G.map pz
theorem dull_bare {G : Array GenState} (h : PyProof.Rows.AllBare G) : PyProof.Rows.AllBare (dull G) := fun y hy => by
  obtain ⟨x, hx, rfl⟩ := Array.mem_map.mp hy
  rw [pz_bare]
  exact h x hx
theorem sim_dull (G : Array GenState) : Sim G (dull G) G where
  le := by unfold dull; rw [Array.size_map]; exact Nat.le_refl _
  sz := by unfold dull; rw [Array.size_map]
  at_ := fun i y h hy => ⟨by unfold dull; rw [Array.getElem?_map, h]; rfl, h⟩
  off := fun i h => by
    unfold dull
    rw [Array.getElem?_map]
    cases e : G[i]? with
    | none => rfl
    | some y =>
      show some (pz y) = some y
      rw [pz_awake (h y e)]
  plain := fun i k l c p fs cl h => by
    unfold dull at h
    rw [Array.getElem?_map] at h
    cases e : G[i]? with
    | none => rw [e] at h; cases h
    | some y =>
      rw [e] at h
      have h : pz y = .suspended k l c p fs cl := Option.some.inj h
      refine .inl ?_
      cases y with
      | suspended => exact pz_stop rfl h
      | _ => cases h
/-- the sleepers of G sleep on in b -/
def Sleeps (G b : Array GenState) : Prop := ∀ (i : Nat) y, G[i]? = some y → asleep y = true → b[i]? = some y
theorem sim_bare {G a b : Array GenState} (S : Sim G a b) (hG : PyProof.Rows.AllBare G) (ha : PyProof.Rows.AllBare a) : PyProof.Rows.AllBare b := fun y hy => by
  obtain ⟨i, hi, rfl⟩ := Array.mem_iff_getElem.mp hy
  rcases S.cases i with ⟨z, hz, _, _, h3⟩ | ⟨_, h⟩
  · rw [Array.getElem?_eq_getElem hi] at h3
    rw [Option.some.inj h3]
    obtain ⟨hz1, hz2⟩ := Array.getElem?_eq_some_iff.mp hz
    exact hG z (hz2 ▸ Array.getElem_mem hz1)
  · rw [Array.getElem?_eq_getElem hi] at h
    obtain ⟨h1, h2⟩ := Array.getElem?_eq_some_iff.mp h
    exact ha _ (h2 ▸ Array.getElem_mem h1)
/-- THE RULE: what holds from the exchanged table holds from the true one, and the sleepers sleep on -/
theorem wpAny_dull {M : Model} {A : Around} {α : Type} {m : Sem α} {Q : α → Shared → Prop} {E : Value → Shared → Prop} {s : Shared} (hG : PyProof.Rows.AllBare s.gens) (h : wpAny M A m Q E (wg s (dull s.gens))) :
    wpAny M A m (fun a s1 => ∃ s2 b, Q a s2 ∧ s1 = wg s2 b ∧ Sleeps s.gens b ∧ (PyProof.Rows.AllBare s2.gens → PyProof.Rows.AllBare b)) (fun x s1 => ∃ s2 b, E x s2 ∧ s1 = wg s2 b ∧ Sleeps s.gens b ∧ (PyProof.Rows.AllBare s2.gens → PyProof.Rows.AllBare b)) s := by
  intro Γ p hΓ
  have q := wp_sim m (h Γ p hΓ) (G := s.gens) (b := s.gens) (sim_dull s.gens)
  exact Sem.wp_mono _ _ _ (fun a p' s1 ⟨s2, b, h1, S, h2⟩ => ⟨s2, b, h1, h2, fun i y hy ha => (S.at_ i y hy ha).2, sim_bare S hG⟩) (fun a p' s1 ⟨s2, b, h1, S, h2⟩ => ⟨s2, b, h1, h2, fun i y hy ha => (S.at_ i y hy ha).2, sim_bare S hG⟩) p s q
end Pois
/-! Gx: a generator def whose consumer may do what it likes between two turns; the run's own objects (their addresses: w) are all that must stay. -/
namespace Gx
open PySem
abbrev Own := List Addr
abbrev REnd := Nat → Own → Shared → Shared → Prop
abbrev Prot := Nat → Own → Shared → Value → Shared → (Own → Shared → Prop) → Prop
def SegO (M : Model) (A : Around) (R : REnd) (Y : Prot) : Nat → Own → Shared → Code → Sem PySem.Fin → List Frame → Shared → Prop
  | 0 => fun w s₀ c t fs s => ∀ Γ p, Γ.code = c → Γ.Woken A → ∃ e s', Runs M Γ p t fs s e s' ∧ match e with
      | .ret r => r = .ok (.ret .none) ∧ R 0 w s₀ s'
      | .susp _ _ _ _ _ _ _ => False
  | n + 1 => fun w s₀ c t fs s => ∀ Γ p, Γ.code = c → Γ.Woken A → ∃ e s', Runs M Γ p t fs s e s' ∧ match e with
      | .ret r => r = .ok (.ret .none) ∧ R (n + 1) w s₀ s'
      | .susp v g l k c p fs => (End.susp v g l k c p fs).quiet = true ∧ Y n w s₀ v s' fun w' s'' => SegO M A R Y n w' s'' c (k (.send .none)) fs s''
def EndO (M : Model) (A : Around) (R : REnd) (Y : Prot) : Nat → Own → Shared → End → Shared → Prop
  | 0 => fun w s₀ e s' => match e with
      | .ret r => r = .ok (.ret .none) ∧ R 0 w s₀ s'
      | .susp _ _ _ _ _ _ _ => False
  | n + 1 => fun w s₀ e s' => match e with
      | .ret r => r = .ok (.ret .none) ∧ R (n + 1) w s₀ s'
      | .susp v g l k c p fs => (End.susp v g l k c p fs).quiet = true ∧ Y n w s₀ v s' fun w' s'' => SegO M A R Y n w' s'' c (k (.send .none)) fs s''
section
variable {M : Model} {A : Around} {R : REnd} {Y : Prot} {n : Nat} {w : Own} {s₀ s : Shared} {c : Code} {fs : List Frame} {t : Sem PySem.Fin}
theorem segO_iff : SegO M A R Y n w s₀ c t fs s ↔ ∀ Γ p, Γ.code = c → Γ.Woken A → ∃ e s', Runs M Γ p t fs s e s' ∧ EndO M A R Y n w s₀ e s' := by
  cases n <;> rfl
theorem segO_wrap {α : Type} {m : Sem α} {K : α → Sem PySem.Fin} {H : Value → Sem PySem.Fin} {gd lv}
    (h : wpAny M (A.over c fs) m (fun a s' => SegO M A R Y n w s₀ c (K a) fs s') (fun x s' => SegO M A R Y n w s₀ c (H x) fs s') s) : SegO M A R Y n w s₀ c (m.wrap K H gd lv) fs s := by
  rw [segO_iff]
  rintro Γ p rfl hΓ
  exact runs_wrap_of_wp (Φ := EndO M A R Y n w s₀) K H gd lv m (h (Γ.over fs) p (hΓ.over fs)) (fun a p' s' h' => segO_iff.mp h' Γ p' rfl hΓ) (fun x p' s' h' => segO_iff.mp h' Γ p' rfl hΓ)
theorem segO_bindw {α β : Type} {m : Sem α} {f : α → Sem β} {K : β → Sem PySem.Fin} {H : Value → Sem PySem.Fin} {gd lv}
    (h : wpAny M (A.over c fs) m (fun a s' => SegO M A R Y n w s₀ c ((f a).wrap K H gd lv) fs s') (fun x s' => SegO M A R Y n w s₀ c (H x) fs s') s) : SegO M A R Y n w s₀ c ((m >>= f).wrap K H gd lv) fs s := by
  rw [Sem.bind_eq_wrap', Sem.wrap_wrap]
  exact segO_wrap h
theorem segO_bind {α : Type} {m : Sem α} {K : α → Sem PySem.Fin}
    (h : wpAny M (A.over c fs) m (fun a s' => SegO M A R Y n w s₀ c (K a) fs s') (fun x s' => SegO M A R Y n w s₀ c (.raise x) fs s') s) : SegO M A R Y n w s₀ c (m >>= K) fs s := by
  rw [Sem.bind_eq_wrap']; exact segO_wrap h
theorem segO_at {p' : Pos} {k : Unit → Sem PySem.Fin} (h : SegO M A R Y n w s₀ c (k ()) fs s) : SegO M A R Y n w s₀ c (.at p' k) fs s :=
  segO_wrap (m := standAt p') (K := k) (H := .raise) (gd := id) (lv := id) (wpAny_standAt h)
theorem segO_point {l : List Value} {k : Unit → Sem PySem.Fin} (h : SegO M A R Y n w s₀ c (k ()) fs s) : SegO M A R Y n w s₀ c (.point l k) fs s :=
  segO_wrap (m := point) (K := k) (H := .raise) (gd := id) (lv := fun _ => l) (wpAny_point h)
theorem segO_call {c' : Code} {h g l} {k : Result → Sem PySem.Fin} (hc : ∀ p, SegO M A R Y n w s₀ c' (M.den c') (.ret k h g l c p [] :: fs) s) : SegO M A R Y n w s₀ c (.call c' h g l k) fs s := by
  rw [segO_iff]
  rintro Γ p rfl hΓ
  obtain ⟨e, s', hr, he⟩ := segO_iff.mp (hc p) (Γ.goto c') p rfl (hΓ.goto c')
  exact ⟨e, s', runs_call_seg hr, he⟩
theorem segO_leaf {k h g l c₁ p₁ kp} (r : Result) (hk : SegO M A R Y n w s₀ c₁ (k r) fs s) : SegO M A R Y n w s₀ c (leafOf r) (.ret k h g l c₁ p₁ kp :: fs) s := by
  rw [segO_iff]
  rintro Γ p rfl hΓ
  obtain ⟨e, s', hr, he⟩ := segO_iff.mp hk (Γ.goto c₁) p₁ rfl (hΓ.goto c₁)
  exact ⟨e, s', Runs.pop r hr, he⟩
theorem segO_again {c' : Code} (hq : c'.quiet = true) (hc : SegO M A R Y n w s₀ c' (M.den c') fs s) : SegO M A R Y n w s₀ c (.pure (.again c')) fs s := by
  rw [segO_iff]
  rintro Γ p rfl hΓ
  obtain ⟨e, s', hr, he⟩ := segO_iff.mp hc (Γ.goto c') p rfl (hΓ.goto c')
  exact ⟨e, s', Runs.head (c₁ := c') (fun _ _ x => .again hq x) hr, he⟩
theorem segO_end (h : R n w s₀ s) : SegO M A R Y n w s₀ c (.pure (.done (.ret .none))) [] s := by
  rw [segO_iff]
  rintro Γ p rfl _
  refine ⟨.ret (.ok (.ret .none)), s, Runs.leaf (.ok (.ret .none)), ?_⟩
  cases n <;> exact ⟨rfl, h⟩
theorem segO_yield {v g l} {k : Resume → Sem PySem.Fin} (hfs : splitAtGen fs = none) (hg : g = false) (hfg : fs.any Frame.guarded = false)
    (h : Y n w s₀ v s fun w' s'' => SegO M A R Y n w' s'' c (k (.send .none)) fs s'') : SegO M A R Y (n + 1) w s₀ c (.yield v g l k) fs s := by
  rintro Γ p rfl _
  exact ⟨_, s, Runs.yield' fs hfs, And.intro (by simp [End.quiet, hg, hfg]) h⟩
def GoesO (M : Model) (A : Around) (R : REnd) (Y : Prot) (n : Nat) (w : Own) (gs : GenState) (s : Shared) : Prop :=
  match gs with
  | .fresh c => SegO M A R Y n w s c (M.den c) [] s
  | .suspended k _ c _ fs _ => SegO M A R Y n w s c (k (.send .none)) fs s
  | _ => False
/-- woken -/
theorem wpAny_resumeO {E : Value → Shared → Prop} {g : Nat} {gs : GenState} {l : List Value} {α : Type} {k : GenResult → Sem α} {Q : α → Shared → Prop} (hg : s.gens[g]? = some gs)
    (hgo : GoesO M A R Y n w gs (s.setGen g .running))
    (hR : ∀ s₁, R n w (s.setGen g .running) s₁ → wpAny M A (k (.returned .none)) Q E (s₁.setGen g .finished))
    (hY : ∀ m v s₁ gs', n = m + 1 → Pois.asleep gs' = true → gs'.bare = true → s.gens.size ≤ s₁.gens.size → Y m w (s.setGen g .running) v s₁ (fun w' s'' => GoesO M A R Y m w' gs' s'') → wpAny M A (k (.yielded v)) Q E (s₁.setGen g gs')) :
    wpAny M A (.resume g (.send .none) l k) Q E s := by
  intro Γ p hΓ
  rw [Sem.wp_resume]
  have hB : ∀ c, (Γ.wake c p).Woken A := fun c => hΓ.wake c p
  have fin : ∀ e₁ s₁, s.gens.size ≤ s₁.gens.size → EndO M A R Y n w (s.setGen g .running) e₁ s₁ → Sem.wp M Γ (k e₁.result) (fun a _ s' => Q a s') (fun e _ s' => E e s') p (s₁.setGen g e₁.genState) := by
    intro e₁ s₁ hsz he
    cases e₁ with
    | ret x =>
      have h2 : x = .ok (.ret .none) ∧ R n w (s.setGen g .running) s₁ := by cases n <;> exact he
      obtain ⟨rfl, h2⟩ := h2
      exact hR s₁ h2 Γ p hΓ
    | susp v g₀ l₀ k₀ c₀ p₀ fs₀ =>
      cases n with
      | zero => exact False.elim he
      | succ m =>
        obtain ⟨h1, h2⟩ := he
        exact hY m v s₁ _ rfl rfl (End.bare_of_quiet h1) hsz h2 Γ p hΓ
  have hqt : ∀ e₁ s₁, EndO M A R Y n w (s.setGen g .running) e₁ s₁ → e₁.quiet = true := by
    intro e₁ s₁ he
    cases e₁ with
    | ret x => rfl
    | susp v g₀ l₀ k₀ c₀ p₀ fs₀ =>
      cases n with
      | zero => exact False.elim he
      | succ m => exact he.1
  cases gs with
  | fresh c =>
    obtain ⟨e₁, s₁, hr, he⟩ := segO_iff.mp hgo (Γ.wake c p) p rfl (hB c)
    have hz := GenW.runs_gsz hr
    rw [GenW.setGen_size] at hz
    exact ⟨_, _, by unfold Wakes; rw [hg]; exact ⟨e₁, s₁, hr, hqt e₁ s₁ he, rfl, rfl⟩, fin e₁ s₁ hz he⟩
  | suspended k₀ l₀ c₀ p₀ fs₀ cl =>
    obtain ⟨e₁, s₁, hr, he⟩ := segO_iff.mp hgo (Γ.wake c₀ p) p₀ rfl (hB c₀)
    have hz := GenW.runs_gsz hr
    rw [GenW.setGen_size] at hz
    exact ⟨_, _, by unfold Wakes; rw [hg]; exact ⟨e₁, s₁, hr, hqt e₁ s₁ he, rfl, rfl⟩, fin e₁ s₁ hz he⟩
  | running => exact hgo.elim
  | finished => exact hgo.elim
end
section
variable {prog : Program} {wd : World} {A : Around} {R : REnd} {Y : Prot} {n : Nat} {w : Own} {s₀ s : Shared} {c : Code} {fs : List Frame} {env : Env} {E : Value → Shared → Prop}
/-- the next item -/
theorem pyNextO {a : Addr} {g : Nat} {gs : GenState} {Q : Option Value → Shared → Prop} (hh : A.handled = none) (hl : s.heap.NoLimit) (hroom : A.depth < recursionLimit) (hg : s.heap.IsGen a g) (hgs : s.gens[g]? = some gs)
    (hgo : GoesO (model prog wd) A.in1 R Y n w gs (s.setGen g .running))
    (hY : ∀ m v s₁ gs', n = m + 1 → Pois.asleep gs' = true → gs'.bare = true → s.gens.size ≤ s₁.gens.size → Y m w (s.setGen g .running) v s₁ (fun w' s'' => GoesO (model prog wd) A.in1 R Y m w' gs' s'') → Q (some v) (s₁.setGen g gs'))
    (hR : ∀ s₁, R n w (s.setGen g .running) s₁ → ∀ h', (∀ b o, s₁.heap.get? b = some o → h'.get? b = some o) → Q none { s₁.setGen g .finished with heap := h' }) :
    wpAny (model prog wd) A (pyNext (.ref a)) Q E s := by
  unfold pyNext
  refine wpAny_bind (wpAny_attempt (wpAny_callSpecial?_slot (name := Str.ofString "__next__") hg.typeIs slot_gen_next
    (wpAny_call_entry slot_gen_next hg.typeIs entry_gen_next ?_ (args_gen_next _))))
  show wpAny _ _ (Builtin.Generator.genWake (.ref a) (.send .none)) _ _ s
  unfold Builtin.Generator.genWake
  refine wpAny_bind (wpAny_holding (wpAny_genNumber hg (wpAny_bind (wpAny_genState hgs ?_))))
  cases gs with
  | running => exact hgo.elim
  | finished => exact hgo.elim
  | _ =>
    refine wpAny_bind (wpAny_roomToWake hl hroom ?_)
    show wpAny _ _ (.resume g (.send .none) [] _) _ _ s
    refine wpAny_resumeO hgs hgo (fun s₁ hp => ?_) (fun m v s₁ gs' hn ha hb hz hv => ?_)
    · show wpAny _ _ (newExc (.type "StopIteration") [] >>= _) _ _ _
      refine wpAny_bind ?_
      simp only [newExc, newTuple]
      refine wpAny_bind (wpAny_newObj_type ?_ (by size_fits))
      refine wpAny_bind (m := firstArgMember _ _) (wpAny_of_eq (a := Value.none) (by first | rfl | (simp only [firstArgMember]; rfl)) ?_)
      refine wpAny_newObj_type ?_ (by size_fits)
      simp only [raiseNew]
      refine wpAny_bind (wpAny_bind (wpAny_handled ?_))
      rw [show A.in1.handled = none from hh]
      refine wpAny_throw ?_
      refine wpAny_bind (wpAny_isInstance (T := "StopIteration") (b := true) ⟨_, Heap.get?_push_size _ rfl, rfl⟩ isSubtype_stop ?_)
      exact wpAny_pure (hR s₁ hp _ fun b o hb => Heap.get?_push_of_some _ (Heap.get?_push_of_some _ hb))
    · exact wpAny_pure ⟨v, rfl, wpAny_pure (hY m v s₁ gs' hn ha hb hz hv)⟩
theorem segO_execs_cons {M : Model} {st : Stmt} {rest : List Stmt} {K : Flow → Sem PySem.Fin} {H : Value → Sem PySem.Fin} {gd : Bool → Bool} {lv : List Value → List Value}
    (h : SegO M A R Y n w s₀ c ((exec st env).wrap (fun f => match f with | .next => (execs rest env).wrap K H gd lv | f => K f) H gd lv) fs s) : SegO M A R Y n w s₀ c ((execs (st :: rest) env).wrap K H gd lv) fs s := by
  rw [execs_cons_wrap]; exact h
theorem segO_Yield {M : Model} {e : Expr} {ypos pos : Pos} {K : Flow → Sem PySem.Fin} {H : Value → Sem PySem.Fin} {gd : Bool → Bool} {lv : List Value → List Value} (hfs : splitAtGen fs = none) (hgd : gd false = false) (hfg : fs.any Frame.guarded = false)
    (h : wpAny M (A.over c fs) (eval e env) (fun v s' => ∀ kap : Own → Shared → Prop, (∀ w' s'', SegO M A R Y n w' s'' c (K .next) fs s'' → kap w' s'') → Y n w s₀ v s' kap)
      (fun x s' => SegO M A R Y (n + 1) w s₀ c (H x) fs s') s) (hco : env.scope.isCoroutine = false := by rfl) (hi : interactive env = false := by rfl) :
    SegO M A R Y (n + 1) w s₀ c ((exec (.Expr (.Yield (some e) ypos) pos) env).wrap K H gd lv) fs s := by
  rw [exec_Expr env _ pos hi rfl]
  show SegO M A R Y (n + 1) w s₀ c (.at pos fun _ => ((eval e env >>= fun v => (standAt ypos >>= fun _ => yieldOut env v)) >>= fun x => dropValue (.Yield (some e) ypos) pos x).wrap K H gd lv) fs s
  have hy : ∀ v, yieldOut env v = yieldValue v := fun v => by simp only [yieldOut, hco, Bool.false_eq_true, if_false]
  simp only [hy]
  refine segO_at ?_
  rw [Sem.bind_eq_wrap', Sem.bind_eq_wrap', Sem.wrap_wrap, Sem.wrap_wrap]
  refine segO_wrap (wpAny_mono h (fun v s' h' => ?_) fun _ _ x => x)
  refine segO_at (segO_yield hfs hgd hfg ?_)
  exact h' _ fun w' s'' hx => hx
theorem segO_If {M : Model} {test : Expr} {body : List Stmt} {pos : Pos} {K : Flow → Sem PySem.Fin} {H : Value → Sem PySem.Fin} {gd : Bool → Bool} {lv : List Value → List Value}
    (h : wpAny M (A.over c fs) (isTrue test env (eval test env)) (fun b s' => if b = true then SegO M A R Y n w s₀ c ((execs body env).wrap K H gd lv) fs s' else SegO M A R Y n w s₀ c ((execs [] env).wrap K H gd lv) fs s')
      (fun x s' => SegO M A R Y n w s₀ c (H x) fs s') s) : SegO M A R Y n w s₀ c ((exec (.If test body [] pos) env).wrap K H gd lv) fs s := by
  show SegO M A R Y n w s₀ c (.at pos fun _ => ((isTrue test env (eval test env) >>= fun b => if b = true then execs body env else execs [] env)).wrap K H gd lv) fs s
  refine segO_at (segO_bindw (wpAny_mono h (fun b s' h' => ?_) fun _ _ x => x))
  cases b with
  | true => exact h'
  | false => exact h'
theorem segO_For {M : Model} {tg iter : Expr} {body : List Stmt} {pos : Pos} {K : Flow → Sem PySem.Fin} {H : Value → Sem PySem.Fin} {gd : Bool → Bool} {lv : List Value → List Value}
    (h : wpAny M (A.over c fs) (eval iter env) (fun x s1 => wpAny M (A.over c fs) (pyIter x) (fun it s2 => ∀ p, SegO M A R Y n w s₀ (.forLoop tg it body [] env) (M.den (.forLoop tg it body [] env))
      (.ret (fun r => ((match r with | .ok f => (.pure f : Sem Flow) | .error e => .raise e).onRaise fun (x : Value) => do
        if (← field x 1) == Value.none then unsupported "frame.own-activation:exception-without-traceback"
        setFlight x env.frame).wrap K H gd lv) none (gd false) (lv []) c p [] :: fs) s2) (fun x s' => SegO M A R Y n w s₀ c (H x) fs s') s1) (fun x s' => SegO M A R Y n w s₀ c (H x) fs s') s)
    (hs : ∀ x, foldedSetIterable iter env x = pure x := by intro _; rfl) : SegO M A R Y n w s₀ c ((exec (.For tg iter body [] pos) env).wrap K H gd lv) fs s := by
  rw [exec_For]
  refine segO_bindw (wpAny_standAt (segO_bindw (wpAny_mono h (fun x s1 h1 => ?_) fun _ _ x => x)))
  refine segO_bindw (wpAny_of_eq (hs x) ?_)
  refine segO_bindw (wpAny_standAt (segO_bindw (wpAny_holding (wpAny_mono h1 (fun it s2 h2 => ?_) fun _ _ x => x))))
  exact segO_call h2
end
section
variable {prog : Program} {wd : World} {A : Around} {R : REnd} {Y : Prot} {n : Nat} {w : Own} {s₀ s : Shared} {fs : List Frame} {env : Env}
/-- one turn of a for loop (nothing raises) -/
theorem segO_forTurn {tg : Expr} {it : Value} {body : List Stmt}
    (h : wpAny (model prog wd) (A.over (.forLoop tg it body [] env) fs) (pyNext it) (fun r s1 => match r with
      | none => SegO (model prog wd) A R Y n w s₀ (.forLoop tg it body [] env) (.pure (.again (.block [] env))) fs s1
      | some v => wpAny (model prog wd) (A.over (.forLoop tg it body [] env) fs) (letOwnedTupleGo tg it v) (fun _ s2 => wpAny (model prog wd) (A.over (.forLoop tg it body [] env) fs) (assign tg env v) (fun _ s3 =>
          SegO (model prog wd) A R Y n w s₀ (.forLoop tg it body [] env) ((execs body env).wrap (fun f => match f with
            | .next | .cont => .pure (.again (.forLoop tg it body [] env))
            | .brk => .pure (.done .next)
            | .ret v => .pure (.done (.ret v))) (fun e => (do noteFrame e env; theTreesLotGoes e : Sem Unit).wrap (fun _ => .raise e) .raise id id) id id) fs s3) (fun _ _ => False) s2) (fun _ _ => False) s1) (fun _ _ => False) s) :
    SegO (model prog wd) A R Y n w s₀ (.forLoop tg it body [] env) ((model prog wd).den (.forLoop tg it body [] env)) fs s := by
  show SegO _ A R Y n w s₀ _ ((forTurn tg it body [] env).onRaise (fun x => do noteFrame x env; theTreesLotGoes x)) fs s
  unfold forTurn
  rw [Sem.onRaise_eq_wrap]
  refine segO_bindw (wpAny_standAt ?_)
  refine segO_bindw (wpAny_onRaise (wpAny_mono h (fun r s1 h1 => ?_) fun _ _ x => x.elim))
  cases r with
  | none => exact h1
  | some v =>
    refine segO_bindw (wpAny_mono h1 (fun _ s2 h2 => segO_bindw (wpAny_mono h2 (fun _ s3 h3 => ?_) fun _ _ x => x.elim)) fun _ _ x => x.elim)
    rw [Sem.bind_eq_wrap', Sem.wrap_wrap]
    rw [Sem.wrap_congr (execs body env) _ _ (K' := fun f => match f with
            | .next | .cont => .pure (.again (.forLoop tg it body [] env))
            | .brk => .pure (.done .next)
            | .ret v => .pure (.done (.ret v))) (H' := (fun e => (do noteFrame e env; theTreesLotGoes e : Sem Unit).wrap (fun _ => .raise e) .raise id id))
        (fun f => by cases f <;> rfl)
        (fun e => by first | exact Sem.bind_eq_wrap _ _ | (show (do noteFrame e env; theTreesLotGoes e : Sem Unit).bind (fun _ => .raise e) = _; rw [Sem.bind_eq_wrap]))]
    exact h3
theorem segO_block {c : Code} (h : SegO (model prog wd) A R Y n w s₀ (.block [] env) (.pure (.done .next)) fs s) : SegO (model prog wd) A R Y n w s₀ c (.pure (.again (.block [] env))) fs s :=
  segO_again rfl h
theorem segO_func {body : List Stmt}
    (h : SegO (model prog wd) A R Y n w s₀ (.func body env) ((execs body env).wrap (fun f => .pure (.done (.ret (match f with | .ret v => v | _ => .none))))
      (fun e => (leaving env e).wrap (fun _ => .raise e) .raise id id) id id) fs s) :
    SegO (model prog wd) A R Y n w s₀ (.func body env) ((model prog wd).den (.func body env)) fs s := by
  show SegO _ A R Y n w s₀ _ (.point [] fun _ => ((execs body env).onRaise (leaving env)) >>= _) fs s
  refine segO_point ?_
  rw [Sem.onRaise_eq_wrap, Sem.bind_eq_wrap', Sem.wrap_wrap]
  rw [Sem.wrap_congr (execs body env) _ _ (K' := fun f => .pure (.done (.ret (match f with | .ret v => v | _ => .none))))
    (H' := fun e => (leaving env e).wrap (fun _ => .raise e) .raise id id) (fun f => by cases f <;> rfl)
    (fun e => by rw [Sem.bind_eq_wrap, Sem.wrap_wrap]; rfl)]
  exact h
end
end Gx
/-! the run of such a generator over the layer: plain statements, if, for over range, yield; its call; the for loop of its consumer. -/
namespace Gx
open PySem PySem.Spec PyProof.Rows L2
/-! ### what is dead stays dead -/
def Dead (b : Addr) (s : Shared) : Prop := b < s.heap.objs.size ∧ s.heap.get? b = none
theorem Dead.upd {b a : Addr} {s : Shared} {f : Obj → Obj} (d : Dead b s) (h : (s.heap.get? a).isSome) : Dead b { s with heap := s.heap.update a f } := by
  have ne : a ≠ b := fun e => by subst e; rw [d.2] at h; cases h
  refine ⟨?_, ?_⟩
  · show b < (s.heap.update a f).objs.size
    rw [Heap.size_after_update]; exact d.1
  · show (s.heap.update a f).get? b = none
    rw [Heap.get?_update_other _ _ ne]; exact d.2
theorem Dead.push {b : Addr} {s : Shared} {o : Obj} (d : Dead b s) : Dead b { s with heap := s.heap.push o } := by
  refine ⟨?_, ?_⟩
  · show b < (s.heap.push o).objs.size
    rw [Heap.size_push]; exact Nat.lt_succ_of_lt d.1
  · show (s.heap.push o).get? b = none
    have h2 := d.2
    unfold Heap.get? at h2 ⊢
    cases hp : s.heap with
    | mk objs l =>
      rw [hp] at h2
      have hlt : b < objs.size := by have := d.1; rw [hp] at this; exact this
      show (match (objs.push o)[b]? with | some ⟨_, _, .freed, _⟩ => none | o => o) = none
      rw [Array.getElem?_push, if_neg (Nat.ne_of_lt hlt)]
      exact h2
theorem runs_dead {M : Model} {b : Addr} {Γ : PySem.Ctx} {p : Pos} {t : Sem PySem.Fin} {fs : List Frame} {s s' : Shared} {e : End} (h : Runs M Γ p t fs s e s') : Dead b s → Dead b s' := by
  induction h with
  | update h _ ih => exact fun d => ih (d.upd h)
  | alloc _ ih => exact fun d => ih d.push
  | call _ _ ih1 ih2 => exact fun d => ih2 (ih1 d)
  | resumeFresh _ _ _ _ ih1 ih2 => exact fun d => ih2 (ih1 d)
  | resumeSuspended _ _ _ _ ih1 ih2 => exact fun d => ih2 (ih1 d)
  | segRet _ _ ih1 ih2 => exact fun d => ih2 (ih1 d)
  | segGen _ _ ih1 ih2 => exact fun d => ih2 (ih1 d)
  | segSuspGen _ _ _ _ ih1 ih2 => exact fun d => ih2 (ih1 d)
  | done => exact fun d => d
  | raise => exact fun d => d
  | yield => exact fun d => d
  | _ => rename_i ih; exact fun d => ih d
theorem wakes_dead {M : Model} {b : Addr} {Γ : PySem.Ctx} {p : Pos} {g : Nat} {r : Resume} {s s' : Shared} {res : GenResult} (h : Wakes M Γ p g r s res s') : Dead b s → Dead b s' := fun d => by
  unfold Wakes at h
  split at h
  · exact h.elim
  · split at h
    · obtain ⟨e₁, s₁, hr, _, _, rfl⟩ := h
      exact (show Dead b s₁ from runs_dead hr (show Dead b (s.setGen g .running) from d))
    · rw [h.2]; exact d
    · rw [h.2]; exact d
  · obtain ⟨e₁, s₁, hr, _, _, rfl⟩ := h
    exact (show Dead b s₁ from runs_dead hr (show Dead b (s.setGen g .running) from d))
  · rw [h.2]; exact d
  · rw [h.2]; exact d
theorem wp_dead {α : Type} (M : Model) (Γ : PySem.Ctx) (B : Addr → Prop) (t : Sem α) : ∀ (Q : α → Pos → Shared → Prop) (E : Value → Pos → Shared → Prop) (p : Pos) (s : Shared), (∀ b, B b → Dead b s) → Sem.wp M Γ t Q E p s →
    Sem.wp M Γ t (fun a p' s' => (∀ b, B b → Dead b s') ∧ Q a p' s') (fun e p' s' => (∀ b, B b → Dead b s') ∧ E e p' s') p s := by
  induction t with
  | pure a => intro Q E p s hn h; exact ⟨hn, h⟩
  | raise e => intro Q E p s hn h; exact ⟨hn, h⟩
  | unsupported _ => intro Q E p s _ h; exact h
  | finish _ => intro Q E p s _ h; exact h
  | rule _ k ih => intro Q E p s hn h; exact ih () Q E p s hn h
  | «at» p' k ih => intro Q E p s hn h; exact ih () Q E p' s hn h
  | load a _ k ih => intro Q E p s hn h; obtain ⟨o, ho, h⟩ := h; exact ⟨o, ho, ih o Q E p s hn h⟩
  | update a _ f k ih => intro Q E p s hn h; exact ⟨h.1, ih () Q E p _ (fun b hb => (hn b hb).upd h.1) h.2⟩
  | loadIfAlive a k ih => intro Q E p s hn h; exact ih _ Q E p s hn h
  | point _ k ih => intro Q E p s hn h; exact ih () Q E p s hn h
  | register _ _ => intro Q E p s _ h; exact h
  | alloc o k ih => intro Q E p s hn h; exact ih _ Q E p _ (fun b hb => (hn b hb).push) h
  | fresh k ih => intro Q E p s hn h; exact ih _ Q E p _ hn h
  | ask k ih => intro Q E p s hn h; exact ih _ Q E p s hn h
  | choose src m k ih => intro Q E p s hn h; exact ⟨h.1, ih _ Q E p _ hn h.2⟩
  | os q _ k ih => intro Q E p s hn h; exact ih _ Q E p _ hn h
  | call c hd _ _ k ih => intro Q E p s hn h; obtain ⟨r, s', hr, h⟩ := h; exact ⟨r, s', hr, ih r Q E p s' (fun b hb => runs_dead hr (hn b hb)) h⟩
  | handled own k ih => intro Q E p s hn h; exact ih _ Q E p s hn h
  | genState g k ih => intro Q E p s hn h; obtain ⟨st, hs, h⟩ := h; exact ⟨st, hs, ih _ Q E p s hn h⟩
  | newGen c k ih => intro Q E p s hn h; exact ih _ Q E p _ hn h
  | resume g r _ k ih => intro Q E p s hn h; obtain ⟨res, s', hw, h⟩ := h; exact ⟨res, s', hw, ih res Q E p s' (fun b hb => wakes_dead hw (hn b hb)) h⟩
  | yield _ _ _ _ => intro Q E p s _ h; exact h
  | stack k ih => intro Q E p s hn h; exact ih _ Q E p s hn h
  | fork _ _ => intro Q E p s _ h; exact h
  | thread k ih => intro Q E p s hn h; exact ih _ Q E p s hn h
  | await _ _ _ _ _ => intro Q E p s _ h; exact h
theorem wpAny_dead {α : Type} {M : Model} {A : Around} {s : Shared} {t : Sem α} {Q : α → Shared → Prop} {E : Value → Shared → Prop} {B : Addr → Prop} (hn : ∀ b, B b → Dead b s)
    (h : wpAny M A t Q E s) : wpAny M A t (fun a s' => (∀ b, B b → Dead b s') ∧ Q a s') (fun e s' => (∀ b, B b → Dead b s') ∧ E e s') s :=
  fun Γ p hΓ => wp_dead M Γ B t _ _ p s hn (h Γ p hΓ)
/-! ### the heap below an address -/
def cutH (h : Heap) (L : Nat) : Heap := { h with objs := h.objs.extract 0 L }
theorem cutH_size {h : Heap} {L : Nat} (hl : L ≤ h.objs.size) : (cutH h L).objs.size = L := by
  show (h.objs.extract 0 L).size = L
  rw [Array.size_extract]; omega
theorem cutH_get {h : Heap} {L b : Nat} (hb : b < L) : (cutH h L).get? b = h.get? b := by
  have e : (cutH h L).objs[b]? = h.objs[b]? := by
    show (h.objs.extract 0 L)[b]? = h.objs[b]?
    rw [Array.getElem?_extract]
    by_cases hs : b < h.objs.size
    · rw [if_pos (by omega), Nat.zero_add]
    · rw [if_neg (by omega)]
      exact (Array.getElem?_eq_none_iff.mpr (by omega)).symm
  unfold Heap.get?
  rw [e]
theorem cutH_lt {h : Heap} {L b : Nat} {o : Obj} (e : (cutH h L).get? b = some o) : b < L := by
  have h1 := Heap.lt_size e
  have h2 : (cutH h L).objs.size ≤ L := by
    show (h.objs.extract 0 L).size ≤ L
    rw [Array.size_extract]; omega
  exact Nat.lt_of_lt_of_le h1 h2
def cut (s : Shared) (L : Addr) : Shared := { s with heap := cutH s.heap L }
/-! ### the run's context -/
structure GP where
  P : Program
  wd : World
  K : PySem.W.Frag
  mg : Str → Option Value
  base : Heap
  A : Around
  N : List Str
  env : Env
  outer : List Env
  a : Addr
  go : Obj
abbrev GP.L (g : GP) : Addr := g.env.locals
def GP.X (g : GP) (s₀ : Shared) (H0 : Hp) : Cx where
  prog := g.P
  w := g.wd
  K := g.K
  mg := g.mg
  base := g.base
  A := g.A
  N := g.N
  s_0 := cut s₀ g.L
  H_0 := H0
  env := g.env
  outer := g.outer
  stack := g.env :: g.outer
  ex := []
  fn := fun _ => true
  calm := true
  pn := [(g.a, g.go)]
  xe := fun _ _ => False
structure GP.Ok (g : GP) : Prop where
  mod : Mod g.K g.mg g.base
  kind : g.env.scope.kind = .function
  glob : g.env.globals = mainGlobals
  blt : g.env.builtins = builtinsNs
  nocell : ∀ x c, g.env.cells.lookup x = some c → False
  nokind : ∀ x, ¬ (g.env.kindOf x = some .cell ∨ g.env.kindOf x = some .free)
  hd : g.A.handled = none
  frames : g.A.frames = some (g.env :: g.outer)
  frame : g.env.frame = some g.env.locals
  bsz : g.base.objs.size ≤ g.L
  frsL : ∀ b ∈ frs g.outer, b < g.L
  aL : g.L < g.a
  goc : ∀ v, g.go.data ≠ .cell v
/-- the consumer's own younger things are watched -/
def Tr (L : Addr) (w : Own) (s₀ : Shared) (H : Hp) : Prop := ∀ b o, L ≤ b → b ∉ w → s₀.heap.get? b = some o → H b = some (.ext fun h => h.get? b = some o)
theorem Tr.ex {L : Addr} {w : Own} {s₀ : Shared} {H H' : Hp} (t : Tr L w s₀ H) (e : ∀ b o, H b = some o → H' b = some o) : Tr L w s₀ H' := fun b o h1 h2 h3 => e _ _ (t b o h1 h2 h3)
def FrzOnly (L : Addr) (H0 : Hp) (s₀ : Shared) : Prop := L ≤ s₀.heap.objs.size ∧ ∀ b o, H0 b = some o → ∃ ob u, o = .frz ob u ∧ s₀.heap.get? b = some ob
/-- the two lists of the run -/
structure LL where
  la : Addr
  lb : Addr
  xs : List V
  ys : List V
def LL.At (ll : LL) (H : Hp) : Prop := H ll.la = some (.lst ll.xs) ∧ H ll.lb = some (.lst ll.ys)
def GI (g : GP) (ll : LL) (w : Own) (s₀ : Shared) (ip : List (Addr × Obj)) (σ : L2.St) (s : Shared) : Prop :=
  ∃ H0 H, Inv (g.X s₀ H0) ip σ H s ∧ FrzOnly g.L H0 s₀ ∧ Tr g.L w s₀ H ∧ ll.At H
/-- what a turn of the run leaves as it was: all but its own things -/
structure FrameOk (g : GP) (w : Own) (s₀ s : Shared) : Prop where
  os : s.os = s₀.os
  bare : AllBare s.gens
  keep : ∀ b o, s₀.heap.get? b = some o → b ∉ w → b ∉ frs g.outer → s.heap.get? b = some o
  slot : ∀ b o, s₀.heap.get? b = some o → b ∉ w → ∃ sl, s.heap.get? b = some { o with slots := sl }
/-- what the consumer leaves as it was -/
structure KeptO (g : GP) (w : Own) (s s' : Shared) : Prop where
  os : s'.os = s.os
  bare : AllBare s'.gens
  own : ∀ b ∈ w, ∀ o, s.heap.get? b = some o → s'.heap.get? b = some o
  bk : ∀ b o, g.base.get? b = some o → s'.heap.get? b = some o
  funs : s'.heap.FunFrames g.base g.outer
section
variable {g : GP} {ll : LL} {w : Own} {s₀ s : Shared} {ip : List (Addr × Obj)} {σ : L2.St} {H0 H : Hp}
theorem frameOk (I : Inv (g.X s₀ H0) ip σ H s) (f : FrzOnly g.L H0 s₀) (t : Tr g.L w s₀ H) : FrameOk g w s₀ s where
  os := I.os
  bare := I.bare
  keep := fun b o e hw hf => by
    by_cases hb : b < g.L
    · have e' : (cutH s₀.heap g.L).get? b = some o := by rw [cutH_get hb]; exact e
      cases h0 : H0 b with
      | none => exact I.base.keep b o e' h0 hf (by intro z; exact nomatch z)
      | some u =>
        obtain ⟨ob, v, rfl, e2⟩ := f.2 b u h0
        have e3 : ob = o := by rw [e] at e2; exact (Option.some.inj e2).symm
        subst e3
        exact (I.hok b _ (I.base.frzs b ob v h0)).1
    · exact (I.hok b _ (t b o (Nat.le_of_not_lt hb) hw e)).1
  slot := fun b o e hw => by
    by_cases hb : b < g.L
    · have e' : (cutH s₀.heap g.L).get? b = some o := by rw [cutH_get hb]; exact e
      cases h0 : H0 b with
      | none => exact I.base.any e' h0 (by intro z; exact nomatch z)
      | some u =>
        obtain ⟨ob, v, rfl, e2⟩ := f.2 b u h0
        have e3 : ob = o := by rw [e] at e2; exact (Option.some.inj e2).symm
        subst e3
        exact ⟨ob.slots, (I.hok b _ (I.base.frzs b ob v h0)).1⟩
    · exact ⟨o.slots, (I.hok b _ (t b o (Nat.le_of_not_lt hb) hw e)).1⟩
/-- the own addresses while the run sleeps -/
def owns (g : GP) (ll : LL) (ip : List (Addr × Obj)) : Own := g.L :: g.a :: ll.la :: ll.lb :: ip.map (·.1)
/-- the run's things at rest: younger than its frame, there, no cells, not the consumer's -/
structure OwnOk (g : GP) (w : Own) (s₀ : Shared) (w' : Own) (s : Shared) : Prop where
  yng : ∀ b ∈ w', g.L ≤ b
  obj : ∀ b ∈ w', ∃ o, s.heap.get? b = some o ∧ ∀ v, o.data ≠ .cell v
  new : ∀ b ∈ w', b ∈ w ∨ s₀.heap.get? b = none
  gen : s.heap.get? g.a = some g.go
structure IpOk (g : GP) (ll : LL) (ip : List (Addr × Obj)) : Prop where
  yng : ∀ p ∈ ip, g.L ≤ p.1
  la : g.L ≤ ll.la
  lb : g.L ≤ ll.lb
theorem ownOk (G : g.Ok) (hw : g.L ∈ w ∧ g.a ∈ w) (ipo : IpOk g ll ip) (I : Inv (g.X s₀ H0) ip σ H s) (t : Tr g.L w s₀ H) (hl : ll.At H) : OwnOk g w s₀ (owns g ll ip) s := by
  have notr : ∀ b, g.L ≤ b → (∀ φ, H b ≠ some (.ext φ)) → b ∈ w ∨ s₀.heap.get? b = none := fun b hb hn => by
    by_cases hbw : b ∈ w
    · exact .inl hbw
    · cases e : s₀.heap.get? b with
      | none => exact .inr rfl
      | some o => exact absurd (t b o hb hbw e) (hn _)
  have lobj : ∀ b xs, H b = some (.lst xs) → ∃ o, s.heap.get? b = some o ∧ ∀ v, o.data ≠ .cell v := fun b xs e => by
    obtain ⟨_, its, n, _, e2⟩ := I.hok b _ e
    exact ⟨_, e2, fun v z => by cases z⟩
  have ga : s.heap.get? g.a = some g.go := (I.pin (g.a, g.go) (List.mem_append_left _ (List.mem_singleton.mpr rfl))).1
  refine ⟨fun b hb => ?_, fun b hb => ?_, fun b hb => ?_, ga⟩
  · rcases List.mem_cons.mp hb with e | hb
    · rw [e]; exact Nat.le_refl _
    rcases List.mem_cons.mp hb with e | hb
    · rw [e]; exact Nat.le_of_lt G.aL
    rcases List.mem_cons.mp hb with e | hb
    · rw [e]; exact ipo.la
    rcases List.mem_cons.mp hb with e | hb
    · rw [e]; exact ipo.lb
    obtain ⟨p, hp, e⟩ := List.mem_map.mp hb
    rw [← e]; exact ipo.yng p hp
  · rcases List.mem_cons.mp hb with e | hb
    · rw [e]
      obtain ⟨m, ⟨o, es, ep, ho, hd, _⟩, _⟩ := I.loc
      exact ⟨o, ho, fun v z => by rw [hd] at z; cases z⟩
    rcases List.mem_cons.mp hb with e | hb
    · rw [e]; exact ⟨_, ga, G.goc⟩
    rcases List.mem_cons.mp hb with e | hb
    · rw [e]; exact lobj _ _ hl.1
    rcases List.mem_cons.mp hb with e | hb
    · rw [e]; exact lobj _ _ hl.2
    obtain ⟨p, hp, e⟩ := List.mem_map.mp hb
    obtain ⟨h1, _, _, _, h5⟩ := I.pin p (List.mem_append_right _ hp)
    rw [← e]; exact ⟨_, h1, h5⟩
  · rcases List.mem_cons.mp hb with e | hb
    · rw [e]; exact .inl hw.1
    rcases List.mem_cons.mp hb with e | hb
    · rw [e]; exact .inl hw.2
    rcases List.mem_cons.mp hb with e | hb
    · rw [e]; exact notr _ ipo.la fun φ z => by rw [hl.1] at z; cases z
    rcases List.mem_cons.mp hb with e | hb
    · rw [e]; exact notr _ ipo.lb fun φ z => by rw [hl.2] at z; cases z
    obtain ⟨p, hp, e⟩ := List.mem_map.mp hb
    obtain ⟨_, h2, _, _, _⟩ := I.pin p (List.mem_append_right _ hp)
    rw [← e]; exact notr _ (ipo.yng p hp) fun φ z => by rw [h2] at z; cases z
/-- woken: the whole is said anew over the state as it is now -/
theorem GI.woken {s' : Shared} (G : g.Ok) (ipo : IpOk g ll ip) (hab : ll.la ≠ ll.lb) (h : GI g ll w s₀ ip σ s) (k : KeptO g (owns g ll ip) s s') : GI g ll (owns g ll ip) s' ip σ s' := by
  obtain ⟨H0, H, I, f, t, hl⟩ := h
  classical
  have mL : g.L ∈ owns g ll ip := List.mem_cons_self
  have ma : g.a ∈ owns g ll ip := List.mem_cons_of_mem _ List.mem_cons_self
  have mla : ll.la ∈ owns g ll ip := List.mem_cons_of_mem _ (List.mem_cons_of_mem _ List.mem_cons_self)
  have mlb : ll.lb ∈ owns g ll ip := List.mem_cons_of_mem _ (List.mem_cons_of_mem _ (List.mem_cons_of_mem _ List.mem_cons_self))
  have mip : ∀ p ∈ ip, p.1 ∈ owns g ll ip := fun p hp => List.mem_cons_of_mem _ (List.mem_cons_of_mem _ (List.mem_cons_of_mem _ (List.mem_cons_of_mem _ (List.mem_map.mpr ⟨p, hp, rfl⟩))))
  let H' : Hp := fun b => if b = ll.la then some (.lst ll.xs) else if b = ll.lb then some (.lst ll.ys) else
    if g.L ≤ b ∧ b ∉ owns g ll ip then (s'.heap.get? b).map fun o => .ext fun h => h.get? b = some o else none
  have ea : H' ll.la = some (.lst ll.xs) := if_pos rfl
  have eb : H' ll.lb = some (.lst ll.ys) := by
    show (if ll.lb = ll.la then _ else if ll.lb = ll.lb then _ else _) = _
    rw [if_neg (Ne.symm hab), if_pos rfl]
  have en : ∀ b, b ≠ ll.la → b ≠ ll.lb → (b < g.L ∨ b ∈ owns g ll ip) → H' b = none := fun b h1 h2 h3 => by
    show (if b = ll.la then _ else if b = ll.lb then _ else if g.L ≤ b ∧ b ∉ owns g ll ip then _ else none) = none
    rw [if_neg h1, if_neg h2, if_neg]
    rintro ⟨q1, q2⟩
    rcases h3 with h3 | h3
    · exact absurd (Nat.lt_of_lt_of_le h3 q1) (Nat.lt_irrefl _)
    · exact q2 h3
  have ex : ∀ b o, g.L ≤ b → b ∉ owns g ll ip → s'.heap.get? b = some o → H' b = some (.ext fun h => h.get? b = some o) := fun b o h1 h2 h3 => by
    show (if b = ll.la then _ else if b = ll.lb then _ else if g.L ≤ b ∧ b ∉ owns g ll ip then (s'.heap.get? b).map _ else none) = _
    rw [if_neg fun z => h2 (by rw [z]; exact mla), if_neg fun z => h2 (by rw [z]; exact mlb), if_pos ⟨h1, h2⟩, h3]
    rfl
  have old : ∀ b, b < g.L → H' b = none := fun b hb => en b (fun z => absurd (Nat.lt_of_lt_of_le hb (by rw [z]; exact ipo.la)) (Nat.lt_irrefl _)) (fun z => absurd (Nat.lt_of_lt_of_le hb (by rw [z]; exact ipo.lb)) (Nat.lt_irrefl _)) (.inl hb)
  obtain ⟨m, hn, hlk⟩ := id I.loc
  have hn' : s'.heap.Ns g.L m := by
    obtain ⟨o, es, ep, ho, r⟩ := hn
    exact ⟨o, es, ep, k.own _ mL o ho, r⟩
  have hLlt : g.L < s'.heap.objs.size := hn'.lt
  have hsz : (cutH s'.heap g.L).objs.size = g.L := cutH_size (Nat.le_of_lt hLlt)
  have basL : ∀ b o, g.base.get? b = some o → b < g.L := fun b o e => Nat.lt_of_lt_of_le (Heap.lt_size e) G.bsz
  have neLa : ∀ b xs, H b = some (.lst xs) → b ≠ g.L := fun b xs e z => by rw [z, show H g.L = none from I.free] at e; cases e
  have pinF : ∀ p ∈ [(g.a, g.go)] ++ ip, s'.heap.get? p.1 = some p.2 ∧ H' p.1 = none ∧ p.1 ≠ g.L ∧ p.1 ∉ frs g.outer ∧ ∀ v, p.2.data ≠ .cell v := fun p hp => by
    obtain ⟨h1, h2, h3, h4, h5⟩ := I.pin p hp
    have hm : p.1 ∈ owns g ll ip := by
      rcases List.mem_append.mp hp with z | z
      · rw [List.mem_singleton.mp z]; exact ma
      · exact mip p z
    exact ⟨k.own _ hm _ h1, en _ (fun z => by rw [z, hl.1] at h2; cases h2) (fun z => by rw [z, hl.2] at h2; cases h2) (.inr hm), h3, h4, h5⟩
  refine ⟨fun _ => none, H', ⟨⟨G.mod, G.kind, G.glob, G.blt, ?_, fun x y c h1 _ => (G.nocell x c h1).elim, fun x hx => (G.nokind x hx).elim, fun x c _ h1 => (G.nocell x c h1).elim, fun _ => G.hd, G.frames, .inr ⟨rfl, G.frame⟩, fun b z => (nomatch z), fun b o e => ⟨?_, rfl⟩, ?_, fun b o _ z => (nomatch z), fun b z => (nomatch z), ?_, fun _ _ => rfl⟩,
    rfl, k.bare, ⟨fun b o e _ _ _ => ?_, fun b o e _ _ _ => ⟨o.slots, ?_⟩, fun b o e _ _ => old b (cutH_lt e), fun b o e _ => ⟨o, ?_⟩, fun b xs e => (nomatch e), fun b o u e => (nomatch e), fun b ps e => (nomatch e)⟩,
    ⟨m, hn', fun i x v e1 e2 e3 => ?_⟩, fun x c e => (G.nocell x c e).elim, ?_, fun x c e => (G.nocell x c e).elim, pinF, ?_, I.len⟩, ⟨Nat.le_of_lt hLlt, fun b o e => (nomatch e)⟩, fun b o h1 h2 h3 => ex b o h1 h2 h3, ea, eb⟩
  · show (cutH s'.heap g.L).objs.size ≤ g.L
    rw [hsz]; exact Nat.le_refl _
  · show (cutH s'.heap g.L).get? b = some o
    rw [cutH_get (basL b o e)]; exact k.bk b o e
  · show g.base.objs.size ≤ (cutH s'.heap g.L).objs.size
    rw [hsz]; exact G.bsz
  · show (cutH s'.heap g.L).FunFrames g.base g.outer
    have go : ∀ l : List Env, (∀ b ∈ frs l, b < g.L) → s'.heap.FunFrames g.base l → (cutH s'.heap g.L).FunFrames g.base l := by
      intro l
      induction l with
      | nil => intro _ _; trivial
      | cons env r ih =>
        intro hs hq
        obtain ⟨hk, ⟨L, o, hf, hnb, ho, hd⟩, hr⟩ := hq
        have hL : L < g.L := hs L (by unfold frs; rw [List.filterMap_cons, hf]; exact List.mem_cons_self)
        exact ⟨hk, ⟨L, o, hf, hnb, by rw [cutH_get hL]; exact ho, hd⟩, ih (fun b hb => hs b (by unfold frs; rw [List.filterMap_cons, hf]; exact List.mem_cons_of_mem _ hb)) hr⟩
    exact go g.outer G.frsL k.funs
  · have e' : (cutH s'.heap g.L).get? b = some o := e
    rw [cutH_get (cutH_lt e')] at e'; exact e'
  · have e' : (cutH s'.heap g.L).get? b = some o := e
    rw [cutH_get (cutH_lt e')] at e'; exact e'
  · have e' : (cutH s'.heap g.L).get? b = some o := e
    rw [cutH_get (cutH_lt e')] at e'; exact e'
  · obtain ⟨u, r, l⟩ := hlk i x v e1 e2 e3
    refine ⟨u, r, ?_⟩
    rcases l with l | ⟨kk, c, e, _⟩
    · exact .inl l
    · exact (G.nocell x c e).elim
  · exact en _ (fun z => neLa ll.la _ hl.1 z.symm) (fun z => neLa ll.lb _ hl.2 z.symm) (.inr mL)
  · intro b u e
    by_cases h1 : b = ll.la
    · subst h1
      rw [ea] at e; cases e
      obtain ⟨z, its, n, r, e2⟩ := I.hok ll.la _ hl.1
      exact ⟨z, its, n, r, k.own _ mla _ e2⟩
    by_cases h2 : b = ll.lb
    · subst h2
      rw [eb] at e; cases e
      obtain ⟨z, its, n, r, e2⟩ := I.hok ll.lb _ hl.2
      exact ⟨z, its, n, r, k.own _ mlb _ e2⟩
    by_cases h3 : g.L ≤ b ∧ b ∉ owns g ll ip
    · cases q : s'.heap.get? b with
      | none =>
        have e' : H' b = none := by
          show (if b = ll.la then _ else if b = ll.lb then _ else if g.L ≤ b ∧ b ∉ owns g ll ip then (s'.heap.get? b).map _ else none) = none
          rw [if_neg h1, if_neg h2, if_pos h3, q]; rfl
        rw [e'] at e; cases e
      | some o =>
        rw [ex b o h3.1 h3.2 q] at e; cases e
        exact ⟨q, ⟨o, q⟩, fun h1 h2 p k => k o p⟩
    · have e' : H' b = none := by
        show (if b = ll.la then _ else if b = ll.lb then _ else if g.L ≤ b ∧ b ∉ owns g ll ip then (s'.heap.get? b).map _ else none) = none
        rw [if_neg h1, if_neg h2, if_neg h3]
      rw [e'] at e; cases e
end
end Gx
/-! statements of such a run: plain ones, if, for over a range, yield. -/
namespace Gx
open PySem PySem.Spec PyProof.Rows L2
def ExH (H H' : Hp) : Prop := ∀ b o, H b = some o → H' b = some o
theorem ExH.refl (H : Hp) : ExH H H := fun _ _ h => h
def RO (g : GP) : REnd := fun n w s₀ s => n = 0 ∧ FrameOk g w s₀ s
def YO (g : GP) (PL : List (Int × Int)) : Prot := fun n w s₀ v s kap => ∃ (p : Addr) (w' : Own) (x y : Int), v = .ref p ∧ PL[PL.length - 1 - n]? = some (x, y) ∧ (∃ its, Vals [V.int x, V.int y] its ∧ IsTup s.heap p its.toArray) ∧
  FrameOk g w s₀ s ∧ OwnOk g w s₀ w' s ∧ p ∉ w' ∧ (p ∈ w ∨ s₀.heap.get? p = none) ∧ (g.L ∈ w' ∧ g.a ∈ w') ∧ ∀ s', KeptO g w' s s' → kap w' s'
structure GEn where
  nx : Nat → L2.St → Prop
  bk : Nat → L2.St → Prop
  ct : Nat → L2.St → Prop
abbrev TGo := GEn → Nat → L2.St → Prop
def GSP (g : GP) (ll : LL) (PL : List (Int × Int)) (ip : List (Addr × Obj)) (D : GEn) (n : Nat) (w : Own) (s₀ : Shared) (f : Flow) (s : Shared) : Prop :=
  (g.L ∈ w ∧ g.a ∈ w) ∧ ∃ j σ, n + j = PL.length ∧ GI g ll w s₀ ip σ s ∧ match f with
  | .next => D.nx j σ
  | .brk => D.bk j σ
  | .cont => D.ct j σ
  | .ret _ => False
structure CodeAt (A0 : Around) (g : GP) (c : Code) (fs : List Frame) (gd : Bool → Bool) : Prop where
  over : A0.over c fs = g.A
  split : splitAtGen fs = none
  guard : fs.any Frame.guarded = false
  gd : gd false = false
abbrev Sg (A0 : Around) (g : GP) (PL : List (Int × Int)) := SegO (model g.P g.wd) A0 (RO g) (YO g PL)
structure GS (A0 : Around) (g : GP) (ll : LL) (PL : List (Int × Int)) (st : Stmt) (t : TGo) : Prop where
  run : ∀ (ip : List (Addr × Obj)) (c : Code) (fs : List Frame) (K : Flow → Sem PySem.Fin) (J : Value → Sem PySem.Fin) (gd : Bool → Bool) (lv : List Value → List Value) (D : GEn), IpOk g ll ip → CodeAt A0 g c fs gd →
    (∀ n w s₀ s f, GSP g ll PL ip D n w s₀ f s → Sg A0 g PL n w s₀ c (K f) fs s) →
    ∀ n w s₀ s j σ, (g.L ∈ w ∧ g.a ∈ w) → n + j = PL.length → GI g ll w s₀ ip σ s → t D j σ → Sg A0 g PL n w s₀ c ((exec st g.env).wrap K J gd lv) fs s
structure GSs (A0 : Around) (g : GP) (ll : LL) (PL : List (Int × Int)) (st : List Stmt) (t : TGo) : Prop where
  run : ∀ (ip : List (Addr × Obj)) (c : Code) (fs : List Frame) (K : Flow → Sem PySem.Fin) (J : Value → Sem PySem.Fin) (gd : Bool → Bool) (lv : List Value → List Value) (D : GEn), IpOk g ll ip → CodeAt A0 g c fs gd →
    (∀ n w s₀ s f, GSP g ll PL ip D n w s₀ f s → Sg A0 g PL n w s₀ c (K f) fs s) →
    ∀ n w s₀ s j σ, (g.L ∈ w ∧ g.a ∈ w) → n + j = PL.length → GI g ll w s₀ ip σ s → t D j σ → Sg A0 g PL n w s₀ c ((execs st g.env).wrap K J gd lv) fs s
section
variable {A0 : Around} {g : GP} {ll : LL} {PL : List (Int × Int)} {st : Stmt} {rest : List Stmt}
theorem GI.of {w : Own} {s₀ s' : Shared} {ip' : List (Addr × Obj)} {σ' : L2.St} {H0 H H' : Hp} (f : FrzOnly g.L H0 s₀) (t : Tr g.L w s₀ H) (hl : ll.At H) (I : Inv (g.X s₀ H0) ip' σ' H' s') (e : ExH H H') : GI g ll w s₀ ip' σ' s' :=
  ⟨H0, H', I, f, t.ex e, e _ _ hl.1, e _ _ hl.2⟩
theorem gss_nil : GSs A0 g ll PL [] (fun D j σ => D.nx j σ) := ⟨fun ip c fs K J gd lv D _ _ hk n w s₀ s j σ hw hn hI ht => hk n w s₀ s .next ⟨hw, j, σ, hn, hI, ht⟩⟩
def tGT (t u : TGo) : TGo := fun D j σ => t { D with nx := fun j' σ' => u D j' σ' } j σ
theorem gss_cons {t u : TGo} (a : GS A0 g ll PL st t) (b : GSs A0 g ll PL rest u) : GSs A0 g ll PL (st :: rest) (tGT t u) := by
  refine ⟨fun ip c fs K J gd lv D io ca hk n w s₀ s j σ hw hn hI ht => ?_⟩
  refine segO_execs_cons ?_
  refine a.run ip c fs _ J gd lv { D with nx := fun j' σ' => u D j' σ' } io ca (fun n' w' s₀' s' f hs => ?_) n w s₀ s j σ hw hn hI ht
  obtain ⟨hw', j', σ', hn', hI', q⟩ := hs
  cases f with
  | next => exact b.run ip c fs K J gd lv D io ca hk n' w' s₀' s' j' σ' hw' hn' hI' q
  | brk => exact hk n' w' s₀' s' .brk ⟨hw', j', σ', hn', hI', q⟩
  | cont => exact hk n' w' s₀' s' .cont ⟨hw', j', σ', hn', hI', q⟩
  | ret v => exact q.elim
def tGP (ll : LL) (t : TS) : TGo := fun D j σ => ∀ H, ll.At H → t { nx := fun σ' H' => ExH H H' ∧ D.nx j σ', rt := fun _ _ => False, bk := fun σ' H' => ExH H H' ∧ D.bk j σ', ct := fun σ' H' => ExH H H' ∧ D.ct j σ' } σ H
theorem gs_ps {t : TS} (h : ∀ s₀ H0, PS (g.X s₀ H0) st t) : GS A0 g ll PL st (tGP ll t) := by
  refine ⟨fun ip c fs K J gd lv D io ca hk n w s₀ s j σ hw hn hI ht => ?_⟩
  obtain ⟨H0, H, I, f, tr, hl⟩ := hI
  refine segO_wrap ?_
  rw [ca.over]
  refine wpAny_mono ((h s₀ H0).run ip s σ H _ I (ht H hl)) (fun fl s' hs => ?_) fun x s' hx => (show False from hx).elim
  cases fl with
  | next => obtain ⟨σ', H', I', e, q⟩ := hs; exact hk n w s₀ s' .next ⟨hw, j, σ', hn, GI.of f tr hl I' e, q⟩
  | brk => obtain ⟨σ', H', I', e, q⟩ := hs; exact hk n w s₀ s' .brk ⟨hw, j, σ', hn, GI.of f tr hl I' e, q⟩
  | cont => obtain ⟨σ', H', I', e, q⟩ := hs; exact hk n w s₀ s' .cont ⟨hw, j, σ', hn, GI.of f tr hl I' e, q⟩
  | ret v => obtain ⟨_, _, _, _, _, q⟩ := hs; exact q.elim
def tGIf (ll : LL) (tc : TT) (tb : TGo) : TGo := fun D j σ => ∀ H, ll.At H → tc σ H fun b H1 => ExH H H1 ∧ if b = true then tb D j σ else D.nx j σ
theorem gs_if {test : Expr} {body : List Stmt} {pos : Pos} {tc : TT} {tb : TGo} (hc : ∀ s₀ H0, PT (g.X s₀ H0) test tc) (hb : GSs A0 g ll PL body tb) : GS A0 g ll PL (.If test body [] pos) (tGIf ll tc tb) := by
  refine ⟨fun ip c fs K J gd lv D io ca hk n w s₀ s j σ hw hn hI ht => ?_⟩
  obtain ⟨H0, H, I, f, tr, hl⟩ := hI
  refine segO_If ?_
  rw [ca.over]
  refine wpAny_mono ((hc s₀ H0).run ip s σ H _ I (ht H hl)) (fun b s' hs => ?_) fun x s' hx => (show False from hx).elim
  obtain ⟨H', I', e, q⟩ := hs
  have hI' : GI g ll w s₀ ip σ s' := GI.of f tr hl I' e
  cases b with
  | true =>
    rw [if_pos rfl] at q ⊢
    exact hb.run ip c fs K J gd lv D io ca hk n w s₀ s' j σ hw hn hI' q
  | false =>
    rw [if_neg Bool.false_ne_true] at q ⊢
    exact gss_nil.run ip c fs K J gd lv D io ca hk n w s₀ s' j σ hw hn hI' q
def tGY (ll : LL) (PL : List (Int × Int)) (te : TE) : TGo := fun D j σ => ∀ H, ll.At H → ∃ x y, PL[j]? = some (x, y) ∧ te σ H fun v H1 => (∃ p, v = .ref p ∧ ExH H H1 ∧ H1 p = some (.tup [.int x, .int y])) ∧ D.nx (j + 1) σ
theorem gs_yield {e : Expr} {yp pos : Pos} {te : TE} (G : g.Ok) (hab : ll.la ≠ ll.lb) (he : ∀ s₀ H0, PE (g.X s₀ H0) e te) (hco : g.env.scope.isCoroutine = false := by rfl) (hi : interactive g.env = false := by rfl) : GS A0 g ll PL (.Expr (.Yield (some e) yp) pos) (tGY ll PL te) := by
  refine ⟨fun ip c fs K J gd lv D io ca hk n w s₀ s j σ hw hn hI ht => ?_⟩
  obtain ⟨H0, H, I, f, tr, hl⟩ := hI
  obtain ⟨x, y, hxy, ht⟩ := ht H hl
  have hj : j < PL.length := (List.getElem?_eq_some_iff.mp hxy).1
  obtain ⟨m, rfl⟩ : ∃ m, n = m + 1 := ⟨n - 1, by omega⟩
  refine segO_Yield ca.split ca.gd ca.guard ?_ hco hi
  rw [ca.over]
  refine wpAny_mono ((he s₀ H0).run ip s σ H _ I ht) (fun u s' hs => ?_) fun x s' hx => (show False from hx).elim
  obtain ⟨v, H', I', r, ⟨p, rfl, e, hp⟩, q⟩ := hs
  intro kap hkap
  have er : u = .ref p := r
  subst er
  have tr' := tr.ex e
  have hl' : ll.At H' := ⟨e _ _ hl.1, e _ _ hl.2⟩
  have hI' : GI g ll w s₀ ip σ s' := GI.of f tr hl I' e
  have own := ownOk (σ := σ) G hw io I' tr' hl'
  obtain ⟨_, its, vits, it⟩ := I'.hok p _ hp
  have hL : g.L ∈ owns g ll ip ∧ g.a ∈ owns g ll ip := ⟨List.mem_cons_self, List.mem_cons_of_mem _ List.mem_cons_self⟩
  refine ⟨p, owns g ll ip, x, y, rfl, ?_, ⟨its, vits, it⟩, frameOk I' f tr', own, ?_, ?_, hL, fun s'' kp => hkap _ s'' ?_⟩
  · have ej : PL.length - 1 - m = j := by omega
    rw [ej]; exact hxy
  · intro hm
    have pinN : ∀ q ∈ [(g.a, g.go)] ++ ip, p ≠ q.1 := fun q hq z => by
      have h2 := (I'.pin q hq).2.1
      rw [← z, hp] at h2; cases h2
    rcases List.mem_cons.mp hm with z | hm
    · have h2 : H' g.L = none := I'.free
      rw [← z, hp] at h2; cases h2
    rcases List.mem_cons.mp hm with z | hm
    · exact pinN (g.a, g.go) (List.mem_append_left _ (List.mem_singleton.mpr rfl)) z
    rcases List.mem_cons.mp hm with z | hm
    · rw [z, hl'.1] at hp; cases hp
    rcases List.mem_cons.mp hm with z | hm
    · rw [z, hl'.2] at hp; cases hp
    obtain ⟨q, hq, z⟩ := List.mem_map.mp hm
    exact pinN q (List.mem_append_right _ hq) z.symm
  · by_cases hpw : p ∈ w
    · exact .inl hpw
    · refine .inr ?_
      cases ho : s₀.heap.get? p with
      | none => rfl
      | some o =>
        exfalso
        by_cases hlt : p < g.L
        · have e' : (cutH s₀.heap g.L).get? p = some o := by rw [cutH_get hlt]; exact ho
          cases h0 : H0 p with
          | none =>
            have h2 := I'.base.free p o e' h0 (by intro z; exact nomatch z)
            rw [hp] at h2; cases h2
          | some z =>
            obtain ⟨ob, v, rfl, _⟩ := f.2 p z h0
            have h2 := I'.base.frzs p ob v h0
            rw [hp] at h2; cases h2
        · have h2 := tr' p o (Nat.le_of_not_lt hlt) hpw ho
          rw [hp] at h2; cases h2
  · exact hk m _ s'' s'' .next ⟨hL, j + 1, σ, by omega, hI'.woken G io hab kp, q⟩
/-! ### for over a range -/
def tGFor (ll : LL) (wi : TI) (i0 : Nat) (tb : TGo) : TGo := fun D j σ => ∀ H, ll.At H → wi σ H fun Jt H1 => ExH H H1 ∧ ∃ lo n, Jt = Itr lo n ∧ ∃ W : Nat → Nat → L2.St → Prop, W 0 j σ ∧ (∀ j' σ', W n j' σ' → D.nx j' σ') ∧
  ∀ i j' σ', i < n → W i j' σ' → tb { nx := W (i + 1), ct := W (i + 1), bk := D.nx } j' (σ'.set i0 (some (.int (lo + (i : Nat)))))
theorem codeAt_loop {c c' : Code} {fs : List Frame} {gd : Bool → Bool} {k : Result → Sem PySem.Fin} {l kp : List Value} {p : Pos} (h : CodeAt A0 g c fs gd) (hw : c'.weight = 0) (hu : c'.cUnits = 0) :
    CodeAt A0 g c' (.ret k none (gd false) l c p kp :: fs) id where
  over := (GenW.over_loop hw hu).trans h.over
  split := by
    show (splitAtGen fs).map _ = none
    rw [h.split]; rfl
  guard := by
    show (gd false || fs.any Frame.guarded) = false
    rw [h.gd, h.guard]; rfl
  gd := rfl
theorem gs_for {x : Str} {px : Pos} {iter : Expr} {body : List Stmt} {pos : Pos} {wi : TI} {i0 : Nat} {tb : TGo} (hi : ∀ s₀ H0, PI (g.X s₀ H0) (.Name x px) iter wi) (hg : ∀ s₀ H0, PG (g.X s₀ H0) (.Name x px) (gName i0)) (hb : GSs A0 g ll PL body tb)
    (hs : ∀ x, foldedSetIterable iter g.env x = pure x := by intro _; rfl) : GS A0 g ll PL (.For (.Name x px) iter body [] pos) (tGFor ll wi i0 tb) := by
  refine ⟨fun ip c fs K J gd lv D io ca hk n w s₀ s j σ hw hn hI ht => ?_⟩
  obtain ⟨H0, H, I, f, tr, hl⟩ := hI
  refine segO_For ?_ hs
  rw [ca.over]
  refine wpAny_mono ((hi s₀ H0).run ip s σ H _ I (ht H hl)) (fun v s1 h1 => ?_) fun x s' hx => (show False from hx).elim
  refine wpAny_mono h1 (fun itv s2 h2 => ?_) fun x s' hx => (show False from hx).elim
  intro p
  obtain ⟨it, fp, tn, Jt, H2, rfl, I2, T, st2, f2, e2, lo, m, rfl, W, w0, wd, turn⟩ := h2
  have gl := fun (kk : Result → Sem PySem.Fin) => codeAt_loop (A0 := A0) (g := g) (k := kk) (c' := .forLoop (.Name x px) (.ref it) body [] g.env) (l := lv []) (kp := []) (p := p) ca rfl rfl
  have yng : ∀ b ∈ fp, g.L ≤ b := fun b hb => by
    obtain ⟨_, _, _, h4, _, _⟩ := f2 b hb
    rcases h4 with h4 | h4
    · exact nomatch h4
    · have h5 : (cutH s₀.heap g.L).objs.size ≤ b := h4
      rw [cutH_size f.1] at h5
      exact h5
  have apart : ∀ b ∈ fp, ∀ q ∈ [(g.a, g.go)] ++ ip, q.1 ≠ b := fun b hb => (f2 b hb).2.2.2.2.2
  have fpok : ∀ {s₀ : Shared} {H0 H : Hp}, (∀ b ∈ fp, H b = none ∧ b ≠ g.L ∧ b ∉ frs g.outer) → ∀ b ∈ fp, FpOk (g.X s₀ H0) ip H b := fun {s₀ H0 H} hh b hb => by
    obtain ⟨h1, h2, h3⟩ := hh b hb
    refine ⟨h1, h2, h3, .inr ?_, (f2 b hb).2.2.2.2.1, apart b hb⟩
    show (cutH s₀.heap g.L).objs.size ≤ b
    refine Nat.le_trans ?_ (yng b hb)
    show (s₀.heap.objs.extract 0 g.L).size ≤ g.L
    rw [Array.size_extract]
    exact Nat.le_trans (Nat.sub_le _ _) (Nat.min_le_left _ _)
  have static : ∀ b ∈ fp, b ≠ g.L ∧ b ∉ frs g.outer := fun b hb => ⟨(f2 b hb).2.1, (f2 b hb).2.2.1⟩
  -- at the head of turn i: the iterator's things as in h
  have loop : ∀ (r i : Nat) (n : Nat) (w : Own) (s₀ s : Shared) (j : Nat) (σ : L2.St) (h : Heap), i + r = m → (g.L ∈ w ∧ g.a ∈ w) → n + j = PL.length → tn i h → GI g ll w s₀ (ip ++ pinsAt fp h) σ s → W i j σ →
      Sg A0 g PL n w s₀ (.forLoop (.Name x px) (.ref it) body [] g.env) ((model g.P g.wd).den (.forLoop (.Name x px) (.ref it) body [] g.env))
      (.ret (fun r => ((match r with | .ok f => (.pure f : Sem Flow) | .error e => .raise e).onRaise fun (x : Value) => do
        if (← field x 1) == Value.none then unsupported "frame.own-activation:exception-without-traceback"
        setFlight x g.env.frame).wrap K J gd lv) none (gd false) (lv []) c p [] :: fs) s := by
    intro r
    induction r with
    | zero =>
      intro i n w s₀ s j σ h hi hw hn htn hI hW
      obtain ⟨H0, H, I, f, tr, hl⟩ := hI
      have hm : i = m := by omega
      subst hm
      have htn' : tn i s.heap := T.keep i h s.heap htn fun b hb o e => (I.pin (b, o) (List.mem_append_right _ (List.mem_append_right _ (mem_pinsAt hb e)))).1
      have fr : ∀ b ∈ fp, H b = none ∧ b ≠ g.L ∧ b ∉ frs g.outer := fun b hb => by
        obtain ⟨o, e, _⟩ := T.obj _ _ htn b hb
        exact ⟨(I.pin (b, o) (List.mem_append_right _ (List.mem_append_right _ (mem_pinsAt hb e)))).2.1, static b hb⟩
      have I' : L2.Inv (g.X s₀ H0) ip σ H s := I.unpinned
      refine segO_forTurn ?_
      rw [(gl _).over]
      refine wpAny_mono (T.done (g.X s₀ H0) rfl rfl rfl rfl i ip s σ H _ I' (fpok fr) htn' (Nat.le_refl _)) (fun r s1 hr => ?_) fun _ _ z => z
      obtain ⟨rfl, I1⟩ := hr
      refine segO_block (segO_leaf (.ok .next) ?_)
      exact hk n w s₀ s1 .next ⟨hw, j, σ, hn, ⟨H0, H, I1, f, tr, hl⟩, wd j σ hW⟩
    | succ r ih =>
      intro i n w s₀ s j σ h hi hw hn htn hI hW
      obtain ⟨H0, H, I, f, tr, hl⟩ := hI
      have hm : i < m := by omega
      have htn' : tn i s.heap := T.keep i h s.heap htn fun b hb o e => (I.pin (b, o) (List.mem_append_right _ (List.mem_append_right _ (mem_pinsAt hb e)))).1
      have fr : ∀ b ∈ fp, H b = none ∧ b ≠ g.L ∧ b ∉ frs g.outer := fun b hb => by
        obtain ⟨o, e, _⟩ := T.obj _ _ htn b hb
        exact ⟨(I.pin (b, o) (List.mem_append_right _ (List.mem_append_right _ (mem_pinsAt hb e)))).2.1, static b hb⟩
      have I' : L2.Inv (g.X s₀ H0) ip σ H s := I.unpinned
      refine segO_forTurn ?_
      rw [(gl _).over]
      refine wpAny_mono (T.item (g.X s₀ H0) rfl rfl rfl rfl i ip s σ H _ I' (fpok fr) htn' hm) (fun rr s1 hr => ?_) fun _ _ z => z
      obtain ⟨u, rfl, h1⟩ := hr
      refine wpAny_mono h1 (fun _ s2 h2 => ?_) fun _ _ z => z
      obtain ⟨xv, H', I2, ru, ⟨eH, ex⟩, tn2, fr2⟩ := h2
      rw [eH] at I2 fr2
      subst ex
      have I2p := I2.pinned (fpok fun b hb => ⟨fr2 b hb, static b hb⟩) (T.obj _ _ tn2)
      refine wpAny_mono ((hg s₀ H0).run _ s2 σ _ _ u (fun σ' H' => σ' = σ.set i0 (some (.int (lo + (i : Nat)))) ∧ H' = H) I2p ru ⟨rfl, rfl⟩) (fun _ s3 h3 => ?_) fun _ _ z => z
      obtain ⟨σ3, H3, I3, rfl, rfl⟩ := h3
      have again : ∀ n w s₀ s j σ, (g.L ∈ w ∧ g.a ∈ w) → n + j = PL.length → GI g ll w s₀ (ip ++ pinsAt fp s2.heap) σ s → W (i + 1) j σ → Sg A0 g PL n w s₀ (.forLoop (.Name x px) (.ref it) body [] g.env) (.pure (.again (.forLoop (.Name x px) (.ref it) body [] g.env)))
          (.ret (fun r => ((match r with | .ok f => (.pure f : Sem Flow) | .error e => .raise e).onRaise fun (x : Value) => do
            if (← field x 1) == Value.none then unsupported "frame.own-activation:exception-without-traceback"
            setFlight x g.env.frame).wrap K J gd lv) none (gd false) (lv []) c p [] :: fs) s := fun n w s₀ s j σ hw hn hI hW =>
        segO_again rfl (ih (i + 1) n w s₀ s j σ s2.heap (by omega) hw hn tn2 hI hW)
      refine hb.run (ip ++ pinsAt fp s2.heap) _ _ _ _ id id { nx := W (i + 1), ct := W (i + 1), bk := D.nx } ⟨fun q hq => ?_, io.la, io.lb⟩ (gl _) (fun n w s₀ s fl hs => ?_) n w s₀ s3 j _ hw hn ⟨H0, H3, I3, f, tr, hl⟩ (turn i j σ hm hW)
      · rcases List.mem_append.mp hq with z | z
        · exact io.yng q z
        · exact yng _ (of_pinsAt z).1
      · obtain ⟨hw, j, σ, hn, hI, q⟩ := hs
        cases fl with
        | next => exact again n w s₀ s j σ hw hn hI q
        | cont => exact again n w s₀ s j σ hw hn hI q
        | brk =>
          refine segO_leaf (.ok .next) ?_
          obtain ⟨H0, H, I, f, tr, hl⟩ := hI
          exact hk n w s₀ s .next ⟨hw, j, σ, hn, ⟨H0, H, I.unpinned, f, tr, hl⟩, q⟩
        | ret v => exact q.elim
  exact loop m 0 n w s₀ s2 j σ s2.heap (Nat.zero_add _) hw hn st2 ⟨H0, H2, I2.pinned f2 (T.obj _ _ st2), f, tr.ex e2, e2 _ _ hl.1, e2 _ _ hl.2⟩ w0
end
end Gx
/-! the call of such a def, and the for loop that walks it. -/
namespace Gx
open PySem PySem.Spec PyProof.Rows L2
section
variable {g : GP} {s' : Shared} {ip : List (Addr × Obj)} {σ : L2.St} {H0 H' : Hp}
theorem mkInv (G : g.Ok) (hL : g.L ≤ s'.heap.objs.size) (bare : AllBare s'.gens) (bk : ∀ b o, g.base.get? b = some o → s'.heap.get? b = some o ∧ H0 b = none) (funs : s'.heap.FunFrames g.base g.outer) (frf : ∀ b ∈ frs g.outer, H0 b = none)
    (loc : ∃ m, s'.heap.Ns g.L m ∧ ∀ (i : Nat) (x : Str) (v : V), g.N[i]? = some x → σ[i]? = some (some v) → Vis g.env.scope x → ∃ u, RelV v u ∧ Look g.env s'.heap m x u)
    (h0 : ∀ b o, H0 b = some o → ∃ ob u, o = .frz ob u) (old : ∀ b, b < g.L → H0 b = none → H' b = none) (frz : ∀ b o u, H0 b = some (.frz o u) → H' b = some (.frz o u)) (free : H' g.L = none)
    (pinF : ∀ p ∈ [(g.a, g.go)] ++ ip, s'.heap.get? p.1 = some p.2 ∧ H' p.1 = none ∧ p.1 ≠ g.L ∧ p.1 ∉ frs g.outer ∧ ∀ v, p.2.data ≠ .cell v) (hok : HOk g.P g.wd H' s'.heap) (len : σ.length = g.N.length) : L2.Inv (g.X s' H0) ip σ H' s' := by
  have hsz : (cutH s'.heap g.L).objs.size = g.L := cutH_size hL
  have basL : ∀ b o, g.base.get? b = some o → b < g.L := fun b o e => Nat.lt_of_lt_of_le (Heap.lt_size e) G.bsz
  have cg : ∀ b o, (cutH s'.heap g.L).get? b = some o → s'.heap.get? b = some o := fun b o e => by
    rw [cutH_get (cutH_lt e)] at e; exact e
  refine ⟨⟨G.mod, G.kind, G.glob, G.blt, ?_, fun x y c h1 _ => (G.nocell x c h1).elim, fun x hx => (G.nokind x hx).elim, fun x c _ h1 => (G.nocell x c h1).elim, fun _ => G.hd, G.frames, .inr ⟨rfl, G.frame⟩, fun b z => (nomatch z), fun b o e => ⟨?_, (bk b o e).2⟩, ?_, fun b o _ z => (nomatch z), fun b z => (nomatch z), ?_, frf⟩,
    rfl, bare, ⟨fun b o e _ _ _ => cg b o e, fun b o e _ _ _ => ⟨o.slots, cg b o e⟩, fun b o e n _ => old b (cutH_lt e) n, fun b o e _ => ⟨o, cg b o e⟩, fun b xs e => ?_, frz, fun b ps e => ?_⟩,
    loc, fun x c e => (G.nocell x c e).elim, free, fun x c e => (G.nocell x c e).elim, pinF, hok, len⟩
  · show (cutH s'.heap g.L).objs.size ≤ g.L
    rw [hsz]; exact Nat.le_refl _
  · show (cutH s'.heap g.L).get? b = some o
    rw [cutH_get (basL b o e)]; exact (bk b o e).1
  · show g.base.objs.size ≤ (cutH s'.heap g.L).objs.size
    rw [hsz]; exact G.bsz
  · show (cutH s'.heap g.L).FunFrames g.base g.outer
    have go : ∀ l : List Env, (∀ b ∈ frs l, b < g.L) → s'.heap.FunFrames g.base l → (cutH s'.heap g.L).FunFrames g.base l := by
      intro l
      induction l with
      | nil => intro _ _; trivial
      | cons env r ih =>
        intro hs hq
        obtain ⟨hk, ⟨L, o, hf, hnb, ho, hd⟩, hr⟩ := hq
        have hL : L < g.L := hs L (by unfold frs; rw [List.filterMap_cons, hf]; exact List.mem_cons_self)
        exact ⟨hk, ⟨L, o, hf, hnb, by rw [cutH_get hL]; exact ho, hd⟩, ih (fun b hb => hs b (by unfold frs; rw [List.filterMap_cons, hf]; exact List.mem_cons_of_mem _ hb)) hr⟩
    exact go g.outer G.frsL funs
  · obtain ⟨ob, u, z⟩ := h0 b _ e; cases z
  · obtain ⟨ob, u, z⟩ := h0 b _ e; cases z
end
/-! ### a body: plain statements, then the one that hands out -/
structure GB (A0 : Around) (g : GP) (PL : List (Int × Int)) (body : List Stmt) (t : TS) : Prop where
  run : ∀ (c : Code) (K : Flow → Sem PySem.Fin) (J : Value → Sem PySem.Fin) (gd : Bool → Bool) (lv : List Value → List Value), CodeAt A0 g c [] gd →
    (∀ w s₀ s, FrameOk g w s₀ s → Sg A0 g PL 0 w s₀ c (K .next) [] s) →
    ∀ w s₀ s H0 H σ, (g.L ∈ w ∧ g.a ∈ w) → L2.Inv (g.X s₀ H0) [] σ H s → FrzOnly g.L H0 s₀ → Tr g.L w s₀ H → (∀ b, (b < g.L ∧ s₀.heap.get? b = none) → Dead b s) → t { nx := fun _ _ => False, rt := fun _ _ => False } σ H →
    Sg A0 g PL PL.length w s₀ c ((execs body g.env).wrap K J gd lv) [] s
section
variable {A0 : Around} {g : GP} {PL : List (Int × Int)} {st : Stmt} {rest : List Stmt}
/-- what is only watched stays watched -/
def ExT (H H' : Hp) : Prop := ∀ b φ, H b = some (.ext φ) → H' b = some (.ext φ)
theorem Tr.exT {L : Addr} {w : Own} {s₀ : Shared} {H H' : Hp} (t : Tr L w s₀ H) (e : ExT H H') : Tr L w s₀ H' := fun b o h1 h2 h3 => e _ _ (t b o h1 h2 h3)
def tGPre (t u : TS) : TS := fun D σ H => t { nx := fun σ' H' => ExT H H' ∧ u D σ' H', rt := fun _ _ => False } σ H
theorem gb_cons {t u : TS} (h : ∀ s₀ H0, PS (g.X s₀ H0) st t) (b : GB A0 g PL rest u) : GB A0 g PL (st :: rest) (tGPre t u) := by
  refine ⟨fun c K J gd lv ca hk w s₀ s H0 H σ hw I f tr dd ht => ?_⟩
  refine segO_execs_cons (segO_wrap ?_)
  rw [ca.over]
  refine wpAny_mono (wpAny_dead dd ((h s₀ H0).run [] s σ H _ I ht)) (fun fl s' hs => ?_) fun x s' hx => (show False from hx.2).elim
  obtain ⟨dd', hs⟩ := hs
  cases fl with
  | next => obtain ⟨σ', H', I', e, q⟩ := hs; exact b.run c K J gd lv ca hk w s₀ s' H0 H' σ' hw I' f (tr.exT e) dd' q
  | brk => obtain ⟨_, _, _, q⟩ := hs; exact q.elim
  | cont => obtain ⟨_, _, _, q⟩ := hs; exact q.elim
  | ret v => obtain ⟨_, _, _, _, _, q⟩ := hs; exact q.elim
def tGLast (PL : List (Int × Int)) (tg : LL → TGo) : TS := fun _ σ H => ∃ ll : LL, ll.At H ∧ ll.la ≠ ll.lb ∧ tg ll { nx := fun j _ => j = PL.length, bk := fun _ _ => False, ct := fun _ _ => False } 0 σ
theorem gb_last {tg : LL → TGo} (h : ∀ ll, ll.la ≠ ll.lb → GS A0 g ll PL st (tg ll)) : GB A0 g PL [st] (tGLast PL tg) := by
  refine ⟨fun c K J gd lv ca hk w s₀ s H0 H σ hw I f tr dd ht => ?_⟩
  obtain ⟨ll, hl, hab, ht⟩ := ht
  have yng : ∀ b xs, H b = some (.lst xs) → g.L ≤ b := fun b xs e => by
    refine Nat.le_of_not_lt fun hlt => ?_
    cases ho : s₀.heap.get? b with
    | none =>
      obtain ⟨_, its, n, _, e2⟩ := I.hok b _ e
      rw [(dd b ⟨hlt, ho⟩).2] at e2
      cases e2
    | some o =>
      have e' : (cutH s₀.heap g.L).get? b = some o := by rw [cutH_get hlt]; exact ho
      cases h0 : H0 b with
      | none =>
        have h2 := I.base.free b o e' h0 (by intro z; exact nomatch z)
        rw [e] at h2; cases h2
      | some z =>
        obtain ⟨ob, v, rfl, _⟩ := f.2 b z h0
        have h2 := I.base.frzs b ob v h0
        rw [e] at h2; cases h2
  refine segO_execs_cons ?_
  refine (h ll hab).run [] c [] _ J gd lv { nx := fun j _ => j = PL.length, bk := fun _ _ => False, ct := fun _ _ => False } ⟨fun p hp => (nomatch hp), yng _ _ hl.1, yng _ _ hl.2⟩ ca (fun n w s₀ s fl hs => ?_) PL.length w s₀ s 0 σ hw (Nat.add_zero _) ⟨H0, H, I, f, tr, hl⟩ ht
  obtain ⟨_, j, σ', hn, ⟨H0', H', I', f', tr', hl'⟩, q⟩ := hs
  cases fl with
  | next =>
    have ej : j = PL.length := q
    obtain rfl : n = 0 := by omega
    exact hk w s₀ s (frameOk I' f' tr')
  | brk => exact q.elim
  | cont => exact q.elim
  | ret v => exact q.elim
end
/-! ### the call -/
/-- the promise: arguments, heap, what is handed out -/
abbrev SpO := List V → Hp → List (Int × Int) → Prop
def MadeO (P : Program) (wd : World) (base : Heap) (A : Around) (outer : List Env) (s : Shared) (PL : List (Int × Int)) (u : Value) (s' : Shared) : Prop :=
  ∃ (g : GP) (gi : Nat) (c : Code), u = .ref g.a ∧ g.P = P ∧ g.wd = wd ∧ g.base = base ∧ g.outer = outer ∧ s.heap.objs.size ≤ g.L ∧ g.L < g.a ∧ s'.heap.IsGen g.a gi ∧ s'.heap.get? g.a = some g.go ∧ (∀ v, g.go.data ≠ .cell v) ∧
    (∃ o, s'.heap.get? g.L = some o ∧ ∀ v, o.data ≠ .cell v) ∧ s'.gens[gi]? = some (.fresh c) ∧ s'.os = s.os ∧ AllBare s'.gens ∧ s'.heap.NoLimit ∧ (∀ b o, s.heap.get? b = some o → s'.heap.get? b = some o) ∧
    (∀ h : Heap, h.get? g.a = some g.go → h.IsGen g.a gi) ∧
    ∀ s2, (∀ b o, s'.heap.get? b = some o → s2.heap.get? b = some o) → s2.os = s.os → AllBare s2.gens → Sg A.in1 g PL PL.length [g.L, g.a] s2 c ((model P wd).den c) [] s2
structure GFnO (P : Program) (wd : World) (K : PySem.W.Frag) (mg : Str → Option Value) (base : Heap) (k : Nat) (f : Addr) (fd : FuncData) (ps : List Str) (sp : SpO) : Prop where
  len : ∀ vs H PL, sp vs H PL → vs.length = ps.length
  run : ∀ (A : Around) (outer : List Env) (s : Shared) (H : Hp) (args : Args) (us : List Value) (vs : List V) (PL : List (Int × Int)), Room k A → Env0 P wd K mg base A outer s H → BindsTo s fd args (ps.zip us) → Vals vs us → sp vs H PL →
    codeAny (model P wd) A (.call (.ref f) args) (fun r s' => match r with | .ok (.ret u) => MadeO P wd base A outer s PL u s' | _ => False) s
/-- what was readable as a tuple still is -/
def TupEx (H H' : Hp) : Prop := ∀ a xs, Rd H a (.tup xs) → Rd H' a (.tup xs)
def gpOf (P : Program) (wd : World) (K : PySem.W.Frag) (mg : Str → Option Value) (base : Heap) (N : List Str) (qual : Str) (scope : Scope) (f : Addr) (cd : Value) (A : Around) (outer : List Env) (L : Addr) (a : Addr) (go : Obj) : GP where
  P := P
  wd := wd
  K := K
  mg := mg
  base := base
  A := A.deeper (envOfC qual scope L f cd)
  N := N
  env := envOfC qual scope L f cd
  outer := outer
  a := a
  go := go
/-- no cells at all -/
structure GScope' (N P : List Str) (sc : Scope) : Prop extends GScope N P sc where
  nocell : ∀ y ∈ sc.names, y.2 ≠ .cell
section
variable {P : Program} {wd : World} {K : PySem.W.Frag} {mg : Str → Option Value} {base : Heap}
theorem cells_nil : ∀ {l : List (Str × NameKind)} {n : Nat} {acc : List (Str × Addr)}, (∀ y ∈ l, y.2 ≠ .cell) → PySem.cellsFrom n l acc = acc
  | [], _, _, _ => rfl
  | (x, kd) :: r, n, acc, h => by
    unfold PySem.cellsFrom
    have hk : kd ≠ .cell := h (x, kd) List.mem_cons_self
    rw [if_neg (by intro z; exact hk (eq_of_beq z))]
    exact cells_nil fun y hy => h y (List.mem_cons_of_mem _ hy)
/-- the frame's own view of what the caller tracks: its tuples, as the very objects -/
def frzOf (H : Hp) (h : Heap) : Hp := fun b => match H b with
  | some (.tup xs) => (h.get? b).map fun o => .frz o (.tup xs)
  | some (.frz o (.tup xs)) => some (.frz o (.tup xs))
  | _ => none
theorem frzOf_only {H : Hp} {h : Heap} (ok : HOk P wd H h) {b : Addr} {o : HO} (e : frzOf H h b = some o) : ∃ ob xs, o = .frz ob (.tup xs) ∧ h.get? b = some ob ∧ ∃ u, H b = some u := by
  unfold frzOf at e
  cases q : H b with
  | none => rw [q] at e; cases e
  | some u =>
    rw [q] at e
    cases u with
    | tup xs =>
      cases q2 : h.get? b with
      | none => rw [q2] at e; cases e
      | some ob => rw [q2] at e; cases e; exact ⟨ob, xs, rfl, rfl, _, rfl⟩
    | frz ob v =>
      cases v with
      | tup xs => cases e; exact ⟨ob, xs, rfl, (ok b _ q).1, _, rfl⟩
      | _ => cases e
    | _ => cases e
theorem frzOf_ok {H : Hp} {h : Heap} (ok : HOk P wd H h) {b : Addr} {o : HO} (e : frzOf H h b = some o) (H' : Hp) : ObjOk P wd H' h b o := by
  unfold frzOf at e
  cases q : H b with
  | none => rw [q] at e; cases e
  | some u =>
    rw [q] at e
    cases u with
    | tup xs =>
      cases q2 : h.get? b with
      | none => rw [q2] at e; cases e
      | some ob => rw [q2] at e; cases e; exact ⟨q2, ok b _ q⟩
    | frz ob v =>
      cases v with
      | tup xs => cases e; exact ⟨(ok b _ q).1, (ok b _ q).2⟩
      | _ => cases e
    | _ => cases e
theorem gfnO_of {k : Nat} {f : Addr} {name qual : Str} {params : Arguments} {body : List Stmt} {scope : Scope} {dV kV doc pm cdv ct oc : Value} {an od : Option Addr}
    {osl : Array (Option Value)} {N ps : List Str} {sp : SpO} (lk : K.lookup f = some ⟨oc, od, .func (PySem.W.fnOf name qual params body scope dV kV doc pm an cdv ct), osl⟩) (hcd : PySem.W.codeIn K cdv qual = true) (S : GScope' N ps scope)
    (len : ∀ vs H PL, sp vs H PL → vs.length = ps.length)
    (hbody : ∀ (A : Around) (outer : List Env) (L a : Addr) (go : Obj) (H : Hp) (vs : List V) (PL : List (Int × Int)), Room k (A.deeper (envOfC qual scope L f cdv)) → (gpOf P wd K mg base N qual scope f cdv A outer L a go).Ok → sp vs H PL →
      ∃ t, GB A (gpOf P wd K mg base N qual scope f cdv A outer L a go) PL body t ∧ ∀ Hg, TupEx H Hg → t { nx := fun _ _ => False, rt := fun _ _ => False } (start N vs) Hg) :
    GFnO P wd K mg base (k + 2) f (PySem.W.fnOf name qual params body scope dV kV doc pm an cdv ct) ps sp := by
  refine ⟨len, fun A outer s H args us vs PL hr e0 hb r hsp => ?_⟩
  have hl := len _ _ _ hsp
  have KX : K.In s.heap := e0.mod.kin.keeps fun b o e => (e0.bs b o e).1
  have lim : s.heap.NoLimit := e0.mod.nolimit.keeps fun b o e => (e0.bs b o e).1
  have hkind : ∀ y ∈ ps.zip us, scope.names.lookup y.1 = some .local ∨ (scope.names.lookup y.1 = some .cell ∧ ((cellsFrom (s.heap.objs.size + 1) scope.names []).lookup y.1).isSome = true) := fun ⟨n, v⟩ hy => by
    rcases S.par n (List.of_mem_zip hy).1 with q | q
    · exact .inl q
    · exact absurd rfl (S.nocell _ (PySem.mem_of_lookup q))
  refine codeAny_call_generator (by have := hr.dp; omega) (KX _ _ lk) rfl S.co S.gen rfl (PySem.W.codeRec_of KX hcd) (hb _ _ _ _ ?_)
  refine wpAny_newFunctionEnv_cells S.kind hkind fun env he s1 x => ?_
  subst he
  have lim1 : s1.heap.NoLimit := lim.keeps x.toInCall.keep
  refine ⟨lim1, ?_⟩
  obtain ⟨h1, tk, es1, hk1⟩ := x.done
  have os1 : s1.os = s.os := by rw [es1]
  have gen1 : s1.gens = s.gens := by rw [es1]
  have lt1 : s.heap.objs.size < s1.heap.objs.size := x.toInCall.ns.lt
  have kp1 : ∀ b o, s.heap.get? b = some o → s1.heap.get? b = some o := x.toInCall.keep
  have ncell : ∀ y c, (envOfC qual scope s.heap.objs.size f cdv).cells.lookup y = some c → False := fun y c e => by
    have e' : (cellsFrom (s.heap.objs.size + 1) scope.names []).lookup y = some c := e
    rw [cells_nil S.nocell] at e'
    cases e'
  have nkind : ∀ y, ¬ ((envOfC qual scope s.heap.objs.size f cdv).kindOf y = some .cell ∨ (envOfC qual scope s.heap.objs.size f cdv).kindOf y = some .free) := fun y hy => by
    have hy : scope.names.lookup y = some .cell ∨ scope.names.lookup y = some .free := hy
    rcases hy with hy | hy
    · exact absurd rfl (S.nocell _ (PySem.mem_of_lookup hy))
    · exact absurd rfl (S.nofree _ (PySem.mem_of_lookup hy))
  have main : ∀ (go : Obj) (nm qn : Value) (tk2 : Nat), go.cls = .type "generator" → go.data = .fields #[.int s1.gens.size 0, nm, qn] → go.slots = #[] → (∀ h : Heap, (h.push go).get? h.objs.size = some go) →
      MadeO P wd base A outer s PL (.ref s1.heap.objs.size) { s1 with gens := s1.gens.push (.fresh (.func body (envOfC qual scope s.heap.objs.size f cdv))), toks := tk2, heap := s1.heap.push go } := by
    intro go nm qn tk2 hgc hgd0 hgs hgp
    have hgen : ∀ h : Heap, h.get? s1.heap.objs.size = some go → h.IsGen s1.heap.objs.size s1.gens.size := fun h e => ⟨go, nm, qn, e, hgc, hgd0, hgs⟩
    have hpushed : (s1.heap.push go).get? s1.heap.objs.size = some go := hgp _
    have hgd : ∀ v, go.data ≠ .cell v := fun v q => by rw [hgd0] at q; cases q
    have frsL : ∀ b ∈ frs outer, b < s.heap.objs.size := fun b hb => by
      obtain ⟨_, o, ho, _⟩ := e0.funs.mem hb
      exact Heap.lt_size ho
    have G : (gpOf P wd K mg base N qual scope f cdv A.in1 outer s.heap.objs.size s1.heap.objs.size go).Ok :=
      ⟨e0.mod, S.kind, rfl, rfl, ncell, nkind, hr.hd, Around.frames_deeper e0.frames, rfl, e0.bsz, frsL, lt1, hgd⟩
    obtain ⟨m1, ⟨oL, es, ep, hoL, hdL, hnL⟩⟩ : ∃ m, s1.heap.Ns s.heap.objs.size m := ⟨_, x.toInCall.ns⟩
    refine ⟨gpOf P wd K mg base N qual scope f cdv A.in1 outer s.heap.objs.size s1.heap.objs.size go, s1.gens.size, _, rfl, rfl, rfl, rfl, rfl, Nat.le_refl _, lt1, hgen _ hpushed, hpushed, hgd,
      ⟨oL, Heap.get?_push_of_some _ hoL, fun v z => by rw [hdL] at z; cases z⟩, Array.getElem?_push_size .., os1, AllBare.push (by rw [gen1]; exact e0.bare) rfl, lim1.keeps fun b o e => Heap.get?_push_of_some _ e, fun b o e => Heap.get?_push_of_some _ (kp1 b o e), hgen, ?_⟩
    intro s2 hk2 hos hba
    obtain ⟨t, ht, hq⟩ := hbody A.in1 outer s.heap.objs.size s1.heap.objs.size go H vs PL ⟨hr.hd, by have := hr.dp; show A.depth + 1 + 3 * k + 5 < _; omega, by have := hr.un; show A.units + 1 + 3 + 16 * k + 200 < _; omega⟩ G hsp
    have kp2 : ∀ b o, s1.heap.get? b = some o → s2.heap.get? b = some o := fun b o e => hk2 b o (Heap.get?_push_of_some _ e)
    have kp0 : ∀ b o, s.heap.get? b = some o → s2.heap.get? b = some o := fun b o e => kp2 b o (kp1 b o e)
    have hok2 : HOk P wd H s2.heap := e0.hok.kept kp0
    have hL2 : s2.heap.get? s.heap.objs.size = some oL := kp2 _ _ hoL
    have ltH : ∀ b u, H b = some u → b < s.heap.objs.size := fun b u e => e0.hok.lt e
    classical
    let H0 : Hp := frzOf H s2.heap
    let H' : Hp := fun b => match H0 b with
      | some o => some o
      | none => if s.heap.objs.size ≤ b ∧ b ∉ [s.heap.objs.size, s1.heap.objs.size] then (s2.heap.get? b).map fun o => .ext fun h => h.get? b = some o else none
    have h0lt : ∀ b o, H0 b = some o → b < s.heap.objs.size := fun b o e => by
      obtain ⟨_, _, _, _, u, hu⟩ := frzOf_only hok2 e
      exact ltH b u hu
    have h0n : ∀ b, s.heap.objs.size ≤ b → H0 b = none := fun b hb => by
      cases e : H0 b with
      | none => rfl
      | some o => exact absurd (Nat.lt_of_lt_of_le (h0lt b o e) hb) (Nat.lt_irrefl _)
    have h0none : ∀ b, H b = none → H0 b = none := fun b e => by
      show frzOf H s2.heap b = none
      unfold frzOf
      rw [e]
    have h's : ∀ b o, H0 b = some o → H' b = some o := fun b o e => by
      show (match H0 b with | some o => some o | none => _) = some o
      rw [e]
    have h'n : ∀ b, H0 b = none → (b < s.heap.objs.size ∨ b ∈ [s.heap.objs.size, s1.heap.objs.size]) → H' b = none := fun b e hb => by
      show (match H0 b with | some o => some o | none => _) = none
      rw [e]
      show (if s.heap.objs.size ≤ b ∧ b ∉ [s.heap.objs.size, s1.heap.objs.size] then _ else none) = none
      rw [if_neg]
      rintro ⟨z1, z2⟩
      rcases hb with hb | hb
      · exact absurd (Nat.lt_of_lt_of_le hb z1) (Nat.lt_irrefl _)
      · exact z2 hb
    have h'x : ∀ b o, s.heap.objs.size ≤ b → b ∉ [s.heap.objs.size, s1.heap.objs.size] → s2.heap.get? b = some o → H' b = some (.ext fun h => h.get? b = some o) := fun b o z1 z2 z3 => by
      show (match H0 b with | some o => some o | none => _) = _
      rw [h0n b z1]
      show (if s.heap.objs.size ≤ b ∧ b ∉ [s.heap.objs.size, s1.heap.objs.size] then (s2.heap.get? b).map _ else none) = _
      rw [if_pos ⟨z1, z2⟩, z3]
      rfl
    have hLle : s.heap.objs.size ≤ s2.heap.objs.size := Nat.le_of_lt (Heap.lt_size hL2)
    have I1 : L2.Inv (gcxOf P wd K mg base N qual scope f cdv A outer s H (fun _ _ _ => False) []) [] (start N vs) H s1 := inv_startG S.toGScope hr.hd e0 hl r x
    have I : L2.Inv ((gpOf P wd K mg base N qual scope f cdv A.in1 outer s.heap.objs.size s1.heap.objs.size go).X s2 H0) [] (start N vs) H' s2 := by
      refine mkInv G hLle hba (fun b o e => ⟨kp0 b o (e0.bs b o e).1, h0none b (e0.bs b o e).2⟩) ?_ (fun b hb => h0none b (e0.frf b hb)) ?_ (fun b o e => ?_) (fun b hb e => h'n b e (.inl hb)) (fun b o u e => h's b _ e) (h'n _ (h0n _ (Nat.le_refl _)) (.inr List.mem_cons_self)) (fun p hp => ?_) (fun b u e => ?_) I1.len
      · exact e0.funs.of_keeps fun b o ho _ => ⟨o, kp0 b o ho, rfl⟩
      · obtain ⟨m, hn, hlk⟩ := I1.loc
        refine ⟨m, ?_, fun i y v q1 q2 q3 => ?_⟩
        · obtain ⟨o, es, ep, ho, rr⟩ := hn
          exact ⟨o, es, ep, kp2 _ _ ho, rr⟩
        · obtain ⟨u, ru, l⟩ := hlk i y v q1 q2 q3
          refine ⟨u, ru, ?_⟩
          rcases l with l | ⟨kk, c, e, _⟩
          · exact .inl l
          · exact (ncell y c e).elim
      · obtain ⟨ob, xs, rfl, _⟩ := frzOf_only hok2 e
        exact ⟨ob, _, rfl⟩
      · have hp : p ∈ [(s1.heap.objs.size, go)] ++ ([] : List (Addr × Obj)) := hp
        have e : p = (s1.heap.objs.size, go) := by simpa using hp
        rw [e]
        refine ⟨hk2 _ _ hpushed, h'n _ (h0n _ (Nat.le_of_lt lt1)) (.inr (List.mem_cons_of_mem _ List.mem_cons_self)), Nat.ne_of_gt lt1, fun z => ?_, hgd⟩
        exact absurd (Nat.lt_trans lt1 (frsL _ z)) (Nat.lt_irrefl _)
      · cases e1 : H0 b with
        | some o =>
          rw [h's b o e1] at e
          cases e
          exact frzOf_ok hok2 e1 _
        | none =>
          by_cases hb : s.heap.objs.size ≤ b ∧ b ∉ [s.heap.objs.size, s1.heap.objs.size]
          · cases e2 : s2.heap.get? b with
            | none =>
              have e3 : H' b = none := by
                show (match H0 b with | some o => some o | none => _) = none
                rw [e1]
                show (if s.heap.objs.size ≤ b ∧ b ∉ [s.heap.objs.size, s1.heap.objs.size] then (s2.heap.get? b).map _ else none) = none
                rw [if_pos hb, e2]
                rfl
              rw [e3] at e; cases e
            | some o =>
              rw [h'x b o hb.1 hb.2 e2] at e
              cases e
              exact ⟨e2, ⟨o, e2⟩, fun h1 h2 p k => k o p⟩
          · have e3 : H' b = none := by
              show (match H0 b with | some o => some o | none => _) = none
              rw [e1]
              show (if s.heap.objs.size ≤ b ∧ b ∉ [s.heap.objs.size, s1.heap.objs.size] then _ else none) = none
              rw [if_neg hb]
            rw [e3] at e; cases e
    have dd : ∀ b, (b < s.heap.objs.size ∧ s2.heap.get? b = none) → Dead b s2 := fun b hb => ⟨Nat.lt_of_lt_of_le hb.1 hLle, hb.2⟩
    have tex : TupEx H H' := fun a xs hR => by
      rcases hR with hR | ⟨ob, hR⟩
      · have hlt := ltH a _ hR
        obtain ⟨_, its, _, o, ho, _⟩ := hok2 a _ hR
        refine .inr ⟨o, h's a _ ?_⟩
        show frzOf H s2.heap a = _
        unfold frzOf
        rw [hR]
        show (s2.heap.get? a).map _ = _
        rw [ho]
        rfl
      · refine .inr ⟨ob, h's a _ ?_⟩
        show frzOf H s2.heap a = _
        unfold frzOf
        rw [hR]
    refine segO_func ?_
    refine ht.run _ _ _ id id ⟨GenW.over_func, rfl, rfl, rfl⟩ (fun w s₀ s3 fo => ?_) [s.heap.objs.size, s1.heap.objs.size] s2 s2 H0 H' (start N vs) ⟨List.mem_cons_self, List.mem_cons_of_mem _ List.mem_cons_self⟩ I
      ⟨hLle, fun b o e => ?_⟩ (fun b o z1 z2 z3 => h'x b o z1 z2 z3) dd (hq H' tex)
    · exact segO_end ⟨rfl, fo⟩
    · obtain ⟨ob, xs, rfl, h2, _⟩ := frzOf_only hok2 e
      exact ⟨ob, _, rfl, h2⟩
  exact main _ _ _ _ rfl rfl rfl fun h => Heap.get?_push_size _ rfl
end
end Gx
/-! the for loop that walks such a generator. -/
namespace Gx
open PySem PySem.Spec PyProof.Rows L2
section
variable {X : Cx} {pins : List (Addr × Obj)} {σ : L2.St} {H : Hp} {s s' : Shared}
theorem inv_gens (I : L2.Inv X pins σ H s) {G : Array GenState} (hG : AllBare G) : L2.Inv X pins σ H { s with gens := G } :=
  I.call' (ch := []) (s' := { s with gens := G }) rfl (Un.kept fun _ _ e => e) I.hok hG fun b hb => (nomatch hb)
/-- behind a turn of the generator: all but its own things stand; the tuple that it handed out is tracked -/
theorem inv_turn {g : GP} {w : Own} {s₀ : Shared} {o : Option (Addr × List V)} (ho : g.outer = X.stack) (I : L2.Inv X pins σ H s) (hs0 : s₀.heap = s.heap ∧ s₀.os = s.os) (hw : ∀ b ∈ w, FpOk X pins H b) (F : FrameOk g w s₀ s')
    (hp : ∀ p xs, o = some (p, xs) → (p ∈ w ∨ s₀.heap.get? p = none) ∧ xs.length ≤ sizeLine ∧ ∃ its, Vals xs its ∧ IsTup s'.heap p its.toArray) :
    L2.Inv X pins σ (match o with | some (p, xs) => upd H p (.tup xs) | none => H) s' := by
  have kp : ∀ b u, s.heap.get? b = some u → b ∉ w → b ∉ frs X.stack → s'.heap.get? b = some u := fun b u e h1 h2 => F.keep b u (by rw [hs0.1]; exact e) h1 (by rw [ho]; exact h2)
  have sl : ∀ b u, s.heap.get? b = some u → b ∉ w → ∃ sl, s'.heap.get? b = some { u with slots := sl } := fun b u e h1 => F.slot b u (by rw [hs0.1]; exact e) h1
  have notw : ∀ b u, H b = some u → b ∉ w := fun b u e hb => by rw [(hw b hb).1] at e; cases e
  have notf : ∀ b u, H b = some u → b ∉ frs X.stack := fun b u e hb => by rw [I.stkFree b hb] at e; cases e
  have base : HOk X.prog X.w H s'.heap := fun b u e => (I.hok b u e).stay (fun c v hc q => by
    rcases hc with z | z
    · subst z; exact kp c v q (notw c u e) (notf c u e)
    · exact kp c v q (notw c _ z) (notf c _ z)) (fun _ z => z) fun _ _ z => z
  have unb : Un (frs X.stack) w H H s.heap s'.heap := ⟨fun b u q _ h1 h2 => kp b u q h2 h1, fun b u q _ _ h2 => sl b u q h2, fun _ _ _ n _ => n, fun b u q h2 => ⟨_, (sl b u q h2).choose_spec⟩, fun _ _ z => z, fun _ _ _ z => z, fun b ps z => ⟨#[], by rw [z]; simp⟩⟩
  have hch : ∀ b ∈ w, (b ∈ X.ex ∨ X.s_0.heap.objs.size ≤ b) ∧ b ≠ X.env.locals ∧ (∀ x c, X.env.cells.lookup x = some c → c ≠ b) ∧ ∀ p ∈ X.pn ++ pins, p.1 ≠ b := fun b hb => by
    obtain ⟨_, h2, _, h4, h5, h6⟩ := hw b hb
    exact ⟨h4, h2, h5, h6⟩
  have os : s'.os = s.os := F.os.trans hs0.2
  cases o with
  | none => exact I.call' os unb base F.bare hch
  | some q =>
    obtain ⟨p, xs⟩ := q
    obtain ⟨h1, hz, its, r, it⟩ := hp p xs rfl
    have hpn : H p = none := by
      rcases h1 with h1 | h1
      · exact (hw p h1).1
      · exact I.hok.gone (by rw [← hs0.1]; exact h1)
    have ok2 : HOk X.prog X.w (upd H p (.tup xs)) s'.heap := base.laidN (fun _ _ e => e) hpn ⟨hz, its, r, it⟩
    refine I.call' (H' := upd H p (.tup xs)) os ⟨unb.keep, unb.slot, fun b u q n h2 => ?_, unb.there, fun b ys z => by rw [upd_ne (ne_of_none z hpn)]; exact z, fun b oo u z => by rw [upd_ne (ne_of_none z hpn)]; exact z, fun b ps z => ⟨#[], by rw [upd_ne (ne_of_none z hpn), z]; simp⟩⟩ ok2 F.bare hch
    have hbp : b ≠ p := fun e => by
      subst e
      rcases h1 with h1 | h1
      · exact h2 h1
      · rw [hs0.1, q] at h1; cases h1
    rw [upd_ne hbp]; exact n
end
/-! ### the loop -/
def tForG (sp : SpO) (dvs : List V) (ta : TA) (tg : TG) (tb : TS) : TS := fun D σ H => ta σ H fun vs H1 => ∃ PL, sp (vs ++ dvs) H1 PL ∧ ∃ W : Nat → L2.St → Hp → Prop, W 0 σ H1 ∧ (∀ σ' H', W PL.length σ' H' → D.nx σ' H') ∧
  ∀ i x y σ' H', PL[i]? = some (x, y) → W i σ' H' → ∀ p, H' p = none → tg (.ref p) σ' (upd H' p (.tup [.int x, .int y])) fun σ2 H2 => tb { D with nx := W (i + 1), ct := W (i + 1), bk := D.nx } σ2 H2
section
variable {X : Cx} {k : Nat} {f : Addr} {fd : FuncData} {ps : List Str} {sp : SpO} {dvs : List V} {ds : List Value} {x : Str} {p cpos pos : Pos} {e tg : Expr} {es : List Expr} {body : List Stmt} {ta : TA} {gt : TG} {tb : TS}
theorem ps_forGen (F : GFnO X.prog X.w X.K X.mg X.base k f fd ps sp) (hr : Room k X.A) (hc : X.calm = true) (hx : ∀ e s, X.xe e s → False) (hg : Gl X x) (hm : X.mg x = some (.ref f)) (hk : PySem.W.keepIn X.K (.ref f) = true) (hb : Binds X.K fd ps ds) (hd : Vals dvs ds)
    (ha : PA X (e :: es) ta) (hgt : PG X tg gt) (hbd : PSs X body tb) (hdb : (x == ("__debug__" : Str)) = false := by decide) (he : starEach (e :: es) X.env = (false, eval e X.env) :: starEach es X.env := by rfl) (hpl : (backTo cpos (starEach es X.env)).any (·.1) = false := by rfl)
    (hs : ∀ y, foldedSetIterable (.Call (.Name x p) (e :: es) [] cpos) X.env y = pure y := by intro _; rfl) :
    PS X (.For tg (.Call (.Name x p) (e :: es) [] cpos) body [] pos) (tForG sp dvs ta gt tb) := by
  have hpass : PassesOwn (model X.prog X.w) X.A X.env X.xe := fun e s h => (hx e s h).elim
  refine ⟨fun pins s σ H D I h => ?_⟩
  refine wpAny_For ?_ hs
  refine wpAny_Call_Name_kw (ld_glob I hg hm ?_ hdb)
  refine PySem.W.callWith_K (h₀ := X.base) I.ok.mod.kin hk (thn (ha.run cpos pins s σ H _ I h) fun us s1 ⟨vs, H1, I1, r, q⟩ => ⟨I1.kIn, ?_⟩) he hpl
  obtain ⟨PL, hsp, W, w0, wd, turn⟩ := q
  have r2 : Vals (vs ++ dvs) (us ++ ds) := r.append hd
  have hl2 : (us ++ ds).length = ps.length := by rw [← r2.length]; exact F.len _ _ _ hsp
  refine wpAny_call (codeAny_mono (F.run X.A X.stack s1 H1 ⟨us, []⟩ (us ++ ds) (vs ++ dvs) PL hr I1.env0 (hb s1 us I1.kIn hl2) r2 hsp) fun rr s2 hq => ?_)
  cases rr with
  | error e => exact False.elim hq
  | ok fl =>
  cases fl with
  | next => exact False.elim hq
  | brk => exact False.elim hq
  | cont => exact False.elim hq
  | ret u =>
  obtain ⟨g, gi, c, rfl, eP, ew, eb, eo, hLs, hLa, hig, hga, hgc, ⟨oL, hoL, hLc⟩, hfr, os2, bare2, lim2, kp2, isg, seg⟩ := hq
  have I2 : L2.Inv X pins σ H1 s2 := I1.call' (ch := []) os2 (Un.kept kp2) (I1.hok.kept kp2) bare2 fun b hb => (nomatch hb)
  refine wpAny_pyIter_gen hig ?_
  have hLs0 : X.s_0.heap.objs.size ≤ g.L := Nat.le_trans I1.sz hLs
  let HD : Nat → Shared → Prop := fun m s => ∃ i w gs σ H, m + i = PL.length ∧ L2.Inv X pins σ H s ∧ (∀ b ∈ w, FpOk X pins H b ∧ ∃ o, s.heap.get? b = some o ∧ ∀ v, o.data ≠ .cell v) ∧ s.heap.get? g.a = some g.go ∧ s.gens[gi]? = some gs ∧
    GoesO (model X.prog X.w) X.A.in1 (RO g) (YO g PL) m w gs (s.setGen gi .running) ∧ W i σ H
  refine codeAny_forLoop_any HD ?_ PL.length ?_
  · rintro m s ⟨i, w, gs, σ, H, hmi, I, hw, hgo, hgs, goes, hW⟩
    have hdn : X.A.handled = none := I.ok.hd hc
    have hrun : ∀ b, (s.setGen gi .running).heap.get? b = s.heap.get? b := fun _ => rfl
    refine wpAny_passesOwn hpass (pyNextO (R := RO g) (Y := YO g PL) (n := m) (w := w) hdn I.nolimit (by have := hr.dp; omega) (isg _ hgo) hgs goes (fun m' v s₁ gs' hm' hasl hbare hsz hY => ?_) (fun s₁ hR h' hk' => ?_))
    · -- an item
      obtain ⟨p, w', x, y, rfl, hxy, ⟨its, rits, it⟩, F, own, hpw, hpn, hLa', kap⟩ := hY
      subst hm'
      have hi : PL.length - 1 - m' = i := by omega
      rw [hi] at hxy
      have I3 : L2.Inv X pins σ (upd H p (.tup [.int x, .int y])) s₁ := inv_turn (s₀ := s.setGen gi .running) (o := some (p, [.int x, .int y])) eo I ⟨rfl, rfl⟩ (fun b hb => (hw b hb).1) F fun p' xs e => by
        cases e
        exact ⟨hpn, by show 2 ≤ sizeLine; decide, its, rits, it⟩
      have hHp : H p = none := by
        rcases hpn with h1 | h1
        · exact (hw p h1).1.1
        · exact I.hok.gone h1
      have I4 : L2.Inv X pins σ (upd H p (.tup [.int x, .int y])) (s₁.setGen gi gs') := inv_gens I3 (L2.allBare_setGen I3.bare hbare)
      have fp4 : ∀ b ∈ w', FpOk X pins (upd H p (.tup [.int x, .int y])) b := fun b hb => by
        have nep : b ≠ p := fun e => hpw (e ▸ hb)
        rcases own.new b hb with h1 | h1
        · obtain ⟨q1, q2⟩ := (hw b h1).1
          exact ⟨by rw [upd_ne nep]; exact q1, q2⟩
        · have h1 : s.heap.get? b = none := h1
          refine ⟨by rw [upd_ne nep]; exact I.hok.gone h1, fun e => ?_, fun e => ?_, .inr (Nat.le_trans hLs0 (own.yng b hb)), fun y c e z => ?_, fun q hq z => ?_⟩
          · obtain ⟨mm, ⟨ob, _, _, ho, _⟩, _⟩ := I.loc
            rw [← e, h1] at ho; cases ho
          · obtain ⟨_, ob, ho, _⟩ := I.funs.mem e
            rw [h1] at ho; cases ho
          · obtain ⟨v, ob, ho, _⟩ := I.cell y c e
            rw [z, h1] at ho; cases ho
          · have ho := (I.pin q hq).1
            rw [z, h1] at ho; cases ho
      have I4p : L2.Inv X (pins ++ pinsAt w' (s₁.setGen gi gs').heap) σ (upd H p (.tup [.int x, .int y])) (s₁.setGen gi gs') := I4.pinned fp4 own.obj
      have hgsz : gi < s₁.gens.size := by
        have h1 : gi < s.gens.size := (Array.getElem?_eq_some_iff.mp hgs).1
        omega
      have hga4 : (s₁.setGen gi gs').heap.get? g.a = some g.go := own.gen
      obtain ⟨ob, nm, qn, hob, hcl, hdt, _⟩ := isg _ hga4
      refine wpAny_passesOwn hpass (go_of hob hcl hdt (by decide) ?_)
      refine wpAny_passesOwn hpass ?_
      -- the target, the body: over the table in which no sleeper can be woken
      have I5 := inv_gens I4p (Pois.dull_bare I4p.bare)
      refine wpAny_mono (Pois.wpAny_dull I4p.bare (hgt.run _ _ σ _ (.ref p) (.ref p) _ I5 rfl (turn i x y σ H hxy hW p hHp))) (fun _ s5 h5 => ?_) fun e s5 h5 => ?_
      · obtain ⟨s5', b5, ⟨σ5, H5, I5', q5⟩, rfl, sl5, br5⟩ := h5
        have I6 : L2.Inv X (pins ++ pinsAt w' (s₁.setGen gi gs').heap) σ5 H5 (Pois.wg s5' b5) := inv_gens I5' (br5 I5'.bare)
        have I7 := inv_gens I6 (Pois.dull_bare I6.bare)
        refine wpAny_passesOwn hpass ?_
        refine wpAny_mono (Pois.wpAny_dull I6.bare (hbd.run _ _ σ5 H5 _ I7 q5)) (fun fl s8 h8 => ?_) fun e s8 h8 => ?_
        · obtain ⟨s8', b8, h8, rfl, sl8, br8⟩ := h8
          have ggs : b8[gi]? = some gs' := sl8 gi gs' (sl5 gi gs' (by
            show (s₁.gens.setIfInBounds gi gs')[gi]? = some gs'
            exact Array.getElem?_setIfInBounds_self_of_lt hgsz) hasl) hasl
          have again : ∀ {σ8 : L2.St} {H8 : Hp}, L2.Inv X (pins ++ pinsAt w' (s₁.setGen gi gs').heap) σ8 H8 s8' → W (i + 1) σ8 H8 → ∃ m0, m0 < m' + 1 ∧ HD m0 (Pois.wg s8' b8) := fun {σ8 H8} I8 w8 => by
            have I9 : L2.Inv X (pins ++ pinsAt w' (s₁.setGen gi gs').heap) σ8 H8 (Pois.wg s8' b8) := inv_gens I8 (br8 I8.bare)
            have ownk : ∀ b ∈ w', ∀ o, s₁.heap.get? b = some o → s8'.heap.get? b = some o := fun b hb o e => (I9.pin (b, o) (List.mem_append_right _ (List.mem_append_right _ (mem_pinsAt hb e)))).1
            refine ⟨m', Nat.lt_succ_self _, i + 1, w', gs', σ8, H8, by omega, I9.unpinned, fun b hb => ?_, ownk g.a hLa'.2 _ own.gen, ggs, ?_, w8⟩
            · obtain ⟨o, e, d⟩ := own.obj b hb
              exact ⟨⟨(I9.pin (b, o) (List.mem_append_right _ (List.mem_append_right _ (mem_pinsAt hb e)))).2.1, (fp4 b hb).2⟩, o, ownk b hb o e, d⟩
            · refine kap _ ⟨?_, L2.allBare_setGen (s := Pois.wg s8' b8) I9.bare rfl, ownk, fun b o e => I9.bk b o (by rw [← eb]; exact e), ?_⟩
              · show s8'.os = s₁.os
                rw [show s8'.os = X.s_0.os from I8.os]
                exact I3.os.symm
              · show s8'.heap.FunFrames g.base g.outer
                rw [eb, eo]
                exact I9.stack
          cases fl with
          | next => obtain ⟨σ8, H8, I8, n8⟩ := h8; exact again I8 n8
          | cont => obtain ⟨σ8, H8, I8, n8⟩ := h8; exact again I8 n8
          | brk => obtain ⟨σ8, H8, I8, q8⟩ := h8; exact ⟨σ8, H8, (inv_gens I8 (br8 I8.bare)).unpinned, q8⟩
          | ret v => obtain ⟨x8, σ8, H8, I8, r8, q8⟩ := h8; exact ⟨x8, σ8, H8, (inv_gens I8 (br8 I8.bare)).unpinned, r8, q8⟩
        · obtain ⟨_, _, h8, _⟩ := h8; exact (hx _ _ h8).elim
      · obtain ⟨_, _, h5, _⟩ := h5; exact (hx _ _ h5).elim
    · -- the end
      obtain ⟨hm0, F⟩ := hR
      subst hm0
      have I3 : L2.Inv X pins σ H s₁ := inv_turn (s₀ := s.setGen gi .running) (o := none) eo I ⟨rfl, rfl⟩ (fun b hb => (hw b hb).1) F fun p' xs e => by cases e
      have I4 : L2.Inv X pins σ H (s₁.setGen gi .finished) := inv_gens I3 (L2.allBare_setGen I3.bare rfl)
      have I5 : L2.Inv X pins σ H { s₁.setGen gi .finished with heap := h' } := I4.kept (t' := (s₁.setGen gi .finished).toks) hk'
      refine wpAny_execs_nil ⟨σ, H, I5, ?_⟩
      have hi : i = PL.length := by omega
      subst hi
      exact wd σ H hW
  · refine ⟨0, [g.L, g.a], .fresh c, σ, H1, Nat.add_zero _, I2, fun b hb => ?_, hga, hfr, ?_, w0⟩
    · rcases List.mem_cons.mp hb with e | hb
      · rw [e]
        exact ⟨I1.fpOk hLs (I1.hok.fresh hLs), oL, hoL, hLc⟩
      · rw [List.mem_singleton.mp hb]
        have hle : s1.heap.objs.size ≤ g.a := Nat.le_of_lt (Nat.lt_of_le_of_lt hLs hLa)
        exact ⟨I1.fpOk hle (I1.hok.fresh hle), g.go, hga, hgc⟩
    · have q := seg (s2.setGen gi .running) (fun _ _ e => e) os2 (L2.allBare_setGen bare2 rfl)
      rw [← eP, ← ew] at q
      rw [← eP, ← ew]
      exact q
end
end Gx
/-! what the head tells, by names; calls of defs. -/
namespace B
open PySem PySem.Spec PyProof.Rows L2
structure Wd (K : PySem.W.Frag) (mg : Str → Option Value) : Prop where
  ex : ∃ h : Heap, K.In h ∧ h.Ns mainGlobals mg
  c : He.SaysD K26.fa K26.fn K
section
variable {K : PySem.W.Frag} {mg : Str → Option Value}
theorem Wd.glo (W : Wd K mg) (i : Nat) {x : Str} (h : K26.fa[i]? = some (.glo x) := by rfl) : mg x = some (.ref (He.ga K x)) := by
  obtain ⟨hp, X, G⟩ := W.ex
  exact He.glo_ok X G (W.c.fact i h)
theorem Wd.free (W : Wd K mg) (i : Nat) {x : Str} (h : K26.fa[i]? = some (.free x) := by rfl) : mg x = none := by
  obtain ⟨hp, X, G⟩ := W.ex
  exact He.free_ok X G (W.c.fact i h)
theorem Wd.int (W : Wd K mg) (i : Nat) {x : Str} {n : Int} (h : K26.fa[i]? = some (.int x n) := by rfl) : ∃ t, mg x = some (.int n t) := by
  obtain ⟨hp, X, G⟩ := W.ex
  exact He.int_ok X G (W.c.fact i h)
theorem Wd.str (W : Wd K mg) (i : Nat) {x z : Str} (h : K26.fa[i]? = some (.str x z) := by rfl) : ∃ t, mg x = some (.str z t) := by
  obtain ⟨hp, X, G⟩ := W.ex
  exact He.str_ok X G (W.c.fact i h)
end
/-- a def, its promise, how it is bound -/
structure Fn (P : Program) (w : World) (K : PySem.W.Frag) (mg : Str → Option Value) (base : Heap) (k : Nat) (x : Str) (ps : List Str) (sp : Sp) : Prop where
  ex : ∃ fd, FnOk P w K mg base CX0 k (He.ga K x) fd ps sp ∧ PySem.W.keepIn K (.ref (He.ga K x)) = true ∧ Binds K fd ps []
/-- with a keyword-only parameter -/
structure FnK (P : Program) (w : World) (K : PySem.W.Frag) (mg : Str → Option Value) (base : Heap) (k : Nat) (x : Str) (ps : List Str) (n : Nat) (ks : List Str) (dvs : List V) (sp : Sp) : Prop where
  ex : ∃ fd, FnOk P w K mg base CX0 k (He.ga K x) fd ps sp ∧ PySem.W.keepIn K (.ref (He.ga K x)) = true ∧ (∃ ds, Vals dvs ds ∧ Binds K fd ps ds) ∧ KBn K fd ps n ks (fun us ws => us ++ ws) (fun vs zs => vs ++ zs)
section
variable {X : Cx} {k j : Nat} {x : Str} {ps : List Str} {sp : Sp} {e : Expr} {es : List Expr} {t tk : TA} {p pos : Pos}
theorem pe_gint {i : Int} {pos : Pos} (hg : Gl X x) (hm : ∃ t, X.mg x = some (.int i t)) (hd : (x == ("__debug__" : Str)) = false := by decide) : PE X (.Name x pos) (tC (.int i)) := by
  obtain ⟨t, hm⟩ := hm
  exact pe_glob hg hm ⟨t, rfl⟩ hd
theorem pe_gstr {z : Str} {pos : Pos} (hg : Gl X x) (hm : ∃ t, X.mg x = some (.str z t)) (hd : (x == ("__debug__" : Str)) = false := by decide) : PE X (.Name x pos) (tC (.str z)) := by
  obtain ⟨t, hm⟩ := hm
  exact pe_glob hg hm ⟨t, rfl⟩ hd
theorem pe_f (F : Fn X.prog X.w X.K X.mg X.base j x ps sp) (hj : j ≤ k) (hr : Room k X.A) (hg : Gl X x) (hm : X.mg x = some (.ref (He.ga X.K x))) (ha : PA X (e :: es) t) (hdb : (x == ("__debug__" : Str)) = false := by decide)
    (he : starEach (e :: es) X.env = (false, eval e X.env) :: starEach es X.env := by rfl) (hpl : (backTo pos (starEach es X.env)).any (·.1) = false := by rfl) : PE X (.Call (.Name x p) (e :: es) [] pos) (tCall sp [] E0 t) := by
  obtain ⟨fd, F, hk, hb⟩ := F.ex
  exact pe_call F (hr.mono hj) hg hm hk hb .nil pass0 ha hdb he hpl
theorem pe_f0 (F : Fn X.prog X.w X.K X.mg X.base j x ps sp) (hj : j ≤ k) (hr : Room k X.A) (hg : Gl X x) (hm : X.mg x = some (.ref (He.ga X.K x))) (hdb : (x == ("__debug__" : Str)) = false := by decide) : PE X (.Call (.Name x p) [] [] pos) (tCall sp [] E0 tNil) := by
  obtain ⟨fd, F, hk, hb⟩ := F.ex
  exact pe_call0 F (hr.mono hj) hg hm hk hb .nil pass0 hdb
/-- the keyword-only parameter left out -/
theorem pe_fd {ks : List Str} {n : Nat} {dvs : List V} (F : FnK X.prog X.w X.K X.mg X.base j x ps n ks dvs sp) (hj : j ≤ k) (hr : Room k X.A) (hg : Gl X x) (hm : X.mg x = some (.ref (He.ga X.K x))) (ha : PA X (e :: es) t) (hdb : (x == ("__debug__" : Str)) = false := by decide)
    (he : starEach (e :: es) X.env = (false, eval e X.env) :: starEach es X.env := by rfl) (hpl : (backTo pos (starEach es X.env)).any (·.1) = false := by rfl) : PE X (.Call (.Name x p) (e :: es) [] pos) (tCall sp dvs E0 t) := by
  obtain ⟨fd, F, hk, ⟨ds, hd, hb⟩, _⟩ := F.ex
  exact pe_call F (hr.mono hj) hg hm hk hb hd pass0 ha hdb he hpl
/-- .. given by its name -/
theorem pe_fk {ks : List Str} {n : Nat} {dvs : List V} {kws : List Keyword} (F : FnK X.prog X.w X.K X.mg X.base j x ps n ks dvs sp) (hj : j ≤ k) (hr : Room k X.A) (hg : Gl X x) (hm : X.mg x = some (.ref (He.ga X.K x))) (ha : PA X (e :: es) t) (hkw : PK X kws tk)
    (hall : (backToKw pos (keywordEach kws X.env)).all (·.1.isSome) = true := by rfl) (hks : (backToKw pos (keywordEach kws X.env)).filterMap (·.1) = ks := by rfl) (hdb : (x == ("__debug__" : Str)) = false := by decide)
    (he : starEach (e :: es) X.env = (false, eval e X.env) :: starEach es X.env := by rfl) (hpl : ((backTo pos (starEach (e :: es) X.env)).any (·.1) || (backToKw pos (keywordEach kws X.env)).any (·.1.isNone)) = false := by rfl) :
    PE X (.Call (.Name x p) (e :: es) kws pos) (tCallN n ks.length sp (fun vs zs => vs ++ zs) E0 t tk) := by
  obtain ⟨fd, F, hk, _, hb⟩ := F.ex
  exact pe_callN F (hr.mono hj) hg hm hk hb pass0 ha hkw hall hks hdb he hpl
/-- a def that a local name holds -/
theorem pe_fl {i : Nat} {y : Str} (F : Fn X.prog X.w X.K X.mg X.base j x ps sp) (hj : j ≤ k) (hr : Room k X.A) (hN : X.N[i]? = some y) (hv : Vis X.env.scope y) (ha : PA X (e :: es) t) (hdb : (y == ("__debug__" : Str)) = false := by decide) (hcd : (y == ("__classdict__" : Str)) = false := by decide)
    (he : starEach (e :: es) X.env = (false, eval e X.env) :: starEach es X.env := by rfl) (hpl : (backTo pos (starEach es X.env)).any (·.1) = false := by rfl) : PE X (.Call (.Name y p) (e :: es) [] pos) (tCallL i (He.ga X.K x) sp [] E0 t) := by
  obtain ⟨fd, F, hk, hb⟩ := F.ex
  exact pe_callL F (hr.mono hj) hN hv hk hb .nil pass0 ha hdb hcd he hpl
/-- a value whose object is from now on told by its place (a dict that is walked) -/
def tLockR (t : TE) : TE := fun σ H Q => t σ H fun v H1 => ∃ d u, v = .ref d ∧ H1 d = some u ∧ Mut (some u) ∧ ∀ od, Q v (upd H1 d (.frz od u))
theorem pe_lockR {e : Expr} {t : TE} (h : PE X e t) : PE X e (tLockR t) := by
  refine ⟨fun pins s σ H Q I q => ?_⟩
  refine thn (h.run pins s σ H _ I q) fun v s1 ⟨x, H1, I1, r1, d, u, ex, hd, mu, q1⟩ => ?_
  obtain ⟨od, I2⟩ := I1.lock hd mu
  exact ⟨x, _, I2, r1, q1 od⟩
end
end B
/-! names for the rules that the printed texts use. -/
namespace B
open PySem PySem.Spec PyProof.Rows L2
abbrev rNegI : V → Hp → VK → Prop := rU fun i => .int (-i)
abbrev rListDT : List V → Hp → VK → Prop := fun xs H Q => ∃ d kvs, xs = [V.ref d] ∧ Rd H d (.dT kvs) ∧ ∀ p bs, H p = none → IsKeys H kvs bs → Q (.ref p) (upd H p (.lst (bs.map V.ref)))
abbrev rListOf (K : PySem.W.Frag) : List V → Hp → VK → Prop := fun xs H Q => ∃ p ys, xs = [.ref p] ∧ (SqL K H p ys ∨ SqT K H p ys) ∧ ∀ l, H l = none → Q (.ref l) (upd H l (.lst ys))
abbrev rInt1 : List V → Hp → VK → Prop := fun xs H Q => (∃ i, xs = [.int i] ∧ Q (.int i) H) ∨ ∃ k, xs = [.bl k] ∧ Q (.int (if k then 1 else 0)) H
abbrev rAbs : List V → Hp → VK → Prop := fun xs H Q => ∃ i, xs = [.int i] ∧ Q (.int (if i < 0 then -i else i)) H
abbrev rMin2 : List V → Hp → VK → Prop := fun xs H Q => ∃ i j, xs = [.int i, .int j] ∧ Q (.int (if j < i then j else i)) H
abbrev rMax2 : List V → Hp → VK → Prop := fun xs H Q => ∃ i j, xs = [.int i, .int j] ∧ Q (.int (if j > i then j else i)) H
theorem huS {k : Nat} {A : Around} (r : Room k A) : A.units + 65 < cLine := by have := r.un; omega
theorem huS1 {k : Nat} {A : Around} (r : Room k A) : A.units + 1 < cLine := by have := r.un; omega
theorem Fn.mono {P : Program} {w : World} {K : PySem.W.Frag} {mg : Str → Option Value} {base : Heap} {j k : Nat} {x : Str} {ps : List Str} {sp : Sp} (F : Fn P w K mg base j x ps sp) (h : j ≤ k) : Fn P w K mg base k x ps sp := by
  obtain ⟨fd, a, b, c⟩ := F.ex
  exact ⟨fd, a.mono h, b, c⟩
theorem FnK.mono {P : Program} {w : World} {K : PySem.W.Frag} {mg : Str → Option Value} {base : Heap} {j k : Nat} {x : Str} {ps : List Str} {n : Nat} {ks : List Str} {dvs : List V} {sp : Sp} (F : FnK P w K mg base j x ps n ks dvs sp) (h : j ≤ k) : FnK P w K mg base k x ps n ks dvs sp := by
  obtain ⟨fd, a, b, c⟩ := F.ex
  exact ⟨fd, a.mono h, b, c⟩
end B
/-! statements, loops, sources, comprehensions by items. -/
namespace B
open PySem PySem.Spec PyProof.Rows L2
/-! ### comprehensions by items -/
theorem lcG_eq {ι β : Type} [Inhabited β] (p : ι → Bool) (f : ι → β) : ∀ items : List ι,
    ((List.range items.length).filter fun i => (items[i]?.map p).getD false).map (fun i => (items[i]?.map f).getD default) = (items.filter p).map f := by
  intro items
  induction items with
  | nil => rfl
  | cons x xs ih =>
    rw [List.length_cons, List.range_succ_eq_map, List.filter_cons, List.filter_cons, List.filter_map]
    have e : ((List.range xs.length).filter ((fun i => ((x :: xs)[i]?.map p).getD false) ∘ Nat.succ)).map ((fun i => ((x :: xs)[i]?.map f).getD default) ∘ Nat.succ) = (xs.filter p).map f := ih
    have e0 : ((x :: xs)[0]?.map p).getD false = p x := rfl
    rw [e0]
    cases p x with
    | true => rw [if_pos rfl, if_pos rfl, List.map_cons, List.map_cons, List.map_map, e]; rfl
    | false => rw [if_neg (by decide), if_neg (by decide), List.map_map, e]
section
variable {Rl : Hp → Hp → Prop} [RlOk Rl] {K : PySem.W.Frag} {σ : L2.St} {H H' : Hp} {ta tb tc te tx : TE} {t u : TT} {v : V} {α β γ : Type} [Enc α] [Enc β] [Enc γ] {a : α} {b : β} {xs : List α} {i : Nat} {wi : TI} {g : TG} {tt : TT} {vs : List Nat}
theorem Wk.imp {n n' : Nat} {Y Y' : Nat → Hp → V → Prop} (h : Wk Rl wi σ H n Y) (e : n = n') (hY : ∀ i H v, Y i H v → Y' i H v) : Wk Rl wi σ H n' Y' := fun H1 e1 R q => h H1 e1 R fun J H2 e2 hJ => q J H2 e2 fun H3 e3 => by
  subst e
  obtain ⟨h1, h2, h3⟩ := hJ H3 e3
  exact ⟨h1, h2, fun i x H4 hi hy => let ⟨z1, z2⟩ := h3 i x H4 hi hy; ⟨z1, hY _ _ _ z2⟩⟩
/-- a source walks the items -/
def Ws (Rl : Hp → Hp → Prop) (wi : TI) (σ : L2.St) (H : Hp) {ι : Type} (items : List ι) (Y : ι → Hp → V → Prop) : Prop := Wk Rl wi σ H items.length fun i H v => ∀ x, items[i]? = some x → Y x H v
theorem e_lcG {ι : Type} [Inhabited β] {items : List ι} {Y : ι → Hp → V → Prop} (p : ι → Bool) (f : ι → β) (hf : Fr Rl H) (hw : Ws Rl wi σ H items Y) (hn : items.length ≤ 1000000)
    (hb : ∀ x v H1, x ∈ items → Rl H H1 → Y x H1 v → Tgt g v (wipe σ vs) H1 fun σ2 H2 => Rl H1 H2 ∧ wipe σ2 vs = wipe σ vs ∧ EvT Rl tt σ2 H2 (p x) ∧ (p x = true → Ev Rl te σ2 H2 (f x))) :
    EvL Rl (tLc wi g tt te vs) σ H ((items.filter p).map f) := by
  rw [← lcG_eq p f items]
  refine e_lc _ _ hf hw hn fun i H1 v hi e1 y => ?_
  obtain ⟨x, hx⟩ : ∃ x, items[i]? = some x := ⟨items[i], List.getElem?_eq_getElem hi⟩
  have hb' := hb x v H1 (List.mem_of_getElem? hx) e1 (y x hx)
  have e1 : (items[i]?.map p).getD false = p x := by rw [hx]; rfl
  have e2 : (items[i]?.map f).getD default = f x := by rw [hx]; rfl
  rw [e1, e2]
  exact hb'
theorem wipe_name {j : Nat} : wipe ((wipe σ [j]).set j (some v)) [j] = wipe σ [j] := by
  show ((σ.set j none).set j (some v)).set j none = σ.set j none
  rw [List.set_set, List.set_set]
/-- .. with a name as the target -/
theorem e_lc1 {ι : Type} [Inhabited β] {items : List ι} {Y : ι → Hp → V → Prop} {j : Nat} (p : ι → Bool) (f : ι → β) (hf : Fr Rl H) (hw : Ws Rl wi σ H items Y) (hn : items.length ≤ 1000000)
    (hb : ∀ x v H1, x ∈ items → Rl H H1 → Y x H1 v → EvT Rl tt ((σ.set j none).set j (some v)) H1 (p x) ∧ (p x = true → Ev Rl te ((σ.set j none).set j (some v)) H1 (f x))) :
    EvL Rl (tLc wi (gName j) tt te [j]) σ H ((items.filter p).map f) :=
  e_lcG p f hf hw hn fun x v H1 hx e1 y => tgt_name ⟨RlOk.refl _, wipe_name, hb x v H1 hx e1 y⟩
theorem e_lcM {ι : Type} [Inhabited β] {items : List ι} {Y : ι → Hp → V → Prop} {j : Nat} (f : ι → β) (hf : Fr Rl H) (hw : Ws Rl wi σ H items Y) (hn : items.length ≤ 1000000)
    (hb : ∀ x v H1, x ∈ items → Rl H H1 → Y x H1 v → Ev Rl te ((σ.set j none).set j (some v)) H1 (f x)) :
    EvL Rl (tLc wi (gName j) tYes te [j]) σ H (items.map f) := by
  have h := e_lc1 (tt := tYes) (j := j) (fun _ => true) f hf hw hn fun x v H1 hx e1 y => ⟨et_yes, fun _ => hb x v H1 hx e1 y⟩
  rw [List.filter_eq_self.mpr fun _ _ => rfl] at h
  exact h
/-- .. filtered only -/
theorem e_lcF {items : List α} [Inhabited α] {Y : α → Hp → V → Prop} {j : Nat} (p : α → Bool) (hf : Fr Rl H) (hw : Ws Rl wi σ H items Y) (hn : items.length ≤ 1000000) (hj : j < σ.length) (hY : ∀ x H v, Y x H v → Enc.rep (tp H) v x)
    (hb : ∀ x v H1, x ∈ items → Rl H H1 → Y x H1 v → EvT Rl tt ((σ.set j none).set j (some v)) H1 (p x)) :
    EvL Rl (tLc wi (gName j) tt (tVar j) [j]) σ H (items.filter p) := by
  have h := e_lc1 (tt := tt) (te := tVar j) (j := j) p (fun x => x) hf hw hn fun x v H1 hx e1 y => ⟨hb x v H1 hx e1 y, fun _ => e_var (v := v) (by rw [List.getElem?_set]; simp [hj]) (hY x H1 v y)⟩
  rw [List.map_id'] at h
  exact h
/-- .. with two names -/
theorem e_lc2 [Inhabited β] {items : List (α × γ)} {j k : Nat} (p : α × γ → Bool) (f : α × γ → β) (hf : Fr Rl H) (hw : Ws Rl wi σ H items fun x H v => Enc.rep (tp H) v x) (hn : items.length ≤ 1000000) (hjk : j ≠ k)
    (hb : ∀ x v w H1, x ∈ items → Rl H H1 → Enc.rep (tp H1) v x.1 → Enc.rep (tp H1) w x.2 → EvT Rl tt ((((σ.set k none).set j none).set j (some v)).set k (some w)) H1 (p x) ∧ (p x = true → Ev Rl te ((((σ.set k none).set j none).set j (some v)).set k (some w)) H1 (f x))) :
    EvL Rl (tLc wi (gTup K 2 (gCons (gName j) (gCons (gName k) gNil))) tt te [j, k]) σ H ((items.filter p).map f) :=
  e_lcG p f hf hw hn fun x v H1 hx e1 y => tgt_pair y fun v1 v2 r1 r2 => ⟨RlOk.refl _, by
    show (((((σ.set k none).set j none).set j (some v1)).set k (some v2)).set k none).set j none = (σ.set k none).set j none
    rw [List.set_set, List.set_set, List.set_comm _ _ (Ne.symm hjk), List.set_set, List.set_comm _ _ hjk, List.set_set], hb x v1 v2 H1 hx e1 r1 r2⟩
/-! ### sources -/
theorem ws_tup (ha : Ev Rl te σ H xs) : Ws Rl (iTup K te) σ H xs fun x H v => Enc.rep (tp H) v x := wk_tup ha
theorem ws_ls {p : Addr} (ha : Ev Rl te σ H (Raw.mk (.ref p))) (hl : Ls Rl H p xs) : Ws Rl (iList K te) σ H xs fun x H v => Enc.rep (tp H) v x := wk_ls ha hl
theorem ws_new (ha : EvL Rl te σ H xs) (hf : Fr Rl H) : Ws Rl (iList K te) σ H xs fun x H v => Enc.rep (tp H) v x := fun H1 e R q => ha H1 e _ fun p vs H2 hp e2 hl r => by
  have hs : ∀ H3, Rl H2 H3 → SqL K H3 p vs := fun H3 e3 => SqL.of (hf p H1 H2 H3 _ e hp hl e3)
  refine ⟨p, rfl, ⟨vs, hs H2 (RlOk.refl H2)⟩, q (Itl K p) H2 e2 fun H3 e3 => ⟨fun i hi => ?_, ⟨vs, hs H3 e3, by rw [r.length]; exact Nat.le_refl _⟩, fun i x H4 hi hy => ?_⟩⟩
  · exact ⟨vs, vs[i]'(by rw [r.length]; exact hi), hs H3 e3, by simp [r.length, hi]⟩
  · obtain ⟨rfl, hy⟩ := hy
    refine ⟨Ex.refl _, fun x' hx' => ?_⟩
    obtain ⟨y, h1, h2⟩ := (upA e3 r).get hx'
    have h3 := hy vs (hs H4 e3)
    rw [h1] at h3
    cases h3
    exact h2
theorem range_at {n i k : Nat} (h : (List.range n)[i]? = some k) : k = i := by
  rw [List.getElem?_range (by have := (List.getElem?_eq_some_iff.mp h).1; rwa [List.length_range] at this)] at h
  exact (Option.some.inj h).symm
theorem ws_rg1 {ta : TA} {n : Nat} (ha : EvA Rl ta σ H [mp n]) (hn : n ≤ 1000000) : Ws Rl (iRng1 ta) σ H (List.range n) fun k _ v => v = .int (k : Nat) :=
  (wk_rg1 ha hn).imp (List.length_range).symm fun i H v h x hx => by rw [range_at hx]; exact h
theorem ws_rg2 {ta : TA} {lo hi : Nat} (ha : EvA Rl ta σ H [mp lo, mp hi]) (h1 : lo ≤ 1000000) (h2 : hi ≤ 1000000) : Ws Rl (iRng2 ta) σ H ((List.range (hi - lo)).map (lo + ·)) fun k _ v => v = .int (k : Nat) :=
  (wk_rg2 ha h1 h2).imp (by rw [List.length_map, List.length_range]) fun i H v h x hx => by
    rw [List.getElem?_map] at hx
    cases q : (List.range (hi - lo))[i]? with
    | none => rw [q] at hx; cases hx
    | some y =>
      rw [q] at hx
      have := range_at q
      subst this
      rw [← Option.some.inj hx]
      exact h
theorem ws_str {z : Str} (ha : Ev Rl te σ H z) : Ws Rl (iStr te) σ H z.cps.toList fun c _ v => v = .str ⟨#[c]⟩ := fun H1 e R q => ha H1 e _ fun v H2 e2 hv => by
  have hv : v = .str z := hv
  refine ⟨z, hv, q (Its z) H2 e2 fun H3 e3 => ⟨fun i hi => ?_, ?_, fun i x H4 hi hy => ?_⟩⟩
  · show i < z.cps.size
    simpa using hi
  · show z.cps.size ≤ z.cps.toList.length
    simp
  · obtain ⟨rfl, c, hc, rfl⟩ := hy
    refine ⟨Ex.refl _, fun x hx => ?_⟩
    have : z.cps.toList[i]? = some c := by simpa using hc
    rw [this] at hx
    rw [← Option.some.inj hx]
theorem ws_enumT (ha : Ev Rl te σ H xs) : Ws Rl (iEnumT K (tCons te tNil)) σ H (xs.mapIdx fun i x => (i, x)) fun p H v => Enc.rep (tp H) v p := fun H1 e R q => ha H1 e _ fun v H2 e2 hv => by
  obtain ⟨p, vs, rfl, hp, r⟩ := hv
  have hs : ∀ H3, Rl H2 H3 → SqT K H3 p vs := fun H3 e3 => SqT.of (RlOk.tup e3 p vs hp)
  refine ⟨p, vs, rfl, hs H2 (RlOk.refl H2), q (IteT K p) H2 e2 fun H3 e3 => ⟨fun i hi => ?_, ⟨vs, hs H3 e3, by rw [r.length, List.length_mapIdx]; exact Nat.le_refl _⟩, fun i x H4 hi hy => ?_⟩⟩
  · rw [List.length_mapIdx] at hi
    exact ⟨vs, vs[i]'(by rw [r.length]; exact hi), hs H3 e3, by simp [r.length, hi]⟩
  · obtain ⟨T, y, rfl, hT, rfl, hy⟩ := hy
    refine ⟨Ex.new hT, fun x' hx' => ?_⟩
    rw [List.getElem?_mapIdx] at hx'
    cases qx : xs[i]? with
    | none => rw [qx] at hx'; cases hx'
    | some x0 =>
      rw [qx] at hx'
      cases hx'
      obtain ⟨y', h1, h2⟩ := (upA e3 r).get qx
      have h3 := hy vs (hs _ e3)
      rw [h1] at h3
      cases h3
      exact ⟨T, _, _, rfl, upd_same, rfl, up (Rl := Ex) (Ex.new hT) h2⟩
theorem ws_enumL {p : Addr} (ha : Ev Rl te σ H (Raw.mk (.ref p))) (hl : Ls Rl H p xs) : Ws Rl (iEnum K (tCons te tNil)) σ H (xs.mapIdx fun i x => (i, x)) fun p H v => Enc.rep (tp H) v p := fun H1 e R q => ha H1 e _ fun v H2 e2 hv => by
  obtain rfl : v = .ref p := hv
  obtain ⟨vs, r, k⟩ := hl
  have hs : ∀ H3, Rl H2 H3 → SqL K H3 p vs := fun H3 e3 => SqL.of (k H3 (RlOk.trans (RlOk.trans e e2) e3))
  refine ⟨p, vs, rfl, hs H2 (RlOk.refl H2), q (Ite K p) H2 e2 fun H3 e3 => ⟨fun i hi => ?_, ⟨vs, hs H3 e3, by rw [r.length, List.length_mapIdx]; exact Nat.le_refl _⟩, fun i x H4 hi hy => ?_⟩⟩
  · rw [List.length_mapIdx] at hi
    exact ⟨vs, vs[i]'(by rw [r.length]; exact hi), hs H3 e3, by simp [r.length, hi]⟩
  · obtain ⟨T, y, rfl, hT, rfl, hy⟩ := hy
    refine ⟨Ex.new hT, fun x' hx' => ?_⟩
    rw [List.getElem?_mapIdx] at hx'
    cases qx : xs[i]? with
    | none => rw [qx] at hx'; cases hx'
    | some x0 =>
      rw [qx] at hx'
      cases hx'
      obtain ⟨y', h1, h2⟩ := (upA (RlOk.trans (RlOk.trans e e2) e3) r).get qx
      have h3 := hy vs (hs _ e3)
      rw [h1] at h3
      cases h3
      exact ⟨T, _, _, rfl, upd_same, rfl, up (Rl := Ex) (Ex.new hT) h2⟩
theorem ws_zip {ys : List β} {p p' : Addr} (ha : Ev Rl ta σ H (Raw.mk (.ref p))) (hb : Ev Rl tb σ H (Raw.mk (.ref p'))) (hl : Ls Rl H p xs) (hl' : Ls Rl H p' ys) : Ws Rl (iZip K (tCons ta (tCons tb tNil))) σ H (xs.zip ys) fun p H v => Enc.rep (tp H) v p := fun H1 e R q => ha H1 e _ fun v H2 e2 hv => hb H2 (RlOk.trans e e2) _ fun v' H3 e3 hv' => by
  obtain rfl : v = .ref p := hv
  obtain rfl : v' = .ref p' := hv'
  obtain ⟨vs, r, k⟩ := hl
  obtain ⟨ws, r', k'⟩ := hl'
  have e23 := RlOk.trans (RlOk.trans e e2) e3
  have hs : ∀ H4, Rl H3 H4 → SqL K H4 p vs := fun H4 e4 => SqL.of (k H4 (RlOk.trans e23 e4))
  have hs' : ∀ H4, Rl H3 H4 → SqL K H4 p' ws := fun H4 e4 => SqL.of (k' H4 (RlOk.trans e23 e4))
  have lz : (xs.zip ys).length = min vs.length ws.length := by rw [List.length_zip, r.length, r'.length]
  refine ⟨p, p', vs, ws, rfl, hs _ (RlOk.refl _), hs' _ (RlOk.refl _), q (Itz K p p') H3 (RlOk.trans e2 e3) fun H4 e4 => ⟨fun i hi => ?_, ⟨vs, ws, hs _ e4, hs' _ e4, ?_⟩, fun i x H5 hi hy => ?_⟩⟩
  · rw [lz] at hi
    have h1 : i < vs.length := by omega
    have h2 : i < ws.length := by omega
    exact ⟨vs, ws, vs[i], ws[i], hs _ e4, hs' _ e4, by simp [h1], by simp [h2]⟩
  · rw [lz]; omega
  · obtain ⟨T, y1, y2, rfl, hT, rfl, hy1, hy2⟩ := hy
    refine ⟨Ex.new hT, fun x' hx' => ?_⟩
    rw [List.getElem?_zip_eq_some] at hx'
    obtain ⟨a1, h1, h2⟩ := (upA (RlOk.trans e23 e4) r).get hx'.1
    obtain ⟨a2, h3, h4⟩ := (upA (RlOk.trans e23 e4) r').get hx'.2
    have z1 := hy1 vs (hs _ e4)
    have z2 := hy2 ws (hs' _ e4)
    rw [h1] at z1; cases z1
    rw [h3] at z2; cases z2
    exact ⟨T, _, _, rfl, upd_same, up (Rl := Ex) (Ex.new hT) h2, up (Rl := Ex) (Ex.new hT) h4⟩
/-! ### statements -/
variable {D : Ends} {s1 s2 : TS}
theorem k_seq (h : s1 { D with nx := s2 D } σ H) : tSeq s1 s2 D σ H := h
theorem k_set {j : Nat} (h : Ev Rl te σ H a) (k : ∀ v H2, Rl H H2 → Enc.rep (tp H2) v a → D.nx (σ.set j (some v)) H2) : tAsg te (gName j) D σ H := h H (RlOk.refl H) _ fun v H2 e r => k v H2 e r
theorem k_setL {j : Nat} (h : EvL Rl te σ H xs) (k : ∀ p vs H2, H p = none → Rl H H2 → H2 p = some (.lst vs) → RepA (tp H2) vs xs → D.nx (σ.set j (some (.ref p))) H2) : tAsg te (gName j) D σ H := h H (RlOk.refl H) _ fun p vs H2 hn e hl r => k p vs H2 hn e hl r
theorem k_set2 {i j : Nat} {p : α × β} (h : Ev Rl te σ H p) (k : ∀ v w H2, Rl H H2 → Enc.rep (tp H2) v p.1 → Enc.rep (tp H2) w p.2 → D.nx ((σ.set i (some v)).set j (some w)) H2) : tAsg te (gTup K 2 (gCons (gName i) (gCons (gName j) gNil))) D σ H :=
  h H (RlOk.refl H) _ fun v H2 e r => by
    obtain ⟨d, x, y, rfl, hd, rx, ry⟩ := r
    exact ⟨d, [x, y], rfl, SqT.of hd, rfl, x, [y], rfl, y, [], rfl, rfl, k x y H2 e rx ry⟩
theorem k_ret (h : Ev Rl te σ H a) (k : ∀ v H2, Rl H H2 → Enc.rep (tp H2) v a → D.rt v H2) : tRet te D σ H := h H (RlOk.refl H) _ fun v H2 e r => k v H2 e r
theorem k_retL (h : EvL Rl te σ H xs) (k : ∀ p vs H2, H p = none → Rl H H2 → H2 p = some (.lst vs) → RepA (tp H2) vs xs → D.rt (.ref p) H2) : tRet te D σ H := h H (RlOk.refl H) _ fun p vs H2 hn e hl r => k p vs H2 hn e hl r
theorem k_if {b : Bool} (h : EvT Rl t σ H b) (h1 : b = true → ∀ H2, Rl H H2 → s1 D σ H2) (h2 : b = false → ∀ H2, Rl H H2 → s2 D σ H2) : tIfS t s1 s2 D σ H := h H (RlOk.refl H) _ fun H2 e => by
  cases b with
  | true => exact h1 rfl H2 e
  | false => exact h2 rfl H2 e
theorem k_par {i j : Nat} {ta : TA} (h : EvA Rl ta σ H [mp a, mp b]) (k : ∀ v w H2, Rl H H2 → Enc.rep (tp H2) v a → Enc.rep (tp H2) w b → D.nx ((σ.set i (some v)).set j (some w)) H2) : tPar i j ta D σ H := h H (RlOk.refl H) _ fun vs H2 e r => by
  match vs, r with
  | [v, w], ⟨r1, r2, _⟩ => exact ⟨v, w, rfl, k v w H2 e r1 r2⟩
theorem k_par3 {i j l : Nat} {ta : TA} {c : γ} (h : EvA Rl ta σ H [mp a, mp b, mp c]) (k : ∀ v w u H2, Rl H H2 → Enc.rep (tp H2) v a → Enc.rep (tp H2) w b → Enc.rep (tp H2) u c → D.nx (((σ.set i (some v)).set j (some w)).set l (some u)) H2) : tPar3 i j l ta D σ H := h H (RlOk.refl H) _ fun vs H2 e r => by
  match vs, r with
  | [v, w, u], ⟨r1, r2, r3, _⟩ => exact ⟨v, w, u, rfl, k v w u H2 e r1 r2 r3⟩
/-- a source that is told by what it reads, walked while Rl holds -/
def Wz (Rl : Hp → Hp → Prop) (wi : TI) (σ : L2.St) (H : Hp) {ι : Type} (items : List ι) (Y : ι → Hp → V → Prop) : Prop := ∀ R : It → Hp → Prop,
  (∀ J H2, Ex H H2 → (∀ H3, Rl H2 H3 → (∀ i, i < items.length → J.go i H3) ∧ J.stop items.length H3 ∧ ∀ i x H4, i < items.length → J.yld i H3 x H4 → Ex H3 H4 ∧ ∀ y, items[i]? = some y → Y y H4 x) → R J H2) → wi σ H R
theorem wz_tup (ha : Ev Ex te σ H xs) : Wz Rl (iTup K te) σ H xs fun x H v => Enc.rep (tp H) v x := fun R q => ha H (Ex.refl H) _ fun v H2 e2 hv => by
  obtain ⟨p, vs, rfl, hp, r⟩ := hv
  have hs : ∀ H3, Rl H2 H3 → SqT K H3 p vs := fun H3 e3 => SqT.of (RlOk.tup e3 p vs hp)
  refine ⟨p, rfl, ⟨vs, hs H2 (RlOk.refl H2)⟩, q (Itt K p) H2 e2 fun H3 e3 => ⟨fun i hi => ?_, ⟨vs, hs H3 e3, by rw [r.length]; exact Nat.le_refl _⟩, fun i x H4 hi hy => ?_⟩⟩
  · exact ⟨vs, vs[i]'(by rw [r.length]; exact hi), hs H3 e3, by simp [r.length, hi]⟩
  · obtain ⟨rfl, hy⟩ := hy
    refine ⟨Ex.refl _, fun x' hx' => ?_⟩
    obtain ⟨y, h1, h2⟩ := (upA e3 r).get hx'
    have h3 := hy vs (hs H4 e3)
    rw [h1] at h3
    cases h3
    exact h2
theorem wz_ls {p : Addr} (ha : Ev Ex te σ H (Raw.mk (.ref p))) (hl : Ls Rl H p xs) : Wz Rl (iList K te) σ H xs fun x H v => Enc.rep (tp H) v x := fun R q => ha H (Ex.refl H) _ fun v H2 e2 hv => by
  obtain rfl : v = .ref p := hv
  obtain ⟨vs, r, k⟩ := hl
  have e2' : Rl H H2 := RlOk.ex e2
  have hs : ∀ H3, Rl H2 H3 → SqL K H3 p vs := fun H3 e3 => SqL.of (k H3 (RlOk.trans e2' e3))
  refine ⟨p, rfl, ⟨vs, hs H2 (RlOk.refl H2)⟩, q (Itl K p) H2 e2 fun H3 e3 => ⟨fun i hi => ?_, ⟨vs, hs H3 e3, by rw [r.length]; exact Nat.le_refl _⟩, fun i x H4 hi hy => ?_⟩⟩
  · exact ⟨vs, vs[i]'(by rw [r.length]; exact hi), hs H3 e3, by simp [r.length, hi]⟩
  · obtain ⟨rfl, hy⟩ := hy
    refine ⟨Ex.refl _, fun x' hx' => ?_⟩
    obtain ⟨y, h1, h2⟩ := (upA (RlOk.trans e2' e3) r).get hx'
    have h3 := hy vs (hs H4 e3)
    rw [h1] at h3
    cases h3
    exact h2
theorem wz_enumL {p : Addr} (ha : Ev Ex te σ H (Raw.mk (.ref p))) (hl : Ls Rl H p xs) : Wz Rl (iEnum K (tCons te tNil)) σ H (xs.mapIdx fun i x => (i, x)) fun p H v => Enc.rep (tp H) v p := fun R q => ha H (Ex.refl H) _ fun v H2 e2 hv => by
  obtain rfl : v = .ref p := hv
  obtain ⟨vs, r, k⟩ := hl
  have e2' : Rl H H2 := RlOk.ex e2
  have hs : ∀ H3, Rl H2 H3 → SqL K H3 p vs := fun H3 e3 => SqL.of (k H3 (RlOk.trans e2' e3))
  refine ⟨p, vs, rfl, hs H2 (RlOk.refl H2), q (Ite K p) H2 e2 fun H3 e3 => ⟨fun i hi => ?_, ⟨vs, hs H3 e3, by rw [r.length, List.length_mapIdx]; exact Nat.le_refl _⟩, fun i x H4 hi hy => ?_⟩⟩
  · rw [List.length_mapIdx] at hi
    exact ⟨vs, vs[i]'(by rw [r.length]; exact hi), hs H3 e3, by simp [r.length, hi]⟩
  · obtain ⟨T, y, rfl, hT, rfl, hy⟩ := hy
    refine ⟨Ex.new hT, fun x' hx' => ?_⟩
    rw [List.getElem?_mapIdx] at hx'
    cases qx : xs[i]? with
    | none => rw [qx] at hx'; cases hx'
    | some x0 =>
      rw [qx] at hx'
      cases hx'
      obtain ⟨y', h1, h2⟩ := (upA (RlOk.trans e2' e3) r).get qx
      have h3 := hy vs (hs _ e3)
      rw [h1] at h3
      cases h3
      exact ⟨T, _, _, rfl, upd_same, rfl, up (Rl := Ex) (Ex.new hT) h2⟩
theorem wz_rg {lo n : Nat} (H1 : Hp) : ∀ H3, Rl H1 H3 → (∀ i, i < (List.range n).length → (Itr lo n).go i H3) ∧ (Itr lo n).stop (List.range n).length H3 ∧ ∀ i x H4, i < (List.range n).length → (Itr lo n).yld i H3 x H4 → Ex H3 H4 ∧ ∀ y, (List.range n)[i]? = some y → x = .int ((lo + y : Nat) : Int) := fun H3 e3 => by
  rw [List.length_range]
  refine ⟨fun i hi => hi, Nat.le_refl n, fun i x H4 hi hy => ?_⟩
  obtain ⟨rfl, rfl⟩ := hy
  exact ⟨Ex.refl _, fun y hy => by rw [range_at hy, Int.natCast_add]⟩
theorem wz_rg1 {ta : TA} {n : Nat} (ha : EvA Ex ta σ H [mp n]) (hn : n ≤ 1000000) : Wz Rl (iRng1 ta) σ H (List.range n) fun k _ v => v = .int (k : Nat) := fun R q => ha H (Ex.refl H) _ fun vs H2 e2 hv => by
  match vs, hv with
  | [v], ⟨hv, _⟩ =>
    obtain rfl : v = .int n := hv
    refine ⟨n, rfl, by omega, by omega, ?_⟩
    have e : (n : Int).toNat = n := rfl
    rw [e]
    exact q (Itr 0 n) H2 e2 fun H3 e3 => by
      have := wz_rg (Rl := Rl) (lo := 0) (n := n) H2 H3 e3
      simpa using this
theorem k_loop {ι : Type} {items : List ι} {Y : ι → Hp → V → Prop} {tb : TS} {J : It}
    (hJ : ∀ H3, Rl H H3 → (∀ i, i < items.length → J.go i H3) ∧ J.stop items.length H3 ∧ ∀ i x H4, i < items.length → J.yld i H3 x H4 → Ex H3 H4 ∧ ∀ y, items[i]? = some y → Y y H4 x)
    (I : Nat → L2.St → Hp → Prop) (h0 : I 0 σ H) (hr : ∀ i σ1 H2, I i σ1 H2 → Rl H H2) (he : ∀ i σ1 H2 H3, I i σ1 H2 → Ex H2 H3 → I i σ1 H3)
    (hs : ∀ i x v σ1 H2, items[i]? = some x → I i σ1 H2 → Y x H2 v → Tgt g v σ1 H2 fun σ2 H3 => tb { D with nx := I (i + 1), ct := I (i + 1), bk := D.nx } σ2 H3) (hd : ∀ σ1 H2, I items.length σ1 H2 → D.nx σ1 H2) :
    ∃ W : Nat → Nat → L2.St → Hp → Prop, (∃ m, W 0 m σ H) ∧ ∀ i m σ H, W i m σ H →
      (J.stop i H ∧ D.nx σ H) ∨ (J.go i H ∧ ∃ N : L2.St → Hp → Prop, (∀ σ' H', N σ' H' → ∃ m', m' < m ∧ W (i + 1) m' σ' H') ∧ ∀ x H', J.yld i H x H' → g x σ H' fun σ2 H2 => tb { D with nx := N, ct := N, bk := D.nx } σ2 H2) := by
  refine ⟨fun i m σ1 H1' => m = items.length - i ∧ i ≤ items.length ∧ I i σ1 H1', ⟨items.length, by omega, Nat.zero_le _, h0⟩, ?_⟩
  rintro i m σ1 H2 ⟨rfl, hi, hI⟩
  obtain ⟨j1, j2, j3⟩ := hJ H2 (hr _ _ _ hI)
  by_cases hlt : i < items.length
  · refine .inr ⟨j1 i hlt, I (i + 1), fun σ' H' hI' => ⟨items.length - (i + 1), by omega, rfl, hlt, hI'⟩, fun x H3 hy => ?_⟩
    obtain ⟨e3, y3⟩ := j3 i x H3 hlt hy
    have hx : items[i]? = some items[i] := List.getElem?_eq_getElem hlt
    exact hs i _ x σ1 H3 hx (he _ _ _ _ hI e3) (y3 _ hx) _ fun σ2 H2 h => h
  · have : i = items.length := by omega
    subst this
    exact .inl ⟨j2, hd _ _ hI⟩
theorem k_for {ι : Type} {items : List ι} {Y : ι → Hp → V → Prop} {tb : TS} (hw : Wz Rl wi σ H items Y) (I : Hp → Nat → L2.St → Hp → Prop)
    (h : ∀ H1, Ex H H1 → I H1 0 σ H1) (hr : ∀ H1 i σ1 H2, I H1 i σ1 H2 → Rl H1 H2) (he : ∀ H1 i σ1 H2 H3, I H1 i σ1 H2 → Ex H2 H3 → I H1 i σ1 H3)
    (hs : ∀ H1, Ex H H1 → ∀ i x v σ1 H2, items[i]? = some x → I H1 i σ1 H2 → Y x H2 v → Tgt g v σ1 H2 fun σ2 H3 => tb { D with nx := I H1 (i + 1), ct := I H1 (i + 1), bk := D.nx } σ2 H3) (hd : ∀ H1, Ex H H1 → ∀ σ1 H2, I H1 items.length σ1 H2 → D.nx σ1 H2) : tFor wi g tb D σ H :=
  hw _ fun J H1 e1 hJ => k_loop hJ (I H1) (h H1 e1) (hr H1) (he H1) (hs H1 e1) (hd H1 e1)
theorem k_while {tb : TS} (I : Nat → L2.St → Hp → Prop) (h0 : ∃ m, I m σ H) (hs : ∀ m σ1 H1, I m σ1 H1 → ∃ b, EvT Rl t σ1 H1 b ∧ (b = false → ∀ H2, Rl H1 H2 → D.nx σ1 H2) ∧
    (b = true → ∀ H2, Rl H1 H2 → tb { D with nx := fun σ3 H3 => ∃ m', m' < m ∧ I m' σ3 H3, ct := fun σ3 H3 => ∃ m', m' < m ∧ I m' σ3 H3, bk := D.nx } σ1 H2)) : tWhile t tb D σ H := by
  refine ⟨I, h0, fun m σ1 H1 hI => ?_⟩
  obtain ⟨b, ht, hf, htr⟩ := hs m σ1 H1 hI
  refine ht H1 (RlOk.refl _) _ fun H2 e => ?_
  cases b with
  | true => exact ⟨_, fun σ' H' h => h, htr rfl H2 e⟩
  | false => exact hf rfl H2 e
theorem k_aug {i : Nat} {op : Int → Int → Int} {m n : Int} {v : V} (hi : σ[i]? = some (some v)) (hv : v = .int m) (h : Ev Rl te σ H n) (k : ∀ H2, Rl H H2 → D.nx (σ.set i (some (.int (op m n)))) H2) : tAug i te (ipI op) D σ H :=
  ⟨v, hi, h H (RlOk.refl H) _ fun y H2 e r => ⟨m, n, hv, r, k H2 e⟩⟩
end
end B
namespace B
open PySem PySem.Spec PyProof.Rows L2
def n_is_integer : List Str := ["value"]
def p_is_integer : List Str := ["value"]
theorem sc_is_integer : FnScope n_is_integer p_is_integer (defScope K26.s_is_integer) := ⟨rfl, rfl, rfl, by decide +kernel, rfl, by decide +kernel, by decide +kernel⟩
def t_is_integer (K : PySem.W.Frag) : TS := (tRet (tAndV (tCB (rIsi K) (tCons (tVar 0) (tCons (tC (.ty "int")) tNil))) (tNotV (tCB (rIsi K) (tCons (tVar 0) (tCons (tC (.ty "bool")) tNil))))))
theorem w_is_integer {P : Program} {w : World} {K : PySem.W.Frag} {mg : Str → Option Value} {base : Heap} {f : Addr} {cdv : Value} {A : Around} {outer : List Env} {s : Shared} {H : Hp} {E : XK} {k : Nat} (W : Wd K mg)
    (hr : Room (k + 3) (A.deeper (envOfC "is_integer" (defScope K26.s_is_integer) s.heap.objs.size f cdv))) :
    PSs (cxOf CX0 P w K mg base n_is_integer "is_integer" (defScope K26.s_is_integer) f cdv A outer s H E).nox (defBody K26.s_is_integer) (t_is_integer K) := by
  have hr0 := hr.mono (Nat.le_add_right k 3)
  have hr1 : Room (k + 1) _ := hr.mono (by omega)
  have hu := huS hr
  have hu1 := huS1 hr
  exact (pss_one (ps_ret (pe_and (pe_callB call_isi rfl (W.free 50) boot_isinstance (pa_cons (pv 0) (pa_cons (pe_bltn rfl (W.free 51) boot_int rfl) pa_nil))) (pe_one (pe_not (pe_callB call_isi rfl (W.free 50) boot_isinstance (pa_cons (pv 0) (pa_cons (pe_bltn rfl (W.free 52) boot_bool rfl) pa_nil))))))))
def n_is_below : List Str := ["value", "bound"]
def p_is_below : List Str := ["value", "bound"]
theorem sc_is_below : FnScope n_is_below p_is_below (defScope K26.s_is_below) := ⟨rfl, rfl, rfl, by decide +kernel, rfl, by decide +kernel, by decide +kernel⟩
def t_is_below (K : PySem.W.Frag) (sp_is_integer : Sp) : TS := (tRet (tAndV (tCall sp_is_integer [] E0 (tCons (tVar 0) tNil)) (tChain rLeI rLtI (tC (.int 0)) (tVar 0) (tVar 1))))
theorem w_is_below {P : Program} {w : World} {K : PySem.W.Frag} {mg : Str → Option Value} {base : Heap} {f : Addr} {cdv : Value} {A : Around} {outer : List Env} {s : Shared} {H : Hp} {E : XK} {k : Nat} (sp_is_integer : Sp) (W : Wd K mg)
    (hr : Room (k + 3) (A.deeper (envOfC "is_below" (defScope K26.s_is_below) s.heap.objs.size f cdv))) (F_is_integer : Fn P w K mg base k "is_integer" p_is_integer sp_is_integer) :
    PSs (cxOf CX0 P w K mg base n_is_below "is_below" (defScope K26.s_is_below) f cdv A outer s H E).nox (defBody K26.s_is_below) (t_is_below K sp_is_integer) := by
  have hr0 := hr.mono (Nat.le_add_right k 3)
  have hr1 : Room (k + 1) _ := hr.mono (by omega)
  have hu := huS hr
  have hu1 := huS1 hr
  exact (pss_one (ps_ret (pe_and (pe_f F_is_integer (Nat.le_refl _) hr0 rfl (W.glo 0) (pa_cons (pv 0) pa_nil)) (pe_one (pe_chain op_leI op_ltI pe_int (pv 0) (pv 1))))))
def n_is_text : List Str := ["value"]
def p_is_text : List Str := ["value"]
theorem sc_is_text : FnScope n_is_text p_is_text (defScope K26.s_is_text) := ⟨rfl, rfl, rfl, by decide +kernel, rfl, by decide +kernel, by decide +kernel⟩
def t_is_text (K : PySem.W.Frag) : TS := (tRet (tCB (rIsi K) (tCons (tVar 0) (tCons (tC (.ty "str")) tNil))))
theorem w_is_text {P : Program} {w : World} {K : PySem.W.Frag} {mg : Str → Option Value} {base : Heap} {f : Addr} {cdv : Value} {A : Around} {outer : List Env} {s : Shared} {H : Hp} {E : XK} {k : Nat} (W : Wd K mg)
    (hr : Room (k + 3) (A.deeper (envOfC "is_text" (defScope K26.s_is_text) s.heap.objs.size f cdv))) :
    PSs (cxOf CX0 P w K mg base n_is_text "is_text" (defScope K26.s_is_text) f cdv A outer s H E).nox (defBody K26.s_is_text) (t_is_text K) := by
  have hr0 := hr.mono (Nat.le_add_right k 3)
  have hr1 : Room (k + 1) _ := hr.mono (by omega)
  have hu := huS hr
  have hu1 := huS1 hr
  exact (pss_one (ps_ret (pe_callB call_isi rfl (W.free 50) boot_isinstance (pa_cons (pv 0) (pa_cons (pe_bltn rfl (W.free 53) boot_str rfl) pa_nil)))))
def n_is_sequence : List Str := ["value"]
def p_is_sequence : List Str := ["value"]
theorem sc_is_sequence : FnScope n_is_sequence p_is_sequence (defScope K26.s_is_sequence) := ⟨rfl, rfl, rfl, by decide +kernel, rfl, by decide +kernel, by decide +kernel⟩
def t_is_sequence (K : PySem.W.Frag) : TS := (tRet (tCB (rIsiT K) (tCons (tVar 0) (tCons (tTup (tCons (tC (.ty "list")) (tCons (tC (.ty "tuple")) tNil))) tNil))))
theorem w_is_sequence {P : Program} {w : World} {K : PySem.W.Frag} {mg : Str → Option Value} {base : Heap} {f : Addr} {cdv : Value} {A : Around} {outer : List Env} {s : Shared} {H : Hp} {E : XK} {k : Nat} (W : Wd K mg)
    (hr : Room (k + 3) (A.deeper (envOfC "is_sequence" (defScope K26.s_is_sequence) s.heap.objs.size f cdv))) :
    PSs (cxOf CX0 P w K mg base n_is_sequence "is_sequence" (defScope K26.s_is_sequence) f cdv A outer s H E).nox (defBody K26.s_is_sequence) (t_is_sequence K) := by
  have hr0 := hr.mono (Nat.le_add_right k 3)
  have hr1 : Room (k + 1) _ := hr.mono (by omega)
  have hu := huS hr
  have hu1 := huS1 hr
  exact (pss_one (ps_ret (pe_callB call_isiT rfl (W.free 50) boot_isinstance (pa_cons (pv 0) (pa_cons (pe_tup (pa_cons (pe_bltn rfl (W.free 54) boot_list rfl) (pa_cons (pe_bltn rfl (W.free 55) boot_tuple rfl) pa_nil))) pa_nil)))))
def n_is_name : List Str := ["value", "sign"]
def p_is_name : List Str := ["value"]
theorem sc_is_name : FnScope n_is_name p_is_name (defScope K26.s_is_name) := ⟨rfl, rfl, rfl, by decide +kernel, rfl, by decide +kernel, by decide +kernel⟩
def t_is_name (K : PySem.W.Frag) (sp_is_text : Sp) : TS := (tRet (tAndV (tCall sp_is_text [] E0 (tCons (tVar 0) tNil)) (tAndV (tChain rLeI rLeI (tC (.int 1)) (tCB (rLenU K) (tCons (tVar 0) tNil)) (tC (.int 8))) (tCB (rAll K) (tCons (tLc (iStr (tVar 0)) (gName 1) tYes (tOp (rInU K) (tVar 1) (tC (.str "abcdefghijklmnopqrstuvwxyz"))) [1]) tNil)))))
theorem w_is_name {P : Program} {w : World} {K : PySem.W.Frag} {mg : Str → Option Value} {base : Heap} {f : Addr} {cdv : Value} {A : Around} {outer : List Env} {s : Shared} {H : Hp} {E : XK} {k : Nat} (sp_is_text : Sp) (W : Wd K mg)
    (hr : Room (k + 3) (A.deeper (envOfC "is_name" (defScope K26.s_is_name) s.heap.objs.size f cdv))) (F_is_text : Fn P w K mg base k "is_text" p_is_text sp_is_text) :
    PSs (cxOf CX0 P w K mg base n_is_name "is_name" (defScope K26.s_is_name) f cdv A outer s H E).nox (defBody K26.s_is_name) (t_is_name K sp_is_text) := by
  have hr0 := hr.mono (Nat.le_add_right k 3)
  have hr1 : Room (k + 1) _ := hr.mono (by omega)
  have hu := huS hr
  have hu1 := huS1 hr
  exact (pss_one (ps_ret (pe_and (pe_f F_is_text (Nat.le_refl _) hr0 rfl (W.glo 2) (pa_cons (pv 0) pa_nil)) (pe_and (pe_chain op_leI op_leI pe_int (pe_callB call_lenU rfl (W.free 56) boot_len (pa_cons (pv 0) pa_nil)) (pe_gint rfl (W.int 67))) (pe_one (pe_callB (cr_all rfl) rfl (W.free 57) boot_all (pa_cons (pe_lc (own := [("sign", 1)]) rfl sc_is_name.nd (pi_str (pv 0)) (blkOk_by (N := n_is_name) (sc := defScope K26.s_is_name) (by decide +kernel)) (fun _ _ _ _ _ => (pg_name (i := 1) sc_is_name.nd rfl (by first | exact Or.inl rfl | exact Or.inr rfl))) (fun _ _ _ _ _ => pts_nil) (fun _ _ _ _ _ => (pe_cmpR (op_inU hu) (pv 1) (pe_gstr rfl (W.str 70)) rfl))) pa_nil)))))))
def n_effect_then : List Str := ["one", "other", "state"]
def p_effect_then : List Str := ["one", "other"]
theorem sc_effect_then : FnScope n_effect_then p_effect_then (defScope K26.s_effect_then) := ⟨rfl, rfl, rfl, by decide +kernel, rfl, by decide +kernel, by decide +kernel⟩
def t_effect_then (K : PySem.W.Frag) : TS := (tRet (tThen (tLc (iTup K (tVar 0)) (gName 2) tYes (tOp (rIxU K) (tVar 1) (tVar 2)) [2]) (kTup K)))
theorem w_effect_then {P : Program} {w : World} {K : PySem.W.Frag} {mg : Str → Option Value} {base : Heap} {f : Addr} {cdv : Value} {A : Around} {outer : List Env} {s : Shared} {H : Hp} {E : XK} {k : Nat} (W : Wd K mg)
    (hr : Room (k + 3) (A.deeper (envOfC "effect_then" (defScope K26.s_effect_then) s.heap.objs.size f cdv))) :
    PSs (cxOf CX0 P w K mg base n_effect_then "effect_then" (defScope K26.s_effect_then) f cdv A outer s H E).nox (defBody K26.s_effect_then) (t_effect_then K) := by
  have hr0 := hr.mono (Nat.le_add_right k 3)
  have hr1 : Room (k + 1) _ := hr.mono (by omega)
  have hu := huS hr
  have hu1 := huS1 hr
  exact (pss_one (ps_ret (pe_tupleOf rfl (W.free 55) (pe_lc (own := [("state", 2)]) rfl sc_effect_then.nd (pi_tup (pv 0)) (blkOk_by (N := n_effect_then) (sc := defScope K26.s_effect_then) (by decide +kernel)) (fun _ _ _ _ _ => (pg_name (i := 2) sc_effect_then.nd rfl (by first | exact Or.inl rfl | exact Or.inr rfl))) (fun _ _ _ _ _ => pts_nil) (fun _ _ _ _ _ => (pe_ix (ix_U hu) (pv 1) (pv 2) fun _ _ => rfl))))))
def n_lot_within : List Str := ["one", "other", "thing"]
def p_lot_within : List Str := ["one", "other"]
theorem sc_lot_within : FnScope n_lot_within p_lot_within (defScope K26.s_lot_within) := ⟨rfl, rfl, rfl, by decide +kernel, rfl, by decide +kernel, by decide +kernel⟩
def t_lot_within (K : PySem.W.Frag) : TS := (tRet (tCB (rAll K) (tCons (tLc (iTup K (tVar 0)) (gName 2) tYes (tOp (rInU K) (tVar 2) (tVar 1)) [2]) tNil)))
theorem w_lot_within {P : Program} {w : World} {K : PySem.W.Frag} {mg : Str → Option Value} {base : Heap} {f : Addr} {cdv : Value} {A : Around} {outer : List Env} {s : Shared} {H : Hp} {E : XK} {k : Nat} (W : Wd K mg)
    (hr : Room (k + 3) (A.deeper (envOfC "lot_within" (defScope K26.s_lot_within) s.heap.objs.size f cdv))) :
    PSs (cxOf CX0 P w K mg base n_lot_within "lot_within" (defScope K26.s_lot_within) f cdv A outer s H E).nox (defBody K26.s_lot_within) (t_lot_within K) := by
  have hr0 := hr.mono (Nat.le_add_right k 3)
  have hr1 : Room (k + 1) _ := hr.mono (by omega)
  have hu := huS hr
  have hu1 := huS1 hr
  exact (pss_one (ps_ret (pe_callB (cr_all rfl) rfl (W.free 57) boot_all (pa_cons (pe_lc (own := [("thing", 2)]) rfl sc_lot_within.nd (pi_tup (pv 0)) (blkOk_by (N := n_lot_within) (sc := defScope K26.s_lot_within) (by decide +kernel)) (fun _ _ _ _ _ => (pg_name (i := 2) sc_lot_within.nd rfl (by first | exact Or.inl rfl | exact Or.inr rfl))) (fun _ _ _ _ _ => pts_nil) (fun _ _ _ _ _ => (pe_cmpR (op_inU hu) (pv 2) (pv 1) rfl))) pa_nil))))
def n_states_without : List Str := ["size", "lot", "state"]
def p_states_without : List Str := ["size", "lot"]
theorem sc_states_without : FnScope n_states_without p_states_without (defScope K26.s_states_without) := ⟨rfl, rfl, rfl, by decide +kernel, rfl, by decide +kernel, by decide +kernel⟩
def t_states_without (K : PySem.W.Frag) : TS := (tRet (tThen (tLc (iRng1 (tCons (tVar 0) tNil)) (gName 2) (tTest (tOp (rNinU K) (tVar 2) (tVar 1))) (tVar 2) [2]) (kTup K)))
theorem w_states_without {P : Program} {w : World} {K : PySem.W.Frag} {mg : Str → Option Value} {base : Heap} {f : Addr} {cdv : Value} {A : Around} {outer : List Env} {s : Shared} {H : Hp} {E : XK} {k : Nat} (W : Wd K mg)
    (hr : Room (k + 3) (A.deeper (envOfC "states_without" (defScope K26.s_states_without) s.heap.objs.size f cdv))) :
    PSs (cxOf CX0 P w K mg base n_states_without "states_without" (defScope K26.s_states_without) f cdv A outer s H E).nox (defBody K26.s_states_without) (t_states_without K) := by
  have hr0 := hr.mono (Nat.le_add_right k 3)
  have hr1 : Room (k + 1) _ := hr.mono (by omega)
  have hu := huS hr
  have hu1 := huS1 hr
  exact (pss_one (ps_ret (pe_tupleOf rfl (W.free 55) (pe_lc (own := [("state", 2)]) rfl sc_states_without.nd (pi_range1 rfl (W.free 61) (pa_cons (pv 0) pa_nil)) (blkOk_by (N := n_states_without) (sc := defScope K26.s_states_without) (by decide +kernel)) (fun _ _ _ _ _ => (pg_name (i := 2) sc_states_without.nd rfl (by first | exact Or.inl rfl | exact Or.inr rfl))) (fun _ _ _ _ _ => (pts_one (pt_cmpR (op_ninU hu) (pv 2) (pv 1) rfl))) (fun _ _ _ _ _ => (pv 2))))))
def n_lot_key : List Str := ["lot"]
def p_lot_key : List Str := ["lot"]
theorem sc_lot_key : FnScope n_lot_key p_lot_key (defScope K26.s_lot_key) := ⟨rfl, rfl, rfl, by decide +kernel, rfl, by decide +kernel, by decide +kernel⟩
def t_lot_key (K : PySem.W.Frag) : TS := (tRet (tTup (tCons (tCB (rLenU K) (tCons (tVar 0) tNil)) (tCons (tVar 0) tNil))))
theorem w_lot_key {P : Program} {w : World} {K : PySem.W.Frag} {mg : Str → Option Value} {base : Heap} {f : Addr} {cdv : Value} {A : Around} {outer : List Env} {s : Shared} {H : Hp} {E : XK} {k : Nat} (W : Wd K mg)
    (hr : Room (k + 3) (A.deeper (envOfC "lot_key" (defScope K26.s_lot_key) s.heap.objs.size f cdv))) :
    PSs (cxOf CX0 P w K mg base n_lot_key "lot_key" (defScope K26.s_lot_key) f cdv A outer s H E).nox (defBody K26.s_lot_key) (t_lot_key K) := by
  have hr0 := hr.mono (Nat.le_add_right k 3)
  have hr1 : Room (k + 1) _ := hr.mono (by omega)
  have hu := huS hr
  have hu1 := huS1 hr
  exact (pss_one (ps_ret (pe_tup (pa_cons (pe_callB call_lenU rfl (W.free 56) boot_len (pa_cons (pv 0) pa_nil)) (pa_cons (pv 0) pa_nil)))))
def n_shared_states : List Str := ["one", "other", "state", "image"]
def p_shared_states : List Str := ["one", "other"]
theorem sc_shared_states : FnScope n_shared_states p_shared_states (defScope K26.s_shared_states) := ⟨rfl, rfl, rfl, by decide +kernel, rfl, by decide +kernel, by decide +kernel⟩
def t_shared_states (K : PySem.W.Frag) : TS := (tRet (tThen (tLc (iEnumT K (tCons (tVar 0) tNil)) (gTup K 2 (gCons (gName 2) (gCons (gName 3) gNil))) (tTest (tOp (rEqU K) (tOp (rIxU K) (tVar 1) (tVar 3)) (tOp (rIxU K) (tVar 0) (tOp (rIxU K) (tVar 1) (tVar 2))))) (tVar 2) [2, 3]) (kTup K)))
theorem w_shared_states {P : Program} {w : World} {K : PySem.W.Frag} {mg : Str → Option Value} {base : Heap} {f : Addr} {cdv : Value} {A : Around} {outer : List Env} {s : Shared} {H : Hp} {E : XK} {k : Nat} (W : Wd K mg)
    (hr : Room (k + 3) (A.deeper (envOfC "shared_states" (defScope K26.s_shared_states) s.heap.objs.size f cdv))) :
    PSs (cxOf CX0 P w K mg base n_shared_states "shared_states" (defScope K26.s_shared_states) f cdv A outer s H E).nox (defBody K26.s_shared_states) (t_shared_states K) := by
  have hr0 := hr.mono (Nat.le_add_right k 3)
  have hr1 : Room (k + 1) _ := hr.mono (by omega)
  have hu := huS hr
  have hu1 := huS1 hr
  exact (pss_one (ps_ret (pe_tupleOf rfl (W.free 55) (pe_lc (own := [("state", 2), ("image", 3)]) rfl sc_shared_states.nd (pi_enumT rfl (W.free 59) (pa_cons (pv 0) pa_nil)) (blkOk_by (N := n_shared_states) (sc := defScope K26.s_shared_states) (by decide +kernel)) (fun _ _ _ _ _ => (pg_tup rfl (pgs_cons (pg_name (i := 2) sc_shared_states.nd rfl (by first | exact Or.inl rfl | exact Or.inr rfl)) (pgs_cons (pg_name (i := 3) sc_shared_states.nd rfl (by first | exact Or.inl rfl | exact Or.inr rfl)) pgs_nil)))) (fun _ _ _ _ _ => (pts_one (pt_cmpR (op_eqU hu) (pe_ix (ix_U hu) (pv 1) (pv 3) fun _ _ => rfl) (pe_ix (ix_U hu) (pv 0) (pe_ix (ix_U hu) (pv 1) (pv 2) fun _ _ => rfl) fun _ _ => rfl) (nomark _)))) (fun _ _ _ _ _ => (pv 2))))))
def n_law_then : List Str := ["_law_one", "_law_other", "_law_state"]
def p_law_then : List Str := ["_law_one", "_law_other"]
theorem sc_law_then : FnScope n_law_then p_law_then (defScope K26.s_law_then) := ⟨rfl, rfl, rfl, by decide +kernel, rfl, by decide +kernel, by decide +kernel⟩
def t_law_then (K : PySem.W.Frag) : TS := (tRet (tThen (tLc (iTup K (tVar 0)) (gName 2) tYes (tOp (rIxU K) (tVar 1) (tVar 2)) [2]) (kTup K)))
theorem w_law_then {P : Program} {w : World} {K : PySem.W.Frag} {mg : Str → Option Value} {base : Heap} {f : Addr} {cdv : Value} {A : Around} {outer : List Env} {s : Shared} {H : Hp} {E : XK} {k : Nat} (W : Wd K mg)
    (hr : Room (k + 3) (A.deeper (envOfC "_law_then" (defScope K26.s_law_then) s.heap.objs.size f cdv))) :
    PSs (cxOf CX0 P w K mg base n_law_then "_law_then" (defScope K26.s_law_then) f cdv A outer s H E).nox (defBody K26.s_law_then) (t_law_then K) := by
  have hr0 := hr.mono (Nat.le_add_right k 3)
  have hr1 : Room (k + 1) _ := hr.mono (by omega)
  have hu := huS hr
  have hu1 := huS1 hr
  exact (pss_one (ps_ret (pe_tupleOf rfl (W.free 55) (pe_lc (own := [("_law_state", 2)]) rfl sc_law_then.nd (pi_tup (pv 0)) (blkOk_by (N := n_law_then) (sc := defScope K26.s_law_then) (by decide +kernel)) (fun _ _ _ _ _ => (pg_name (i := 2) sc_law_then.nd rfl (by first | exact Or.inl rfl | exact Or.inr rfl))) (fun _ _ _ _ _ => pts_nil) (fun _ _ _ _ _ => (pe_ix (ix_U hu) (pv 1) (pv 2) fun _ _ => rfl))))))
def n_law_meets : List Str := ["_law_one", "_law_other", "_law_state"]
def p_law_meets : List Str := ["_law_one", "_law_other", "_law_state"]
theorem sc_law_meets : FnScope n_law_meets p_law_meets (defScope K26.s_law_meets) := ⟨rfl, rfl, rfl, by decide +kernel, rfl, by decide +kernel, by decide +kernel⟩
def t_law_meets (K : PySem.W.Frag) : TS := (tRet (tOp (rEqU K) (tOp (rIxU K) (tVar 1) (tOp (rIxU K) (tVar 0) (tVar 2))) (tOp (rIxU K) (tVar 0) (tOp (rIxU K) (tVar 1) (tVar 2)))))
theorem w_law_meets {P : Program} {w : World} {K : PySem.W.Frag} {mg : Str → Option Value} {base : Heap} {f : Addr} {cdv : Value} {A : Around} {outer : List Env} {s : Shared} {H : Hp} {E : XK} {k : Nat} (W : Wd K mg)
    (hr : Room (k + 3) (A.deeper (envOfC "_law_meets" (defScope K26.s_law_meets) s.heap.objs.size f cdv))) :
    PSs (cxOf CX0 P w K mg base n_law_meets "_law_meets" (defScope K26.s_law_meets) f cdv A outer s H E).nox (defBody K26.s_law_meets) (t_law_meets K) := by
  have hr0 := hr.mono (Nat.le_add_right k 3)
  have hr1 : Room (k + 1) _ := hr.mono (by omega)
  have hu := huS hr
  have hu1 := huS1 hr
  exact (pss_one (ps_ret (pe_cmpR (op_eqU hu) (pe_ix (ix_U hu) (pv 1) (pe_ix (ix_U hu) (pv 0) (pv 2) fun _ _ => rfl) fun _ _ => rfl) (pe_ix (ix_U hu) (pv 0) (pe_ix (ix_U hu) (pv 1) (pv 2) fun _ _ => rfl) fun _ _ => rfl) (nomark _))))
def n_law_any : List Str := ["_law_deal_here", "_law_bound", "_law_rest"]
def p_law_any : List Str := ["_law_deal_here", "_law_bound"]
theorem sc_law_any : FnScope n_law_any p_law_any (defScope K26.s_law_any) := ⟨rfl, rfl, rfl, by decide +kernel, rfl, by decide +kernel, by decide +kernel⟩
def t_law_any (K : PySem.W.Frag) : TS := (tSeq (tWhile (tAnd (tTest (tOp (rNeU K) (tOp (rIxU K) (tVar 0) (tC (.int 0))) (tLst tNil))) (tTest (tOp (rEqU K) (tOp (rIxU K) (tOp (rIxU K) (tVar 0) (tC (.int 0))) (tUn rNegI (tC (.int 1)))) (tC (.int 0))))) (tDrop (tBM0 K "list" rPop (tOp (rIxU K) (tVar 0) (tC (.int 0))))))
  (tSeq (tIfS (tTest (tOp (rNeU K) (tOp (rIxU K) (tVar 0) (tC (.int 0))) (tLst tNil))) (tSeq (tAsg (tCB rInt1 (tCons (tBM0 K "list" rPop (tOp (rIxU K) (tVar 0) (tC (.int 0)))) tNil)) (gName 2))
  (tSeq (tDrop (tBM K "list" rAppend (tOp (rIxU K) (tVar 0) (tC (.int 0))) (tCons (tOp rDivI (tVar 2) (tVar 1)) tNil)))
  (tRet (tOp rModI (tVar 2) (tVar 1))))) tNext)
  (tSeq (tAsg (tOp rModI (tCB rInt1 (tCons (tOp (rAddU K) (tOp rMulU (tOp (rIxU K) (tVar 0) (tC (.int 1))) (tC (.int 50021))) (tC (.int 97))) tNil)) (tC (.int 2147483647))) (gSub (tVar 0) (tC (.int 1)) rSetL))
  (tRet (tOp rModI (tCB rInt1 (tCons (tOp rDivI (tOp (rIxU K) (tVar 0) (tC (.int 1))) (tC (.int 64))) tNil)) (tVar 1))))))
theorem w_law_any {P : Program} {w : World} {K : PySem.W.Frag} {mg : Str → Option Value} {base : Heap} {f : Addr} {cdv : Value} {A : Around} {outer : List Env} {s : Shared} {H : Hp} {E : XK} {k : Nat} (W : Wd K mg)
    (hr : Room (k + 3) (A.deeper (envOfC "_law_any" (defScope K26.s_law_any) s.heap.objs.size f cdv))) :
    PSs (cxOf CX0 P w K mg base n_law_any "_law_any" (defScope K26.s_law_any) f cdv A outer s H E).nox (defBody K26.s_law_any) (t_law_any K) := by
  have hr0 := hr.mono (Nat.le_add_right k 3)
  have hr1 : Room (k + 1) _ := hr.mono (by omega)
  have hu := huS hr
  have hu1 := huS1 hr
  exact (pss_cons (ps_while PassesOwn.never ((pw_and (pt_cmpR (op_neU hu) (pe_ix (ix_U hu) (pv 0) pe_int fun _ _ => rfl) (pe_lst pa_nil) (nomark _)) (pw_and1 (pt_cmpR (op_eqU hu) (pe_ix (ix_U hu) (pe_ix (ix_U hu) (pv 0) pe_int fun _ _ => rfl) (pe_un un_neg pe_int) fun _ _ => rfl) pe_int (nomark _))))).pt (pss_one (ps_expr (pe_bm0 PySem.F.plainAttrs_list PySem.F.slot_list_pop PySem.F.type_list_pop mt_pop (pe_ix (ix_U hu) (pv 0) pe_int fun _ _ => rfl)))))
    (pss_cons (ps_if (pt_cmpR (op_neU hu) (pe_ix (ix_U hu) (pv 0) pe_int fun _ _ => rfl) (pe_lst pa_nil) (nomark _)) (pss_cons (ps_set (i := 2) sc_law_any.nd rfl (Or.inl rfl) (pe_callTy call_int1 rfl (W.free 51) boot_int (pa_cons (pe_bm0 PySem.F.plainAttrs_list PySem.F.slot_list_pop PySem.F.type_list_pop mt_pop (pe_ix (ix_U hu) (pv 0) pe_int fun _ _ => rfl)) pa_nil)))
    (pss_cons (ps_expr (pe_bm PySem.F.plainAttrs_list PySem.F.slot_list_append PySem.F.type_list_append mt_append (pe_ix (ix_U hu) (pv 0) pe_int fun _ _ => rfl) (pa_cons (pe_op op_divI (pv 2) (pv 1)) pa_nil)))
    (pss_one (ps_ret (pe_op op_modI (pv 2) (pv 1)))))) pss_nil)
    (pss_cons (ps_asg (pe_op op_modI (pe_callTy call_int1 rfl (W.free 51) boot_int (pa_cons (pe_op op_addU (pe_op op_mulU (pe_ix (ix_U hu) (pv 0) pe_int fun _ _ => rfl) pe_int) pe_int) pa_nil)) pe_int) (pg_sub (pv 0) pe_int set_list))
    (pss_one (ps_ret (pe_op op_modI (pe_callTy call_int1 rfl (W.free 51) boot_int (pa_cons (pe_op op_divI (pe_ix (ix_U hu) (pv 0) pe_int fun _ _ => rfl) pe_int) pa_nil)) (pv 1)))))))
def n_law_of : List Str := ["_law_deal_here", "_law_some"]
def p_law_of : List Str := ["_law_deal_here", "_law_some"]
theorem sc_law_of : FnScope n_law_of p_law_of (defScope K26.s_law_of) := ⟨rfl, rfl, rfl, by decide +kernel, rfl, by decide +kernel, by decide +kernel⟩
def t_law_of (K : PySem.W.Frag) (sp_law_any : Sp) : TS := (tRet (tOp (rIxU K) (tVar 1) (tCall sp_law_any [] E0 (tCons (tVar 0) (tCons (tCB (rLenU K) (tCons (tVar 1) tNil)) tNil)))))
theorem w_law_of {P : Program} {w : World} {K : PySem.W.Frag} {mg : Str → Option Value} {base : Heap} {f : Addr} {cdv : Value} {A : Around} {outer : List Env} {s : Shared} {H : Hp} {E : XK} {k : Nat} (sp_law_any : Sp) (W : Wd K mg)
    (hr : Room (k + 3) (A.deeper (envOfC "_law_of" (defScope K26.s_law_of) s.heap.objs.size f cdv))) (F_law_any : Fn P w K mg base k "_law_any" p_law_any sp_law_any) :
    PSs (cxOf CX0 P w K mg base n_law_of "_law_of" (defScope K26.s_law_of) f cdv A outer s H E).nox (defBody K26.s_law_of) (t_law_of K sp_law_any) := by
  have hr0 := hr.mono (Nat.le_add_right k 3)
  have hr1 : Room (k + 1) _ := hr.mono (by omega)
  have hu := huS hr
  have hu1 := huS1 hr
  exact (pss_one (ps_ret (pe_ix (ix_U hu) (pv 1) (pe_f F_law_any (Nat.le_refl _) hr0 rfl (W.glo 32) (pa_cons (pv 0) (pa_cons (pe_callB call_lenU rfl (W.free 56) boot_len (pa_cons (pv 1) pa_nil)) pa_nil))) fun _ _ => rfl)))
def n_law_shapes : List Str := []
def p_law_shapes : List Str := []
theorem sc_law_shapes : FnScope n_law_shapes p_law_shapes (defScope K26.s_law_shapes) := ⟨rfl, rfl, rfl, by decide +kernel, rfl, by decide +kernel, by decide +kernel⟩
def t_law_shapes (K : PySem.W.Frag) : TS := (tRet (tLst (tCons (tTup (tCons (tC (.int 4)) (tCons (tTup (tCons (tC (.str "turn")) (tCons (tC (.str "turn")) tNil))) tNil))) (tCons (tTup (tCons (tC (.int 4)) (tCons (tTup (tCons (tC (.str "ring")) (tCons (tC (.str "two")) tNil))) tNil))) (tCons (tTup (tCons (tC (.int 5)) (tCons (tTup (tCons (tC (.str "ring")) (tCons (tC (.str "mirror")) tNil))) tNil))) (tCons (tTup (tCons (tC (.int 6)) (tCons (tTup (tCons (tC (.str "ring")) (tCons (tC (.str "mirror")) tNil))) tNil))) (tCons (tTup (tCons (tC (.int 3)) (tCons (tTup (tCons (tC (.str "two")) (tCons (tC (.str "two")) tNil))) tNil))) (tCons (tTup (tCons (tC (.int 5)) (tCons (tTup (tCons (tC (.str "even")) (tCons (tC (.str "even")) tNil))) tNil))) (tCons (tTup (tCons (tC (.int 6)) (tCons (tTup (tCons (tC (.str "five")) (tCons (tC (.str "flip")) tNil))) tNil))) (tCons (tTup (tCons (tC (.int 7)) (tCons (tTup (tCons (tC (.str "line")) (tCons (tC (.str "line")) tNil))) tNil))) (tCons (tTup (tCons (tC (.int 4)) (tCons (tTup (tCons (tC (.str "two")) (tCons (tC (.str "mirror")) tNil))) tNil))) (tCons (tTup (tCons (tC (.int 6)) (tCons (tTup (tCons (tC (.str "ring")) (tCons (tC (.str "two")) tNil))) tNil))) (tCons (tTup (tCons (tC (.int 5)) (tCons (tTup (tCons (tC (.str "line")) (tCons (tC (.str "line")) tNil))) tNil))) (tCons (tTup (tCons (tC (.int 4)) (tCons (tTup (tCons (tC (.str "two")) (tCons (tC (.str "two")) (tCons (tC (.str "two")) tNil)))) tNil))) (tCons (tTup (tCons (tC (.int 12)) (tCons (tTup (tCons (tC (.str "ring")) (tCons (tC (.str "mirror")) tNil))) tNil))) (tCons (tTup (tCons (tC (.int 4)) (tCons (tTup (tCons (tC (.str "two")) (tCons (tC (.str "mirror")) (tCons (tC (.str "two")) (tCons (tC (.str "ring")) (tCons (tC (.str "turn")) (tCons (tC (.str "two")) tNil))))))) tNil))) (tCons (tTup (tCons (tC (.int 6)) (tCons (tTup (tCons (tC (.str "turn")) (tCons (tC (.str "mirror")) tNil))) tNil))) (tCons (tTup (tCons (tC (.int 5)) (tCons (tTup (tCons (tC (.str "two")) (tCons (tC (.str "two")) tNil))) tNil))) (tCons (tTup (tCons (tC (.int 2)) (tCons (tTup (tCons (tC (.str "two")) tNil)) tNil))) tNil)))))))))))))))))))
theorem w_law_shapes {P : Program} {w : World} {K : PySem.W.Frag} {mg : Str → Option Value} {base : Heap} {f : Addr} {cdv : Value} {A : Around} {outer : List Env} {s : Shared} {H : Hp} {E : XK} {k : Nat} (W : Wd K mg)
    (hr : Room (k + 3) (A.deeper (envOfC "_law_shapes" (defScope K26.s_law_shapes) s.heap.objs.size f cdv))) :
    PSs (cxOf CX0 P w K mg base n_law_shapes "_law_shapes" (defScope K26.s_law_shapes) f cdv A outer s H E).nox (defBody K26.s_law_shapes) (t_law_shapes K) := by
  have hr0 := hr.mono (Nat.le_add_right k 3)
  have hr1 : Room (k + 1) _ := hr.mono (by omega)
  have hu := huS hr
  have hu1 := huS1 hr
  exact (pss_one (ps_ret (pe_lst (pa_cons (pe_tup (pa_cons pe_int (pa_cons (pe_tup (pa_cons pe_str (pa_cons pe_str pa_nil))) pa_nil))) (pa_cons (pe_tup (pa_cons pe_int (pa_cons (pe_tup (pa_cons pe_str (pa_cons pe_str pa_nil))) pa_nil))) (pa_cons (pe_tup (pa_cons pe_int (pa_cons (pe_tup (pa_cons pe_str (pa_cons pe_str pa_nil))) pa_nil))) (pa_cons (pe_tup (pa_cons pe_int (pa_cons (pe_tup (pa_cons pe_str (pa_cons pe_str pa_nil))) pa_nil))) (pa_cons (pe_tup (pa_cons pe_int (pa_cons (pe_tup (pa_cons pe_str (pa_cons pe_str pa_nil))) pa_nil))) (pa_cons (pe_tup (pa_cons pe_int (pa_cons (pe_tup (pa_cons pe_str (pa_cons pe_str pa_nil))) pa_nil))) (pa_cons (pe_tup (pa_cons pe_int (pa_cons (pe_tup (pa_cons pe_str (pa_cons pe_str pa_nil))) pa_nil))) (pa_cons (pe_tup (pa_cons pe_int (pa_cons (pe_tup (pa_cons pe_str (pa_cons pe_str pa_nil))) pa_nil))) (pa_cons (pe_tup (pa_cons pe_int (pa_cons (pe_tup (pa_cons pe_str (pa_cons pe_str pa_nil))) pa_nil))) (pa_cons (pe_tup (pa_cons pe_int (pa_cons (pe_tup (pa_cons pe_str (pa_cons pe_str pa_nil))) pa_nil))) (pa_cons (pe_tup (pa_cons pe_int (pa_cons (pe_tup (pa_cons pe_str (pa_cons pe_str pa_nil))) pa_nil))) (pa_cons (pe_tup (pa_cons pe_int (pa_cons (pe_tup (pa_cons pe_str (pa_cons pe_str (pa_cons pe_str pa_nil)))) pa_nil))) (pa_cons (pe_tup (pa_cons pe_int (pa_cons (pe_tup (pa_cons pe_str (pa_cons pe_str pa_nil))) pa_nil))) (pa_cons (pe_tup (pa_cons pe_int (pa_cons (pe_tup (pa_cons pe_str (pa_cons pe_str (pa_cons pe_str (pa_cons pe_str (pa_cons pe_str (pa_cons pe_str pa_nil))))))) pa_nil))) (pa_cons (pe_tup (pa_cons pe_int (pa_cons (pe_tup (pa_cons pe_str (pa_cons pe_str pa_nil))) pa_nil))) (pa_cons (pe_tup (pa_cons pe_int (pa_cons (pe_tup (pa_cons pe_str (pa_cons pe_str pa_nil))) pa_nil))) (pa_cons (pe_tup (pa_cons pe_int (pa_cons (pe_tup (pa_cons pe_str pa_nil)) pa_nil))) pa_nil))))))))))))))))))))
end B
namespace B
open PySem PySem.Spec PyProof.Rows L2
def n_power_by : List Str := ["thing", "times", "nothing", "then", "found"]
def p_power_by : List Str := ["thing", "times", "nothing", "then"]
theorem sc_power_by : FnScope n_power_by p_power_by (defScope K26.s_power_by) := ⟨rfl, rfl, rfl, by decide +kernel, rfl, by decide +kernel, by decide +kernel⟩
def t_power_by (K : PySem.W.Frag) (sp_effect_then : Sp) : TS := (tSeq (tAsg (tVar 2) (gName 4))
  (tSeq (tWhile (tTest (tOp rGtI (tVar 1) (tC (.int 0)))) (tSeq (tIfS (tTest (tOp (rEqU K) (tOp rModI (tVar 1) (tC (.int 2))) (tC (.int 1)))) (tAsg (tCallL 3 (He.ga K "effect_then") sp_effect_then [] E0 (tCons (tVar 4) (tCons (tVar 0) tNil))) (gName 4)) tNext)
  (tSeq (tAsg (tCallL 3 (He.ga K "effect_then") sp_effect_then [] E0 (tCons (tVar 0) (tCons (tVar 0) tNil))) (gName 0))
  (tAug 1 (tC (.int 2)) (rI CDivW fun i j => .int (i / j))))))
  (tRet (tVar 4))))
theorem w_power_by {P : Program} {w : World} {K : PySem.W.Frag} {mg : Str → Option Value} {base : Heap} {f : Addr} {cdv : Value} {A : Around} {outer : List Env} {s : Shared} {H : Hp} {E : XK} {k : Nat} (sp_effect_then : Sp) (W : Wd K mg)
    (hr : Room (k + 3) (A.deeper (envOfC "power_by" (defScope K26.s_power_by) s.heap.objs.size f cdv))) (F_effect_then : Fn P w K mg base k "effect_then" p_effect_then sp_effect_then) :
    PSs (cxOf CX0 P w K mg base n_power_by "power_by" (defScope K26.s_power_by) f cdv A outer s H E).nox (defBody K26.s_power_by) (t_power_by K sp_effect_then) := by
  have hr0 := hr.mono (Nat.le_add_right k 3)
  have hr1 : Room (k + 1) _ := hr.mono (by omega)
  have hu := huS hr
  have hu1 := huS1 hr
  exact (pss_cons (ps_set (i := 4) sc_power_by.nd rfl (Or.inl rfl) (pv 2))
    (pss_cons (ps_while PassesOwn.never (pt_cmpR op_gtI (pv 1) pe_int (nomark _)) (pss_cons (ps_if (pt_cmpR (op_eqU hu) (pe_op op_modI (pv 1) pe_int) pe_int (nomark _)) (pss_one (ps_set (i := 4) sc_power_by.nd rfl (Or.inl rfl) (pe_fl (x := "effect_then") F_effect_then (Nat.le_refl _) hr0 (i := 3) rfl (Or.inl rfl) (pa_cons (pv 4) (pa_cons (pv 0) pa_nil))))) pss_nil)
    (pss_cons (ps_set (i := 0) sc_power_by.nd rfl (Or.inl rfl) (pe_fl (x := "effect_then") F_effect_then (Nat.le_refl _) hr0 (i := 3) rfl (Or.inl rfl) (pa_cons (pv 0) (pa_cons (pv 0) pa_nil))))
    (pss_one (ps_aug (i := 1) sc_power_by.nd rfl (Or.inl rfl) pe_int (pip_of iop_fdivW))))))
    (pss_one (ps_ret (pv 4)))))
def n_first_stranger : List Str := ["row", "names", "part", "found"]
def p_first_stranger : List Str := ["row", "names"]
theorem sc_first_stranger : FnScope n_first_stranger p_first_stranger (defScope K26.s_first_stranger) := ⟨rfl, rfl, rfl, by decide +kernel, rfl, by decide +kernel, by decide +kernel⟩
def t_first_stranger (K : PySem.W.Frag) (sp_first_stranger : Sp) : TS := (tSeq (tFor (iTup K (tVar 0)) (gName 2) (tSeq (tAsg (tIf (tTest (tOp (rNinU K) (tVar 2) (tVar 1))) (tVar 2) (tC .non)) (gName 3))
  (tSeq (tIfS (tB (tCB (rIsi K) (tCons (tVar 2) (tCons (tC (.ty "tuple")) tNil)))) (tAsg (tCall sp_first_stranger [] E0 (tCons (tOp (rIxU K) (tVar 2) (tC (.int 0))) (tCons (tVar 1) tNil))) (gName 3)) tNext)
  (tIfS (tTest (tOp rIsNotNone (tVar 3) (tC .non))) (tRet (tVar 3)) tNext))))
  (tRet (tC .non)))
theorem w_first_stranger {P : Program} {w : World} {K : PySem.W.Frag} {mg : Str → Option Value} {base : Heap} {f : Addr} {cdv : Value} {A : Around} {outer : List Env} {s : Shared} {H : Hp} {E : XK} {k : Nat} (sp_first_stranger : Sp) (W : Wd K mg)
    (hr : Room (k + 3) (A.deeper (envOfC "first_stranger" (defScope K26.s_first_stranger) s.heap.objs.size f cdv))) (F_first_stranger : Fn P w K mg base k "first_stranger" p_first_stranger sp_first_stranger) :
    PSs (cxOf CX0 P w K mg base n_first_stranger "first_stranger" (defScope K26.s_first_stranger) f cdv A outer s H E).nox (defBody K26.s_first_stranger) (t_first_stranger K sp_first_stranger) := by
  have hr0 := hr.mono (Nat.le_add_right k 3)
  have hr1 : Room (k + 1) _ := hr.mono (by omega)
  have hu := huS hr
  have hu1 := huS1 hr
  exact (pss_cons (ps_for PassesOwn.never rfl (pi_tup (pv 0)) (pg_name (i := 2) sc_first_stranger.nd rfl (Or.inl rfl)) (pss_cons (ps_set (i := 3) sc_first_stranger.nd rfl (Or.inl rfl) (pe_ifExp (pt_cmpR (op_ninU hu) (pv 2) (pv 1) rfl) (pv 2) pe_non))
    (pss_cons (ps_if (pt_val (pe_callB call_isi rfl (W.free 50) boot_isinstance (pa_cons (pv 2) (pa_cons (pe_bltn rfl (W.free 55) boot_tuple rfl) pa_nil)))) (pss_one (ps_set (i := 3) sc_first_stranger.nd rfl (Or.inl rfl) (pe_f F_first_stranger (Nat.le_refl _) hr0 rfl (W.glo 5) (pa_cons (pe_ix (ix_U hu) (pv 2) pe_int fun _ _ => rfl) (pa_cons (pv 1) pa_nil))))) pss_nil)
    (pss_one (ps_if (pt_cmpR op_isNotNone (pv 3) pe_non (nomark _)) (pss_one (ps_ret (pv 3))) pss_nil)))))
    (pss_one (ps_ret pe_non)))
def n_need_names : List Str := ["row", "names", "stranger"]
def p_need_names : List Str := ["row", "names"]
theorem sc_need_names : FnScope n_need_names p_need_names (defScope K26.s_need_names) := ⟨rfl, rfl, rfl, by decide +kernel, rfl, by decide +kernel, by decide +kernel⟩
def t_need_names (K : PySem.W.Frag) (sp_first_stranger : Sp) : TS := (tSeq (tAsg (tCall sp_first_stranger [] E0 (tCons (tVar 0) (tCons (tVar 1) tNil))) (gName 2))
  (tIfS (tTest (tOp rIsNotNone (tVar 2) (tC .non))) tNever tNext))
theorem w_need_names {P : Program} {w : World} {K : PySem.W.Frag} {mg : Str → Option Value} {base : Heap} {f : Addr} {cdv : Value} {A : Around} {outer : List Env} {s : Shared} {H : Hp} {E : XK} {k : Nat} (sp_first_stranger : Sp) (W : Wd K mg)
    (hr : Room (k + 3) (A.deeper (envOfC "need_names" (defScope K26.s_need_names) s.heap.objs.size f cdv))) (F_first_stranger : Fn P w K mg base k "first_stranger" p_first_stranger sp_first_stranger) :
    PSs (cxOf CX0 P w K mg base n_need_names "need_names" (defScope K26.s_need_names) f cdv A outer s H E).nox (defBody K26.s_need_names) (t_need_names K sp_first_stranger) := by
  have hr0 := hr.mono (Nat.le_add_right k 3)
  have hr1 : Room (k + 1) _ := hr.mono (by omega)
  have hu := huS hr
  have hu1 := huS1 hr
  exact (pss_cons (ps_set (i := 2) sc_need_names.nd rfl (Or.inl rfl) (pe_f F_first_stranger (Nat.le_refl _) hr0 rfl (W.glo 5) (pa_cons (pv 0) (pa_cons (pv 1) pa_nil))))
    (pss_one (ps_if (pt_cmpR op_isNotNone (pv 2) pe_non (nomark _)) pss_never pss_nil)))
def n_made_by : List Str := ["row", "deeds", "nothing", "then", "found", "part", "inner"]
def p_made_by : List Str := ["row", "deeds", "nothing", "then"]
theorem sc_made_by : FnScope n_made_by p_made_by (defScope K26.s_made_by) := ⟨rfl, rfl, rfl, by decide +kernel, rfl, by decide +kernel, by decide +kernel⟩
def t_made_by (K : PySem.W.Frag) (sp_power_by sp_effect_then sp_made_by : Sp) : TS := (tSeq (tAsg (tVar 2) (gName 4))
  (tSeq (tFor (iTup K (tVar 0)) (gName 5) (tIfS (tB (tCB (rIsi K) (tCons (tVar 5) (tCons (tC (.ty "tuple")) tNil)))) (tSeq (tAsg (tCall sp_made_by [] E0 (tCons (tOp (rIxU K) (tVar 5) (tC (.int 0))) (tCons (tVar 1) (tCons (tVar 2) (tCons (tVar 3) tNil))))) (gName 6))
  (tAsg (tCallL 3 (He.ga K "effect_then") sp_effect_then [] E0 (tCons (tVar 4) (tCons (tCall sp_power_by [] E0 (tCons (tVar 6) (tCons (tOp (rIxU K) (tVar 5) (tC (.int 1))) (tCons (tVar 2) (tCons (tVar 3) tNil))))) tNil))) (gName 4))) (tAsg (tCallL 3 (He.ga K "effect_then") sp_effect_then [] E0 (tCons (tVar 4) (tCons (tOp (rIxU K) (tVar 1) (tVar 5)) tNil))) (gName 4))))
  (tRet (tVar 4))))
theorem w_made_by {P : Program} {w : World} {K : PySem.W.Frag} {mg : Str → Option Value} {base : Heap} {f : Addr} {cdv : Value} {A : Around} {outer : List Env} {s : Shared} {H : Hp} {E : XK} {k : Nat} (sp_power_by sp_effect_then sp_made_by : Sp) (W : Wd K mg)
    (hr : Room (k + 3) (A.deeper (envOfC "made_by" (defScope K26.s_made_by) s.heap.objs.size f cdv))) (F_power_by : Fn P w K mg base k "power_by" p_power_by sp_power_by) (F_effect_then : Fn P w K mg base k "effect_then" p_effect_then sp_effect_then) (F_made_by : Fn P w K mg base k "made_by" p_made_by sp_made_by) :
    PSs (cxOf CX0 P w K mg base n_made_by "made_by" (defScope K26.s_made_by) f cdv A outer s H E).nox (defBody K26.s_made_by) (t_made_by K sp_power_by sp_effect_then sp_made_by) := by
  have hr0 := hr.mono (Nat.le_add_right k 3)
  have hr1 : Room (k + 1) _ := hr.mono (by omega)
  have hu := huS hr
  have hu1 := huS1 hr
  exact (pss_cons (ps_set (i := 4) sc_made_by.nd rfl (Or.inl rfl) (pv 2))
    (pss_cons (ps_for PassesOwn.never rfl (pi_tup (pv 0)) (pg_name (i := 5) sc_made_by.nd rfl (Or.inl rfl)) (pss_one (ps_if (pt_val (pe_callB call_isi rfl (W.free 50) boot_isinstance (pa_cons (pv 5) (pa_cons (pe_bltn rfl (W.free 55) boot_tuple rfl) pa_nil)))) (pss_cons (ps_set (i := 6) sc_made_by.nd rfl (Or.inl rfl) (pe_f F_made_by (Nat.le_refl _) hr0 rfl (W.glo 10) (pa_cons (pe_ix (ix_U hu) (pv 5) pe_int fun _ _ => rfl) (pa_cons (pv 1) (pa_cons (pv 2) (pa_cons (pv 3) pa_nil))))))
    (pss_one (ps_set (i := 4) sc_made_by.nd rfl (Or.inl rfl) (pe_fl (x := "effect_then") F_effect_then (Nat.le_refl _) hr0 (i := 3) rfl (Or.inl rfl) (pa_cons (pv 4) (pa_cons (pe_f F_power_by (Nat.le_refl _) hr0 rfl (W.glo 9) (pa_cons (pv 6) (pa_cons (pe_ix (ix_U hu) (pv 5) pe_int fun _ _ => rfl) (pa_cons (pv 2) (pa_cons (pv 3) pa_nil))))) pa_nil)))))) (pss_one (ps_set (i := 4) sc_made_by.nd rfl (Or.inl rfl) (pe_fl (x := "effect_then") F_effect_then (Nat.le_refl _) hr0 (i := 3) rfl (Or.inl rfl) (pa_cons (pv 4) (pa_cons (pe_ix (ix_U hu) (pv 1) (pv 5) fun _ _ => rfl) pa_nil))))))))
    (pss_one (ps_ret (pv 4)))))
def n_row_effect : List Str := ["machine", "row"]
def p_row_effect : List Str := ["machine", "row"]
theorem sc_row_effect : FnScope n_row_effect p_row_effect (defScope K26.s_row_effect) := ⟨rfl, rfl, rfl, by decide +kernel, rfl, by decide +kernel, by decide +kernel⟩
def t_row_effect (K : PySem.W.Frag) (sp_made_by sp_need_names : Sp) : TS := (tSeq (tDrop (tCall sp_need_names [] E0 (tCons (tVar 1) (tCons (tFld K (tVar 0) "names") tNil))))
  (tRet (tCall sp_made_by [] E0 (tCons (tVar 1) (tCons (tCB rDictT (tCons (tFld K (tVar 0) "deeds") tNil)) (tCons (tTupRg (tRg1 (tFld K (tVar 0) "size"))) (tCons (tC (.ref (He.ga K "effect_then"))) tNil)))))))
theorem w_row_effect {P : Program} {w : World} {K : PySem.W.Frag} {mg : Str → Option Value} {base : Heap} {f : Addr} {cdv : Value} {A : Around} {outer : List Env} {s : Shared} {H : Hp} {E : XK} {k : Nat} (sp_made_by sp_need_names : Sp) (W : Wd K mg)
    (hr : Room (k + 3) (A.deeper (envOfC "row_effect" (defScope K26.s_row_effect) s.heap.objs.size f cdv))) (F_made_by : Fn P w K mg base k "made_by" p_made_by sp_made_by) (F_need_names : Fn P w K mg base k "need_names" p_need_names sp_need_names) :
    PSs (cxOf CX0 P w K mg base n_row_effect "row_effect" (defScope K26.s_row_effect) f cdv A outer s H E).nox (defBody K26.s_row_effect) (t_row_effect K sp_made_by sp_need_names) := by
  have hr0 := hr.mono (Nat.le_add_right k 3)
  have hr1 : Room (k + 1) _ := hr.mono (by omega)
  have hu := huS hr
  have hu1 := huS1 hr
  exact (pss_cons (ps_expr (pe_f F_need_names (Nat.le_refl _) hr0 rfl (W.glo 6) (pa_cons (pv 1) (pa_cons (pe_fld (pv 0) rfl) pa_nil))))
    (pss_one (ps_ret (pe_f F_made_by (Nat.le_refl _) hr0 rfl (W.glo 10) (pa_cons (pv 1) (pa_cons (pe_callTy (call_dictPT rfl) rfl (W.free 60) boot_dict (pa_cons (pe_fld (pv 0) rfl) pa_nil)) (pa_cons (pe_tupRg rfl rfl (W.free 55) (prg_1 rfl (W.free 61) (pe_fld (pv 0) rfl))) (pa_cons (pe_glob rfl (W.glo 8) rfl) pa_nil))))))))
def n_exchange_states : List Str := ["machine", "one", "other", "first", "second", "state"]
def p_exchange_states : List Str := ["machine", "one", "other"]
theorem sc_exchange_states : FnScope n_exchange_states p_exchange_states (defScope K26.s_exchange_states) := ⟨rfl, rfl, rfl, by decide +kernel, rfl, by decide +kernel, by decide +kernel⟩
def t_exchange_states (K : PySem.W.Frag) (sp_row_effect : Sp) : TS := (tSeq (tAsg (tCall sp_row_effect [] E0 (tCons (tVar 0) (tCons (tVar 1) tNil))) (gName 3))
  (tSeq (tAsg (tCall sp_row_effect [] E0 (tCons (tVar 0) (tCons (tVar 2) tNil))) (gName 4))
  (tRet (tThen (tLc (iRng1 (tCons (tFld K (tVar 0) "size") tNil)) (gName 5) (tTest (tOp (rEqU K) (tOp (rIxU K) (tVar 4) (tOp (rIxU K) (tVar 3) (tVar 5))) (tOp (rIxU K) (tVar 3) (tOp (rIxU K) (tVar 4) (tVar 5))))) (tVar 5) [5]) (kTup K)))))
theorem w_exchange_states {P : Program} {w : World} {K : PySem.W.Frag} {mg : Str → Option Value} {base : Heap} {f : Addr} {cdv : Value} {A : Around} {outer : List Env} {s : Shared} {H : Hp} {E : XK} {k : Nat} (sp_row_effect : Sp) (W : Wd K mg)
    (hr : Room (k + 3) (A.deeper (envOfC "exchange_states" (defScope K26.s_exchange_states) s.heap.objs.size f cdv))) (F_row_effect : Fn P w K mg base k "row_effect" p_row_effect sp_row_effect) :
    PSs (cxOf CX0 P w K mg base n_exchange_states "exchange_states" (defScope K26.s_exchange_states) f cdv A outer s H E).nox (defBody K26.s_exchange_states) (t_exchange_states K sp_row_effect) := by
  have hr0 := hr.mono (Nat.le_add_right k 3)
  have hr1 : Room (k + 1) _ := hr.mono (by omega)
  have hu := huS hr
  have hu1 := huS1 hr
  exact (pss_cons (ps_set (i := 3) sc_exchange_states.nd rfl (Or.inr rfl) (pe_f F_row_effect (Nat.le_refl _) hr0 rfl (W.glo 11) (pa_cons (pv 0) (pa_cons (pv 1) pa_nil))))
    (pss_cons (ps_set (i := 4) sc_exchange_states.nd rfl (Or.inr rfl) (pe_f F_row_effect (Nat.le_refl _) hr0 rfl (W.glo 11) (pa_cons (pv 0) (pa_cons (pv 2) pa_nil))))
    (pss_one (ps_ret (pe_tupleOf rfl (W.free 55) (pe_lc (own := [("state", 5)]) rfl sc_exchange_states.nd (pi_range1 rfl (W.free 61) (pa_cons (pe_fld (pv 0) rfl) pa_nil)) (blkOk_by (N := n_exchange_states) (sc := defScope K26.s_exchange_states) (by decide +kernel)) (fun _ _ _ _ _ => (pg_name (i := 5) sc_exchange_states.nd rfl (by first | exact Or.inl rfl | exact Or.inr rfl))) (fun _ _ _ _ _ => (pts_one (pt_cmpR (op_eqU hu) (pe_ix (ix_U hu) (pv 4) (pe_ix (ix_U hu) (pv 3) (pv 5) fun _ _ => rfl) fun _ _ => rfl) (pe_ix (ix_U hu) (pv 3) (pe_ix (ix_U hu) (pv 4) (pv 5) fun _ _ => rfl) fun _ _ => rfl) (nomark _)))) (fun _ _ _ _ _ => (pv 5))))))))
def n_is_deed : List Str := ["value", "earlier", "name", "images", "image", "deed"]
def p_is_deed : List Str := ["value", "earlier"]
theorem sc_is_deed : FnScope n_is_deed p_is_deed (defScope K26.s_is_deed) := ⟨rfl, rfl, rfl, by decide +kernel, rfl, by decide +kernel, by decide +kernel⟩
def t_is_deed (K : PySem.W.Frag) (sp_is_below sp_is_sequence sp_is_name : Sp) : TS := (tSeq (tIfS (tOr (tNot (tB (tCB (rIsi K) (tCons (tVar 0) (tCons (tC (.ty "tuple")) tNil))))) (tOr (tTest (tOp (rNeU K) (tCB (rLenU K) (tCons (tVar 0) tNil)) (tC (.int 2)))) (tNot (tB (tCall sp_is_name [] E0 (tCons (tOp (rIxU K) (tVar 0) (tC (.int 0))) tNil)))))) (tRet (tC (.bl false))) tNext)
  (tSeq (tAsg (tVar 0) (gTup K 2 (gCons (gName 2) (gCons (gName 3) gNil))))
  (tSeq (tIfS (tOr (tTest (tOp (rInU K) (tVar 2) (tLc (iList K (tVar 1)) (gName 5) tYes (tOp (rIxU K) (tVar 5) (tC (.int 0))) [5]))) (tNot (tB (tCall sp_is_sequence [] E0 (tCons (tVar 3) tNil))))) (tRet (tC (.bl false))) tNext)
  (tSeq (tIfS (tOr (tNot (tTest (tChain rLeI rLeI (tC (.int 2)) (tCB (rLenU K) (tCons (tVar 3) tNil)) (tC (.int 49))))) (tAnd (tTest (tOp (rNeU K) (tVar 1) (tLst tNil))) (tTest (tOp (rNeU K) (tCB (rLenU K) (tCons (tVar 3) tNil)) (tCB (rLenU K) (tCons (tOp (rIxU K) (tOp (rIxU K) (tVar 1) (tC (.int 0))) (tC (.int 1))) tNil)))))) (tRet (tC (.bl false))) tNext)
  (tRet (tCB (rAll K) (tCons (tLc (iTup K (tVar 3)) (gName 4) tYes (tCall sp_is_below [] E0 (tCons (tVar 4) (tCons (tCB (rLenU K) (tCons (tVar 3) tNil)) tNil))) [4]) tNil)))))))
theorem w_is_deed {P : Program} {w : World} {K : PySem.W.Frag} {mg : Str → Option Value} {base : Heap} {f : Addr} {cdv : Value} {A : Around} {outer : List Env} {s : Shared} {H : Hp} {E : XK} {k : Nat} (sp_is_below sp_is_sequence sp_is_name : Sp) (W : Wd K mg)
    (hr : Room (k + 3) (A.deeper (envOfC "is_deed" (defScope K26.s_is_deed) s.heap.objs.size f cdv))) (F_is_below : Fn P w K mg base k "is_below" p_is_below sp_is_below) (F_is_sequence : Fn P w K mg base k "is_sequence" p_is_sequence sp_is_sequence) (F_is_name : Fn P w K mg base k "is_name" p_is_name sp_is_name) :
    PSs (cxOf CX0 P w K mg base n_is_deed "is_deed" (defScope K26.s_is_deed) f cdv A outer s H E).nox (defBody K26.s_is_deed) (t_is_deed K sp_is_below sp_is_sequence sp_is_name) := by
  have hr0 := hr.mono (Nat.le_add_right k 3)
  have hr1 : Room (k + 1) _ := hr.mono (by omega)
  have hu := huS hr
  have hu1 := huS1 hr
  exact (pss_cons (ps_if (PW.pt (pw_or (pt_not (pt_val (pe_callB call_isi rfl (W.free 50) boot_isinstance (pa_cons (pv 0) (pa_cons (pe_bltn rfl (W.free 55) boot_tuple rfl) pa_nil))))) (pw_or (pt_cmpR (op_neU hu) (pe_callB call_lenU rfl (W.free 56) boot_len (pa_cons (pv 0) pa_nil)) pe_int (nomark _)) (pw_or1 (pt_not (pt_val (pe_f F_is_name (Nat.le_refl _) hr0 rfl (W.glo 4) (pa_cons (pe_ix (ix_U hu) (pv 0) pe_int fun _ _ => rfl) pa_nil)))))))) (pss_one (ps_ret pe_bl)) pss_nil)
    (pss_cons (ps_asg (pv 0) (pg_tup rfl (pgs_cons (pg_name (i := 2) sc_is_deed.nd rfl (Or.inl rfl)) (pgs_cons (pg_name (i := 3) sc_is_deed.nd rfl (Or.inr rfl)) pgs_nil))))
    (pss_cons (ps_if (PW.pt (pw_or (pt_cmpR (op_inU hu) (pv 2) (pe_lc (own := [("deed", 5)]) rfl sc_is_deed.nd (pi_list (pv 1)) (blkOk_by (N := n_is_deed) (sc := defScope K26.s_is_deed) (by decide +kernel)) (fun _ _ _ _ _ => (pg_name (i := 5) sc_is_deed.nd rfl (by first | exact Or.inl rfl | exact Or.inr rfl))) (fun _ _ _ _ _ => pts_nil) (fun _ _ _ _ _ => (pe_ix (ix_U hu) (pv 5) pe_int fun _ _ => rfl))) rfl) (pw_or1 (pt_not (pt_val (pe_f F_is_sequence (Nat.le_refl _) hr0 rfl (W.glo 3) (pa_cons (pv 3) pa_nil))))))) (pss_one (ps_ret pe_bl)) pss_nil)
    (pss_cons (ps_if (PW.pt (pw_or (pt_not (pt_chain op_leI op_leI pe_int (pe_callB call_lenU rfl (W.free 56) boot_len (pa_cons (pv 3) pa_nil)) (pe_gint rfl (W.int 68)))) (pw_or1 (PW.pt (pw_and (pt_cmpR (op_neU hu) (pv 1) (pe_lst pa_nil) (nomark _)) (pw_and1 (pt_cmpR (op_neU hu) (pe_callB call_lenU rfl (W.free 56) boot_len (pa_cons (pv 3) pa_nil)) (pe_callB call_lenU rfl (W.free 56) boot_len (pa_cons (pe_ix (ix_U hu) (pe_ix (ix_U hu) (pv 1) pe_int fun _ _ => rfl) pe_int fun _ _ => rfl) pa_nil)) (nomark _)))))))) (pss_one (ps_ret pe_bl)) pss_nil)
    (pss_one (ps_ret (pe_callB (cr_all rfl) rfl (W.free 57) boot_all (pa_cons (pe_lc (own := [("image", 4)]) rfl sc_is_deed.nd (pi_tup (pv 3)) (blkOk_by (N := n_is_deed) (sc := defScope K26.s_is_deed) (by decide +kernel)) (fun _ _ _ _ _ => (pg_name (i := 4) sc_is_deed.nd rfl (by first | exact Or.inl rfl | exact Or.inr rfl))) (fun _ _ _ _ _ => pts_nil) (fun _ _ _ _ _ => (pe_f F_is_below (Nat.le_refl _) hr0 rfl (W.glo 1) (pa_cons (pv 4) (pa_cons (pe_callB call_lenU rfl (W.free 56) boot_len (pa_cons (pv 3) pa_nil)) pa_nil))))) pa_nil))))))))
def n_init : List Str := ["self", "deeds", "found", "at", "deed"]
def p_init : List Str := ["self", "deeds"]
theorem sc_init : FnScope n_init p_init (defScope K26.s_init) := ⟨rfl, rfl, rfl, by decide +kernel, rfl, by decide +kernel, by decide +kernel⟩
def t_init (K : PySem.W.Frag) (sp_is_deed sp_is_sequence : Sp) : TS := (tSeq (tIfS (tOr (tNot (tB (tCall sp_is_sequence [] E0 (tCons (tVar 1) tNil)))) (tNot (tTest (tChain rLeI rLeI (tC (.int 1)) (tCB (rLenU K) (tCons (tVar 1) tNil)) (tC (.int 8)))))) tNever tNext)
  (tSeq (tAsg (tLst tNil) (gName 2))
  (tSeq (tFor (iEnum K (tCons (tVar 1) tNil)) (gTup K 2 (gCons (gName 3) (gCons (gName 4) gNil))) (tSeq (tIfS (tNot (tB (tCall sp_is_deed [] E0 (tCons (tVar 4) (tCons (tVar 2) tNil))))) tNever tNext)
  (tDrop (tBM K "list" rAppend (tVar 2) (tCons (tTup (tCons (tOp (rIxU K) (tVar 4) (tC (.int 0))) (tCons (tThen (tOp (rIxU K) (tVar 4) (tC (.int 1))) (kTup K)) tNil))) tNil)))))
  (tSeq (sFld K (tVar 0) (tThen (tVar 2) (kTupF K)) "deeds")
  (tSeq (sFld K (tVar 0) (tThen (tLc (iList K (tVar 2)) (gName 4) tYes (tOp (rIxU K) (tVar 4) (tC (.int 0))) [4]) (kTup K)) "names")
  (sFld K (tVar 0) (tCB (rLenU K) (tCons (tOp (rIxU K) (tOp (rIxU K) (tVar 2) (tC (.int 0))) (tC (.int 1))) tNil)) "size"))))))
theorem w_init {P : Program} {w : World} {K : PySem.W.Frag} {mg : Str → Option Value} {base : Heap} {f : Addr} {cdv : Value} {A : Around} {outer : List Env} {s : Shared} {H : Hp} {E : XK} {k : Nat} (sp_is_deed sp_is_sequence : Sp) (W : Wd K mg)
    (hr : Room (k + 3) (A.deeper (envOfC "Machine.__init__" (defScope K26.s_init) s.heap.objs.size f cdv))) (F_is_deed : Fn P w K mg base k "is_deed" p_is_deed sp_is_deed) (F_is_sequence : Fn P w K mg base k "is_sequence" p_is_sequence sp_is_sequence) :
    PSs (cxOf CX0 P w K mg base n_init "Machine.__init__" (defScope K26.s_init) f cdv A outer s H E).nox (defBody K26.s_init) (t_init K sp_is_deed sp_is_sequence) := by
  have hr0 := hr.mono (Nat.le_add_right k 3)
  have hr1 : Room (k + 1) _ := hr.mono (by omega)
  have hu := huS hr
  have hu1 := huS1 hr
  exact (pss_cons (ps_if (PW.pt (pw_or (pt_not (pt_val (pe_f F_is_sequence (Nat.le_refl _) hr0 rfl (W.glo 3) (pa_cons (pv 1) pa_nil)))) (pw_or1 (pt_not (pt_chain op_leI op_leI pe_int (pe_callB call_lenU rfl (W.free 56) boot_len (pa_cons (pv 1) pa_nil)) (pe_gint rfl (W.int 69))))))) pss_never pss_nil)
    (pss_cons (ps_set (i := 2) sc_init.nd rfl (Or.inl rfl) (pe_lst pa_nil))
    (pss_cons (ps_for PassesOwn.never rfl (pi_enum rfl (W.free 59) (pa_cons (pv 1) pa_nil)) (pg_tup rfl (pgs_cons (pg_name (i := 3) sc_init.nd rfl (Or.inl rfl)) (pgs_cons (pg_name (i := 4) sc_init.nd rfl (Or.inl rfl)) pgs_nil))) (pss_cons (ps_if (pt_not (pt_val (pe_f F_is_deed (Nat.le_refl _) hr0 rfl (W.glo 7) (pa_cons (pv 4) (pa_cons (pv 2) pa_nil))))) pss_never pss_nil)
    (pss_one (ps_expr (pe_bm PySem.F.plainAttrs_list PySem.F.slot_list_append PySem.F.type_list_append mt_append (pv 2) (pa_cons (pe_tup (pa_cons (pe_ix (ix_U hu) (pv 4) pe_int fun _ _ => rfl) (pa_cons (pe_tupleOf rfl (W.free 55) (pe_ix (ix_U hu) (pv 4) pe_int fun _ _ => rfl)) pa_nil))) pa_nil))))))
    (pss_cons (ps_fld (pv 0) (pe_tupleF rfl (W.free 55) (pv 2)) rfl)
    (pss_cons (ps_fld (pv 0) (pe_tupleOf rfl (W.free 55) (pe_lc (own := [("deed", 4)]) rfl sc_init.nd (pi_list (pv 2)) (blkOk_by (N := n_init) (sc := defScope K26.s_init) (by decide +kernel)) (fun _ _ _ _ _ => (pg_name (i := 4) sc_init.nd rfl (by first | exact Or.inl rfl | exact Or.inr rfl))) (fun _ _ _ _ _ => pts_nil) (fun _ _ _ _ _ => (pe_ix (ix_U hu) (pv 4) pe_int fun _ _ => rfl)))) rfl)
    (pss_one (ps_fld (pv 0) (pe_callB call_lenU rfl (W.free 56) boot_len (pa_cons (pe_ix (ix_U hu) (pe_ix (ix_U hu) (pv 2) pe_int fun _ _ => rfl) pe_int fun _ _ => rfl) pa_nil)) rfl)))))))
end B
/-! each def keeps its promise: what they share. -/
namespace B
open PySem PySem.Spec PyProof.Rows L2
theorem reps_len {T : TL} : ∀ {ms : List MP} {vs : List V}, Reps T ms vs → vs.length = ms.length
  | [], [], _ => rfl
  | _ :: _, _ :: _, ⟨_, s⟩ => congrArg Nat.succ (reps_len s)
  | [], _ :: _, z => z.elim
  | _ :: _, [], z => z.elim
theorem reps1 {T : TL} {m : MP} {vs : List V} (h : Reps T [m] vs) : ∃ v, vs = [v] ∧ m.p T v := match vs, h with
  | [v], ⟨a, _⟩ => ⟨v, rfl, a⟩
theorem reps2 {T : TL} {m n : MP} {vs : List V} (h : Reps T [m, n] vs) : ∃ v w, vs = [v, w] ∧ m.p T v ∧ n.p T w := match vs, h with
  | [v, w], ⟨a, b, _⟩ => ⟨v, w, rfl, a, b⟩
theorem reps3 {T : TL} {m n o : MP} {vs : List V} (h : Reps T [m, n, o] vs) : ∃ v w u, vs = [v, w, u] ∧ m.p T v ∧ n.p T w ∧ o.p T u := match vs, h with
  | [v, w, u], ⟨a, b, c, _⟩ => ⟨v, w, u, rfl, a, b, c⟩
theorem reps4 {T : TL} {m n o q : MP} {vs : List V} (h : Reps T [m, n, o, q] vs) : ∃ v w u z, vs = [v, w, u, z] ∧ m.p T v ∧ n.p T w ∧ o.p T u ∧ q.p T z := match vs, h with
  | [v, w, u, z], ⟨a, b, c, d, _⟩ => ⟨v, w, u, z, rfl, a, b, c, d⟩
section
variable {P : Program} {w : World} {K : PySem.W.Frag} {mg : Str → Option Value} {base : Heap}
theorem fn_ok {N ps : List Str} {sp : Sp} {k : Nat} {x : Str} {st : Stmt} (W : Wd K mg) (i : Nat) (S : FnScope N ps (defScope st)) (len : ∀ vs H Q E, sp vs H Q E → vs.length = ps.length)
    (hb : ∀ (kV doc pm : Value) (an : Option Addr) (cdv ct : Value) (us : List Value), us.length = ps.length → bindArgs (PySem.W.fnOf x x (defArgs st) (defBody st) (defScope st) .none kV doc pm an cdv ct) ⟨us, []⟩ = pure (ps.zip us))
    (h : ∀ (f : Addr) (cdv : Value) (A : Around) (outer : List Env) (s : Shared) (H : Hp) (vs : List V) (Q : VK) (E : XK), Room (k + 3) (A.deeper (envOfC x (defScope st) s.heap.objs.size f cdv)) → sp vs H Q E →
      ∃ t, PSs (cxOf CX0 P w K mg base N x (defScope st) f cdv A outer s H E).nox (defBody st) t ∧ t { nx := fun _ H' => Q .non H', rt := Q } (start N vs) H)
    (hd : K26.fn[i]? = some ⟨(x, none), x, x, defArgs st, defBody st, defScope st, [], []⟩ := by rfl) : Fn P w K mg base (k + 4) x ps sp := by
  obtain ⟨fd, F⟩ := W.c.def_ i hd
  have F : FunD K x x (defArgs st) (defBody st) (defScope st) [] [] (He.ga K x) fd := F
  exact ⟨fd, F.ok S len fun cdv A outer s H vs Q E hr hsp => let ⟨t, a, b⟩ := h (He.ga K x) cdv A outer s H vs Q E hr hsp; ⟨t, a.nox, b⟩, F.kp, F.bindsN hb⟩
theorem fnk_ok {N ps : List Str} {sp : Sp} {k : Nat} {x : Str} {st : Stmt} {z : Int} (W : Wd K mg) (i n : Nat) (S : FnScope N ps (defScope st)) (hn : n + 1 = ps.length) (len : ∀ vs H Q E, sp vs H Q E → vs.length = ps.length)
    (hb : ∀ (D : Addr) (doc pm : Value) (an : Option Addr) (cdv ct : Value) (us ks : List Value), us.length = n → ks.length = 1 →
      KwChain D ((["most"] : List Str).zip ks) (bindArgs (PySem.W.fnOf x x (defArgs st) (defBody st) (defScope st) .none (.ref D) doc pm an cdv ct) ⟨us, []⟩) (ps.zip (us ++ ks)))
    (hb2 : ∀ (D : Addr) (doc pm : Value) (an : Option Addr) (cdv ct : Value) (us ws : List Value), us.length = n → ws.length = 1 →
      bindArgs (PySem.W.fnOf x x (defArgs st) (defBody st) (defScope st) .none (.ref D) doc pm an cdv ct) ⟨us, (["most"] : List Str).zip ws⟩ = pure (ps.zip (us ++ ws)))
    (h : ∀ (f : Addr) (cdv : Value) (A : Around) (outer : List Env) (s : Shared) (H : Hp) (vs : List V) (Q : VK) (E : XK), Room (k + 3) (A.deeper (envOfC x (defScope st) s.heap.objs.size f cdv)) → sp vs H Q E →
      ∃ t, PSs (cxOf CX0 P w K mg base N x (defScope st) f cdv A outer s H E).nox (defBody st) t ∧ t { nx := fun _ H' => Q .non H', rt := Q } (start N vs) H)
    (hd : K26.fn[i]? = some ⟨(x, none), x, x, defArgs st, defBody st, defScope st, [], [("most", .int z)]⟩ := by rfl) : FnK P w K mg base (k + 4) x ps n ["most"] [.int z] sp := by
  obtain ⟨fd, F⟩ := W.c.def_ i hd
  have F : FunD K x x (defArgs st) (defBody st) (defScope st) [] [("most", .int z)] (He.ga K x) fd := F
  obtain ⟨ds, hds, hbi⟩ := F.binds0 (ps := ps) n (by simp) hn hb
  obtain ⟨mv, kb⟩ := F.kbinds0 (ps := ps) n ["most"] [] (fun us _ ws => us ++ ws) (by simp) (by simp) (fun r1 _ r2 => r1.append r2) (fun D doc pm an cdv ct us mv ws h1 h2 h3 => by
    cases mv with
    | nil => exact hb2 D doc pm an cdv ct us ws h1 h3
    | cons => cases h2)
  exact ⟨fd, F.ok S len fun cdv A outer s H vs Q E hr hsp => let ⟨t, a, b⟩ := h (He.ga K x) cdv A outer s H vs Q E hr hsp; ⟨t, a.nox, b⟩, F.kp, ⟨ds, hds, hbi⟩, kb⟩
theorem spP_len {ι β : Type} [Enc β] {pre : ι → Hp → Prop} {ms : ι → List MP} {res : ι → β} {n : Nat} (h : ∀ i, (ms i).length = n) (vs : List V) (H : Hp) (Q : VK) (E : XK) (z : spP pre ms res vs H Q E) : vs.length = n := by
  obtain ⟨i, _, r, _⟩ := z
  rw [reps_len r, h i]
theorem spL_len {ι β : Type} [Enc β] {pre : ι → Hp → Prop} {ms : ι → List MP} {res : ι → List β} {n : Nat} (h : ∀ i, (ms i).length = n) (vs : List V) (H : Hp) (Q : VK) (E : XK) (z : spL pre ms res vs H Q E) : vs.length = n := by
  obtain ⟨i, _, r, _⟩ := z
  rw [reps_len r, h i]
end
/-! ### effects -/
def thn (one other : List Nat) : List Nat := one.map fun s => other.getD s 0
theorem getD_at {xs : List Nat} {i : Nat} (h : i < xs.length) : xs[i]? = some (xs.getD i 0) := by
  rw [List.getD_eq_getElem?_getD, List.getElem?_eq_getElem h]; rfl
def spThen : Sp := spP (ι := List Nat × List Nat) (fun i _ => i.1.length ≤ 1000000 ∧ ∀ s ∈ i.1, s < i.2.length) (fun i => [mp i.1, mp i.2]) fun i => thn i.1 i.2
section
variable {P : Program} {w : World} {K : PySem.W.Frag} {mg : Str → Option Value} {base : Heap}
theorem ok_effect_then (W : Wd K mg) : Fn P w K mg base 4 "effect_then" p_effect_then spThen := by
  refine fn_ok (k := 0) W 8 sc_effect_then (spP_len fun _ => rfl) (fun _ _ _ _ _ _ us hl => match us, hl with | [_, _], _ => rfl) fun f cdv A outer s H vs Q E hr h => ⟨_, w_effect_then W hr, ?_⟩
  obtain ⟨⟨one, other⟩, ⟨hl, hb⟩, hr', hq⟩ := h
  obtain ⟨v0, v1, rfl, r0, r1⟩ := reps2 hr'
  show tRet _ _ _ _
  refine k_ret (Rl := Ex) (a := thn one other) (e_tupleNew (e_lcM _ fr_ex (ws_tup (e_var rfl r0)) hl fun x v H1 hx e1 y => e_ixT (e_var rfl (up e1 r1)) (e_var rfl y) (getD_at (hb x hx)))) hq
theorem ok_law_then (W : Wd K mg) : Fn P w K mg base 4 "_law_then" p_law_then spThen := by
  refine fn_ok (k := 0) W 37 sc_law_then (spP_len fun _ => rfl) (fun _ _ _ _ _ _ us hl => match us, hl with | [_, _], _ => rfl) fun f cdv A outer s H vs Q E hr h => ⟨_, w_law_then W hr, ?_⟩
  obtain ⟨⟨one, other⟩, ⟨hl, hb⟩, hr', hq⟩ := h
  obtain ⟨v0, v1, rfl, r0, r1⟩ := reps2 hr'
  show tRet _ _ _ _
  refine k_ret (Rl := Ex) (a := thn one other) (e_tupleNew (e_lcM _ fr_ex (ws_tup (e_var rfl r0)) hl fun x v H1 hx e1 y => e_ixT (e_var rfl (up e1 r1)) (e_var rfl y) (getD_at (hb x hx)))) hq
end
end B
/-! the plain defs. -/
namespace B
open PySem PySem.Spec PyProof.Rows L2
/-! ### lots -/
def within (one other : List Nat) : Bool := one.all fun t => decide (t ∈ other)
def without (n : Nat) (lot : List Nat) : List Nat := (List.range n).filter fun s => !decide (s ∈ lot)
def shared (one other : List Nat) : List Nat := (List.range one.length).filter fun s => decide (other.getD (one.getD s 0) 0 = one.getD (other.getD s 0) 0)
def Eff (n : Nat) (f : List Nat) : Prop := f.length = n ∧ ∀ s ∈ f, s < n
theorem Eff.at {n : Nat} {f : List Nat} (h : Eff n f) {s : Nat} (hs : s < n) : f[s]? = some (f.getD s 0) := getD_at (by rw [h.1]; exact hs)
theorem Eff.lt {n : Nat} {f : List Nat} (h : Eff n f) {s : Nat} (hs : s < n) : f.getD s 0 < n := h.2 _ (List.mem_of_getElem? (h.at hs))
theorem mapIdx_range {α : Type} (d : α) : ∀ xs : List α, xs.mapIdx (fun i x => (i, x)) = (List.range xs.length).map fun i => (i, xs.getD i d) := fun xs => by
  apply List.ext_getElem?
  intro i
  rw [List.getElem?_mapIdx, List.getElem?_map]
  by_cases h : i < xs.length
  · rw [List.getElem?_range h, List.getElem?_eq_getElem h, Option.map_some, Option.map_some, List.getD_eq_getElem?_getD, List.getElem?_eq_getElem h]; rfl
  · rw [List.getElem?_eq_none (by omega), List.getElem?_eq_none (by rw [List.length_range]; omega)]; rfl
theorem shared_eq (one other : List Nat) : ((one.mapIdx fun i x => (i, x)).filter fun p : Nat × Nat => decide (other.getD p.2 0 = one.getD (other.getD p.1 0) 0)).map (fun p : Nat × Nat => p.1) = shared one other := by
  rw [mapIdx_range 0, List.filter_map, List.map_map]
  unfold shared
  have : ((fun p : Nat × Nat => p.1) ∘ fun i => (i, one.getD i 0)) = id := rfl
  rw [this, List.map_id]
  rfl
def spWithin : Sp := spP (ι := List Nat × List Nat) (fun i _ => i.1.length ≤ 1000000) (fun i => [mp i.1, mp i.2]) fun i => within i.1 i.2
def spWithout : Sp := spP (ι := Nat × List Nat) (fun i _ => i.1 ≤ 1000000) (fun i => [mp i.1, mp i.2]) fun i => without i.1 i.2
def spShared : Sp := spP (ι := List Nat × List Nat) (fun i _ => i.1.length ≤ 1000000 ∧ Eff i.1.length i.1 ∧ Eff i.1.length i.2) (fun i => [mp i.1, mp i.2]) fun i => shared i.1 i.2
def meets (one other : List Nat) (s : Nat) : Bool := decide (other.getD (one.getD s 0) 0 = one.getD (other.getD s 0) 0)
def spMeets : Sp := spP (ι := Nat × List Nat × List Nat × Nat) (fun i _ => Eff i.1 i.2.1 ∧ Eff i.1 i.2.2.1 ∧ i.2.2.2 < i.1) (fun i => [mp i.2.1, mp i.2.2.1, mp i.2.2.2]) fun i => meets i.2.1 i.2.2.1 i.2.2.2
section
variable {P : Program} {w : World} {K : PySem.W.Frag} {mg : Str → Option Value} {base : Heap}
theorem ok_lot_within (W : Wd K mg) : Fn P w K mg base 4 "lot_within" p_lot_within spWithin := by
  refine fn_ok (k := 0) W 15 sc_lot_within (spP_len fun _ => rfl) (fun _ _ _ _ _ _ us hl => match us, hl with | [_, _], _ => rfl) fun f cdv A outer s H vs Q E hr h => ⟨_, w_lot_within W hr, ?_⟩
  obtain ⟨⟨one, other⟩, hl, hr', hq⟩ := h
  obtain ⟨v0, v1, rfl, r0, r1⟩ := reps2 hr'
  show tRet _ _ _ _
  refine k_ret (Rl := Ex) (a := within one other) (e_is (e_all (e_lcM (fun t => decide (t ∈ other)) fr_ex (ws_tup (e_var rfl r0)) hl fun x v H1 hx e1 y => e_op (e_var rfl y) (e_var rfl (up e1 r1)) rv_inN)) ?_) hq
  rw [List.all_map]; rfl
theorem ok_states_without (W : Wd K mg) : Fn P w K mg base 4 "states_without" p_states_without spWithout := by
  refine fn_ok (k := 0) W 17 sc_states_without (spP_len fun _ => rfl) (fun _ _ _ _ _ _ us hl => match us, hl with | [_, _], _ => rfl) fun f cdv A outer s H vs Q E hr h => ⟨_, w_states_without W hr, ?_⟩
  obtain ⟨⟨n, lot⟩, hl, hr', hq⟩ := h
  obtain ⟨v0, v1, rfl, r0, r1⟩ := reps2 hr'
  show tRet _ _ _ _
  exact k_ret (Rl := Ex) (a := without n lot) (e_tupleNew (e_lcF _ fr_ex (ws_rg1 (ea_cons (e_var rfl r0) ea_nil) hl) (by rw [List.length_range]; exact hl) (by show 2 < 3; decide) (fun _ _ _ h => h) fun x v H1 hx e1 y => et_test (e_op (e_var rfl y) (e_var rfl (up e1 r1)) rv_ninN))) hq
theorem ok_shared_states (W : Wd K mg) : Fn P w K mg base 4 "shared_states" p_shared_states spShared := by
  refine fn_ok (k := 0) W 18 sc_shared_states (spP_len fun _ => rfl) (fun _ _ _ _ _ _ us hl => match us, hl with | [_, _], _ => rfl) fun f cdv A outer s H vs Q E hr h => ⟨_, w_shared_states W hr, ?_⟩
  obtain ⟨⟨one, other⟩, ⟨hl, h1, h2⟩, hr', hq⟩ := h
  obtain ⟨v0, v1, rfl, r0, r1⟩ := reps2 hr'
  show tRet _ _ _ _
  refine k_ret (Rl := Ex) (a := shared one other) (e_tupleNew (el_is (e_lc2 (K := K) (fun p : Nat × Nat => decide (other.getD p.2 0 = one.getD (other.getD p.1 0) 0)) (fun p : Nat × Nat => p.1) fr_ex (ws_enumT (e_var rfl r0)) (by rw [List.length_mapIdx]; exact hl) (by decide) fun x v u H1 hx e1 y z => ⟨et_test (e_op (e_ixT (e_var rfl (up e1 r1)) (e_var rfl z) (h2.at ?_)) (e_ixT (e_var rfl (up e1 r0)) (e_ixT (e_var rfl (up e1 r1)) (e_var rfl y) (h2.at ?_)) (h1.at (h2.lt ?_))) rv_eqN), fun _ => e_var rfl y⟩) (shared_eq one other))) hq
  all_goals
    rw [mapIdx_range 0] at hx
    obtain ⟨i, hi, rfl⟩ := List.mem_map.mp hx
    have hi := List.mem_range.mp hi
    first | exact hi | exact h1.lt hi
theorem ok_law_meets (W : Wd K mg) : Fn P w K mg base 4 "_law_meets" p_law_meets spMeets := by
  refine fn_ok (k := 0) W 46 sc_law_meets (spP_len fun _ => rfl) (fun _ _ _ _ _ _ us hl => match us, hl with | [_, _, _], _ => rfl) fun f cdv A outer s H vs Q E hr h => ⟨_, w_law_meets W hr, ?_⟩
  obtain ⟨⟨n, one, other, t⟩, ⟨h1, h2, ht⟩, hr', hq⟩ := h
  obtain ⟨v0, v1, v2, rfl, r0, r1, r2⟩ := reps3 hr'
  show tRet _ _ _ _
  exact k_ret (Rl := Ex) (a := meets one other t) (e_op (e_ixT (e_var rfl r1) (e_ixT (e_var rfl r0) (e_var rfl r2) (h1.at ht)) (h2.at (h1.lt ht))) (e_ixT (e_var rfl r0) (e_ixT (e_var rfl r1) (e_var rfl r2) (h2.at ht)) (h1.at (h2.lt ht))) rv_eqN) hq
end
end B
/-! the Machine's checks. -/
namespace B
open PySem PySem.Spec PyProof.Rows L2
section
variable {Rl : Hp → Hp → Prop} [RlOk Rl] {K : PySem.W.Frag} {σ : L2.St} {H H' : Hp} {ta tb tc te tx : TE} {t u : TT} {v : V} {α β γ : Type} [Enc α] [Enc β] [Enc γ] {a : α} {b : β} {xs : List α} {i : Nat}
theorem e_isi {T U : String} {b : Bool} (ha : Ev Rl te σ H a) (hty : ∀ H1 v, Enc.rep (tp H1) v a → TyX K H1 v (.type T)) (hk : kitB T U = some b) : Ev Rl (tCB (rIsi K) (tCons te (tCons (tC (.ty U)) tNil))) σ H b := fun H1 e Q q =>
  ha H1 e _ fun v H2 e2 r => ⟨v, .ty U, .type T, .type U, b, rfl, .ty U, hty H2 v r, kit_ty hk, q _ H2 e2 rfl⟩
theorem ty_int {n : Nat} (H1 : Hp) (v : V) (h : Enc.rep (tp H1) v n) : TyX K H1 v (.type "int") := by
  obtain rfl : v = .int n := h
  exact .base (.int _)
theorem ty_str {z : Str} (H1 : Hp) (v : V) (h : Enc.rep (tp H1) v z) : TyX K H1 v (.type "str") := by
  obtain rfl : v = .str z := h
  exact .base (.str _)
theorem ty_tup {x : List α} (H1 : Hp) (v : V) (h : Enc.rep (tp H1) v x) : TyX K H1 v (.type "tuple") := by
  obtain ⟨p, vs, rfl, hp, _⟩ := h
  exact .base (.tup hp)
theorem ty_pair {x : α × β} (H1 : Hp) (v : V) (h : Enc.rep (tp H1) v x) : TyX K H1 v (.type "tuple") := by
  obtain ⟨p, _, _, rfl, hp, _⟩ := h
  exact .base (.tup hp)
theorem e_lenPair {p : α × β} (ha : Ev Rl te σ H p) : Ev Rl (tCB (rLenU K) (tCons te tNil)) σ H (2 : Nat) := fun H1 e Q q => ha H1 e _ fun v H2 e2 r => by
  obtain ⟨d, x, y, rfl, hd, _⟩ := r
  exact .inl ⟨d, [x, y], rfl, .inr (SqT.of hd), q _ H2 e2 rfl⟩
theorem eN (n : Nat) : Ev Rl (tC (.int (n : Int))) σ H n := e_c fun _ => rfl
end
theorem k_int_int : kitB "int" "int" = some true := by decide +kernel
theorem k_int_bool : kitB "int" "bool" = some false := by decide +kernel
theorem k_str_str : kitB "str" "str" = some true := by decide +kernel
theorem k_str_tup : kitB "str" "tuple" = some false := by decide +kernel
theorem k_tup_tup : kitB "tuple" "tuple" = some true := by decide +kernel
theorem k_list_list : kitB "list" "list" = some true := by decide +kernel
theorem k_tup_list : kitB "tuple" "list" = some false := by decide +kernel
def spInt : Sp := spP (ι := Nat) (fun _ _ => True) (fun i => [mp i]) fun _ => true
def spBelow : Sp := spP (ι := Nat × Nat) (fun _ _ => True) (fun i => [mp i.1, mp i.2]) fun i => decide (i.1 < i.2)
def spText : Sp := spP (ι := Str) (fun _ _ => True) (fun i => [mp i]) fun _ => true
def spSeq : Sp := spP (ι := Addr) (fun a H => (∃ vs, H a = some (.lst vs)) ∨ ∃ vs, H a = some (.tup vs)) (fun a => [mp (Raw.mk (.ref a))]) fun _ => true
def NameOk (z : Str) : Prop := 1 ≤ z.length ∧ z.length ≤ 8 ∧ ∀ c ∈ z.cps.toList, 97 ≤ c ∧ c ≤ 122
def spName : Sp := spP (ι := Str) (fun z _ => NameOk z) (fun i => [mp i]) fun _ => true
theorem NameOk.ok {z : Str} (h : NameOk z) : PyData.strOk z = true := by
  unfold PyData.strOk
  rw [← Array.all_toList, List.all_eq_true]
  intro c hc
  have := h.2.2 c hc
  exact decide_eq_true (by omega)
theorem letters : (("abcdefghijklmnopqrstuvwxyz" : Str).cps.toList) = List.range' 97 26 := by decide +kernel
section
variable {P : Program} {w : World} {K : PySem.W.Frag} {mg : Str → Option Value} {base : Heap}
theorem ok_is_integer (W : Wd K mg) : Fn P w K mg base 4 "is_integer" p_is_integer spInt := by
  refine fn_ok (k := 0) W 0 sc_is_integer (spP_len fun _ => rfl) (fun _ _ _ _ _ _ us hl => match us, hl with | [_], _ => rfl) fun f cdv A outer s H vs Q E hr h => ⟨_, w_is_integer W hr, ?_⟩
  obtain ⟨n, _, hr', hq⟩ := h
  obtain ⟨v0, rfl, r0⟩ := reps1 hr'
  show tRet _ _ _ _
  exact k_ret (Rl := Ex) (a := true) (e_is (e_andV (e_isi (e_var rfl r0) ty_int k_int_int) fun _ => e_notV (e_isi (e_var rfl r0) ty_int k_int_bool)) rfl) hq
theorem ok_is_below (W : Wd K mg) : Fn P w K mg base 8 "is_below" p_is_below spBelow := by
  refine fn_ok (k := 4) W 1 sc_is_below (spP_len fun _ => rfl) (fun _ _ _ _ _ _ us hl => match us, hl with | [_, _], _ => rfl) fun f cdv A outer s H vs Q E hr h => ⟨_, w_is_below spInt W hr (ok_is_integer W), ?_⟩
  obtain ⟨⟨n, b⟩, _, hr', hq⟩ := h
  obtain ⟨v0, v1, rfl, r0, r1⟩ := reps2 hr'
  show tRet _ _ _ _
  refine k_ret (Rl := Ex) (a := decide (n < b)) (e_is (e_andV (e_call (ι := Nat) (res := fun _ => true) n (ea_cons (e_var rfl r0) ea_nil) fun _ _ => trivial) fun _ => e_chain (eN 0) (e_var rfl r0) rv_leN (fun _ => e_var rfl r1) fun _ => rv_ltN) ?_) hq
  show (true && (decide (0 ≤ n) && decide (n < b))) = _
  rw [decide_eq_true (Nat.zero_le n), Bool.true_and, Bool.true_and]
theorem ok_is_text (W : Wd K mg) : Fn P w K mg base 4 "is_text" p_is_text spText := by
  refine fn_ok (k := 0) W 2 sc_is_text (spP_len fun _ => rfl) (fun _ _ _ _ _ _ us hl => match us, hl with | [_], _ => rfl) fun f cdv A outer s H vs Q E hr h => ⟨_, w_is_text W hr, ?_⟩
  obtain ⟨n, _, hr', hq⟩ := h
  obtain ⟨v0, rfl, r0⟩ := reps1 hr'
  show tRet _ _ _ _
  exact k_ret (Rl := Ex) (a := true) (e_isi (e_var rfl r0) ty_str k_str_str) hq
theorem ok_is_sequence (W : Wd K mg) : Fn P w K mg base 4 "is_sequence" p_is_sequence spSeq := by
  refine fn_ok (k := 0) W 3 sc_is_sequence (spP_len fun _ => rfl) (fun _ _ _ _ _ _ us hl => match us, hl with | [_], _ => rfl) fun f cdv A outer s H vs Q E hr h => ⟨_, w_is_sequence W hr, ?_⟩
  obtain ⟨a, ha, hr', hq⟩ := h
  obtain ⟨v0, rfl, r0⟩ := reps1 hr'
  obtain rfl : v0 = .ref a := r0
  refine ⟨_, rfl, by show 2 ≤ sizeLine; decide, fun p hp => ?_⟩
  have hap : a ≠ p := fun z => by subst z; rcases ha with ⟨_, h⟩ | ⟨_, h⟩ <;> rw [h] at hp <;> cases hp
  show rIsiT K [.ref a, .ref p] (upd H p (.tup [.ty "list", .ty "tuple"])) Q
  rcases ha with ⟨vs, h⟩ | ⟨vs, h⟩
  · exact ⟨.ref a, p, [.ty "list", .ty "tuple"], .type "list", [.type "list", .type "tuple"], true, rfl, upd_same, .cons (.ty _) (.cons (.ty _) .nil), .base (.lst (by rw [upd_ne hap]; exact h)), kitAny_cons (kit_ty k_list_list) (fun z => by cases z) (fun _ => rfl), hq _ _ (Ex.new hp) rfl⟩
  · exact ⟨.ref a, p, [.ty "list", .ty "tuple"], .type "tuple", [.type "list", .type "tuple"], true, rfl, upd_same, .cons (.ty _) (.cons (.ty _) .nil), .base (.tup (by rw [upd_ne hap]; exact h)), kitAny_cons (kit_ty k_tup_list) (fun _ => kitAny_cons (kit_ty k_tup_tup) (fun z => by cases z) fun _ => rfl) (fun z => by cases z), hq _ _ (Ex.new hp) rfl⟩
theorem ok_is_name (W : Wd K mg) : Fn P w K mg base 8 "is_name" p_is_name spName := by
  refine fn_ok (k := 4) W 4 sc_is_name (spP_len fun _ => rfl) (fun _ _ _ _ _ _ us hl => match us, hl with | [_], _ => rfl) fun f cdv A outer s H vs Q E hr h => ⟨_, w_is_name spText W hr (ok_is_text W), ?_⟩
  obtain ⟨z, hz, hr', hq⟩ := h
  obtain ⟨v0, rfl, r0⟩ := reps1 hr'
  have hzl : z.length ≤ sizeLine := Nat.le_trans hz.2.1 (by decide)
  show tRet _ _ _ _
  refine k_ret (Rl := Ex) (a := true) (e_is (e_andV (e_call (ι := Str) (res := fun _ => true) z (ea_cons (e_var rfl r0) ea_nil) fun _ _ => trivial) fun _ => e_andV (e_chain (eN 1) (e_lenS (e_var rfl r0) hzl) rv_leN (fun _ => eN 8) fun _ => rv_leN) fun _ => e_all (e_lcM (fun c => decide (c ∈ (("abcdefghijklmnopqrstuvwxyz" : Str).cps.toList))) fr_ex (ws_str (e_var rfl r0)) ?_ fun x v H1 hx e1 y => e_op (e_var (a := (⟨#[x]⟩ : Str)) rfl y) (e_c (a := ("abcdefghijklmnopqrstuvwxyz" : Str)) fun _ => rfl) rv_inC)) ?_) hq
  · have : z.cps.toList.length = z.length := rfl
    have := hz.2.1
    show z.cps.toList.length ≤ _
    omega
  · rw [Bool.true_and, decide_eq_true hz.1, decide_eq_true hz.2.1, Bool.true_and, Bool.true_and, List.all_map, List.all_eq_true]
    intro c hc
    have := hz.2.2 c hc
    refine decide_eq_true ?_
    rw [letters, List.mem_range'_1]
    omega
end
end B
/-! is_deed, Machine. -/
namespace B
open PySem PySem.Spec PyProof.Rows L2
def LsAt {α : Type} [Enc α] (H : Hp) (p : Addr) (xs : List α) : Prop := ∃ vs, H p = some (.lst vs) ∧ RepA (tp H) vs xs
theorem LsAt.ls {α : Type} [Enc α] {H : Hp} {p : Addr} {xs : List α} (h : LsAt H p xs) : Ls Ex H p xs := let ⟨vs, a, b⟩ := h; Ls.ex a b
theorem LsAt.lsM {α : Type} [Enc α] {S : Addr → Prop} {H : Hp} {p : Addr} {xs : List α} (h : LsAt H p xs) (hS : ¬ S p) : Ls (ExM S) H p xs := let ⟨vs, a, b⟩ := h; ⟨vs, b, fun H1 e => e.1 p _ a (.inl hS)⟩
theorem Ls.to {α : Type} [Enc α] {Rl : Hp → Hp → Prop} [RlOk Rl] {H : Hp} {p : Addr} {xs : List α} (h : Ls Rl H p xs) : LsAt H p xs := let ⟨vs, a, b⟩ := h.at; ⟨vs, b, a⟩
theorem LsAt.mono {α : Type} [Enc α] {H H' : Hp} {p : Addr} {xs : List α} (h : LsAt H p xs) (e : Ex H H') : LsAt H' p xs := let ⟨vs, a, b⟩ := h; ⟨vs, e _ _ a, upA (Rl := Ex) e b⟩
section
variable {Rl : Hp → Hp → Prop} [RlOk Rl] {K : PySem.W.Frag} {σ : L2.St} {H H' : Hp} {ta tb tc te tx : TE} {t u : TT} {v : V} {α : Type} [DecidableEq α] [EncD α] {xs ys : List α} {i : Nat}
theorem e_neL {p : Addr} (ha : Ev Rl ta σ H (Raw.mk (.ref p))) (hl : Ls Rl H p xs) (hb : EvL Rl tb σ H ys) (hx : ∀ x ∈ xs, EncD.ok x) (hy : ∀ x ∈ ys, EncD.ok x) (hd : EncD.dep α < 64) : Ev Rl (tOp (rNeU K) ta tb) σ H (!decide (xs = ys)) := fun H1 e Q q =>
  ha H1 e _ fun v H2 e2 hv => hb H2 (RlOk.trans e e2) _ fun p' vs H3 hp e3 hl' r => by
    obtain rfl : v = .ref p := hv
    obtain ⟨ws, r', k⟩ := hl
    have e13 := RlOk.trans (RlOk.trans e e2) e3
    exact .inr ⟨_, _, dpL (k H3 e13) (upA e13 r'), dpL hl' r, shpL hx hd, shpL hy hd, q _ H3 (RlOk.trans e2 e3) (by show V.bl (!_) = V.bl (!_); rw [eqvL])⟩
end
section
variable {Rl : Hp → Hp → Prop} [RlOk Rl] {K : PySem.W.Frag} {σ : L2.St} {H H' : Hp} {ta tb tc te tx : TE} {v : V} {α β : Type} [Enc α] [Enc β]
/-- a condition's parts that are known -/
theorem et_orF {t u : TT} (h1 : EvT Rl t σ H false) (h2 : EvT Rl u σ H false) : EvT Rl (tOr t u) σ H false := et_is (et_or h1 fun _ => h2) rfl
theorem et_notF {t : TT} (h1 : EvT Rl t σ H true) : EvT Rl (tNot t) σ H false := et_not h1
theorem k_ifF {t : TT} {s1 s2 : TS} {D : Ends} (h : EvT Rl t σ H false) (h2 : ∀ H2, Rl H H2 → s2 D σ H2) : tIfS t s1 s2 D σ H := k_if h (fun z => by cases z) fun _ => h2
theorem k_ifN {t : TT} {s1 : TS} {D : Ends} (h : EvT Rl t σ H false) (h2 : ∀ H2, Rl H H2 → D.nx σ H2) : tIfS t s1 tNext D σ H := k_if h (fun z => by cases z) fun _ => h2
theorem k_ifT {t : TT} {s1 s2 : TS} {D : Ends} (h : EvT Rl t σ H true) (h2 : ∀ H2, Rl H H2 → s1 D σ H2) : tIfS t s1 s2 D σ H := k_if h (fun _ => h2) fun z => by cases z
end
abbrev Deed := Str × List Nat
structure DeedOk (n : Nat) (d : Deed) : Prop where
  nm : NameOk d.1
  im : Eff n d.2
theorem encOk {ds : List Deed} {n : Nat} (h : ∀ d ∈ ds, DeedOk n d) : ∀ d ∈ ds, EncD.ok d := fun d hd => ⟨(h d hd).nm.ok, fun _ _ => trivial⟩
theorem dep1 : EncD.dep Deed < 64 := by decide
def spDeed : Sp := spP (ι := Nat × Deed × Addr × List Deed) (fun i H => 2 ≤ i.1 ∧ i.1 ≤ 49 ∧ DeedOk i.1 i.2.1 ∧ (∀ d ∈ i.2.2.2, DeedOk i.1 d) ∧ i.2.1.1 ∉ i.2.2.2.map (·.1) ∧ i.2.2.2.length ≤ 8 ∧ LsAt H i.2.2.1 i.2.2.2) (fun i => [mp i.2.1, mp (Raw.mk (.ref i.2.2.1))]) fun _ => true
section
variable {P : Program} {w : World} {K : PySem.W.Frag} {mg : Str → Option Value} {base : Heap}
theorem ok_is_deed (W : Wd K mg) : Fn P w K mg base 12 "is_deed" p_is_deed spDeed := by
  refine fn_ok (k := 8) W 7 sc_is_deed (spP_len fun _ => rfl) (fun _ _ _ _ _ _ us hl => match us, hl with | [_, _], _ => rfl) fun f cdv A outer s H vs Q E hr h => ⟨_, w_is_deed spBelow spSeq spName W hr (ok_is_below W) ((ok_is_sequence W).mono (by decide)) (ok_is_name W), ?_⟩
  obtain ⟨⟨n, d, p, ds⟩, ⟨h2, h49, hd, hds, hnew, hlen, hls⟩, hr', hq⟩ := h
  obtain ⟨v0, v1, rfl, r0, r1⟩ := reps2 hr'
  have him : d.2.length = n := hd.im.1
  show tSeq _ _ _ _ _
  refine k_seq (k_ifN (Rl := Ex) (et_orF (et_notF (et_B (e_isi (e_var rfl r0) ty_pair k_tup_tup))) (et_orF (et_is (et_test (e_op (e_lenPair (e_var rfl r0)) (eN 2) rv_neN)) (by decide)) (et_notF (et_B (e_call (ι := Str) (res := fun _ => true) d.1 (ea_cons (e_fst (e_var rfl r0) (eN 0)) ea_nil) fun _ _ => hd.nm))))) fun H1 e1 => ?_)
  show tSeq _ _ _ _ _
  refine k_seq (k_set2 (Rl := Ex) (p := d) (e_var rfl (up e1 r0)) fun w1 w2 H2 e2 q1 q2 => ?_)
  have e02 := e1.trans e2
  have hls2 := hls.mono e02
  show tSeq _ _ _ _ _
  refine k_seq (k_ifN (Rl := Ex) (et_orF (et_is (et_test (e_inNewS (e_var rfl q1) (e_lcM (fun d : Deed => d.1) fr_ex (ws_ls (e_var rfl (up e02 r1)) hls2.ls) (by omega) fun x v H1 hx e1 y => e_fst (e_var rfl y) (eN 0)))) (decide_eq_false hnew)) (et_notF (et_B (e_call (ι := Addr) (res := fun _ => true) (match w2 with | .ref a => a | _ => 0) (ea_cons (e_var rfl ?_) ea_nil) fun H1 e1 => ?_)))) fun H3 e3 => ?_)
  · obtain ⟨a, vs, rfl, _⟩ := q2; exact rfl
  · obtain ⟨a, vs, rfl, ha, _⟩ := q2; exact .inr ⟨vs, e1 _ _ ha⟩
  have e03 := e02.trans e3
  have q2' := up (Rl := Ex) e3 q2
  show tSeq _ _ _ _ _
  refine k_seq (k_ifN (Rl := Ex) (et_orF (et_notF (et_is (et_test (e_chain (eN 2) (e_lenT (e_var rfl q2')) rv_leN (fun _ => eN 49) fun _ => rv_leN)) ?_)) (et_is (et_and (et_test (e_neL (xs := ds) (ys := []) (e_var rfl (up e03 r1)) (hls.mono e03).ls (e_lstH eh_nil (by decide)) (encOk hds) (by simp) dep1)) (b := false) fun hne => ?_) ?_)) fun H4 e4 => ?_)
  · rw [him, decide_eq_true h2, decide_eq_true h49]; rfl
  · cases ds with
    | nil => simp at hne
    | cons d0 ds =>
      have h0 := (hds d0 List.mem_cons_self).im.1
      exact et_is (et_test (e_op (e_lenT (e_var rfl q2')) (e_lenT (e_snd (e_ixLs (x := d0) (e_var rfl (up e03 r1)) (hls.mono e03).ls (eN 0) rfl) (eN 1))) rv_neN)) (by rw [him, h0]; simp)
  · exact Bool.and_false _
  have e04 := e03.trans e4
  dsimp only
  refine k_ret (Rl := Ex) (a := true) (e_is (e_all (e_lcM (fun c => decide (c < n)) fr_ex (ws_tup (e_var rfl (up e4 q2'))) (by omega) fun x v H1 hx e1 y => e_is (e_call (ι := Nat × Nat) (res := fun i : Nat × Nat => decide (i.1 < i.2)) (x, n) (ea_cons (e_var rfl y) (ea_cons (e_is (e_lenT (e_var rfl (up (e4.trans e1) q2'))) him) ea_nil)) fun _ _ => trivial) rfl)) ?_) fun v H5 e5 r => hq v H5 (e04.trans e5) r
  rw [List.all_map, List.all_eq_true]
  exact fun c hc => decide_eq_true (hd.im.2 c hc)
end
end B
/-! Machine(deeds). -/
namespace B
open PySem PySem.Spec PyProof.Rows L2
section
variable {K : PySem.W.Frag} {σ : L2.St} {H H' : Hp} {ta tb tc te tx : TE} {v : V} {α β : Type} [Enc α] [Enc β] {a : α} {xs : List α} {D : Ends}
theorem LsAt.upd {p : Addr} {o : HO} (h : LsAt H p xs) (hp : ∀ a vs, H a = some (.tup vs) → upd H p o a = some (.tup vs)) : True := trivial
theorem tp_upd {p : Addr} {u o : HO} (hp : H p = some u) (hu : ¬ isTupO u) : ∀ a vs, tp H a vs → tp (upd H p o) a vs := fun a vs h => by
  have h : H a = some (.tup vs) := h
  have ne : a ≠ p := fun z => by subst z; rw [hp] at h; cases h; exact hu trivial
  show upd H p o a = _
  rw [upd_ne ne]; exact h
theorem k_append {j : Nat} {pf : Addr} (hj : σ[j]? = some (some (.ref pf))) (hl : LsAt H pf xs) (h : Ev Ex te σ H a) (hlen : xs.length < 1000000) (k : ∀ H2, ExM (· = pf) H H2 → LsAt H2 pf (xs ++ [a]) → D.nx σ H2) :
    tDrop (tBM K "list" rAppend (tVar j) (tCons te tNil)) D σ H := by
  obtain ⟨vs, h1, h2⟩ := hl
  refine ⟨.ref pf, hj, .inl ⟨rfl, vs, SqL.of h1⟩, h H (Ex.refl H) _ fun v H2 e r => ?_⟩
  have h1' := e _ _ h1
  refine ⟨pf, vs, v, rfl, rfl, h1', by rw [h2.length]; exact szl hlen, k _ (ExM.mut (RlOk.ex e) h1' (fun z => z) rfl) ⟨vs ++ [v], upd_same, ?_⟩⟩
  exact RepA.snoc (RepA.mono (tp_upd h1' (fun z => z)) (upA (Rl := Ex) e h2)) (Enc.mono (tp_upd h1' (fun z => z)) r)
theorem k_fld {p C dx : Addr} {fs : List (Str × V)} {f : Str} (h0 : σ[0]? = some (some (.ref p))) (h : Ev Ex te σ H a) (hi : H p = some (.ins C dx fs)) (c : Cls K C) (n : NoAttr K C f) (hf : fs.length < 1000) (k : ∀ y H2, Ex H H2 → Enc.rep (tp H2) y a → D.nx σ (upd H2 p (.ins C dx (putF f y fs)))) :
    sFld K (tVar 0) te f D σ H := h H (Ex.refl H) _ fun v H2 e r => ⟨.ref p, h0, p, C, dx, fs, rfl, e _ _ hi, c, n, hf, k v H2 e r⟩
end
structure MachOk (n : Nat) (ds : List Deed) : Prop where
  lo : 2 ≤ n
  hi : n ≤ 49
  ok : ∀ d ∈ ds, DeedOk n d
  nd : (ds.map (·.1)).Nodup
  one : 1 ≤ ds.length
  most : ds.length ≤ 8
abbrev mC (K : PySem.W.Frag) : Addr := He.ga K "Machine"
def MachAt (K : PySem.W.Frag) (H : Hp) (p : Addr) (n : Nat) (ds : List Deed) : Prop := ∃ dx a b ob vs, H p = some (.ins (mC K) dx [("deeds", .ref a), ("names", .ref b), ("size", .int n)]) ∧ H a = some (.frz ob (.tup vs)) ∧ ob.dict = none ∧ RepA (tp H) vs ds ∧ Enc.rep (tp H) (.ref b) (ds.map (·.1))
theorem MachAt.mono {K : PySem.W.Frag} {H H' : Hp} {p : Addr} {n : Nat} {ds : List Deed} (h : MachAt K H p n ds) (e : Ex H H') : MachAt K H' p n ds := by
  obtain ⟨dx, a, b, ob, vs, h1, h2, h3, h4, h5⟩ := h
  exact ⟨dx, a, b, ob, vs, e _ _ h1, e _ _ h2, h3, upA (Rl := Ex) e h4, up (Rl := Ex) e h5⟩
/-- it stands -/
def Ms (K : PySem.W.Frag) (Rl : Hp → Hp → Prop) (H : Hp) (p : Addr) (n : Nat) (ds : List Deed) : Prop := ∃ dx a b ob vs, (∀ H1, Rl H H1 → H1 p = some (.ins (mC K) dx [("deeds", .ref a), ("names", .ref b), ("size", .int n)]) ∧ H1 a = some (.frz ob (.tup vs))) ∧ ob.dict = none ∧ RepA (tp H) vs ds ∧ Enc.rep (tp H) (.ref b) (ds.map (·.1))
theorem MachAt.ms {K : PySem.W.Frag} {H : Hp} {p : Addr} {n : Nat} {ds : List Deed} (h : MachAt K H p n ds) : Ms K Ex H p n ds := by
  obtain ⟨dx, a, b, ob, vs, h1, h2, h3, h4, h5⟩ := h
  exact ⟨dx, a, b, ob, vs, fun H1 e => ⟨e _ _ h1, e _ _ h2⟩, h3, h4, h5⟩
theorem Ms.at {K : PySem.W.Frag} {Rl : Hp → Hp → Prop} [RlOk Rl] {H : Hp} {p : Addr} {n : Nat} {ds : List Deed} (h : Ms K Rl H p n ds) : MachAt K H p n ds := by
  obtain ⟨dx, a, b, ob, vs, h1, h3, h4, h5⟩ := h
  obtain ⟨k1, k2⟩ := h1 H (RlOk.refl _)
  exact ⟨dx, a, b, ob, vs, k1, k2, h3, h4, h5⟩
theorem Ms.mono {K : PySem.W.Frag} {Rl : Hp → Hp → Prop} [RlOk Rl] {H H' : Hp} {p : Addr} {n : Nat} {ds : List Deed} (h : Ms K Rl H p n ds) (e : Rl H H') : Ms K Rl H' p n ds := by
  obtain ⟨dx, a, b, ob, vs, h1, h3, h4, h5⟩ := h
  exact ⟨dx, a, b, ob, vs, fun H1 e1 => h1 H1 (RlOk.trans e e1), h3, upA e h4, up e h5⟩
theorem MachAt.msM {K : PySem.W.Frag} {S : Addr → Prop} {H : Hp} {p : Addr} {n : Nat} {ds : List Deed} (h : MachAt K H p n ds) (hS : ∀ a, S a → ∀ u, H a = some u → ∃ xs, u = .lst xs) : Ms K (ExM S) H p n ds := by
  obtain ⟨dx, a, b, ob, vs, h1, h2, h3, h4, h5⟩ := h
  exact ⟨dx, a, b, ob, vs, fun H1 e => ⟨e.1 _ _ h1 (.inl fun z => by obtain ⟨xs, q⟩ := hS _ z _ h1; cases q), e.1 _ _ h2 (.inl fun z => by obtain ⟨xs, q⟩ := hS _ z _ h2; cases q)⟩, h3, h4, h5⟩
def spMach (K : PySem.W.Frag) : Sp := fun vs H Q _ => ∃ p dx d n ds, vs = [.ref p, .ref d] ∧ H p = some (.ins (mC K) dx []) ∧ MachOk n ds ∧ LsAt H d ds ∧ ∀ H2, ExM (· = p) H H2 → MachAt K H2 p n ds → Q .non H2
section
variable {P : Program} {w : World} {K : PySem.W.Frag} {mg : Str → Option Value} {base : Heap}
theorem ok_init (W : Wd K mg) : ∃ fd, FnOk P w K mg base CX0 16 (He.ma K (mC K) "__init__") fd p_init (spMach K) ∧ Mk K (mC K) (He.ma K (mC K) "__init__") ∧ Binds K fd p_init [] := by
  obtain ⟨fd, F⟩ := W.c.def_ 49 (d := K26.d_init) rfl
  have F : FunD K "__init__" "Machine.__init__" (defArgs K26.s_init) (defBody K26.s_init) (defScope K26.s_init) [] [] (He.ma K (mC K) "__init__") fd := F
  have cl : Cls K (mC K) := He.cls_ok (W.c.fact 71 (f := .cls "Machine") rfl)
  have mk : Mk K (mC K) (He.ma K (mC K) "__init__") := He.mkr_ok (W.c.fact 72 (f := .mkr "Machine") rfl)
  have n1 : NoAttr K (mC K) "deeds" := He.noat_ok (W.c.fact 73 (f := .noat "Machine" "deeds") rfl)
  have n2 : NoAttr K (mC K) "names" := He.noat_ok (W.c.fact 74 (f := .noat "Machine" "names") rfl)
  have n3 : NoAttr K (mC K) "size" := He.noat_ok (W.c.fact 75 (f := .noat "Machine" "size") rfl)
  refine ⟨fd, F.ok sc_init (fun vs H Q E h => by obtain ⟨_, _, _, _, _, rfl, _⟩ := h; rfl) (fun cdv A outer s H vs Q E hr h => ⟨_, (w_init (k := 12) spDeed spSeq W hr (ok_is_deed W) ((ok_is_sequence W).mono (by decide))).nox, ?_⟩), mk, F.bindsN (fun _ _ _ _ _ _ us hl => match us, hl with | [_, _], _ => rfl)⟩
  obtain ⟨p, dx, d, n, ds, rfl, hp, ok, hls, hq⟩ := h
  show tSeq _ _ _ _ _
  refine k_seq (k_ifN (Rl := Ex) (et_orF (et_notF (et_B (e_call (ι := Addr) (res := fun _ => true) d (ea_cons (e_var rfl rfl) ea_nil) fun H1 e => ?_))) (et_notF (et_is (et_test (e_chain (eN 1) (e_lenLs (e_var rfl rfl) hls.ls) rv_leN (fun _ => eN 8) fun _ => rv_leN)) ?_))) fun H1 e1 => ?_)
  · obtain ⟨vs, h, _⟩ := hls; exact .inl ⟨vs, e _ _ h⟩
  · rw [decide_eq_true ok.one, decide_eq_true ok.most]; rfl
  show tSeq _ _ _ _ _
  refine k_seq (k_setL (Rl := Ex) (xs := ([] : List Deed)) (e_lstH eh_nil (by decide)) fun pf vs0 H2 hn e2 hl2 r2 => ?_)
  have hls2 := hls.mono (e1.trans e2)
  have hdf : d ≠ pf := fun z => by obtain ⟨_, h, _⟩ := hls.mono e1; rw [z, hn] at h; cases h
  have hpf : p ≠ pf := fun z => by have := e1 _ _ hp; rw [z, hn] at this; cases this
  show tSeq _ _ _ _ _
  refine k_seq (k_for (Rl := ExM (· = pf)) (wz_enumL (xs := ds) (e_var rfl rfl) (hls2.lsM hdf)) (fun H3 i σ1 H4 => ExM (· = pf) H3 H4 ∧ (∃ o3 o4, σ1 = [some (.ref p), some (.ref d), some (.ref pf), o3, o4]) ∧ LsAt H4 pf (ds.take i)) (fun H3 e3 => ⟨RlOk.refl _, ⟨_, _, rfl⟩, vs0, e3 _ _ hl2, upA (Rl := Ex) e3 r2⟩) (fun _ i σ1 H4 h => h.1) (fun _ i σ1 H4 H5 h e => ⟨RlOk.trans h.1 (RlOk.ex e), h.2.1, h.2.2.mono e⟩) ?_ ?_)
  · rintro H3 e3 i x v _ H4 hx ⟨e4, ⟨o3, o4, rfl⟩, hl4⟩ y
    rw [List.getElem?_mapIdx] at hx
    cases qx : ds[i]? with
    | none => rw [qx] at hx; cases hx
    | some x0 =>
      rw [qx] at hx
      cases hx
      have hm : x0 ∈ ds := List.mem_of_getElem? qx
      have hi : i < ds.length := (List.getElem?_eq_some_iff.mp qx).1
      have htk : ds.take (i + 1) = ds.take i ++ [x0] := by rw [List.take_add_one, qx]; rfl
      refine tgt_pair y fun v1 v2 r1 r2 => ?_
      show tSeq _ _ _ _ _
      refine k_seq (k_ifN (Rl := Ex) (et_notF (et_B (e_call (ι := Nat × Deed × Addr × List Deed) (res := fun _ => true) (n, x0, pf, ds.take i) (ea_cons (e_var rfl r2) (ea_cons (e_var rfl rfl) ea_nil)) fun H5 e5 => ⟨ok.lo, ok.hi, ok.ok _ hm, fun d hd => ok.ok d (List.mem_of_mem_take hd), ?_, ?_, hl4.mono e5⟩))) fun H5 e5 => ?_)
      · have nd := ok.nd
        have e : ds = ds.take i ++ x0 :: ds.drop (i + 1) := by
          have h2 : ds.drop i = x0 :: ds.drop (i + 1) := by
            rw [List.drop_eq_getElem_cons hi]
            rw [List.getElem?_eq_getElem hi] at qx
            rw [Option.some.inj qx]
          rw [← h2, List.take_append_drop]
        rw [e, List.map_append, List.map_cons] at nd
        have h3 := List.nodup_append.mp nd
        intro hin
        exact h3.2.2 _ hin _ List.mem_cons_self rfl
      · rw [List.length_take]; have := ok.most; omega
      have r2' := up (Rl := Ex) e5 r2
      refine k_append (a := x0) (xs := ds.take i) (j := 2) rfl (hl4.mono e5) (e_pair (e_fst (e_var rfl r2') (eN 0)) (e_tupleT (e_snd (e_var rfl r2') (eN 1)))) (by rw [List.length_take]; have := ok.most; omega) fun H6 e6 hl6 => ⟨RlOk.trans e4 (RlOk.trans (RlOk.ex e5) e6), ⟨_, _, rfl⟩, by rw [htk]; exact hl6⟩
  · rintro H3 e3 _ H4 ⟨e4, ⟨o3, o4, rfl⟩, hl4⟩
    have hp4 : H4 p = some (.ins (mC K) dx []) := e4.1 _ _ (e3 _ _ (e2 _ _ (e1 _ _ hp))) (.inl hpf)
    have hl4 : LsAt H4 pf ds := by
      rw [List.length_mapIdx, List.take_length] at hl4
      exact hl4
    let S : Addr → Prop := fun a => a = p ∨ a = pf
    have E4 : ExM S (H) H4 := RlOk.trans (RlOk.ex (e1.trans (e2.trans e3))) (e4.mono fun a h => .inr h)
    obtain ⟨vs4, h41, h42⟩ := hl4
    show tSeq _ _ _ _ _
    refine k_seq ⟨.ref pf, rfl, pf, vs4, rfl, SqL.of h41, fun a ob hob ha => ⟨.ref p, rfl, p, mC K, dx, [], rfl, ?_, cl, n1, by decide, ?_⟩⟩
    · rw [upd_ne (ne_of_none hp4 ha)]; exact hp4
    have hap : a ≠ p := fun z => by rw [z, hp4] at ha; cases ha
    have hapf : a ≠ pf := fun z => by rw [z, h41] at ha; cases ha
    let H5 := upd (upd H4 a (.frz ob (.tup vs4))) p (.ins (mC K) dx (putF "deeds" (.ref a) []))
    have hp4' : (upd H4 a (.frz ob (.tup vs4))) p = some (.ins (mC K) dx []) := by rw [upd_ne (Ne.symm hap)]; exact hp4
    have E5 : ExM S H H5 := ExM.mut (RlOk.trans E4 (RlOk.ex (Ex.new ha))) hp4' (fun z => z) (.inl rfl)
    have t45 : ∀ b vs, tp H4 b vs → tp H5 b vs := fun b vs h => tp_upd hp4' (fun z => z) b vs (RlOk.tup (Rl := Ex) (Ex.new ha) b vs h)
    have a5 : H5 a = some (.frz ob (.tup vs4)) := by show upd _ p _ a = _; rw [upd_ne hap, upd_same]
    have f5 : LsAt H5 pf ds := ⟨vs4, by show upd _ p _ pf = _; rw [upd_ne (Ne.symm hpf), upd_ne (Ne.symm hapf)]; exact h41, RepA.mono t45 h42⟩
    have p5 : H5 p = some (.ins (mC K) dx [("deeds", .ref a)]) := upd_same
    have r5 : RepA (tp H5) vs4 ds := RepA.mono t45 h42
    dsimp only
    refine k_seq (k_fld (H := H5) (p := p) (a := ds.map (·.1)) rfl (e_tupleNew (e_lcM (fun d : Deed => d.1) fr_ex (ws_ls (e_var rfl rfl) f5.ls) (by have := ok.most; omega) fun x v H1 hx e1 y => e_fst (e_var rfl y) (eN 0))) p5 cl n2 (by show 1 < 1000; decide) fun y H6 e6 r6 => ?_)
    obtain ⟨b, bvs, rfl, hb, hbr⟩ := r6
    have p6 := e6 _ _ p5
    let H7 := upd H6 p (.ins (mC K) dx (putF "names" (.ref b) [("deeds", .ref a)]))
    have E7 : ExM S H H7 := ExM.mut (RlOk.trans E5 (RlOk.ex e6)) p6 (fun z => z) (.inl rfl)
    have t67 := tp_upd (o := .ins (mC K) dx (putF "names" (.ref b) [("deeds", .ref a)])) p6 (fun z => z)
    have hbp : b ≠ p := fun z => by rw [z] at hb; have hb : H6 p = some (.tup bvs) := hb; rw [p6] at hb; cases hb
    have a7 : H7 a = some (.frz ob (.tup vs4)) := by show upd _ p _ a = _; rw [upd_ne hap]; exact e6 _ _ a5
    have f7 : LsAt H7 pf ds := by
      obtain ⟨z1, z2, z3⟩ := f5.mono e6
      exact ⟨z1, by show upd _ p _ pf = _; rw [upd_ne (Ne.symm hpf)]; exact z2, RepA.mono t67 z3⟩
    have r7 : RepA (tp H7) vs4 ds := RepA.mono t67 (upA (Rl := Ex) e6 r5)
    have b7 : Enc.rep (tp H7) (.ref b) (ds.map (·.1)) := ⟨b, bvs, rfl, t67 _ _ hb, RepA.mono t67 hbr⟩
    have p7 : H7 p = some (.ins (mC K) dx [("deeds", .ref a), ("names", .ref b)]) := upd_same
    obtain ⟨d0, hd0⟩ : ∃ d0, ds[0]? = some d0 := ⟨ds[0]'ok.one, List.getElem?_eq_getElem _⟩
    have him : d0.2.length = n := (ok.ok d0 (List.mem_of_getElem? hd0)).im.1
    dsimp only
    refine k_fld (H := H7) (p := p) (a := n) rfl (e_is (e_lenT (e_snd (e_ixLs (x := d0) (e_var rfl rfl) f7.ls (eN 0) hd0) (eN 1))) him) p7 cl n3 (by show 2 < 1000; decide) fun y H8 e8 r8 => ?_
    obtain rfl : y = .int n := r8
    have p8 := e8 _ _ p7
    have t89 := tp_upd (o := .ins (mC K) dx (putF "size" (.int n) [("deeds", .ref a), ("names", .ref b)])) p8 (fun z => z)
    have E9 : ExM S H (upd H8 p (.ins (mC K) dx (putF "size" (.int n) [("deeds", .ref a), ("names", .ref b)]))) := ExM.mut (RlOk.trans E7 (RlOk.ex e8)) p8 (fun z => z) (.inl rfl)
    refine hq _ (ExM.outM (RlOk.refl H) E9 fun c hc => hc.imp id fun z => by subst z; exact RlOk.back (Rl := Ex) e1 hn) ⟨dx, a, b, ob, vs4, upd_same, ?_, hob, RepA.mono t89 (upA (Rl := Ex) e8 r7), Enc.mono t89 (up (Rl := Ex) e8 b7)⟩
    rw [upd_ne hap]; exact e8 _ _ a7
end
end B
/-! effects in plain Lean. -/
namespace B
open PySem L2
theorem getD_range {n s : Nat} (h : s < n) : (List.range n).getD s 0 = s := by
  rw [List.getD_eq_getElem?_getD, List.getElem?_range h]; rfl
theorem getD_thn {f g : List Nat} {s : Nat} (h : s < f.length) : (thn f g).getD s 0 = g.getD (f.getD s 0) 0 := by
  unfold thn
  rw [List.getD_eq_getElem?_getD, List.getElem?_map, getD_at h]; rfl
theorem eff_range (n : Nat) : Eff n (List.range n) := ⟨List.length_range, fun s h => List.mem_range.mp h⟩
theorem Eff.thn {n : Nat} {f g : List Nat} (hf : Eff n f) (hg : Eff n g) : Eff n (thn f g) := ⟨by unfold B.thn; rw [List.length_map, hf.1], fun s h => by
  obtain ⟨t, ht, rfl⟩ := List.mem_map.mp h
  exact hg.lt (hf.2 t ht)⟩
theorem eff_ext {n : Nat} {f g : List Nat} (hf : f.length = n) (hg : g.length = n) (h : ∀ s, s < n → f.getD s 0 = g.getD s 0) : f = g := by
  apply List.ext_getElem?
  intro i
  by_cases hi : i < n
  · rw [getD_at (by omega), getD_at (by omega), h i hi]
  · rw [List.getElem?_eq_none (by omega), List.getElem?_eq_none (by omega)]
theorem thn_assoc {n : Nat} {f g h : List Nat} (hf : Eff n f) (hg : Eff n g) : thn (thn f g) h = thn f (thn g h) := by
  refine eff_ext (n := n) (by unfold thn; rw [List.length_map, List.length_map, hf.1]) (by unfold thn; rw [List.length_map, hf.1]) fun s hs => ?_
  rw [getD_thn (by rw [(hf.thn hg).1]; exact hs), getD_thn (by rw [hf.1]; exact hs), getD_thn (by rw [hf.1]; exact hs), getD_thn (by rw [hg.1]; exact hf.lt hs)]
theorem thn_one {n : Nat} {f : List Nat} (hf : Eff n f) : thn f (List.range n) = f := by
  refine eff_ext (n := n) (by unfold thn; rw [List.length_map, hf.1]) hf.1 fun s hs => ?_
  rw [getD_thn (by rw [hf.1]; exact hs), getD_range (hf.lt hs)]
theorem one_thn {n : Nat} {f : List Nat} (hf : Eff n f) : thn (List.range n) f = f := by
  refine eff_ext (n := n) (by unfold thn; rw [List.length_map, List.length_range]) hf.1 fun s hs => ?_
  rw [getD_thn (by rw [List.length_range]; exact hs), getD_range hs]
def pwr (n : Nat) (f : List Nat) : Nat → List Nat
  | 0 => List.range n
  | t + 1 => thn (pwr n f t) f
theorem Eff.pwr {n : Nat} {f : List Nat} (hf : Eff n f) : ∀ t, Eff n (pwr n f t)
  | 0 => eff_range n
  | t + 1 => (Eff.pwr hf t).thn hf
theorem pwr_one {n : Nat} {f : List Nat} (hf : Eff n f) : pwr n f 1 = f := one_thn hf
theorem pwr_add {n : Nat} {f : List Nat} (hf : Eff n f) (a : Nat) : ∀ b, pwr n f (a + b) = thn (pwr n f a) (pwr n f b)
  | 0 => (thn_one (hf.pwr a)).symm
  | b + 1 => by
    show thn (pwr n f (a + b)) f = thn (pwr n f a) (thn (pwr n f b) f)
    rw [pwr_add hf a b, thn_assoc (hf.pwr a) (hf.pwr b)]
theorem pwr_comm {n : Nat} {f : List Nat} (hf : Eff n f) (a b : Nat) : thn (pwr n f a) (pwr n f b) = thn (pwr n f b) (pwr n f a) := by rw [← pwr_add hf, ← pwr_add hf, Nat.add_comm]
theorem pwr_mul {n : Nat} {f : List Nat} (hf : Eff n f) (a : Nat) : ∀ b, pwr n (pwr n f a) b = pwr n f (a * b)
  | 0 => rfl
  | b + 1 => by
    show thn (pwr n (pwr n f a) b) (pwr n f a) = _
    rw [pwr_mul hf a b, ← pwr_add hf]; rfl
theorem pwr_sq {n : Nat} {f : List Nat} (hf : Eff n f) (t : Nat) : pwr n (thn f f) t = pwr n f (2 * t) := by
  rw [← pwr_mul hf]
  congr 1
  show _ = thn (pwr n f 1) f
  rw [pwr_one hf]
/-- one round of the powers -/
theorem pwr_round {n : Nat} {f : List Nat} (hf : Eff n f) (t : Nat) : pwr n f t = thn (if t % 2 = 1 then f else List.range n) (pwr n (thn f f) (t / 2)) := by
  rw [pwr_sq hf]
  by_cases h : t % 2 = 1
  · rw [if_pos h]
    have e : t = 1 + 2 * (t / 2) := by omega
    conv => lhs; rw [e, pwr_add hf, pwr_one hf]
  · rw [if_neg h, one_thn (hf.pwr _)]
    have e : 2 * (t / 2) = t := by omega
    rw [e]
/-! ### rows -/
def PT : Nat → Type
  | 0 => Str
  | k + 1 => Str ⊕ (List (PT k) × Nat)
instance {α β : Type} [Enc α] [Enc β] : Enc (α ⊕ β) := ⟨fun T v s => match s with | .inl a => Enc.rep T v a | .inr b => Enc.rep T v b, fun {T T' v x} h r => by
  cases x with
  | inl a => exact Enc.mono h r
  | inr b => exact Enc.mono h r⟩
@[reducible] def PT.enc : (k : Nat) → Enc (PT k)
  | 0 => inferInstanceAs (Enc Str)
  | k + 1 => by
    have := PT.enc k
    exact inferInstanceAs (Enc (Str ⊕ (List (PT k) × Nat)))
instance (k : Nat) : Enc (PT k) := PT.enc k
def rowE (n : Nat) (im : Str → List Nat) : (k : Nat) → List (PT k) → List Nat
  | 0, r => List.foldl (fun acc (s : Str) => thn acc (im s)) (List.range n) r
  | k + 1, r => List.foldl (fun acc (p : Str ⊕ (List (PT k) × Nat)) => match p with | .inl s => thn acc (im s) | .inr q => thn acc (pwr n (rowE n im k q.1) q.2)) (List.range n) r
def okRow (nms : List Str) : (k : Nat) → List (PT k) → Prop
  | 0, r => ∀ s : Str, s ∈ (show List Str from r) → s ∈ nms
  | k + 1, r => ∀ p : Str ⊕ (List (PT k) × Nat), p ∈ (show List (Str ⊕ (List (PT k) × Nat)) from r) → match p with | .inl s => s ∈ nms | .inr q => okRow nms k q.1 ∧ q.2 < 2 ^ 63
/-- what one part does -/
def partE (n : Nat) (im : Str → List Nat) : (k : Nat) → PT k → List Nat
  | 0, s => im s
  | k + 1, p => match (show Str ⊕ (List (PT k) × Nat) from p) with | .inl s => im s | .inr q => pwr n (rowE n im k q.1) q.2
theorem rowE_eq {n : Nat} {im : Str → List Nat} : ∀ (k : Nat) (r : List (PT k)), rowE n im k r = r.foldl (fun acc p => thn acc (partE n im k p)) (List.range n)
  | 0, r => rfl
  | k + 1, r => by
    show List.foldl _ _ _ = _
    congr 1
    funext acc p
    cases p <;> rfl
theorem rowE_take {n : Nat} {im : Str → List Nat} {k : Nat} {r : List (PT k)} {i : Nat} {p : PT k} (h : r[i]? = some p) : rowE n im k (r.take (i + 1)) = thn (rowE n im k (r.take i)) (partE n im k p) := by
  rw [rowE_eq, rowE_eq, List.take_add_one, h, List.foldl_append]; rfl
def okPart (nms : List Str) : (k : Nat) → PT k → Prop
  | 0, s => (show Str from s) ∈ nms
  | k + 1, p => match (show Str ⊕ (List (PT k) × Nat) from p) with | .inl s => s ∈ nms | .inr q => okRow nms k q.1 ∧ q.2 < 2 ^ 63
theorem okRow.part {nms : List Str} : ∀ {k : Nat} {r : List (PT k)}, okRow nms k r → ∀ p ∈ r, okPart nms k p
  | 0, r, h, p, hp => h p hp
  | k + 1, r, h, p, hp => h p hp
theorem okRow.of {nms : List Str} : ∀ {k : Nat} {r : List (PT k)}, (∀ p ∈ r, okPart nms k p) → okRow nms k r
  | 0, r, h => fun p hp => h p hp
  | k + 1, r, h => fun p hp => h p hp
theorem eff_foldl {n : Nat} {α : Type} {g : α → List Nat} : ∀ (r : List α) (acc : List Nat), Eff n acc → (∀ p ∈ r, Eff n (g p)) → Eff n (r.foldl (fun acc p => thn acc (g p)) acc)
  | [], acc, h, _ => h
  | p :: r, acc, h, hg => eff_foldl r _ (h.thn (hg p List.mem_cons_self)) fun q hq => hg q (List.mem_cons_of_mem _ hq)
theorem eff_part {n : Nat} {im : Str → List Nat} {nms : List Str} (hi : ∀ s ∈ nms, Eff n (im s)) : ∀ (k : Nat) (p : PT k), okPart nms k p → Eff n (partE n im k p)
  | 0, p, h => hi p h
  | k + 1, .inl s, h => hi s h
  | k + 1, .inr q, h => Eff.pwr (by
    rw [rowE_eq]
    exact eff_foldl _ _ (eff_range n) fun p hp => eff_part hi k p (h.1.part p hp)) _
theorem eff_row {n : Nat} {im : Str → List Nat} {nms : List Str} (hi : ∀ s ∈ nms, Eff n (im s)) (k : Nat) (r : List (PT k)) (h : okRow nms k r) : Eff n (rowE n im k r) := by
  rw [rowE_eq]
  exact eff_foldl _ _ (eff_range n) fun p hp => eff_part hi k p (h.part p hp)
end B
/-! rows of names and powers. -/
namespace B
open PySem PySem.Spec PyProof.Rows L2
theorem PT.cases {T : TL} {v : V} {nms : List Str} : ∀ {k : Nat} {p : PT k}, Enc.rep T v p → okPart nms k p →
    (∃ s, v = .str s ∧ s ∈ nms ∧ ∀ n im, partE n im k p = im s) ∨ ∃ k' : Nat, ∃ (r : List (PT k')) (t : Nat), k = k' + 1 ∧ Enc.rep T v (r, t) ∧ okRow nms k' r ∧ t < 2 ^ 63 ∧ ∀ n im, partE n im k p = pwr n (rowE n im k' r) t
  | 0, p, h, o => .inl ⟨p, h, o, fun _ _ => rfl⟩
  | k + 1, .inl s, h, o => .inl ⟨s, h, o, fun _ _ => rfl⟩
  | k + 1, .inr q, h, o => .inr ⟨k, q.1, q.2, rfl, h, o.1, o.2, fun _ _ => rfl⟩
/-! ### parts as data -/
def pyP : (k : Nat) → PT k → PyData
  | 0, s => .str s
  | k + 1, p => match (show Str ⊕ (List (PT k) × Nat) from p) with | .inl s => .str s | .inr q => .tuple [.tuple (q.1.map (pyP k)), .int q.2]
theorem dpP {K : PySem.W.Frag} {H : Hp} : ∀ (k : Nat) (p : PT k) (v : V), Enc.rep (tp H) v p → Dp K H v (pyP k p)
  | 0, p, v, h => by
    have h : v = .str p := h
    subst h
    exact .str _
  | k + 1, .inl s, v, h => by
    have h : v = .str s := h
    subst h
    exact .str _
  | k + 1, .inr q, v, h => by
    obtain ⟨a, x, y, rfl, ha, ⟨b, vs, rfl, hb, hr⟩, hy⟩ := (show Enc.rep (tp H) v q from h)
    obtain rfl : y = .int q.2 := hy
    have all : ∀ (r : List (PT k)) (vs : List V), RepA (tp H) vs r → DpAll K H vs (r.map (pyP k)) := fun r => by
      induction r with
      | nil => intro vs h; cases vs with
        | nil => exact .nil
        | cons => exact h.elim
      | cons x r ih => intro vs h; cases vs with
        | nil => exact h.elim
        | cons v vs => exact .cons (dpP k x v h.1) (ih vs h.2)
    exact .tup (SqT.of ha) (.cons (.tup (SqT.of hb) (all _ _ hr)) (.cons (.int _) .nil))
theorem layP {nms : List Str} (hs : ∀ z ∈ nms, PyData.strOk z = true) : ∀ (k : Nat) (p : PT k), okPart nms k p → (pyP k p).canLay0 = true ∧ (pyP k p).depth ≤ 2 * k
  | 0, p, h => ⟨by show (PyData.str p).canLay0 = true; simp only [PyData.canLay0]; exact hs p h, Nat.le_refl _⟩
  | k + 1, .inl s, h => ⟨by show (PyData.str s).canLay0 = true; simp only [PyData.canLay0]; exact hs s h, by show (PyData.str s).depth ≤ _; simp [PyData.depth]⟩
  | k + 1, .inr q, h => by
    have all : ∀ r : List (PT k), (∀ p ∈ r, okPart nms k p) → PyData.canLayAll0 (r.map (pyP k)) = true ∧ PyData.depthAll (r.map (pyP k)) ≤ 2 * k := fun r => by
      induction r with
      | nil => intro _; exact ⟨rfl, by simp [PyData.depthAll]⟩
      | cons x r ih =>
        intro hr
        obtain ⟨a1, a2⟩ := layP hs k x (hr x List.mem_cons_self)
        obtain ⟨b1, b2⟩ := ih fun p hp => hr p (List.mem_cons_of_mem _ hp)
        exact ⟨by rw [List.map_cons, PyData.canLayAll0, a1, b1]; rfl, by rw [List.map_cons, PyData.depthAll]; exact Nat.max_le.mpr ⟨a2, b2⟩⟩
    obtain ⟨a1, a2⟩ := all q.1 fun p hp => (show okRow nms k q.1 ∧ _ from h).1.part p hp
    show (PyData.tuple [.tuple (q.1.map (pyP k)), .int q.2]).canLay0 = true ∧ (PyData.tuple [.tuple (q.1.map (pyP k)), .int q.2]).depth ≤ _
    refine ⟨by simp only [PyData.canLay0, PyData.canLayAll0, a1]; rfl, ?_⟩
    simp only [PyData.depth, PyData.depthAll]
    omega
theorem shpP {nms : List Str} (hs : ∀ z ∈ nms, PyData.strOk z = true) {k : Nat} {p : PT k} (h : okPart nms k p) (hk : k ≤ 8) : SeqAt.shaped (pyP k p) = true := by
  obtain ⟨a, b⟩ := layP hs k p h
  unfold SeqAt.shaped
  rw [a, decide_eq_true (by omega)]; rfl
def spFirst (k : Nat) : Sp := spP (ι := List (PT k) × List Str) (fun i _ => k ≤ 8 ∧ okRow i.2 k i.1 ∧ ∀ z ∈ i.2, NameOk z) (fun i => [mp i.1, mp i.2]) fun _ => ()
def spFirst' : Nat → Sp
  | 0 => fun _ _ _ _ => False
  | k + 1 => spFirst k
def spNeed (k : Nat) : Sp := spP (ι := List (PT k) × List Str) (fun i _ => k ≤ 8 ∧ okRow i.2 k i.1 ∧ ∀ z ∈ i.2, NameOk z) (fun i => [mp i.1, mp i.2]) fun _ => ()
section
variable {P : Program} {w : World} {K : PySem.W.Frag} {mg : Str → Option Value} {base : Heap}
theorem ok_first_none (W : Wd K mg) : Fn P w K mg base 4 "first_stranger" p_first_stranger (fun _ _ _ _ => False) :=
  fn_ok (k := 0) W 5 sc_first_stranger (fun _ _ _ _ z => z.elim) (fun _ _ _ _ _ _ us hl => match us, hl with | [_, _], _ => rfl) fun f cdv A outer s H vs Q E hr h => h.elim
theorem ok_first_stranger (W : Wd K mg) : ∀ k, Fn P w K mg base (4 * k + 8) "first_stranger" p_first_stranger (spFirst k) := by
  have step : ∀ k, Fn P w K mg base (4 * k + 4) "first_stranger" p_first_stranger (spFirst' k) → Fn P w K mg base (4 * k + 8) "first_stranger" p_first_stranger (spFirst k) := fun k F => by
    refine fn_ok (k := 4 * k + 4) W 5 sc_first_stranger (spP_len fun _ => rfl) (fun _ _ _ _ _ _ us hl => match us, hl with | [_, _], _ => rfl) fun f cdv A outer s H vs Q E hr h => ⟨_, w_first_stranger (spFirst' k) W hr F, ?_⟩
    obtain ⟨⟨row, nms⟩, ⟨hk, hrow, hnm⟩, hr', hq⟩ := h
    obtain ⟨v0, v1, rfl, r0, r1⟩ := reps2 hr'
    have hs : ∀ z ∈ nms, PyData.strOk z = true := fun z hz => (hnm z hz).ok
    show tSeq _ _ _ _ _
    refine k_seq (k_for (Rl := Ex) (wz_tup (e_var rfl r0)) (fun H3 i σ1 H4 => Ex H3 H4 ∧ ∃ o2 o3, σ1 = [some v0, some v1, o2, o3]) (fun H3 e3 => ⟨Ex.refl _, _, _, rfl⟩) (fun _ i σ1 H4 h => h.1) (fun _ i σ1 H4 H5 h e => ⟨h.1.trans e, h.2⟩) ?_ ?_)
    · rintro H3 e3 i x v _ H4 hx ⟨e4, o2, o3, rfl⟩ y
      have hxm : x ∈ row := List.mem_of_getElem? hx
      have op := hrow.part x hxm
      have r1' : Enc.rep (tp H4) v1 nms := up (Rl := Ex) (e3.trans e4) r1
      refine tgt_name ?_
      rcases PT.cases y op with ⟨z, rfl, hz, _⟩ | ⟨k', r, t, rfl, ry, hr2, ht, _⟩
      · dsimp only
        refine k_seq (k_set (Rl := Ex) (a := ()) (e_if (et_test (e_op (e_var (a := z) rfl rfl) (e_var rfl r1') rv_ninS)) (fun h => ?_) fun _ => e_c fun _ => rfl) fun v3 H5 e5 r3 => ?_)
        · rw [decide_eq_true hz] at h; cases h
        obtain rfl : v3 = .non := r3
        dsimp only
        refine k_seq (k_ifN (Rl := Ex) (et_B (e_isi (e_var (a := z) rfl rfl) ty_str k_str_tup)) fun H6 e6 => ?_)
        dsimp only
        refine k_ifN (Rl := Ex) (et_is (et_test (e_op (c := false) (e_var (a := Raw.mk .non) rfl rfl) (e_c (a := Raw.mk .non) fun _ => rfl) fun a b H1 _ ha hb Q q => ?_)) rfl) fun H7 e7 => ⟨e4.trans (e5.trans (e6.trans e7)), _, _, rfl⟩
        obtain rfl : a = .non := ha
        obtain rfl : b = .non := hb
        exact ⟨rfl, q _ H1 (Ex.refl _) rfl⟩
      · have hd := dpP (K := K) _ x v y
        dsimp only
        let b : Bool := !((nms.map EncD.py).any fun z => PyData.eqv z (pyP (k' + 1) x))
        refine k_seq (k_set (Rl := Ex) (a := Raw.mk (if b = true then v else .non)) (e_if (b := b) (et_test (e_op (c := b) (e_var (a := x) rfl y) (e_var rfl r1') fun a c H1 e1 ha hc Q q => ?_)) (fun h => by rw [if_pos h]; exact e_var rfl rfl) fun h => by rw [if_neg (by rw [h]; decide)]; exact e_c fun _ => rfl) fun v3 H5 e5 r3 => ?_)
        · refine .inr (.inr (.inl ⟨pyP (k' + 1) x, nms.map EncD.py, dpP _ x a ha, EncD.dp (toSq hc), shpP hs op hk, shp (α := List Str) (fun z hz => hs z hz) (by decide), q _ H1 (Ex.refl _) rfl⟩))
        have ry5 := up (Rl := Ex) e5 ry
        dsimp only
        refine k_seq (k_ifT (Rl := Ex) (et_B (e_isi (e_var rfl ry5) ty_pair k_tup_tup)) fun H6 e6 => ?_)
        have ry6 := up (Rl := Ex) e6 ry5
        have r16 := up (Rl := Ex) (e5.trans e6) r1'
        refine k_set (Rl := Ex) (a := ()) (e_call (ι := List (PT k') × List Str) (res := fun _ => ()) (r, nms) (ea_cons (e_fst (p := (r, t)) (e_var rfl ry6) (eN 0)) (ea_cons (e_var rfl r16) ea_nil)) fun _ _ => ⟨by omega, hr2, hnm⟩) fun v4 H7 e7 r4 => ?_
        obtain rfl : v4 = .non := r4
        dsimp only
        refine k_ifN (Rl := Ex) (et_is (et_test (e_op (c := false) (e_var (a := Raw.mk .non) rfl rfl) (e_c (a := Raw.mk .non) fun _ => rfl) fun a b H1 _ ha hb Q q => ?_)) rfl) fun H8 e8 => ⟨e4.trans (e5.trans (e6.trans (e7.trans e8))), _, _, rfl⟩
        obtain rfl : a = .non := ha
        obtain rfl : b = .non := hb
        exact ⟨rfl, q _ H1 (Ex.refl _) rfl⟩
    · rintro H3 e3 _ H4 ⟨e4, o2, o3, rfl⟩
      dsimp only
      exact k_ret (Rl := Ex) (a := ()) (e_c fun _ => rfl) fun v H5 e5 r => hq v H5 (e3.trans (e4.trans e5)) r
  intro k
  induction k with
  | zero => exact step 0 (ok_first_none W)
  | succ k ih => exact step (k + 1) (ih.mono (by omega))
theorem ok_need_names (W : Wd K mg) (k : Nat) : Fn P w K mg base (4 * k + 12) "need_names" p_need_names (spNeed k) := by
  refine fn_ok (k := 4 * k + 8) W 6 sc_need_names (spP_len fun _ => rfl) (fun _ _ _ _ _ _ us hl => match us, hl with | [_, _], _ => rfl) fun f cdv A outer s H vs Q E hr h => ⟨_, w_need_names (spFirst k) W hr (ok_first_stranger W k), ?_⟩
  obtain ⟨⟨row, nms⟩, hpre, hr', hq⟩ := h
  obtain ⟨v0, v1, rfl, r0, r1⟩ := reps2 hr'
  show tSeq _ _ _ _ _
  refine k_seq (k_set (Rl := Ex) (a := ()) (e_call (ι := List (PT k) × List Str) (res := fun _ => ()) (row, nms) (ea_cons (e_var rfl r0) (ea_cons (e_var rfl r1) ea_nil)) fun _ _ => hpre) fun v4 H7 e7 r4 => ?_)
  obtain rfl : v4 = .non := r4
  dsimp only
  refine k_ifN (Rl := Ex) (et_is (et_test (e_op (c := false) (e_var (a := Raw.mk .non) rfl rfl) (e_c (a := Raw.mk .non) fun _ => rfl) fun a b H1 _ ha hb Q q => ?_)) rfl) fun H8 e8 => hq _ _ (e7.trans e8) rfl
  obtain rfl : a = .non := ha
  obtain rfl : b = .non := hb
  exact ⟨rfl, q _ H1 (Ex.refl _) rfl⟩
end
end B
namespace B
open PySem PySem.Spec PyProof.Rows L2
def n_law_deal : List Str := ["_law_script", "_law_base", "_law_cell", "_law_cells", "_law_mix"]
def p_law_deal : List Str := ["_law_script", "_law_base"]
theorem sc_law_deal : FnScope n_law_deal p_law_deal (defScope K26.s_law_deal) := ⟨rfl, rfl, rfl, by decide +kernel, rfl, by decide +kernel, by decide +kernel⟩
def t_law_deal (K : PySem.W.Frag) : TS := (tSeq (tAsg (tLc (iList K (tSl (rSlL K) (tVar 0) tNoPart (tPart (tC (.int 63))))) (gName 2) tYes (tCB rAbs (tCons (tCB rInt1 (tCons (tVar 2) tNil)) tNil)) [2]) (gName 3))
  (tSeq (tAsg (tOp (rAddU K) (tOp rMulU (tC (.int 48611)) (tVar 1)) (tC (.int 1319))) (gName 4))
  (tSeq (tFor (iList K (tVar 3)) (gName 2) (tAsg (tOp rModI (tCB rInt1 (tCons (tOp (rAddU K) (tOp (rAddU K) (tOp rMulU (tVar 4) (tC (.int 50021))) (tOp rModI (tVar 2) (tC (.int 2147483563)))) (tC (.int 83))) tNil)) (tC (.int 2147483647))) (gName 4)))
  (tRet (tLst (tCons (tRevL K (tLc (iList K (tVar 3)) (gName 2) (tTest (tOp rGeI (tVar 2) (tOp rPowI (tC (.int 10)) (tC (.int 18))))) (tVar 2) [2])) (tCons (tVar 4) tNil)))))))
theorem w_law_deal {P : Program} {w : World} {K : PySem.W.Frag} {mg : Str → Option Value} {base : Heap} {f : Addr} {cdv : Value} {A : Around} {outer : List Env} {s : Shared} {H : Hp} {E : XK} {k : Nat} (W : Wd K mg)
    (hr : Room (k + 3) (A.deeper (envOfC "_law_deal" (defScope K26.s_law_deal) s.heap.objs.size f cdv))) :
    PSs (cxOf CX0 P w K mg base n_law_deal "_law_deal" (defScope K26.s_law_deal) f cdv A outer s H E).nox (defBody K26.s_law_deal) (t_law_deal K) := by
  have hr0 := hr.mono (Nat.le_add_right k 3)
  have hr1 : Room (k + 1) _ := hr.mono (by omega)
  have hu := huS hr
  have hu1 := huS1 hr
  exact (pss_cons (ps_setLc (i := 3) (own := [("_law_cell", 2)]) rfl sc_law_deal.nd rfl rfl (sw_true rfl rfl rfl (by decide +kernel)) (pi_list (pe_slice sl_list (pv 0) po_none (po_some pe_int))) (blkOk_by (N := n_law_deal) (sc := defScope K26.s_law_deal) (by decide +kernel)) (fun _ _ _ _ _ => (pg_name (i := 2) sc_law_deal.nd rfl (by first | exact Or.inl rfl | exact Or.inr rfl))) (fun _ _ _ _ _ => pts_nil) (fun _ _ _ _ _ => (pe_callB call_abs rfl (W.free 64) boot_abs (pa_cons (pe_callTy call_int1 rfl (W.free 51) boot_int (pa_cons (pv 2) pa_nil)) pa_nil))))
    (pss_cons (ps_set (i := 4) sc_law_deal.nd rfl (Or.inl rfl) (pe_op op_addU (pe_op op_mulU pe_int (pv 1)) pe_int))
    (pss_cons (ps_for PassesOwn.never rfl (pi_list (pv 3)) (pg_name (i := 2) sc_law_deal.nd rfl (Or.inl rfl)) (pss_one (ps_set (i := 4) sc_law_deal.nd rfl (Or.inl rfl) (pe_op op_modI (pe_callTy call_int1 rfl (W.free 51) boot_int (pa_cons (pe_op op_addU (pe_op op_addU (pe_op op_mulU (pv 4) pe_int) (pe_op op_modI (pv 2) pe_int)) pe_int) pa_nil)) pe_int))))
    (pss_one (ps_ret (pe_lst (pa_cons (pe_revL (pe_lc (own := [("_law_cell", 2)]) rfl sc_law_deal.nd (pi_list (pv 3)) (blkOk_by (N := n_law_deal) (sc := defScope K26.s_law_deal) (by decide +kernel)) (fun _ _ _ _ _ => (pg_name (i := 2) sc_law_deal.nd rfl (by first | exact Or.inl rfl | exact Or.inr rfl))) (fun _ _ _ _ _ => (pts_one (pt_cmpR op_geI (pv 2) (pe_op op_powI pe_int pe_int) (nomark _)))) (fun _ _ _ _ _ => (pv 2)))) (pa_cons (pv 4) pa_nil))))))))
def n_law_name : List Str := ["_law_deal_here", "_law_taken", "_law_turn_here", "_law_name_here", "_law_letter"]
def p_law_name : List Str := ["_law_deal_here", "_law_taken"]
theorem sc_law_name : FnScope n_law_name p_law_name (defScope K26.s_law_name) := ⟨rfl, rfl, rfl, by decide +kernel, rfl, by decide +kernel, by decide +kernel⟩
def t_law_name (K : PySem.W.Frag) (sp_law_any : Sp) : TS := (tSeq (tFor (iRng1 (tCons (tC (.int 9)) tNil)) (gName 2) (tSeq (tAsg (tC (.str "")) (gName 3))
  (tSeq (tFor (iRng1 (tCons (tOp (rAddU K) (tC (.int 1)) (tOp rMulU (tCall sp_law_any [] E0 (tCons (tVar 0) (tCons (tC (.int 2)) tNil))) (tCall sp_law_any [] E0 (tCons (tVar 0) (tCons (tC (.int 8)) tNil))))) tNil)) (gName 4) (tAsg (tOp (rAddU K) (tVar 3) (tOp (rIxU K) (tC (.str "abcdefghijklmnopqrstuvwxyz")) (tCall sp_law_any [] E0 (tCons (tVar 0) (tCons (tC (.int 26)) tNil))))) (gName 3)))
  (tIfS (tTest (tOp (rNinU K) (tVar 3) (tVar 1))) (tRet (tVar 3)) tNext))))
  (tRet (tOp (rIxU K) (tLc (iStr (tC (.str "abcdefghijkl"))) (gName 4) (tTest (tOp (rNinU K) (tVar 4) (tVar 1))) (tVar 4) [4]) (tC (.int 0)))))
theorem w_law_name {P : Program} {w : World} {K : PySem.W.Frag} {mg : Str → Option Value} {base : Heap} {f : Addr} {cdv : Value} {A : Around} {outer : List Env} {s : Shared} {H : Hp} {E : XK} {k : Nat} (sp_law_any : Sp) (W : Wd K mg)
    (hr : Room (k + 3) (A.deeper (envOfC "_law_name" (defScope K26.s_law_name) s.heap.objs.size f cdv))) (F_law_any : Fn P w K mg base k "_law_any" p_law_any sp_law_any) :
    PSs (cxOf CX0 P w K mg base n_law_name "_law_name" (defScope K26.s_law_name) f cdv A outer s H E).nox (defBody K26.s_law_name) (t_law_name K sp_law_any) := by
  have hr0 := hr.mono (Nat.le_add_right k 3)
  have hr1 : Room (k + 1) _ := hr.mono (by omega)
  have hu := huS hr
  have hu1 := huS1 hr
  exact (pss_cons (ps_for PassesOwn.never rfl (pi_range1 rfl (W.free 61) (pa_cons pe_int pa_nil)) (pg_name (i := 2) sc_law_name.nd rfl (Or.inl rfl)) (pss_cons (ps_set (i := 3) sc_law_name.nd rfl (Or.inl rfl) pe_str)
    (pss_cons (ps_for PassesOwn.never rfl (pi_range1 rfl (W.free 61) (pa_cons (pe_op op_addU pe_int (pe_op op_mulU (pe_f F_law_any (Nat.le_refl _) hr0 rfl (W.glo 32) (pa_cons (pv 0) (pa_cons pe_int pa_nil))) (pe_f F_law_any (Nat.le_refl _) hr0 rfl (W.glo 32) (pa_cons (pv 0) (pa_cons pe_int pa_nil))))) pa_nil)) (pg_name (i := 4) sc_law_name.nd rfl (Or.inl rfl)) (pss_one (ps_set (i := 3) sc_law_name.nd rfl (Or.inl rfl) (pe_op op_addU (pv 3) (pe_ix (ix_U hu) pe_str (pe_f F_law_any (Nat.le_refl _) hr0 rfl (W.glo 32) (pa_cons (pv 0) (pa_cons pe_int pa_nil))) fun _ _ => rfl)))))
    (pss_one (ps_if (pt_cmpR (op_ninU hu) (pv 3) (pv 1) rfl) (pss_one (ps_ret (pv 3))) pss_nil)))))
    (pss_one (ps_ret (pe_ix (ix_U hu) (pe_lc (own := [("_law_letter", 4)]) rfl sc_law_name.nd (pi_str pe_str) (blkOk_by (N := n_law_name) (sc := defScope K26.s_law_name) (by decide +kernel)) (fun _ _ _ _ _ => (pg_name (i := 4) sc_law_name.nd rfl (by first | exact Or.inl rfl | exact Or.inr rfl))) (fun _ _ _ _ _ => (pts_one (pt_cmpR (op_ninU hu) (pv 4) (pv 1) rfl))) (fun _ _ _ _ _ => (pv 4))) pe_int fun _ _ => rfl))))
def n_law_turn : List Str := ["_law_deal_here", "_law_n", "_law_left", "_law_found", "_law_turn_here"]
def p_law_turn : List Str := ["_law_deal_here", "_law_n"]
theorem sc_law_turn : FnScope n_law_turn p_law_turn (defScope K26.s_law_turn) := ⟨rfl, rfl, rfl, by decide +kernel, rfl, by decide +kernel, by decide +kernel⟩
def t_law_turn (K : PySem.W.Frag) (sp_law_any : Sp) : TS := (tSeq (tAsg (tLstRg (tRg1 (tVar 1))) (gName 2))
  (tSeq (tAsg (tLst tNil) (gName 3))
  (tSeq (tFor (iRng1 (tCons (tVar 1) tNil)) (gName 4) (tDrop (tBM K "list" rAppend (tVar 3) (tCons (tBM K "list" rPopAt (tVar 2) (tCons (tCall sp_law_any [] E0 (tCons (tVar 0) (tCons (tCB (rLenU K) (tCons (tVar 2) tNil)) tNil))) tNil)) tNil))))
  (tRet (tThen (tVar 3) (kTup K))))))
theorem w_law_turn {P : Program} {w : World} {K : PySem.W.Frag} {mg : Str → Option Value} {base : Heap} {f : Addr} {cdv : Value} {A : Around} {outer : List Env} {s : Shared} {H : Hp} {E : XK} {k : Nat} (sp_law_any : Sp) (W : Wd K mg)
    (hr : Room (k + 3) (A.deeper (envOfC "_law_turn" (defScope K26.s_law_turn) s.heap.objs.size f cdv))) (F_law_any : Fn P w K mg base k "_law_any" p_law_any sp_law_any) :
    PSs (cxOf CX0 P w K mg base n_law_turn "_law_turn" (defScope K26.s_law_turn) f cdv A outer s H E).nox (defBody K26.s_law_turn) (t_law_turn K sp_law_any) := by
  have hr0 := hr.mono (Nat.le_add_right k 3)
  have hr1 : Room (k + 1) _ := hr.mono (by omega)
  have hu := huS hr
  have hu1 := huS1 hr
  exact (pss_cons (ps_set (i := 2) sc_law_turn.nd rfl (Or.inl rfl) (pe_listRg rfl rfl (W.free 54) (prg_1 rfl (W.free 61) (pv 1))))
    (pss_cons (ps_set (i := 3) sc_law_turn.nd rfl (Or.inl rfl) (pe_lst pa_nil))
    (pss_cons (ps_for PassesOwn.never rfl (pi_range1 rfl (W.free 61) (pa_cons (pv 1) pa_nil)) (pg_name (i := 4) sc_law_turn.nd rfl (Or.inl rfl)) (pss_one (ps_expr (pe_bm PySem.F.plainAttrs_list PySem.F.slot_list_append PySem.F.type_list_append mt_append (pv 3) (pa_cons (pe_bm PySem.F.plainAttrs_list PySem.F.slot_list_pop PySem.F.type_list_pop mt_popAt (pv 2) (pa_cons (pe_f F_law_any (Nat.le_refl _) hr0 rfl (W.glo 32) (pa_cons (pv 0) (pa_cons (pe_callB call_lenU rfl (W.free 56) boot_len (pa_cons (pv 2) pa_nil)) pa_nil))) pa_nil)) pa_nil)))))
    (pss_one (ps_ret (pe_tupleOf rfl (W.free 55) (pv 3)))))))
def n_law_images : List Str := ["_law_deal_here", "_law_n", "_law_kind", "_law_one", "_law_other", "_law_state"]
def p_law_images : List Str := ["_law_deal_here", "_law_n", "_law_kind"]
theorem sc_law_images : FnScope n_law_images p_law_images (defScope K26.s_law_images) := ⟨rfl, rfl, rfl, by decide +kernel, rfl, by decide +kernel, by decide +kernel⟩
def t_law_images (K : PySem.W.Frag) (sp_law_any sp_law_turn : Sp) : TS := (tSeq (tAsg (tTup (tCons (tCall sp_law_any [] E0 (tCons (tVar 0) (tCons (tVar 1) tNil))) (tCons (tCall sp_law_any [] E0 (tCons (tVar 0) (tCons (tVar 1) tNil))) tNil))) (gTup K 2 (gCons (gName 3) (gCons (gName 4) gNil))))
  (tSeq (tIfS (tTest (tOp (rInU K) (tVar 2) (tTup (tCons (tC (.str "led")) (tCons (tC (.str "two")) tNil))))) (tAsg (tOp rModI (tCB rInt1 (tCons (tOp (rAddU K) (tOp (rAddU K) (tVar 3) (tC (.int 1))) (tCall sp_law_any [] E0 (tCons (tVar 0) (tCons (tOp rSubI (tVar 1) (tC (.int 1))) tNil)))) tNil)) (tVar 1)) (gName 4)) tNext)
  (tSeq (tIfS (tTest (tOp (rEqU K) (tVar 2) (tC (.str "turn")))) (tRet (tCall sp_law_turn [] E0 (tCons (tVar 0) (tCons (tVar 1) tNil)))) tNext)
  (tSeq (tIfS (tTest (tOp (rEqU K) (tVar 2) (tC (.str "any")))) (tRet (tThen (tLc (iRng1 (tCons (tVar 1) tNil)) (gName 5) tYes (tCall sp_law_any [] E0 (tCons (tVar 0) (tCons (tVar 1) tNil))) [5]) (kTup K))) tNext)
  (tSeq (tIfS (tTest (tOp (rEqU K) (tVar 2) (tC (.str "line")))) (tRet (tThen (tLc (iRng1 (tCons (tVar 1) tNil)) (gName 5) tYes (tOp rModI (tCB rInt1 (tCons (tOp (rAddU K) (tOp rMulU (tVar 3) (tVar 5)) (tVar 4)) tNil)) (tVar 1)) [5]) (kTup K))) tNext)
  (tSeq (tIfS (tTest (tOp (rEqU K) (tVar 2) (tC (.str "led")))) (tRet (tThen (tLc (iRng1 (tCons (tVar 1) tNil)) (gName 5) tYes (tIf (tTest (tOp (rEqU K) (tVar 5) (tVar 4))) (tVar 3) (tVar 5)) [5]) (kTup K))) tNext)
  (tSeq (tIfS (tTest (tOp (rEqU K) (tVar 2) (tC (.str "two")))) (tRet (tThen (tLc (iRng1 (tCons (tVar 1) tNil)) (gName 5) tYes (tIf (tTest (tOp (rEqU K) (tVar 5) (tVar 4))) (tVar 3) (tIf (tTest (tOp (rEqU K) (tVar 5) (tVar 3))) (tVar 4) (tVar 5))) [5]) (kTup K))) tNext)
  (tSeq (tIfS (tTest (tOp (rEqU K) (tVar 2) (tC (.str "ring")))) (tRet (tThen (tLc (iRng1 (tCons (tVar 1) tNil)) (gName 5) tYes (tOp rModI (tCB rInt1 (tCons (tOp (rAddU K) (tVar 5) (tC (.int 1))) tNil)) (tVar 1)) [5]) (kTup K))) tNext)
  (tSeq (tIfS (tTest (tOp (rEqU K) (tVar 2) (tC (.str "mirror")))) (tRet (tThen (tLc (iRng1 (tCons (tVar 1) tNil)) (gName 5) tYes (tOp rModI (tCB rInt1 (tCons (tOp rSubI (tVar 3) (tVar 5)) tNil)) (tVar 1)) [5]) (kTup K))) tNext)
  (tRet (tThen (tLc (iRng1 (tCons (tVar 1) tNil)) (gName 5) tYes (tVar 3) [5]) (kTup K))))))))))))
theorem w_law_images {P : Program} {w : World} {K : PySem.W.Frag} {mg : Str → Option Value} {base : Heap} {f : Addr} {cdv : Value} {A : Around} {outer : List Env} {s : Shared} {H : Hp} {E : XK} {k : Nat} (sp_law_any sp_law_turn : Sp) (W : Wd K mg)
    (hr : Room (k + 3) (A.deeper (envOfC "_law_images" (defScope K26.s_law_images) s.heap.objs.size f cdv))) (F_law_any : Fn P w K mg base k "_law_any" p_law_any sp_law_any) (F_law_turn : Fn P w K mg base k "_law_turn" p_law_turn sp_law_turn) :
    PSs (cxOf CX0 P w K mg base n_law_images "_law_images" (defScope K26.s_law_images) f cdv A outer s H E).nox (defBody K26.s_law_images) (t_law_images K sp_law_any sp_law_turn) := by
  have hr0 := hr.mono (Nat.le_add_right k 3)
  have hr1 : Room (k + 1) _ := hr.mono (by omega)
  have hu := huS hr
  have hu1 := huS1 hr
  exact (pss_cons (ps_asg (pe_tup (pa_cons (pe_f F_law_any (Nat.le_refl _) hr0 rfl (W.glo 32) (pa_cons (pv 0) (pa_cons (pv 1) pa_nil))) (pa_cons (pe_f F_law_any (Nat.le_refl _) hr0 rfl (W.glo 32) (pa_cons (pv 0) (pa_cons (pv 1) pa_nil))) pa_nil))) (pg_tup rfl (pgs_cons (pg_name (i := 3) sc_law_images.nd rfl (Or.inr rfl)) (pgs_cons (pg_name (i := 4) sc_law_images.nd rfl (Or.inr rfl)) pgs_nil))))
    (pss_cons (ps_if (pt_cmpR (op_inU hu) (pv 2) (pe_tup (pa_cons pe_str (pa_cons pe_str pa_nil))) rfl) (pss_one (ps_set (i := 4) sc_law_images.nd rfl (Or.inr rfl) (pe_op op_modI (pe_callTy call_int1 rfl (W.free 51) boot_int (pa_cons (pe_op op_addU (pe_op op_addU (pv 3) pe_int) (pe_f F_law_any (Nat.le_refl _) hr0 rfl (W.glo 32) (pa_cons (pv 0) (pa_cons (pe_op op_subI (pv 1) pe_int) pa_nil)))) pa_nil)) (pv 1)))) pss_nil)
    (pss_cons (ps_if (pt_cmpR (op_eqU hu) (pv 2) pe_str (nomark _)) (pss_one (ps_ret (pe_f F_law_turn (Nat.le_refl _) hr0 rfl (W.glo 35) (pa_cons (pv 0) (pa_cons (pv 1) pa_nil))))) pss_nil)
    (pss_cons (ps_if (pt_cmpR (op_eqU hu) (pv 2) pe_str (nomark _)) (pss_one (ps_ret (pe_tupleOf rfl (W.free 55) (pe_lc (own := [("_law_state", 5)]) rfl sc_law_images.nd (pi_range1 rfl (W.free 61) (pa_cons (pv 1) pa_nil)) (blkOk_by (N := n_law_images) (sc := defScope K26.s_law_images) (by decide +kernel)) (fun _ _ _ _ _ => (pg_name (i := 5) sc_law_images.nd rfl (by first | exact Or.inl rfl | exact Or.inr rfl))) (fun _ _ _ _ _ => pts_nil) (fun _ _ _ _ _ => (pe_f F_law_any (Nat.le_refl _) hr0 rfl (W.glo 32) (pa_cons (pv 0) (pa_cons (pv 1) pa_nil)))))))) pss_nil)
    (pss_cons (ps_if (pt_cmpR (op_eqU hu) (pv 2) pe_str (nomark _)) (pss_one (ps_ret (pe_tupleOf rfl (W.free 55) (pe_lc (own := [("_law_state", 5)]) rfl sc_law_images.nd (pi_range1 rfl (W.free 61) (pa_cons (pv 1) pa_nil)) (blkOk_by (N := n_law_images) (sc := defScope K26.s_law_images) (by decide +kernel)) (fun _ _ _ _ _ => (pg_name (i := 5) sc_law_images.nd rfl (by first | exact Or.inl rfl | exact Or.inr rfl))) (fun _ _ _ _ _ => pts_nil) (fun _ _ _ _ _ => (pe_op op_modI (pe_callTy call_int1 rfl (W.free 51) boot_int (pa_cons (pe_op op_addU (pe_op op_mulU (pv 3) (pv 5)) (pv 4)) pa_nil)) (pv 1))))))) pss_nil)
    (pss_cons (ps_if (pt_cmpR (op_eqU hu) (pv 2) pe_str (nomark _)) (pss_one (ps_ret (pe_tupleOf rfl (W.free 55) (pe_lc (own := [("_law_state", 5)]) rfl sc_law_images.nd (pi_range1 rfl (W.free 61) (pa_cons (pv 1) pa_nil)) (blkOk_by (N := n_law_images) (sc := defScope K26.s_law_images) (by decide +kernel)) (fun _ _ _ _ _ => (pg_name (i := 5) sc_law_images.nd rfl (by first | exact Or.inl rfl | exact Or.inr rfl))) (fun _ _ _ _ _ => pts_nil) (fun _ _ _ _ _ => (pe_ifExp (pt_cmpR (op_eqU hu) (pv 5) (pv 4) (nomark _)) (pv 3) (pv 5))))))) pss_nil)
    (pss_cons (ps_if (pt_cmpR (op_eqU hu) (pv 2) pe_str (nomark _)) (pss_one (ps_ret (pe_tupleOf rfl (W.free 55) (pe_lc (own := [("_law_state", 5)]) rfl sc_law_images.nd (pi_range1 rfl (W.free 61) (pa_cons (pv 1) pa_nil)) (blkOk_by (N := n_law_images) (sc := defScope K26.s_law_images) (by decide +kernel)) (fun _ _ _ _ _ => (pg_name (i := 5) sc_law_images.nd rfl (by first | exact Or.inl rfl | exact Or.inr rfl))) (fun _ _ _ _ _ => pts_nil) (fun _ _ _ _ _ => (pe_ifExp (pt_cmpR (op_eqU hu) (pv 5) (pv 4) (nomark _)) (pv 3) (pe_ifExp (pt_cmpR (op_eqU hu) (pv 5) (pv 3) (nomark _)) (pv 4) (pv 5)))))))) pss_nil)
    (pss_cons (ps_if (pt_cmpR (op_eqU hu) (pv 2) pe_str (nomark _)) (pss_one (ps_ret (pe_tupleOf rfl (W.free 55) (pe_lc (own := [("_law_state", 5)]) rfl sc_law_images.nd (pi_range1 rfl (W.free 61) (pa_cons (pv 1) pa_nil)) (blkOk_by (N := n_law_images) (sc := defScope K26.s_law_images) (by decide +kernel)) (fun _ _ _ _ _ => (pg_name (i := 5) sc_law_images.nd rfl (by first | exact Or.inl rfl | exact Or.inr rfl))) (fun _ _ _ _ _ => pts_nil) (fun _ _ _ _ _ => (pe_op op_modI (pe_callTy call_int1 rfl (W.free 51) boot_int (pa_cons (pe_op op_addU (pv 5) pe_int) pa_nil)) (pv 1))))))) pss_nil)
    (pss_cons (ps_if (pt_cmpR (op_eqU hu) (pv 2) pe_str (nomark _)) (pss_one (ps_ret (pe_tupleOf rfl (W.free 55) (pe_lc (own := [("_law_state", 5)]) rfl sc_law_images.nd (pi_range1 rfl (W.free 61) (pa_cons (pv 1) pa_nil)) (blkOk_by (N := n_law_images) (sc := defScope K26.s_law_images) (by decide +kernel)) (fun _ _ _ _ _ => (pg_name (i := 5) sc_law_images.nd rfl (by first | exact Or.inl rfl | exact Or.inr rfl))) (fun _ _ _ _ _ => pts_nil) (fun _ _ _ _ _ => (pe_op op_modI (pe_callTy call_int1 rfl (W.free 51) boot_int (pa_cons (pe_op op_subI (pv 3) (pv 5)) pa_nil)) (pv 1))))))) pss_nil)
    (pss_one (ps_ret (pe_tupleOf rfl (W.free 55) (pe_lc (own := [("_law_state", 5)]) rfl sc_law_images.nd (pi_range1 rfl (W.free 61) (pa_cons (pv 1) pa_nil)) (blkOk_by (N := n_law_images) (sc := defScope K26.s_law_images) (by decide +kernel)) (fun _ _ _ _ _ => (pg_name (i := 5) sc_law_images.nd rfl (by first | exact Or.inl rfl | exact Or.inr rfl))) (fun _ _ _ _ _ => pts_nil) (fun _ _ _ _ _ => (pv 3)))))))))))))))
def n_law_effects : List Str := ["_law_n", "_law_deeds", "_law_limit", "_law_found", "_law_known", "_law_at", "_law_name_here", "_law_images_here", "_law_effect_here"]
def p_law_effects : List Str := ["_law_n", "_law_deeds", "_law_limit"]
theorem sc_law_effects : FnScope n_law_effects p_law_effects (defScope K26.s_law_effects) := ⟨rfl, rfl, rfl, by decide +kernel, rfl, by decide +kernel, by decide +kernel⟩
def t_law_effects (K : PySem.W.Frag) (sp_law_then : Sp) : TS := (tSeq (tAsg (tLst (tCons (tTup (tCons (tTupRg (tRg1 (tVar 0))) (tCons (tTup tNil) tNil))) tNil)) (gName 3))
  (tSeq (tAsg (tDisp1T (tTupRg (tRg1 (tVar 0))) (tC (.int 0))) (gName 4))
  (tSeq (tAsg (tC (.int 0)) (gName 5))
  (tSeq (tWhile (tAnd (tTest (tOp rLtI (tVar 5) (tCB (rLenU K) (tCons (tVar 3) tNil)))) (tTest (tOp rLeI (tCB (rLenU K) (tCons (tVar 3) tNil)) (tVar 2)))) (tSeq (tFor (iList K (tVar 1)) (gTup K 2 (gCons (gName 6) (gCons (gName 7) gNil))) (tSeq (tAsg (tCall sp_law_then [] E0 (tCons (tOp (rIxU K) (tOp (rIxU K) (tVar 3) (tVar 5)) (tC (.int 0))) (tCons (tVar 7) tNil))) (gName 8))
  (tIfS (tTest (tOp (rNinU K) (tVar 8) (tVar 4))) (tSeq (sDPut (tVar 4) (tVar 8) (tCB (rLenU K) (tCons (tVar 3) tNil)))
  (tDrop (tBM K "list" rAppend (tVar 3) (tCons (tTup (tCons (tVar 8) (tCons (tOp (rAddU K) (tOp (rIxU K) (tOp (rIxU K) (tVar 3) (tVar 5)) (tC (.int 1))) (tTup (tCons (tVar 6) tNil))) tNil))) tNil)))) tNext)))
  (tAsg (tOp (rAddU K) (tVar 5) (tC (.int 1))) (gName 5))))
  (tRet (tVar 3))))))
theorem w_law_effects {P : Program} {w : World} {K : PySem.W.Frag} {mg : Str → Option Value} {base : Heap} {f : Addr} {cdv : Value} {A : Around} {outer : List Env} {s : Shared} {H : Hp} {E : XK} {k : Nat} (sp_law_then : Sp) (W : Wd K mg)
    (hr : Room (k + 3) (A.deeper (envOfC "_law_effects" (defScope K26.s_law_effects) s.heap.objs.size f cdv))) (F_law_then : Fn P w K mg base k "_law_then" p_law_then sp_law_then) :
    PSs (cxOf CX0 P w K mg base n_law_effects "_law_effects" (defScope K26.s_law_effects) f cdv A outer s H E).nox (defBody K26.s_law_effects) (t_law_effects K sp_law_then) := by
  have hr0 := hr.mono (Nat.le_add_right k 3)
  have hr1 : Room (k + 1) _ := hr.mono (by omega)
  have hu := huS hr
  have hu1 := huS1 hr
  exact (pss_cons (ps_set (i := 3) sc_law_effects.nd rfl (Or.inl rfl) (pe_lst (pa_cons (pe_tup (pa_cons (pe_tupRg rfl rfl (W.free 55) (prg_1 rfl (W.free 61) (pv 0))) (pa_cons (pe_tup pa_nil) pa_nil))) pa_nil)))
    (pss_cons (ps_set (i := 4) sc_law_effects.nd rfl (Or.inl rfl) (pe_disp1T hu1 (pe_tupRg rfl rfl (W.free 55) (prg_1 rfl (W.free 61) (pv 0))) pe_int))
    (pss_cons (ps_set (i := 5) sc_law_effects.nd rfl (Or.inl rfl) pe_int)
    (pss_cons (ps_while PassesOwn.never (PW.pt (pw_and (pt_cmpR op_ltI (pv 5) (pe_callB call_lenU rfl (W.free 56) boot_len (pa_cons (pv 3) pa_nil)) (nomark _)) (pw_and1 (pt_cmpR op_leI (pe_callB call_lenU rfl (W.free 56) boot_len (pa_cons (pv 3) pa_nil)) (pv 2) (nomark _))))) (pss_cons (ps_for PassesOwn.never rfl (pi_list (pv 1)) (pg_tup rfl (pgs_cons (pg_name (i := 6) sc_law_effects.nd rfl (Or.inl rfl)) (pgs_cons (pg_name (i := 7) sc_law_effects.nd rfl (Or.inl rfl)) pgs_nil))) (pss_cons (ps_set (i := 8) sc_law_effects.nd rfl (Or.inl rfl) (pe_f F_law_then (Nat.le_refl _) hr0 rfl (W.glo 37) (pa_cons (pe_ix (ix_U hu) (pe_ix (ix_U hu) (pv 3) (pv 5) fun _ _ => rfl) pe_int fun _ _ => rfl) (pa_cons (pv 7) pa_nil))))
    (pss_one (ps_if (pt_cmpR (op_ninU hu) (pv 8) (pv 4) rfl) (pss_cons (ps_dput hu1 (pv 4) (pv 8) (pe_callB call_lenU rfl (W.free 56) boot_len (pa_cons (pv 3) pa_nil)) rfl)
    (pss_one (ps_expr (pe_bm PySem.F.plainAttrs_list PySem.F.slot_list_append PySem.F.type_list_append mt_append (pv 3) (pa_cons (pe_tup (pa_cons (pv 8) (pa_cons (pe_op op_addU (pe_ix (ix_U hu) (pe_ix (ix_U hu) (pv 3) (pv 5) fun _ _ => rfl) pe_int fun _ _ => rfl) (pe_tup (pa_cons (pv 6) pa_nil))) pa_nil))) pa_nil))))) pss_nil))))
    (pss_one (ps_set (i := 5) sc_law_effects.nd rfl (Or.inl rfl) (pe_op op_addU (pv 5) pe_int)))))
    (pss_one (ps_ret (pv 3)))))))
def n_law_drawn : List Str := ["_law_deal_here", "_law_n", "_law_kinds", "_law_places", "_law_deeds", "_law_kind", "_law_images_here", "_law_step", "_law_state", "_law_moved", "_law_told", "_law_other"]
def p_law_drawn : List Str := ["_law_deal_here"]
theorem sc_law_drawn : FnScope n_law_drawn p_law_drawn (defScope K26.s_law_drawn) := ⟨rfl, rfl, rfl, by decide +kernel, rfl, by decide +kernel, by decide +kernel⟩
def t_law_drawn (K : PySem.W.Frag) (sp_law_effects sp_law_name sp_law_any sp_law_then sp_law_turn sp_law_images sp_law_of sp_law_shapes : Sp) : TS := (tSeq (tAsg (tCall sp_law_of [] E0 (tCons (tVar 0) (tCons (tCall sp_law_shapes [] E0 tNil) tNil))) (gTup K 2 (gCons (gName 1) (gCons (gName 2) gNil))))
  (tSeq (tPar 3 4 (tCons (tCall sp_law_turn [] E0 (tCons (tVar 0) (tCons (tVar 1) tNil))) (tCons (tLst tNil) tNil)))
  (tSeq (tFor (iTup K (tVar 2)) (gName 5) (tSeq (tAsg (tCall sp_law_images [] E0 (tCons (tVar 0) (tCons (tVar 1) (tCons (tIf (tTest (tOp (rEqU K) (tVar 5) (tC (.str "line")))) (tC (.str "turn")) (tVar 5)) tNil)))) (gName 6))
  (tSeq (tIfS (tTest (tOp (rEqU K) (tVar 5) (tC (.str "even")))) (tSeq (tAsg (tCall sp_law_turn [] E0 (tCons (tVar 0) (tCons (tVar 1) tNil))) (gName 6))
  (tAsg (tCall sp_law_then [] E0 (tCons (tVar 6) (tCons (tVar 6) tNil))) (gName 6))) tNext)
  (tSeq (tIfS (tTest (tOp (rEqU K) (tVar 5) (tC (.str "five")))) (tAsg (tTup (tCons (tC (.int 1)) (tCons (tC (.int 2)) (tCons (tC (.int 3)) (tCons (tC (.int 4)) (tCons (tC (.int 0)) (tCons (tC (.int 5)) tNil))))))) (gName 6)) tNext)
  (tSeq (tIfS (tTest (tOp (rEqU K) (tVar 5) (tC (.str "flip")))) (tAsg (tIf (tTest (tOp (rEqU K) (tCall sp_law_any [] E0 (tCons (tVar 0) (tCons (tC (.int 3)) tNil))) (tC (.int 0)))) (tTup (tCons (tC (.int 4)) (tCons (tC (.int 2)) (tCons (tC (.int 1)) (tCons (tC (.int 3)) (tCons (tC (.int 0)) (tCons (tC (.int 5)) tNil))))))) (tTup (tCons (tC (.int 5)) (tCons (tC (.int 4)) (tCons (tC (.int 2)) (tCons (tC (.int 3)) (tCons (tC (.int 1)) (tCons (tC (.int 0)) tNil)))))))) (gName 6)) tNext)
  (tSeq (tIfS (tTest (tOp (rEqU K) (tVar 5) (tC (.str "line")))) (tSeq (tAsg (tOp (rAddU K) (tC (.int 1)) (tCall sp_law_any [] E0 (tCons (tVar 0) (tCons (tOp rSubI (tVar 1) (tC (.int 1))) tNil)))) (gName 7))
  (tAsg (tThen (tLc (iRng1 (tCons (tVar 1) tNil)) (gName 8) tYes (tOp rModI (tCB rInt1 (tCons (tOp (rAddU K) (tOp rMulU (tVar 7) (tVar 8)) (tOp (rIxU K) (tVar 6) (tC (.int 0)))) tNil)) (tVar 1)) [8]) (kTup K)) (gName 6))) tNext)
  (tSeq (tAsg (tOp rMulU (tLst (tCons (tC (.int 0)) tNil)) (tVar 1)) (gName 9))
  (tSeq (tFor (iRng1 (tCons (tVar 1) tNil)) (gName 8) (tAsg (tOp (rIxU K) (tVar 3) (tOp (rIxU K) (tVar 6) (tVar 8))) (gSub (tVar 9) (tOp (rIxU K) (tVar 3) (tVar 8)) rSetL)))
  (tDrop (tBM K "list" rAppend (tVar 4) (tCons (tTup (tCons (tCall sp_law_name [] E0 (tCons (tVar 0) (tCons (tLc (iList K (tVar 4)) (gTup K 2 (gCons (gName 10) (gCons (gName 11) gNil))) tYes (tVar 10) [10, 11]) tNil))) (tCons (tThen (tVar 9) (kTup K)) tNil))) tNil)))))))))))
  (tSeq (tWhile (tAnd (tTest (tOp rGtI (tCB (rLenU K) (tCons (tVar 4) tNil)) (tC (.int 1)))) (tTest (tOp rGtI (tCB (rLenU K) (tCons (tCall sp_law_effects [] E0 (tCons (tVar 1) (tCons (tVar 4) (tCons (tC (.int 60)) tNil)))) tNil)) (tC (.int 60))))) (tDrop (tBM0 K "list" rPop (tVar 4))))
  (tRet (tTup (tCons (tVar 1) (tCons (tVar 4) tNil))))))))
theorem w_law_drawn {P : Program} {w : World} {K : PySem.W.Frag} {mg : Str → Option Value} {base : Heap} {f : Addr} {cdv : Value} {A : Around} {outer : List Env} {s : Shared} {H : Hp} {E : XK} {k : Nat} (sp_law_effects sp_law_name sp_law_any sp_law_then sp_law_turn sp_law_images sp_law_of sp_law_shapes : Sp) (W : Wd K mg)
    (hr : Room (k + 3) (A.deeper (envOfC "_law_drawn" (defScope K26.s_law_drawn) s.heap.objs.size f cdv))) (F_law_effects : Fn P w K mg base k "_law_effects" p_law_effects sp_law_effects) (F_law_name : Fn P w K mg base k "_law_name" p_law_name sp_law_name) (F_law_any : Fn P w K mg base k "_law_any" p_law_any sp_law_any) (F_law_then : Fn P w K mg base k "_law_then" p_law_then sp_law_then) (F_law_turn : Fn P w K mg base k "_law_turn" p_law_turn sp_law_turn) (F_law_images : Fn P w K mg base k "_law_images" p_law_images sp_law_images) (F_law_of : Fn P w K mg base k "_law_of" p_law_of sp_law_of) (F_law_shapes : Fn P w K mg base k "_law_shapes" p_law_shapes sp_law_shapes) :
    PSs (cxOf CX0 P w K mg base n_law_drawn "_law_drawn" (defScope K26.s_law_drawn) f cdv A outer s H E).nox (defBody K26.s_law_drawn) (t_law_drawn K sp_law_effects sp_law_name sp_law_any sp_law_then sp_law_turn sp_law_images sp_law_of sp_law_shapes) := by
  have hr0 := hr.mono (Nat.le_add_right k 3)
  have hr1 : Room (k + 1) _ := hr.mono (by omega)
  have hu := huS hr
  have hu1 := huS1 hr
  exact (pss_cons (ps_asg (pe_f F_law_of (Nat.le_refl _) hr0 rfl (W.glo 33) (pa_cons (pv 0) (pa_cons (pe_f0 F_law_shapes (Nat.le_refl _) hr0 rfl (W.glo 39)) pa_nil))) (pg_tup rfl (pgs_cons (pg_name (i := 1) sc_law_drawn.nd rfl (Or.inr rfl)) (pgs_cons (pg_name (i := 2) sc_law_drawn.nd rfl (Or.inl rfl)) pgs_nil))))
    (pss_cons (ps_par (i := 3) (j := 4) rfl sc_law_drawn.nd rfl rfl (by decide) rfl rfl (pa_cons (pe_f F_law_turn (Nat.le_refl _) hr0 rfl (W.glo 35) (pa_cons (pv 0) (pa_cons (pv 1) pa_nil))) (pa_cons (pe_lst pa_nil) pa_nil)) rfl)
    (pss_cons (ps_for PassesOwn.never rfl (pi_tup (pv 2)) (pg_name (i := 5) sc_law_drawn.nd rfl (Or.inl rfl)) (pss_cons (ps_set (i := 6) sc_law_drawn.nd rfl (Or.inr rfl) (pe_f F_law_images (Nat.le_refl _) hr0 rfl (W.glo 36) (pa_cons (pv 0) (pa_cons (pv 1) (pa_cons (pe_ifExp (pt_cmpR (op_eqU hu) (pv 5) pe_str (nomark _)) pe_str (pv 5)) pa_nil)))))
    (pss_cons (ps_if (pt_cmpR (op_eqU hu) (pv 5) pe_str (nomark _)) (pss_cons (ps_set (i := 6) sc_law_drawn.nd rfl (Or.inr rfl) (pe_f F_law_turn (Nat.le_refl _) hr0 rfl (W.glo 35) (pa_cons (pv 0) (pa_cons (pv 1) pa_nil))))
    (pss_one (ps_set (i := 6) sc_law_drawn.nd rfl (Or.inr rfl) (pe_f F_law_then (Nat.le_refl _) hr0 rfl (W.glo 37) (pa_cons (pv 6) (pa_cons (pv 6) pa_nil)))))) pss_nil)
    (pss_cons (ps_if (pt_cmpR (op_eqU hu) (pv 5) pe_str (nomark _)) (pss_one (ps_set (i := 6) sc_law_drawn.nd rfl (Or.inr rfl) (pe_tup (pa_cons pe_int (pa_cons pe_int (pa_cons pe_int (pa_cons pe_int (pa_cons pe_int (pa_cons pe_int pa_nil))))))))) pss_nil)
    (pss_cons (ps_if (pt_cmpR (op_eqU hu) (pv 5) pe_str (nomark _)) (pss_one (ps_set (i := 6) sc_law_drawn.nd rfl (Or.inr rfl) (pe_ifExp (pt_cmpR (op_eqU hu) (pe_f F_law_any (Nat.le_refl _) hr0 rfl (W.glo 32) (pa_cons (pv 0) (pa_cons pe_int pa_nil))) pe_int (nomark _)) (pe_tup (pa_cons pe_int (pa_cons pe_int (pa_cons pe_int (pa_cons pe_int (pa_cons pe_int (pa_cons pe_int pa_nil))))))) (pe_tup (pa_cons pe_int (pa_cons pe_int (pa_cons pe_int (pa_cons pe_int (pa_cons pe_int (pa_cons pe_int pa_nil)))))))))) pss_nil)
    (pss_cons (ps_if (pt_cmpR (op_eqU hu) (pv 5) pe_str (nomark _)) (pss_cons (ps_set (i := 7) sc_law_drawn.nd rfl (Or.inr rfl) (pe_op op_addU pe_int (pe_f F_law_any (Nat.le_refl _) hr0 rfl (W.glo 32) (pa_cons (pv 0) (pa_cons (pe_op op_subI (pv 1) pe_int) pa_nil)))))
    (pss_one (ps_set (i := 6) sc_law_drawn.nd rfl (Or.inr rfl) (pe_tupleOf rfl (W.free 55) (pe_lc (own := [("_law_state", 8)]) rfl sc_law_drawn.nd (pi_range1 rfl (W.free 61) (pa_cons (pv 1) pa_nil)) (blkOk_by (N := n_law_drawn) (sc := defScope K26.s_law_drawn) (by decide +kernel)) (fun _ _ _ _ _ => (pg_name (i := 8) sc_law_drawn.nd rfl (by first | exact Or.inl rfl | exact Or.inr rfl))) (fun _ _ _ _ _ => pts_nil) (fun _ _ _ _ _ => (pe_op op_modI (pe_callTy call_int1 rfl (W.free 51) boot_int (pa_cons (pe_op op_addU (pe_op op_mulU (pv 7) (pv 8)) (pe_ix (ix_U hu) (pv 6) pe_int fun _ _ => rfl)) pa_nil)) (pv 1)))))))) pss_nil)
    (pss_cons (ps_set (i := 9) sc_law_drawn.nd rfl (Or.inl rfl) (pe_op op_mulU (pe_lst (pa_cons pe_int pa_nil)) (pv 1)))
    (pss_cons (ps_for PassesOwn.never rfl (pi_range1 rfl (W.free 61) (pa_cons (pv 1) pa_nil)) (pg_name (i := 8) sc_law_drawn.nd rfl (Or.inl rfl)) (pss_one (ps_asg (pe_ix (ix_U hu) (pv 3) (pe_ix (ix_U hu) (pv 6) (pv 8) fun _ _ => rfl) fun _ _ => rfl) (pg_sub (pv 9) (pe_ix (ix_U hu) (pv 3) (pv 8) fun _ _ => rfl) set_list))))
    (pss_one (ps_expr (pe_bm PySem.F.plainAttrs_list PySem.F.slot_list_append PySem.F.type_list_append mt_append (pv 4) (pa_cons (pe_tup (pa_cons (pe_f F_law_name (Nat.le_refl _) hr0 rfl (W.glo 34) (pa_cons (pv 0) (pa_cons (pe_lc (own := [("_law_told", 10), ("_law_other", 11)]) rfl sc_law_drawn.nd (pi_list (pv 4)) (blkOk_by (N := n_law_drawn) (sc := defScope K26.s_law_drawn) (by decide +kernel)) (fun _ _ _ _ _ => (pg_tup rfl (pgs_cons (pg_name (i := 10) sc_law_drawn.nd rfl (by first | exact Or.inl rfl | exact Or.inr rfl)) (pgs_cons (pg_name (i := 11) sc_law_drawn.nd rfl (by first | exact Or.inl rfl | exact Or.inr rfl)) pgs_nil)))) (fun _ _ _ _ _ => pts_nil) (fun _ _ _ _ _ => (pv 10))) pa_nil))) (pa_cons (pe_tupleOf rfl (W.free 55) (pv 9)) pa_nil))) pa_nil))))))))))))
    (pss_cons (ps_while PassesOwn.never (PW.pt (pw_and (pt_cmpR op_gtI (pe_callB call_lenU rfl (W.free 56) boot_len (pa_cons (pv 4) pa_nil)) pe_int (nomark _)) (pw_and1 (pt_cmpR op_gtI (pe_callB call_lenU rfl (W.free 56) boot_len (pa_cons (pe_f F_law_effects (Nat.le_refl _) hr0 rfl (W.glo 38) (pa_cons (pv 1) (pa_cons (pv 4) (pa_cons pe_int pa_nil)))) pa_nil)) pe_int (nomark _))))) (pss_one (ps_expr (pe_bm0 PySem.F.plainAttrs_list PySem.F.slot_list_pop PySem.F.type_list_pop mt_pop (pv 4)))))
    (pss_one (ps_ret (pe_tup (pa_cons (pv 1) (pa_cons (pv 4) pa_nil)))))))))
def n_law_joins_all : List Str := ["_law_n", "_law_deeds", "_law_one", "_law_other", "_law_marks", "_law_waiting", "_law_x", "_law_y", "_law_old", "_law_new", "_law_mark", "_law_name_here", "_law_images_here"]
def p_law_joins_all : List Str := ["_law_n", "_law_deeds", "_law_one", "_law_other"]
theorem sc_law_joins_all : FnScope n_law_joins_all p_law_joins_all (defScope K26.s_law_joins_all) := ⟨rfl, rfl, rfl, by decide +kernel, rfl, by decide +kernel, by decide +kernel⟩
def t_law_joins_all (K : PySem.W.Frag) : TS := (tSeq (tAsg (tTup (tCons (tLstRg (tRg1 (tVar 0))) (tCons (tLst (tCons (tTup (tCons (tVar 2) (tCons (tVar 3) tNil))) tNil)) tNil))) (gTup K 2 (gCons (gName 4) (gCons (gName 5) gNil))))
  (tSeq (tWhile (tTest (tOp (rNeU K) (tVar 5) (tLst tNil))) (tSeq (tAsg (tBM0 K "list" rPop (tVar 5)) (gTup K 2 (gCons (gName 6) (gCons (gName 7) gNil))))
  (tSeq (tAsg (tTup (tCons (tOp (rIxU K) (tVar 4) (tVar 6)) (tCons (tOp (rIxU K) (tVar 4) (tVar 7)) tNil))) (gTup K 2 (gCons (gName 8) (gCons (gName 9) gNil))))
  (tIfS (tTest (tOp (rNeU K) (tVar 8) (tVar 9))) (tSeq (tAsg (tLc (iList K (tVar 4)) (gName 10) tYes (tIf (tTest (tOp (rEqU K) (tVar 10) (tVar 8))) (tVar 9) (tVar 10)) [10]) (gName 4))
  (tAsg (tOp (rAddU K) (tVar 5) (tLc (iList K (tVar 1)) (gTup K 2 (gCons (gName 11) (gCons (gName 12) gNil))) tYes (tTup (tCons (tOp (rIxU K) (tVar 12) (tVar 6)) (tCons (tOp (rIxU K) (tVar 12) (tVar 7)) tNil))) [11, 12])) (gName 5))) tNext))))
  (tRet (tCB (rAll K) (tCons (tLc (iList K (tVar 4)) (gName 10) tYes (tOp (rEqU K) (tVar 10) (tOp (rIxU K) (tVar 4) (tC (.int 0)))) [10]) tNil)))))
theorem w_law_joins_all {P : Program} {w : World} {K : PySem.W.Frag} {mg : Str → Option Value} {base : Heap} {f : Addr} {cdv : Value} {A : Around} {outer : List Env} {s : Shared} {H : Hp} {E : XK} {k : Nat} (W : Wd K mg)
    (hr : Room (k + 3) (A.deeper (envOfC "_law_joins_all" (defScope K26.s_law_joins_all) s.heap.objs.size f cdv))) :
    PSs (cxOf CX0 P w K mg base n_law_joins_all "_law_joins_all" (defScope K26.s_law_joins_all) f cdv A outer s H E).nox (defBody K26.s_law_joins_all) (t_law_joins_all K) := by
  have hr0 := hr.mono (Nat.le_add_right k 3)
  have hr1 : Room (k + 1) _ := hr.mono (by omega)
  have hu := huS hr
  have hu1 := huS1 hr
  exact (pss_cons (ps_asg (pe_tup (pa_cons (pe_listRg rfl rfl (W.free 54) (prg_1 rfl (W.free 61) (pv 0))) (pa_cons (pe_lst (pa_cons (pe_tup (pa_cons (pv 2) (pa_cons (pv 3) pa_nil))) pa_nil)) pa_nil))) (pg_tup rfl (pgs_cons (pg_name (i := 4) sc_law_joins_all.nd rfl (Or.inr rfl)) (pgs_cons (pg_name (i := 5) sc_law_joins_all.nd rfl (Or.inl rfl)) pgs_nil))))
    (pss_cons (ps_while PassesOwn.never (pt_cmpR (op_neU hu) (pv 5) (pe_lst pa_nil) (nomark _)) (pss_cons (ps_asg (pe_bm0 PySem.F.plainAttrs_list PySem.F.slot_list_pop PySem.F.type_list_pop mt_pop (pv 5)) (pg_tup rfl (pgs_cons (pg_name (i := 6) sc_law_joins_all.nd rfl (Or.inr rfl)) (pgs_cons (pg_name (i := 7) sc_law_joins_all.nd rfl (Or.inr rfl)) pgs_nil))))
    (pss_cons (ps_asg (pe_tup (pa_cons (pe_ix (ix_U hu) (pv 4) (pv 6) fun _ _ => rfl) (pa_cons (pe_ix (ix_U hu) (pv 4) (pv 7) fun _ _ => rfl) pa_nil))) (pg_tup rfl (pgs_cons (pg_name (i := 8) sc_law_joins_all.nd rfl (Or.inr rfl)) (pgs_cons (pg_name (i := 9) sc_law_joins_all.nd rfl (Or.inr rfl)) pgs_nil))))
    (pss_one (ps_if (pt_cmpR (op_neU hu) (pv 8) (pv 9) (nomark _)) (pss_cons (ps_set (i := 4) sc_law_joins_all.nd rfl (Or.inr rfl) (pe_lc (own := [("_law_mark", 10)]) rfl sc_law_joins_all.nd (pi_list (pv 4)) (blkOk_by (N := n_law_joins_all) (sc := defScope K26.s_law_joins_all) (by decide +kernel)) (fun _ _ _ _ _ => (pg_name (i := 10) sc_law_joins_all.nd rfl (by first | exact Or.inl rfl | exact Or.inr rfl))) (fun _ _ _ _ _ => pts_nil) (fun _ _ _ _ _ => (pe_ifExp (pt_cmpR (op_eqU hu) (pv 10) (pv 8) (nomark _)) (pv 9) (pv 10)))))
    (pss_one (ps_set (i := 5) sc_law_joins_all.nd rfl (Or.inl rfl) (pe_op op_addU (pv 5) (pe_lc (own := [("_law_name_here", 11), ("_law_images_here", 12)]) rfl sc_law_joins_all.nd (pi_list (pv 1)) (blkOk_by (N := n_law_joins_all) (sc := defScope K26.s_law_joins_all) (by decide +kernel)) (fun _ _ _ _ _ => (pg_tup rfl (pgs_cons (pg_name (i := 11) sc_law_joins_all.nd rfl (by first | exact Or.inl rfl | exact Or.inr rfl)) (pgs_cons (pg_name (i := 12) sc_law_joins_all.nd rfl (by first | exact Or.inl rfl | exact Or.inr rfl)) pgs_nil)))) (fun _ _ _ _ _ => pts_nil) (fun _ _ _ _ _ => (pe_tup (pa_cons (pe_ix (ix_U hu) (pv 12) (pv 6) fun _ _ => rfl) (pa_cons (pe_ix (ix_U hu) (pv 12) (pv 7) fun _ _ => rfl) pa_nil))))))))) pss_nil)))))
    (pss_one (ps_ret (pe_callB (cr_all rfl) rfl (W.free 57) boot_all (pa_cons (pe_lc (own := [("_law_mark", 10)]) rfl sc_law_joins_all.nd (pi_list (pv 4)) (blkOk_by (N := n_law_joins_all) (sc := defScope K26.s_law_joins_all) (by decide +kernel)) (fun _ _ _ _ _ => (pg_name (i := 10) sc_law_joins_all.nd rfl (by first | exact Or.inl rfl | exact Or.inr rfl))) (fun _ _ _ _ _ => pts_nil) (fun _ _ _ _ _ => (pe_cmpR (op_eqU hu) (pv 10) (pe_ix (ix_U hu) (pv 4) pe_int fun _ _ => rfl) (nomark _)))) pa_nil))))))
def n_law_unbreakable : List Str := ["_law_n", "_law_deeds", "_law_other", "_law_one"]
def p_law_unbreakable : List Str := ["_law_n", "_law_deeds"]
theorem sc_law_unbreakable : FnScope n_law_unbreakable p_law_unbreakable (defScope K26.s_law_unbreakable) := ⟨rfl, rfl, rfl, by decide +kernel, rfl, by decide +kernel, by decide +kernel⟩
def t_law_unbreakable (K : PySem.W.Frag) (sp_law_joins_all : Sp) : TS := (tSeq (tFor (iRng1 (tCons (tVar 0) tNil)) (gName 2) (tFor (iRng1 (tCons (tVar 2) tNil)) (gName 3) (tIfS (tNot (tB (tCall sp_law_joins_all [] E0 (tCons (tVar 0) (tCons (tVar 1) (tCons (tVar 3) (tCons (tVar 2) tNil))))))) (tRet (tC (.bl false))) tNext)))
  (tRet (tC (.bl true))))
theorem w_law_unbreakable {P : Program} {w : World} {K : PySem.W.Frag} {mg : Str → Option Value} {base : Heap} {f : Addr} {cdv : Value} {A : Around} {outer : List Env} {s : Shared} {H : Hp} {E : XK} {k : Nat} (sp_law_joins_all : Sp) (W : Wd K mg)
    (hr : Room (k + 3) (A.deeper (envOfC "_law_unbreakable" (defScope K26.s_law_unbreakable) s.heap.objs.size f cdv))) (F_law_joins_all : Fn P w K mg base k "_law_joins_all" p_law_joins_all sp_law_joins_all) :
    PSs (cxOf CX0 P w K mg base n_law_unbreakable "_law_unbreakable" (defScope K26.s_law_unbreakable) f cdv A outer s H E).nox (defBody K26.s_law_unbreakable) (t_law_unbreakable K sp_law_joins_all) := by
  have hr0 := hr.mono (Nat.le_add_right k 3)
  have hr1 : Room (k + 1) _ := hr.mono (by omega)
  have hu := huS hr
  have hu1 := huS1 hr
  exact (pss_cons (ps_for PassesOwn.never rfl (pi_range1 rfl (W.free 61) (pa_cons (pv 0) pa_nil)) (pg_name (i := 2) sc_law_unbreakable.nd rfl (Or.inl rfl)) (pss_one (ps_for PassesOwn.never rfl (pi_range1 rfl (W.free 61) (pa_cons (pv 2) pa_nil)) (pg_name (i := 3) sc_law_unbreakable.nd rfl (Or.inl rfl)) (pss_one (ps_if (pt_not (pt_val (pe_f F_law_joins_all (Nat.le_refl _) hr0 rfl (W.glo 41) (pa_cons (pv 0) (pa_cons (pv 1) (pa_cons (pv 3) (pa_cons (pv 2) pa_nil))))))) (pss_one (ps_ret pe_bl)) pss_nil)))))
    (pss_one (ps_ret pe_bl)))
def n_law_row : List Str := ["_law_deal_here", "_law_names", "_law_depth", "_law_row_here", "_law_turn_here", "_law_part"]
def p_law_row : List Str := ["_law_deal_here", "_law_names", "_law_depth"]
theorem sc_law_row : FnScope n_law_row p_law_row (defScope K26.s_law_row) := ⟨rfl, rfl, rfl, by decide +kernel, rfl, by decide +kernel, by decide +kernel⟩
def t_law_row (K : PySem.W.Frag) (sp_law_any sp_law_of sp_law_row : Sp) : TS := (tSeq (tAsg (tTup tNil) (gName 3))
  (tSeq (tFor (iRng1 (tCons (tOp (rAddU K) (tC (.int 1)) (tCall sp_law_any [] E0 (tCons (tVar 0) (tCons (tC (.int 3)) tNil)))) tNil)) (gName 4) (tSeq (tAsg (tCall sp_law_of [] E0 (tCons (tVar 0) (tCons (tVar 1) tNil))) (gName 5))
  (tSeq (tIfS (tAnd (tTest (tOp rGtI (tVar 2) (tC (.int 0)))) (tTest (tOp (rEqU K) (tCall sp_law_any [] E0 (tCons (tVar 0) (tCons (tC (.int 3)) tNil))) (tC (.int 0))))) (tAsg (tTup (tCons (tCall sp_law_row [] E0 (tCons (tVar 0) (tCons (tVar 1) (tCons (tOp rSubI (tVar 2) (tC (.int 1))) tNil)))) (tCons (tCall sp_law_of [] E0 (tCons (tVar 0) (tCons (tLst (tCons (tC (.int 0)) (tCons (tC (.int 1)) (tCons (tC (.int 2)) (tCons (tC (.int 3)) (tCons (tOp rSubI (tOp rPowI (tC (.int 10)) (tC (.int 18))) (tCall sp_law_any [] E0 (tCons (tVar 0) (tCons (tC (.int 99)) tNil)))) (tCons (tCall sp_law_any [] E0 (tCons (tVar 0) (tCons (tOp rPowI (tC (.int 10)) (tC (.int 9))) tNil))) tNil))))))) tNil))) tNil))) (gName 5)) tNext)
  (tAsg (tOp (rAddU K) (tVar 3) (tTup (tCons (tVar 5) tNil))) (gName 3)))))
  (tRet (tVar 3))))
theorem w_law_row {P : Program} {w : World} {K : PySem.W.Frag} {mg : Str → Option Value} {base : Heap} {f : Addr} {cdv : Value} {A : Around} {outer : List Env} {s : Shared} {H : Hp} {E : XK} {k : Nat} (sp_law_any sp_law_of sp_law_row : Sp) (W : Wd K mg)
    (hr : Room (k + 3) (A.deeper (envOfC "_law_row" (defScope K26.s_law_row) s.heap.objs.size f cdv))) (F_law_any : Fn P w K mg base k "_law_any" p_law_any sp_law_any) (F_law_of : Fn P w K mg base k "_law_of" p_law_of sp_law_of) (F_law_row : Fn P w K mg base k "_law_row" p_law_row sp_law_row) :
    PSs (cxOf CX0 P w K mg base n_law_row "_law_row" (defScope K26.s_law_row) f cdv A outer s H E).nox (defBody K26.s_law_row) (t_law_row K sp_law_any sp_law_of sp_law_row) := by
  have hr0 := hr.mono (Nat.le_add_right k 3)
  have hr1 : Room (k + 1) _ := hr.mono (by omega)
  have hu := huS hr
  have hu1 := huS1 hr
  exact (pss_cons (ps_set (i := 3) sc_law_row.nd rfl (Or.inl rfl) (pe_tup pa_nil))
    (pss_cons (ps_for PassesOwn.never rfl (pi_range1 rfl (W.free 61) (pa_cons (pe_op op_addU pe_int (pe_f F_law_any (Nat.le_refl _) hr0 rfl (W.glo 32) (pa_cons (pv 0) (pa_cons pe_int pa_nil)))) pa_nil)) (pg_name (i := 4) sc_law_row.nd rfl (Or.inl rfl)) (pss_cons (ps_set (i := 5) sc_law_row.nd rfl (Or.inl rfl) (pe_f F_law_of (Nat.le_refl _) hr0 rfl (W.glo 33) (pa_cons (pv 0) (pa_cons (pv 1) pa_nil))))
    (pss_cons (ps_if (PW.pt (pw_and (pt_cmpR op_gtI (pv 2) pe_int (nomark _)) (pw_and1 (pt_cmpR (op_eqU hu) (pe_f F_law_any (Nat.le_refl _) hr0 rfl (W.glo 32) (pa_cons (pv 0) (pa_cons pe_int pa_nil))) pe_int (nomark _))))) (pss_one (ps_set (i := 5) sc_law_row.nd rfl (Or.inl rfl) (pe_tup (pa_cons (pe_f F_law_row (Nat.le_refl _) hr0 rfl (W.glo 43) (pa_cons (pv 0) (pa_cons (pv 1) (pa_cons (pe_op op_subI (pv 2) pe_int) pa_nil)))) (pa_cons (pe_f F_law_of (Nat.le_refl _) hr0 rfl (W.glo 33) (pa_cons (pv 0) (pa_cons (pe_lst (pa_cons pe_int (pa_cons pe_int (pa_cons pe_int (pa_cons pe_int (pa_cons (pe_op op_subI (pe_op op_powI pe_int pe_int) (pe_f F_law_any (Nat.le_refl _) hr0 rfl (W.glo 32) (pa_cons (pv 0) (pa_cons pe_int pa_nil)))) (pa_cons (pe_f F_law_any (Nat.le_refl _) hr0 rfl (W.glo 32) (pa_cons (pv 0) (pa_cons (pe_op op_powI pe_int pe_int) pa_nil))) pa_nil))))))) pa_nil))) pa_nil))))) pss_nil)
    (pss_one (ps_set (i := 3) sc_law_row.nd rfl (Or.inl rfl) (pe_op op_addU (pv 3) (pe_tup (pa_cons (pv 5) pa_nil))))))))
    (pss_one (ps_ret (pv 3)))))
def n_law_effect : List Str := ["_law_n", "_law_deeds", "_law_row_here", "_law_found", "_law_part", "_law_square", "_law_times", "_law_turn_here", "_law_name_here", "_law_images_here"]
def p_law_effect : List Str := ["_law_n", "_law_deeds", "_law_row_here"]
theorem sc_law_effect : FnScope n_law_effect p_law_effect (defScope K26.s_law_effect) := ⟨rfl, rfl, rfl, by decide +kernel, rfl, by decide +kernel, by decide +kernel⟩
def t_law_effect (K : PySem.W.Frag) (sp_law_then sp_law_effect : Sp) : TS := (tSeq (tAsg (tTupRg (tRg1 (tVar 0))) (gName 3))
  (tSeq (tFor (iTup K (tVar 2)) (gName 4) (tIfS (tB (tCB (rIsi K) (tCons (tVar 4) (tCons (tC (.ty "tuple")) tNil)))) (tSeq (tPar 5 6 (tCons (tCall sp_law_effect [] E0 (tCons (tVar 0) (tCons (tVar 1) (tCons (tOp (rIxU K) (tVar 4) (tC (.int 0))) tNil)))) (tCons (tOp (rIxU K) (tVar 4) (tC (.int 1))) tNil)))
  (tFor (iRng1 (tCons (tC (.int 64)) tNil)) (gName 7) (tSeq (tIfS (tTest (tOp (rEqU K) (tOp rModI (tCB rInt1 (tCons (tVar 6) tNil)) (tC (.int 2))) (tC (.int 1)))) (tAsg (tCall sp_law_then [] E0 (tCons (tVar 3) (tCons (tVar 5) tNil))) (gName 3)) tNext)
  (tPar 5 6 (tCons (tCall sp_law_then [] E0 (tCons (tVar 5) (tCons (tVar 5) tNil))) (tCons (tOp rDivI (tVar 6) (tC (.int 2))) tNil)))))) (tAsg (tCall sp_law_then [] E0 (tCons (tVar 3) (tCons (tOp (rIxU K) (tLc (iList K (tVar 1)) (gTup K 2 (gCons (gName 8) (gCons (gName 9) gNil))) (tTest (tOp (rEqU K) (tVar 8) (tVar 4))) (tVar 9) [8, 9]) (tC (.int 0))) tNil))) (gName 3))))
  (tRet (tVar 3))))
theorem w_law_effect {P : Program} {w : World} {K : PySem.W.Frag} {mg : Str → Option Value} {base : Heap} {f : Addr} {cdv : Value} {A : Around} {outer : List Env} {s : Shared} {H : Hp} {E : XK} {k : Nat} (sp_law_then sp_law_effect : Sp) (W : Wd K mg)
    (hr : Room (k + 3) (A.deeper (envOfC "_law_effect" (defScope K26.s_law_effect) s.heap.objs.size f cdv))) (F_law_then : Fn P w K mg base k "_law_then" p_law_then sp_law_then) (F_law_effect : Fn P w K mg base k "_law_effect" p_law_effect sp_law_effect) :
    PSs (cxOf CX0 P w K mg base n_law_effect "_law_effect" (defScope K26.s_law_effect) f cdv A outer s H E).nox (defBody K26.s_law_effect) (t_law_effect K sp_law_then sp_law_effect) := by
  have hr0 := hr.mono (Nat.le_add_right k 3)
  have hr1 : Room (k + 1) _ := hr.mono (by omega)
  have hu := huS hr
  have hu1 := huS1 hr
  exact (pss_cons (ps_set (i := 3) sc_law_effect.nd rfl (Or.inl rfl) (pe_tupRg rfl rfl (W.free 55) (prg_1 rfl (W.free 61) (pv 0))))
    (pss_cons (ps_for PassesOwn.never rfl (pi_tup (pv 2)) (pg_name (i := 4) sc_law_effect.nd rfl (Or.inr rfl)) (pss_one (ps_if (pt_val (pe_callB call_isi rfl (W.free 50) boot_isinstance (pa_cons (pv 4) (pa_cons (pe_bltn rfl (W.free 55) boot_tuple rfl) pa_nil)))) (pss_cons (ps_par (i := 5) (j := 6) rfl sc_law_effect.nd rfl rfl (by decide) rfl rfl (pa_cons (pe_f F_law_effect (Nat.le_refl _) hr0 rfl (W.glo 44) (pa_cons (pv 0) (pa_cons (pv 1) (pa_cons (pe_ix (ix_U hu) (pv 4) pe_int fun _ _ => rfl) pa_nil)))) (pa_cons (pe_ix (ix_U hu) (pv 4) pe_int fun _ _ => rfl) pa_nil)) rfl)
    (pss_one (ps_for PassesOwn.never rfl (pi_range1 rfl (W.free 61) (pa_cons pe_int pa_nil)) (pg_name (i := 7) sc_law_effect.nd rfl (Or.inl rfl)) (pss_cons (ps_if (pt_cmpR (op_eqU hu) (pe_op op_modI (pe_callTy call_int1 rfl (W.free 51) boot_int (pa_cons (pv 6) pa_nil)) pe_int) pe_int (nomark _)) (pss_one (ps_set (i := 3) sc_law_effect.nd rfl (Or.inl rfl) (pe_f F_law_then (Nat.le_refl _) hr0 rfl (W.glo 37) (pa_cons (pv 3) (pa_cons (pv 5) pa_nil))))) pss_nil)
    (pss_one (ps_par (i := 5) (j := 6) rfl sc_law_effect.nd rfl rfl (by decide) rfl rfl (pa_cons (pe_f F_law_then (Nat.le_refl _) hr0 rfl (W.glo 37) (pa_cons (pv 5) (pa_cons (pv 5) pa_nil))) (pa_cons (pe_op op_divI (pv 6) pe_int) pa_nil)) rfl)))))) (pss_one (ps_set (i := 3) sc_law_effect.nd rfl (Or.inl rfl) (pe_f F_law_then (Nat.le_refl _) hr0 rfl (W.glo 37) (pa_cons (pv 3) (pa_cons (pe_ix (ix_U hu) (pe_lc (own := [("_law_name_here", 8), ("_law_images_here", 9)]) rfl sc_law_effect.nd (pi_list (pv 1)) (blkOk_by (N := n_law_effect) (sc := defScope K26.s_law_effect) (by decide +kernel)) (fun _ _ _ _ _ => (pg_tup rfl (pgs_cons (pg_name (i := 8) sc_law_effect.nd rfl (by first | exact Or.inl rfl | exact Or.inr rfl)) (pgs_cons (pg_name (i := 9) sc_law_effect.nd rfl (by first | exact Or.inl rfl | exact Or.inr rfl)) pgs_nil)))) (fun _ _ _ _ _ => (pts_one (pt_cmpR (op_eqU hu) (pv 8) (pv 4) (nomark _)))) (fun _ _ _ _ _ => (pv 9))) pe_int fun _ _ => rfl) pa_nil))))))))
    (pss_one (ps_ret (pv 3)))))
def n_law_undoing : List Str := ["_law_n", "_law_effect_here", "_law_power", "_law_times", "_law_turn_here"]
def p_law_undoing : List Str := ["_law_n", "_law_effect_here"]
theorem sc_law_undoing : FnScope n_law_undoing p_law_undoing (defScope K26.s_law_undoing) := ⟨rfl, rfl, rfl, by decide +kernel, rfl, by decide +kernel, by decide +kernel⟩
def t_law_undoing (K : PySem.W.Frag) (sp_law_then : Sp) : TS := (tSeq (tPar 2 3 (tCons (tVar 1) (tCons (tC (.int 0)) tNil)))
  (tSeq (tFor (iRng1 (tCons (tC (.int 60)) tNil)) (gName 4) (tIfS (tTest (tOp (rNeU K) (tCall sp_law_then [] E0 (tCons (tVar 2) (tCons (tVar 1) tNil))) (tVar 1))) (tPar 2 3 (tCons (tCall sp_law_then [] E0 (tCons (tVar 2) (tCons (tVar 1) tNil))) (tCons (tOp (rAddU K) (tVar 3) (tC (.int 1))) tNil))) tNext))
  (tRet (tVar 3))))
theorem w_law_undoing {P : Program} {w : World} {K : PySem.W.Frag} {mg : Str → Option Value} {base : Heap} {f : Addr} {cdv : Value} {A : Around} {outer : List Env} {s : Shared} {H : Hp} {E : XK} {k : Nat} (sp_law_then : Sp) (W : Wd K mg)
    (hr : Room (k + 3) (A.deeper (envOfC "_law_undoing" (defScope K26.s_law_undoing) s.heap.objs.size f cdv))) (F_law_then : Fn P w K mg base k "_law_then" p_law_then sp_law_then) :
    PSs (cxOf CX0 P w K mg base n_law_undoing "_law_undoing" (defScope K26.s_law_undoing) f cdv A outer s H E).nox (defBody K26.s_law_undoing) (t_law_undoing K sp_law_then) := by
  have hr0 := hr.mono (Nat.le_add_right k 3)
  have hr1 : Room (k + 1) _ := hr.mono (by omega)
  have hu := huS hr
  have hu1 := huS1 hr
  exact (pss_cons (ps_par (i := 2) (j := 3) rfl sc_law_undoing.nd rfl rfl (by decide) rfl rfl (pa_cons (pv 1) (pa_cons pe_int pa_nil)) rfl)
    (pss_cons (ps_for PassesOwn.never rfl (pi_range1 rfl (W.free 61) (pa_cons pe_int pa_nil)) (pg_name (i := 4) sc_law_undoing.nd rfl (Or.inl rfl)) (pss_one (ps_if (pt_cmpR (op_neU hu) (pe_f F_law_then (Nat.le_refl _) hr0 rfl (W.glo 37) (pa_cons (pv 2) (pa_cons (pv 1) pa_nil))) (pv 1) (nomark _)) (pss_one (ps_par (i := 2) (j := 3) rfl sc_law_undoing.nd rfl rfl (by decide) rfl rfl (pa_cons (pe_f F_law_then (Nat.le_refl _) hr0 rfl (W.glo 37) (pa_cons (pv 2) (pa_cons (pv 1) pa_nil))) (pa_cons (pe_op op_addU (pv 3) pe_int) pa_nil)) rfl)) pss_nil)))
    (pss_one (ps_ret (pv 3)))))
end B
/-! what rows do. -/
namespace B
open PySem PySem.Spec PyProof.Rows L2
section
variable {Rl : Hp → Hp → Prop} [RlOk Rl] {K : PySem.W.Frag} {σ : L2.St} {H H' : Hp} {ta tb tc te tx : TE} {v : V} {α β : Type} [Enc α] [Enc β] {xs : List α}
theorem e_callL' {ι : Type} {pre : ι → Hp → Prop} {ms : ι → List MP} {res : ι → β} {E : XK} {ta : TA} {j : Nat} {f : Addr} (i : ι) (hj : σ[j]? = some (some (.ref f))) (h : EvA Rl ta σ H (ms i)) (hp : ∀ H1, Rl H H1 → pre i H1) : Ev Rl (tCallL j f (spP pre ms res) [] E ta) σ H (res i) := fun H1 e Q q =>
  ⟨hj, h H1 e _ fun vs H2 e2 r => ⟨i, hp H2 (RlOk.trans e e2), by rw [List.append_nil]; exact r, fun v H3 e3 rv => q v H3 (RlOk.trans e2 (RlOk.ex e3)) rv⟩⟩
end
theorem set_same {σ : L2.St} {j : Nat} {o : Option V} (h : σ[j]? = some o) : σ.set j o = σ := by
  apply List.ext_getElem?
  intro i
  rw [List.getElem?_set]
  by_cases e : j = i
  · subst e
    rw [if_pos rfl, if_pos (List.getElem?_eq_some_iff.mp h).1, h]
  · rw [if_neg e]
theorem k_ifSet {α : Type} [Enc α] {a : α} {t : TT} {te : TE} {σ : L2.St} {H : Hp} {D : Ends} {j : Nat} {b : Bool} (h : EvT Ex t σ H b) (h1 : b = true → ∀ H2, Ex H H2 → Ev Ex te σ H2 a) (h2 : b = false → ∃ v, σ[j]? = some (some v) ∧ Enc.rep (tp H) v a)
    (k : ∀ v H2, Ex H H2 → Enc.rep (tp H2) v a → D.nx (σ.set j (some v)) H2) : tIfS t (tAsg te (gName j)) tNext D σ H := k_if h (fun hb H2 e2 => k_set (h1 hb H2 e2) fun v H3 e3 r => k v H3 (e2.trans e3) r) fun hb H2 e2 => by
  obtain ⟨v, hj, r⟩ := h2 hb
  have := k v H2 e2 (up (Rl := Ex) e2 r)
  rw [set_same hj] at this
  exact this
def spPow (K : PySem.W.Frag) : Sp := spP (ι := Nat × List Nat × Nat) (fun i _ => i.1 ≤ 1000000 ∧ Eff i.1 i.2.1) (fun i => [mp i.2.1, mp i.2.2, mp (List.range i.1), mp (Raw.mk (.ref (He.ga K "effect_then")))]) fun i => pwr i.1 i.2.1 i.2.2
def imOf (ds : List Deed) (nm : Str) : List Nat := ((ds.find? fun d => decide (d.1 = nm)).map (·.2)).getD []
theorem imOf_mem {ds : List Deed} (nd : (ds.map (·.1)).Nodup) : ∀ d ∈ ds, imOf ds d.1 = d.2 := by
  induction ds with
  | nil => intro d h; cases h
  | cons e ds ih =>
    intro d hd
    rw [List.map_cons, List.nodup_cons] at nd
    unfold imOf
    rw [List.find?_cons]
    rcases List.mem_cons.mp hd with rfl | h
    · rw [decide_eq_true rfl]; rfl
    · have ne : e.1 ≠ d.1 := fun z => nd.1 (by rw [z]; exact List.mem_map_of_mem h)
      rw [decide_eq_false ne]
      exact ih nd.2 d h
theorem imOf_at {ds : List Deed} {nm : Str} (h : nm ∈ ds.map (·.1)) : ∃ d ∈ ds, d.1 = nm := by
  obtain ⟨d, hd, e⟩ := List.mem_map.mp h
  exact ⟨d, hd, e⟩
theorem MachOk.im {n : Nat} {ds : List Deed} (h : MachOk n ds) : ∀ s ∈ ds.map (·.1), Eff n (imOf ds s) := fun s hs => by
  obtain ⟨d, hd, rfl⟩ := imOf_at hs
  rw [imOf_mem h.nd d hd]
  exact (h.ok d hd).im
theorem MachOk.nm {n : Nat} {ds : List Deed} (h : MachOk n ds) : ∀ s ∈ ds.map (·.1), NameOk s := fun s hs => by
  obtain ⟨d, hd, rfl⟩ := imOf_at hs
  exact (h.ok d hd).nm
/-- the dict of the deeds -/
def DkAt (H : Hp) (D : Addr) (ds : List Deed) : Prop := ∃ kvs : List (L2.Key × V), H D = some (.dK kvs) ∧ kvs.map (·.1) = ds.map (fun d => (Sum.inr d.1 : L2.Key)) ∧ RepA (tp H) (kvs.map (·.2)) (ds.map (·.2))
theorem DkAt.mono {H H' : Hp} {D : Addr} {ds : List Deed} (h : DkAt H D ds) (e : Ex H H') : DkAt H' D ds := let ⟨kvs, a, b, c⟩ := h; ⟨kvs, e _ _ a, b, upA (Rl := Ex) e c⟩
theorem valV_deed {T : TL} : ∀ {kvs : List (L2.Key × V)} {ds : List Deed} {nm : Str}, kvs.map (·.1) = ds.map (fun d => (Sum.inr d.1 : L2.Key)) → RepA T (kvs.map (·.2)) (ds.map (·.2)) → nm ∈ ds.map (·.1) → ∃ v, valV kvs (Sum.inr nm) = some v ∧ Enc.rep T v (imOf ds nm)
  | [], [], nm, _, _, h => by cases h
  | kv :: kvs, d :: ds, nm, e, r, h => by
    rw [List.map_cons, List.map_cons] at e
    injection e with e1 e2
    by_cases q : d.1 = nm
    · refine ⟨kv.2, valV_pos (by rw [e1, q]), ?_⟩
      have : imOf (d :: ds) nm = d.2 := by unfold imOf; rw [List.find?_cons, decide_eq_true q]; rfl
      rw [this]
      exact r.1
    · have h' : nm ∈ ds.map (·.1) := by
        rcases List.mem_cons.mp h with z | z
        · exact absurd z.symm q
        · exact z
      obtain ⟨v, h1, h2⟩ := valV_deed e2 r.2 h'
      refine ⟨v, by rw [valV_neg (by rw [e1]; intro z; injection z with z; exact q z)]; exact h1, ?_⟩
      have : imOf (d :: ds) nm = imOf ds nm := by unfold imOf; rw [List.find?_cons, decide_eq_false q]
      rw [this]
      exact h2
  | [], _ :: _, _, e, _, _ => by cases e
  | _ :: _, [], _, e, _, _ => by cases e
def spMade (K : PySem.W.Frag) (k : Nat) : Sp := spP (ι := Nat × List Deed × List (PT k) × Addr) (fun i H => MachOk i.1 i.2.1 ∧ k ≤ 8 ∧ okRow (i.2.1.map (·.1)) k i.2.2.1 ∧ DkAt H i.2.2.2 i.2.1)
  (fun i => [mp i.2.2.1, mp (Raw.mk (.ref i.2.2.2)), mp (List.range i.1), mp (Raw.mk (.ref (He.ga K "effect_then")))]) fun i => rowE i.1 (imOf i.2.1) k i.2.2.1
def spMade' (K : PySem.W.Frag) : Nat → Sp
  | 0 => fun _ _ _ _ => False
  | k + 1 => spMade K k
def spRowE (K : PySem.W.Frag) (k : Nat) : Sp := spP (ι := Nat × List Deed × Addr × List (PT k)) (fun i H => MachOk i.1 i.2.1 ∧ k ≤ 8 ∧ okRow (i.2.1.map (·.1)) k i.2.2.2 ∧ MachAt K H i.2.2.1 i.1 i.2.1) (fun i => [mp (Raw.mk (.ref i.2.2.1)), mp i.2.2.2]) fun i => rowE i.1 (imOf i.2.1) k i.2.2.2
def meetsAll (n : Nat) (f g : List Nat) : List Nat := (List.range n).filter (meets f g)
def spExch (K : PySem.W.Frag) (k : Nat) : Sp := spP (ι := Nat × List Deed × Addr × List (PT k) × List (PT k)) (fun i H => MachOk i.1 i.2.1 ∧ k ≤ 8 ∧ okRow (i.2.1.map (·.1)) k i.2.2.2.1 ∧ okRow (i.2.1.map (·.1)) k i.2.2.2.2 ∧ MachAt K H i.2.2.1 i.1 i.2.1)
  (fun i => [mp (Raw.mk (.ref i.2.2.1)), mp i.2.2.2.1, mp i.2.2.2.2]) fun i => meetsAll i.1 (rowE i.1 (imOf i.2.1) k i.2.2.2.1) (rowE i.1 (imOf i.2.1) k i.2.2.2.2)
section
variable {P : Program} {w : World} {K : PySem.W.Frag} {mg : Str → Option Value} {base : Heap}
theorem ok_power_by (W : Wd K mg) : Fn P w K mg base 8 "power_by" p_power_by (spPow K) := by
  refine fn_ok (k := 4) W 9 sc_power_by (spP_len fun _ => rfl) (fun _ _ _ _ _ _ us hl => match us, hl with | [_, _, _, _], _ => rfl) fun f cdv A outer s H vs Q E hr h => ⟨_, w_power_by spThen W hr (ok_effect_then W), ?_⟩
  obtain ⟨⟨n, g, t⟩, ⟨hn, hg⟩, hr', hq⟩ := h
  obtain ⟨v0, v1, v2, v3, rfl, r0, r1, r2, r3⟩ := reps4 hr'
  obtain rfl : v1 = .int t := r1
  obtain rfl : v3 = .ref (He.ga K "effect_then") := r3
  have hthen : ∀ {a b : List Nat} {σ : L2.St} {H : Hp} {i j : Nat} {va vb : V}, Eff n a → Eff n b → σ[3]? = some (some (.ref (He.ga K "effect_then"))) → σ[i]? = some (some va) → σ[j]? = some (some vb) → Enc.rep (tp H) va a → Enc.rep (tp H) vb b →
      Ev Ex (tCallL 3 (He.ga K "effect_then") spThen [] E0 (tCons (tVar i) (tCons (tVar j) tNil))) σ H (thn a b) := fun {a b σ H i j va vb} ha hb h3 hi hj ra rb =>
    e_callL' (ι := List Nat × List Nat) (res := fun i : List Nat × List Nat => thn i.1 i.2) (a, b) h3 (ea_cons (e_var hi ra) (ea_cons (e_var hj rb) ea_nil)) fun _ _ => ⟨by show a.length ≤ _; rw [ha.1]; exact hn, fun s hs => by show s < b.length; rw [hb.1]; exact ha.2 s hs⟩
  show tSeq _ _ _ _ _
  refine k_seq (k_set (Rl := Ex) (a := List.range n) (e_var rfl r2) fun v4 H4 e4 r4 => ?_)
  dsimp only
  refine k_seq (k_while (Rl := Ex) (fun m σ1 H1 => Ex H H1 ∧ ∃ th fo : List Nat, ∃ x0 x4, σ1 = [some x0, some (.int (m : Nat)), some v2, some (.ref (He.ga K "effect_then")), some x4] ∧ Eff n th ∧ Eff n fo ∧ Enc.rep (tp H1) x0 th ∧ Enc.rep (tp H1) x4 fo ∧ thn fo (pwr n th m) = pwr n g t) ⟨t, e4, g, List.range n, v0, v4, rfl, hg, eff_range n, up (Rl := Ex) e4 r0, r4, one_thn (hg.pwr t)⟩ ?_)
  rintro m _ H1 ⟨e1, th, fo, x0, x4, rfl, eth, efo, rx0, rx4, heq⟩
  refine ⟨decide (0 < m), et_test (e_op (e_var (a := m) rfl rfl) (eN 0) rv_gtN), fun hb H2 e2 => ?_, fun hb H2 e2 => ?_⟩
  · have hm : m = 0 := by have := of_decide_eq_false hb; omega
    subst hm
    rw [show pwr n th 0 = List.range n from rfl, thn_one efo] at heq
    subst heq
    dsimp only
    exact k_ret (Rl := Ex) (e_var rfl (up e2 rx4)) fun v H5 e5 r => hq v H5 (e1.trans (e2.trans e5)) r
  · have hm := of_decide_eq_true hb
    have rx0' := up (Rl := Ex) e2 rx0
    have rx4' := up (Rl := Ex) e2 rx4
    let fo' := if m % 2 = 1 then thn fo th else fo
    have efo' : Eff n fo' := by
      show Eff n (if _ then _ else _)
      split
      · exact efo.thn eth
      · exact efo
    have key : thn fo' (pwr n (thn th th) (m / 2)) = pwr n g t := by
      rw [← heq, pwr_round eth m]
      show thn (if _ then _ else _) _ = _
      split
      · rw [thn_assoc efo eth]
      · rw [one_thn ((eth.thn eth).pwr _)]
    refine k_seq (k_ifSet (a := fo') (b := decide (m % 2 = 1)) (et_test (e_op (e_modN (e_var (a := m) rfl rfl) (eN 2) (by decide)) (eN 1) rv_eqN)) (fun h3 H3 e3 => ?_) (fun h3 => ⟨x4, rfl, ?_⟩) fun x4' H3 e3 r4' => ?_)
    · have : fo' = thn fo th := if_pos (of_decide_eq_true h3)
      rw [this]
      exact hthen efo eth rfl rfl rfl (up (Rl := Ex) e3 rx4') (up (Rl := Ex) e3 rx0')
    · have : fo' = fo := if_neg (of_decide_eq_false h3)
      rw [this]
      exact rx4'
    · have r03 := up (Rl := Ex) e3 rx0'
      dsimp only
      refine k_seq (k_set (Rl := Ex) (a := thn th th) (hthen eth eth rfl rfl rfl r03 r03) fun y H5 e5 ry => ?_)
      exact ⟨_, rfl, (m : Int), (2 : Int), rfl, rfl, cdiv_small (b := 2) (by decide) (by decide), m / 2, by omega, e1.trans (e2.trans (e3.trans e5)), thn th th, fo', y, x4', rfl, eth.thn eth, efo', ry, up (Rl := Ex) e5 r4', key⟩
end
end B
/-! what rows do, further. -/
namespace B
open PySem PySem.Spec PyProof.Rows L2
section
variable {P : Program} {w : World} {K : PySem.W.Frag} {mg : Str → Option Value} {base : Heap}
theorem ok_made_none (W : Wd K mg) : Fn P w K mg base 12 "made_by" p_made_by (fun _ _ _ _ => False) :=
  fn_ok (k := 8) W 10 sc_made_by (fun _ _ _ _ z => z.elim) (fun _ _ _ _ _ _ us hl => match us, hl with | [_, _, _, _], _ => rfl) fun f cdv A outer s H vs Q E hr h => h.elim
/-- f(a, b) by the name that holds effect_then -/
theorem e_then {σ : L2.St} {H : Hp} {n : Nat} {a b : List Nat} {ta tb : TE} (hn : n ≤ 1000000) (ha : Eff n a) (hb : Eff n b) (h3 : σ[3]? = some (some (.ref (He.ga K "effect_then")))) (ra : Ev Ex ta σ H a) (rb : Ev Ex tb σ H b) : Ev Ex (tCallL 3 (He.ga K "effect_then") spThen [] E0 (tCons ta (tCons tb tNil))) σ H (thn a b) :=
  e_callL' (ι := List Nat × List Nat) (res := fun i : List Nat × List Nat => thn i.1 i.2) (a, b) h3 (ea_cons ra (ea_cons rb ea_nil)) fun _ _ => ⟨by show a.length ≤ _; rw [ha.1]; exact hn, fun s hs => by show s < b.length; rw [hb.1]; exact ha.2 s hs⟩
theorem ok_made_by (W : Wd K mg) : ∀ k, Fn P w K mg base (4 * k + 16) "made_by" p_made_by (spMade K k) := by
  have step : ∀ k, Fn P w K mg base (4 * k + 12) "made_by" p_made_by (spMade' K k) → Fn P w K mg base (4 * k + 16) "made_by" p_made_by (spMade K k) := fun k F => by
    refine fn_ok (k := 4 * k + 12) W 10 sc_made_by (spP_len fun _ => rfl) (fun _ _ _ _ _ _ us hl => match us, hl with | [_, _, _, _], _ => rfl) fun f cdv A outer s H vs Q E hr h => ⟨_, w_made_by (spPow K) spThen (spMade' K k) W hr ((ok_power_by W).mono (by omega)) ((ok_effect_then W).mono (by omega)) F, ?_⟩
    obtain ⟨⟨n, ds, row, D⟩, ⟨ok, hk, hrow, hD⟩, hr', hq⟩ := h
    obtain ⟨v0, v1, v2, v3, rfl, r0, r1, r2, r3⟩ := reps4 hr'
    obtain rfl : v1 = .ref D := r1
    obtain rfl : v3 = .ref (He.ga K "effect_then") := r3
    have hn : n ≤ 1000000 := by have h1 : 2 ≤ n := ok.lo; have h2 : n ≤ 49 := ok.hi; omega
    show tSeq _ _ _ _ _
    refine k_seq (k_set (Rl := Ex) (a := List.range n) (e_var rfl r2) fun v4 H4 e4 r4 => ?_)
    dsimp only
    refine k_seq (k_for (Rl := Ex) (wz_tup (xs := row) (e_var rfl (up e4 r0))) (fun H3 i σ1 H5 => Ex H3 H5 ∧ ∃ x4 o5 o6, σ1 = [some v0, some (.ref D), some v2, some (.ref (He.ga K "effect_then")), some x4, o5, o6] ∧ Enc.rep (tp H5) x4 (rowE n (imOf ds) k (row.take i)))
      (fun H3 e3 => ⟨Ex.refl _, _, _, _, rfl, by
        have : rowE n (imOf ds) k (row.take 0) = List.range n := by rw [rowE_eq]; rfl
        rw [this]; exact up (Rl := Ex) e3 r4⟩) (fun _ i σ1 H4 h => h.1) (fun _ i σ1 H4 H5 ⟨a, x4, o5, o6, b, c⟩ e => ⟨a.trans e, x4, o5, o6, b, up (Rl := Ex) e c⟩) ?_ ?_)
    · rintro H3 e3 i x v _ H5 hx ⟨e5, x4, o5, o6, rfl, rx4⟩ y
      have hxm : x ∈ row := List.mem_of_getElem? hx
      have op := hrow.part x hxm
      have e45 := e3.trans e5
      have efo : Eff n (rowE n (imOf ds) k (row.take i)) := eff_row ok.im k _ (okRow.of fun p hp => hrow.part p (List.mem_of_mem_take hp))
      have epa : Eff n (partE n (imOf ds) k x) := eff_part ok.im k x op
      have htk := rowE_take (n := n) (im := imOf ds) hx
      refine tgt_name ?_
      rcases PT.cases y op with ⟨z, rfl, hz, hE⟩ | ⟨k', r, t, rfl, ry, hr2, ht, hE⟩
      · refine k_if (Rl := Ex) (b := false) (et_B (e_isi (e_var (a := z) rfl rfl) ty_str k_str_tup)) (fun h => by cases h) fun _ H6 e6 => ?_
        refine k_set (Rl := Ex) (a := thn (rowE n (imOf ds) k (row.take i)) (partE n (imOf ds) k x)) (e_then hn efo epa rfl (e_var rfl (up (Rl := Ex) e6 rx4)) ?_) fun v4' H7 e7 r4' => ⟨e5.trans (e6.trans e7), v4', _, _, rfl, by rw [htk]; exact r4'⟩
        rw [hE]
        intro H7 e7 Q' q'
        obtain ⟨kvs, h1, h2, h3⟩ := hD.mono (e4.trans (e45.trans (e6.trans e7)))
        obtain ⟨v', h4, h5⟩ := valV_deed h2 h3 hz
        exact ⟨.ref D, rfl, .str z, rfl, .inr ⟨D, v', rfl, by rw [← h4]; exact DGet.k (k := Sum.inr z) h1, q' v' H7 (Ex.refl _) h5⟩⟩
      · have efr : Eff n (rowE n (imOf ds) k' r) := eff_row ok.im k' r hr2
        have e04 := e4.trans e45
        refine k_if (Rl := Ex) (b := true) (et_B (e_isi (e_var rfl ry) ty_pair k_tup_tup)) (fun _ H6 e6 => ?_) (fun h => by cases h)
        refine k_seq (k_set (Rl := Ex) (a := rowE n (imOf ds) k' r) (e_call (ι := Nat × List Deed × List (PT k') × Addr) (res := fun i => rowE i.1 (imOf i.2.1) k' i.2.2.1) (n, ds, r, D) (ea_cons (e_fst (p := (r, t)) (e_var rfl (up (Rl := Ex) e6 ry)) (eN 0)) (ea_cons (e_var rfl rfl) (ea_cons (e_var rfl (up (Rl := Ex) (e04.trans e6) r2)) (ea_cons (e_var rfl rfl) ea_nil)))) fun H7 e7 => ⟨ok, by omega, hr2, hD.mono (e04.trans (e6.trans e7))⟩) fun v6 H7 e7 r6 => ?_)
        dsimp only
        have e07 := e04.trans (e6.trans e7)
        refine k_set (Rl := Ex) (a := thn (rowE n (imOf ds) (k' + 1) (row.take i)) (partE n (imOf ds) (k' + 1) x)) (e_then hn efo epa rfl (e_var rfl (up (Rl := Ex) (e6.trans e7) rx4)) ?_) fun v4' H8 e8 r4' => ⟨e5.trans (e6.trans (e7.trans e8)), v4', _, _, rfl, by rw [htk]; exact r4'⟩
        rw [hE]
        exact e_call (ι := Nat × List Nat × Nat) (res := fun i => pwr i.1 i.2.1 i.2.2) (n, rowE n (imOf ds) k' r, t) (ea_cons (e_var rfl r6) (ea_cons (e_snd (p := (r, t)) (e_var rfl (up (Rl := Ex) (e6.trans e7) ry)) (eN 1)) (ea_cons (e_var rfl (up (Rl := Ex) e07 r2)) (ea_cons (e_var rfl rfl) ea_nil)))) fun _ _ => ⟨hn, efr⟩
    · rintro H3 e3 _ H5 ⟨e5, x4, o5, o6, rfl, rx4⟩
      rw [List.take_length] at rx4
      dsimp only
      exact k_ret (Rl := Ex) (e_var rfl rx4) fun v H6 e6 r => hq v H6 (e4.trans (e3.trans (e5.trans e6))) r
  intro k
  induction k with
  | zero => exact step 0 (ok_made_none W)
  | succ k ih => exact step (k + 1) (ih.mono (by omega))
end
end B
/-! row_effect, exchange_states. -/
namespace B
open PySem PySem.Spec PyProof.Rows L2
theorem mergeK_nd : ∀ (kvs acc : List (L2.Key × V)), ((acc ++ kvs).map (·.1)).Nodup → mergeK acc kvs = acc ++ kvs
  | [], acc, _ => by rw [List.append_nil]; rfl
  | p :: kvs, acc, h => by
    have hn : ¬ p.1 ∈ acc.map (·.1) := fun z => by
      rw [List.map_append, List.map_cons] at h
      exact (List.nodup_append.mp h).2.2 _ z _ List.mem_cons_self rfl
    have e : putK acc p.1 p.2 = acc ++ [p] := by
      unfold putK
      rw [if_neg]
      intro z
      obtain ⟨q, hq, e⟩ := List.any_eq_true.mp z
      exact hn (by rw [← of_decide_eq_true e]; exact List.mem_map_of_mem hq)
    show mergeK (putK acc p.1 p.2) kvs = _
    rw [e, mergeK_nd kvs (acc ++ [p]) (by rw [List.append_assoc]; exact h), List.append_assoc]; rfl
theorem deeds_kvs {H : Hp} : ∀ {vs : List V} {ds : List Deed}, RepA (tp H) vs ds → ∃ (ps : List Addr) (kvs : List (L2.Key × V)), vs = ps.map V.ref ∧ Paired (fun p kv => H p = some (.tup [kV kv.1, kv.2])) ps kvs ∧ kvs.map (·.1) = ds.map (fun d => (Sum.inr d.1 : L2.Key)) ∧ RepA (tp H) (kvs.map (·.2)) (ds.map (·.2))
  | [], [], _ => ⟨[], [], rfl, .nil, rfl, trivial⟩
  | v :: vs, d :: ds, ⟨r, s⟩ => by
    obtain ⟨ps, kvs, h1, h2, h3, h4⟩ := deeds_kvs s
    obtain ⟨a, x, y, rfl, ha, hx, hy⟩ := r
    obtain rfl : x = .str d.1 := hx
    exact ⟨a :: ps, (Sum.inr d.1, y) :: kvs, by rw [h1]; rfl, .cons ha h2, by rw [List.map_cons, List.map_cons, h3], hy, h4⟩
  | [], _ :: _, z => z.elim
  | _ :: _, [], z => z.elim
theorem keys_nd {ds : List Deed} (h : (ds.map (·.1)).Nodup) : (ds.map fun d => (Sum.inr d.1 : L2.Key)).Nodup := by
  have : (ds.map fun d => (Sum.inr d.1 : L2.Key)) = (ds.map (·.1)).map Sum.inr := by rw [List.map_map]; rfl
  rw [this]
  exact List.pairwise_map.mpr (h.imp fun hne e => hne (Sum.inr.inj e))
/-- the class's facts -/
structure Mf (K : PySem.W.Frag) : Prop where
  cl : Cls K (mC K)
  n1 : NoAttr K (mC K) "deeds"
  n2 : NoAttr K (mC K) "names"
  n3 : NoAttr K (mC K) "size"
theorem Wd.mf {K : PySem.W.Frag} {mg : Str → Option Value} (W : Wd K mg) : Mf K :=
  ⟨He.cls_ok (W.c.fact 71 (f := .cls "Machine") rfl), He.noat_ok (W.c.fact 73 (f := .noat "Machine" "deeds") rfl), He.noat_ok (W.c.fact 74 (f := .noat "Machine" "names") rfl), He.noat_ok (W.c.fact 75 (f := .noat "Machine" "size") rfl)⟩
section
variable {Rl : Hp → Hp → Prop} [RlOk Rl] {K : PySem.W.Frag} {σ : L2.St} {H H' : Hp} {p : Addr} {n j : Nat} {ds : List Deed}
theorem e_size (m : Mf K) (hj : σ[j]? = some (some (.ref p))) (h : Ms K Rl H p n ds) : Ev Rl (tFld K (tVar j) "size") σ H n := fun H1 e Q q => by
  obtain ⟨dx, a, b, ob, vs, h1, h2, h3, h4, h5⟩ := (h.mono e).at
  exact ⟨.ref p, hj, p, _, dx, _, _, rfl, h1, m.cl, m.n3, rfl, q _ H1 (RlOk.refl _) rfl⟩
theorem e_names (m : Mf K) (hj : σ[j]? = some (some (.ref p))) (h : Ms K Rl H p n ds) : Ev Rl (tFld K (tVar j) "names") σ H (ds.map (·.1)) := fun H1 e Q q => by
  obtain ⟨dx, a, b, ob, vs, h1, h2, h3, h4, h5⟩ := (h.mono e).at
  exact ⟨.ref p, hj, p, _, dx, _, _, rfl, h1, m.cl, m.n2, rfl, q _ H1 (RlOk.refl _) h5⟩
/-- for .. in machine.deeds -/
theorem wz_deeds (m : Mf K) (hj : σ[j]? = some (some (.ref p))) (h : Ms K Rl H p n ds) : Wz Rl (iTup K (tFld K (tVar j) "deeds")) σ H ds fun d H v => Enc.rep (tp H) v d := fun R q => by
  obtain ⟨dx, a, b, ob, vs, h1, h3, r, h5⟩ := h
  have hs : ∀ H3, Rl H H3 → SqT K H3 a vs := fun H3 e3 => .inl (.inr ⟨ob, (h1 H3 e3).2⟩)
  refine ⟨.ref p, hj, p, _, dx, _, _, rfl, (h1 H (RlOk.refl _)).1, m.cl, m.n1, rfl, a, rfl, ⟨vs, hs H (RlOk.refl _)⟩, q (Itt K a) H (Ex.refl _) fun H3 e3 => ⟨fun i hi => ?_, ⟨vs, hs H3 e3, by rw [r.length]; exact Nat.le_refl _⟩, fun i x H4 hi hy => ?_⟩⟩
  · exact ⟨vs, vs[i]'(by rw [r.length]; exact hi), hs H3 e3, by simp [r.length, hi]⟩
  · obtain ⟨rfl, hy⟩ := hy
    refine ⟨Ex.refl _, fun x' hx' => ?_⟩
    obtain ⟨y, h1, h2⟩ := (upA e3 r).get hx'
    have h3 := hy vs (hs _ e3)
    rw [h1] at h3
    cases h3
    exact h2
end
section
variable {P : Program} {w : World} {K : PySem.W.Frag} {mg : Str → Option Value} {base : Heap}
theorem ok_row_effect (W : Wd K mg) (k : Nat) : Fn P w K mg base (4 * k + 20) "row_effect" p_row_effect (spRowE K k) := by
  refine fn_ok (k := 4 * k + 16) W 11 sc_row_effect (spP_len fun _ => rfl) (fun _ _ _ _ _ _ us hl => match us, hl with | [_, _], _ => rfl) fun f cdv A outer s H vs Q E hr h => ⟨_, w_row_effect (spMade K k) (spNeed k) W hr (ok_made_by W k) ((ok_need_names W k).mono (by omega)), ?_⟩
  obtain ⟨⟨n, ds, p, row⟩, ⟨ok, hk, hrow, hM⟩, hr', hq⟩ := h
  obtain ⟨v0, v1, rfl, r0, r1⟩ := reps2 hr'
  obtain rfl : v0 = .ref p := r0
  have hn : n ≤ 1000000 := by have h1 : 2 ≤ n := ok.lo; have h2 : n ≤ 49 := ok.hi; omega
  show tSeq _ _ _ _ _
  refine k_seq ?_
  refine e_call (Rl := Ex) (ι := List (PT k) × List Str) (res := fun _ => ()) (row, ds.map (·.1)) (ea_cons (e_var rfl r1) (ea_cons (e_names W.mf rfl hM.ms) ea_nil)) (fun _ _ => ⟨hk, hrow, ok.nm⟩) H (Ex.refl H) _ fun _ H1 e1 _ => ?_
  have hM1 := hM.mono e1
  dsimp only
  show tCall _ _ _ _ _ _ _
  obtain ⟨dx, a, b, ob, vs, h1, h2, h3, h4, h5⟩ := hM1
  obtain ⟨ps, kvs, rfl, q2, q3, q4⟩ := deeds_kvs h4
  refine ⟨v1, rfl, .ref p, rfl, p, _, dx, _, _, rfl, h1, W.mf.cl, W.mf.n1, rfl, a, ob, ps, kvs, rfl, h2, h3, q2, fun D hD => ?_⟩
  have hm : mergeK [] kvs = kvs := mergeK_nd kvs [] (by rw [List.nil_append, q3]; exact keys_nd ok.nd)
  rw [hm]
  have eD : Ex H1 (upd H1 D (.dK kvs)) := Ex.new hD
  have hDk : DkAt (upd H1 D (.dK kvs)) D ds := ⟨kvs, upd_same, q3, upA (Rl := Ex) eD q4⟩
  have hM2 := (hM.mono (e1.trans eD)).ms
  refine e_tupRg (e_size W.mf rfl hM2) hn _ (Ex.refl _) _ fun v2 H3 e3 r3 => ?_
  refine ⟨(n, ds, row, D), ⟨ok, hk, hrow, hDk.mono e3⟩, ⟨up (Rl := Ex) (e1.trans (eD.trans e3)) r1, rfl, r3, rfl, trivial⟩, fun v H4 e4 r4 => hq v H4 (e1.trans (eD.trans (e3.trans e4))) r4⟩
theorem ok_exchange_states (W : Wd K mg) (k : Nat) : Fn P w K mg base (4 * k + 24) "exchange_states" p_exchange_states (spExch K k) := by
  refine fn_ok (k := 4 * k + 20) W 12 sc_exchange_states (spP_len fun _ => rfl) (fun _ _ _ _ _ _ us hl => match us, hl with | [_, _, _], _ => rfl) fun f cdv A outer s H vs Q E hr h => ⟨_, w_exchange_states (spRowE K k) W hr (ok_row_effect W k), ?_⟩
  obtain ⟨⟨n, ds, p, one, other⟩, ⟨ok, hk, h1, h2, hM⟩, hr', hq⟩ := h
  obtain ⟨v0, v1, v2, rfl, r0, r1, r2⟩ := reps3 hr'
  obtain rfl : v0 = .ref p := r0
  have hn : n ≤ 1000000 := by have h1 : 2 ≤ n := ok.lo; have h2 : n ≤ 49 := ok.hi; omega
  have f1 : Eff n (rowE n (imOf ds) k one) := eff_row ok.im k one h1
  have f2 : Eff n (rowE n (imOf ds) k other) := eff_row ok.im k other h2
  show tSeq _ _ _ _ _
  refine k_seq (k_set (Rl := Ex) (a := rowE n (imOf ds) k one) (e_call (ι := Nat × List Deed × Addr × List (PT k)) (res := fun i => rowE i.1 (imOf i.2.1) k i.2.2.2) (n, ds, p, one) (ea_cons (e_var rfl rfl) (ea_cons (e_var rfl r1) ea_nil)) fun H1 e => ⟨ok, hk, h1, hM.mono e⟩) fun v3 H3 e3 r3 => ?_)
  dsimp only
  refine k_seq (k_set (Rl := Ex) (a := rowE n (imOf ds) k other) (e_call (ι := Nat × List Deed × Addr × List (PT k)) (res := fun i => rowE i.1 (imOf i.2.1) k i.2.2.2) (n, ds, p, other) (ea_cons (e_var rfl rfl) (ea_cons (e_var rfl (up (Rl := Ex) e3 r2)) ea_nil)) fun H1 e => ⟨ok, hk, h2, hM.mono (e3.trans e)⟩) fun v4 H4 e4 r4 => ?_)
  dsimp only
  have r3' := up (Rl := Ex) e4 r3
  refine k_ret (Rl := Ex) (a := meetsAll n (rowE n (imOf ds) k one) (rowE n (imOf ds) k other)) (e_tupleNew (e_lcF _ fr_ex (ws_rg1 (ea_cons (e_size W.mf rfl (hM.mono (e3.trans e4)).ms) ea_nil) hn) (by rw [List.length_range]; exact hn) (by show 5 < 6; decide) (fun _ _ _ h => h) fun x v H1 hx e1 y => ?_)) fun v H5 e5 r5 => hq v H5 (e3.trans (e4.trans e5)) r5
  have hx := List.mem_range.mp hx
  exact et_test (e_op (e_ixT (e_var rfl (up (Rl := Ex) e1 r4)) (e_ixT (e_var rfl (up (Rl := Ex) e1 r3')) (e_var rfl y) (f1.at hx)) (f2.at (f1.lt hx))) (e_ixT (e_var rfl (up (Rl := Ex) e1 r3')) (e_ixT (e_var rfl (up (Rl := Ex) e1 r4)) (e_var rfl y) (f2.at hx)) (f1.at (f2.lt hx))) rv_eqN)
end
end B
/-! all effects, one behind another. -/
namespace B
open PySem L2
inductive Gen (n : Nat) (ds : List Deed) : List Nat → Prop
  | one : Gen n ds (List.range n)
  | step {f : List Nat} {d : Deed} : Gen n ds f → d ∈ ds → Gen n ds (thn f d.2)
def Small (n : Nat) (ds : List Deed) : Prop := ∀ l : List (List Nat), l.Nodup → (∀ f ∈ l, Gen n ds f) → l.length ≤ 60
theorem Gen.eff {n : Nat} {ds : List Deed} (ok : ∀ d ∈ ds, Eff n d.2) {f : List Nat} (h : Gen n ds f) : Eff n f := by
  induction h with
  | one => exact eff_range n
  | step _ hd ih => exact ih.thn (ok _ hd)
abbrev Led := List Nat × List Str
structure Bfs (n : Nat) (ds : List Deed) (L : List Led) (at_ : Nat) : Prop where
  h0 : L[0]? = some (List.range n, [])
  nd : (L.map (·.1)).Nodup
  gen : ∀ e ∈ L, Gen n ds e.1
  row : ∀ e ∈ L, (∀ s ∈ e.2, s ∈ ds.map (·.1)) ∧ rowE n (imOf ds) 0 e.2 = e.1
  srt : (L.map fun e => e.2.length).Pairwise (· ≤ ·)
  cls : ∀ i, i < at_ → ∀ e, L[i]? = some e → ∀ d ∈ ds, thn e.1 d.2 ∈ L.map (·.1)
  fr : ∀ e, L[at_]? = some e → ∀ e' ∈ L, e'.2.length ≤ e.2.length + 1
  bd : ∀ (i : Nat) (e : Led), L[i]? = some e → e.2.length ≤ i
theorem Bfs.start (n : Nat) (ds : List Deed) : Bfs n ds [(List.range n, [])] 0 where
  h0 := rfl
  nd := by simp
  gen e he := by rw [List.mem_singleton.mp he]; exact .one
  row e he := by rw [List.mem_singleton.mp he]; exact ⟨fun s hs => (nomatch hs), rfl⟩
  srt := by simp
  cls i hi := absurd hi (Nat.not_lt_zero i)
  fr e he e' he' := by rw [List.mem_singleton.mp he']; exact Nat.zero_le _
  bd i e he := by rw [List.mem_singleton.mp (List.mem_of_getElem? he)]; exact Nat.zero_le _
theorem rowE0_snoc {n : Nat} {im : Str → List Nat} (r : List Str) (s : Str) : rowE n im 0 (r ++ [s]) = thn (rowE n im 0 r) (im s) := by
  show List.foldl _ _ _ = _
  rw [List.foldl_append]; rfl
theorem Bfs.add {n : Nat} {ds : List Deed} {L : List Led} {at_ : Nat} (b : Bfs n ds L at_) (nd : (ds.map (·.1)).Nodup) {e : Led} {d : Deed} (he : L[at_]? = some e) (hd : d ∈ ds) (hf : thn e.1 d.2 ∉ L.map (·.1)) : Bfs n ds (L ++ [(thn e.1 d.2, e.2 ++ [d.1])]) at_ := by
  have hlt : at_ < L.length := (List.getElem?_eq_some_iff.mp he).1
  have hm : e ∈ L := List.mem_of_getElem? he
  refine ⟨?_, ?_, ?_, ?_, ?_, ?_, ?_, ?_⟩
  · rw [List.getElem?_append_left (by omega)]; exact b.h0
  · rw [List.map_append]
    exact nd_snoc b.nd hf
  · intro x hx
    rcases List.mem_append.mp hx with h | h
    · exact b.gen x h
    · rw [List.mem_singleton.mp h]; exact .step (b.gen e hm) hd
  · intro x hx
    rcases List.mem_append.mp hx with h | h
    · exact b.row x h
    · rw [List.mem_singleton.mp h]
      refine ⟨fun s hs => ?_, ?_⟩
      · rcases List.mem_append.mp hs with h | h
        · exact (b.row e hm).1 s h
        · rw [List.mem_singleton.mp h]; exact List.mem_map_of_mem hd
      · rw [rowE0_snoc, (b.row e hm).2, imOf_mem nd d hd]
  · rw [List.map_append]
    refine List.pairwise_append.mpr ⟨b.srt, by simp, fun x hx y hy => ?_⟩
    obtain ⟨e', he', rfl⟩ := List.mem_map.mp hx
    have := b.fr e he e' he'
    rw [List.mem_singleton.mp hy]
    show _ ≤ (e.2 ++ [d.1]).length
    rw [List.length_append]
    exact this
  · intro i hi x hx d' hd'
    rw [List.getElem?_append_left (by omega)] at hx
    rw [List.map_append]
    exact List.mem_append_left _ (b.cls i hi x hx d' hd')
  · intro x hx
    rw [List.getElem?_append_left hlt, he] at hx
    cases hx
    intro e' he'
    rcases List.mem_append.mp he' with h | h
    · exact b.fr e he e' h
    · rw [List.mem_singleton.mp h]
      show (e.2 ++ [d.1]).length ≤ _
      rw [List.length_append]; exact Nat.le_refl _
  · intro i x hx
    by_cases hi : i < L.length
    · rw [List.getElem?_append_left hi] at hx; exact b.bd i x hx
    · have hi2 := (List.getElem?_eq_some_iff.mp hx).1
      rw [List.length_append, List.length_singleton] at hi2
      have : i = L.length := by omega
      subst this
      rw [List.getElem?_append_right (Nat.le_refl _), Nat.sub_self] at hx
      cases hx
      show (e.2 ++ [d.1]).length ≤ _
      have := b.bd at_ e he
      rw [List.length_append, List.length_singleton]; omega
theorem Bfs.next {n : Nat} {ds : List Deed} {L : List Led} {at_ : Nat} (b : Bfs n ds L at_) {e : Led} (he : L[at_]? = some e) (hc : ∀ d ∈ ds, thn e.1 d.2 ∈ L.map (·.1)) : Bfs n ds L (at_ + 1) := by
  refine ⟨b.h0, b.nd, b.gen, b.row, b.srt, fun i hi x hx d hd => ?_, fun x hx e' he' => ?_, b.bd⟩
  · by_cases h : i < at_
    · exact b.cls i h x hx d hd
    · have : i = at_ := by omega
      subst this
      rw [he] at hx; cases hx
      exact hc d hd
  · have h1 := b.fr e he e' he'
    have hlt : at_ < L.length := (List.getElem?_eq_some_iff.mp he).1
    have hlt2 : at_ + 1 < L.length := (List.getElem?_eq_some_iff.mp hx).1
    have h2 := List.pairwise_iff_getElem.mp b.srt at_ (at_ + 1) (by rw [List.length_map]; exact hlt) (by rw [List.length_map]; exact hlt2) (Nat.lt_succ_self _)
    rw [List.getElem_map, List.getElem_map] at h2
    rw [List.getElem?_eq_getElem hlt] at he
    rw [List.getElem?_eq_getElem hlt2] at hx
    rw [Option.some.inj he, Option.some.inj hx] at h2
    omega
theorem Bfs.all {n : Nat} {ds : List Deed} {L : List Led} {at_ : Nat} (b : Bfs n ds L at_) (h : L.length ≤ at_) {f : List Nat} (hf : Gen n ds f) : f ∈ L.map (·.1) := by
  induction hf with
  | one => exact List.mem_map.mpr ⟨_, List.mem_of_getElem? b.h0, rfl⟩
  | step _ hd ih =>
    obtain ⟨e, he, rfl⟩ := List.mem_map.mp ih
    obtain ⟨i, hi⟩ := List.getElem?_of_mem he
    exact b.cls i (Nat.lt_of_lt_of_le (List.getElem?_eq_some_iff.mp hi).1 h) e hi _ hd
/-- no repeats, all within: no longer -/
theorem nodup_le {α : Type} [DecidableEq α] : ∀ {l m : List α}, l.Nodup → (∀ x ∈ l, x ∈ m) → l.length ≤ m.length
  | [], m, _, _ => Nat.zero_le _
  | x :: l, m, h, hs => by
    obtain ⟨h1, h2⟩ := List.nodup_cons.mp h
    have hx := hs x List.mem_cons_self
    have ih := nodup_le (m := m.erase x) h2 fun y hy => (List.mem_erase_of_ne (fun e => h1 (by rw [← e]; exact hy))).mpr (hs y (List.mem_cons_of_mem _ hy))
    rw [List.length_erase_of_mem hx] at ih
    have : 0 < m.length := List.length_pos_of_mem hx
    rw [List.length_cons]
    omega
theorem Bfs.len {n : Nat} {ds : List Deed} {L : List Led} {at_ : Nat} (b : Bfs n ds L at_) (h : Small n ds) : L.length ≤ 60 := by
  have := h (L.map (·.1)) b.nd fun f hf => by
    obtain ⟨e, he, rfl⟩ := List.mem_map.mp hf
    exact b.gen e he
  rwa [List.length_map] at this
/-- the whole list -/
structure AllE (n : Nat) (ds : List Deed) (L : List Led) : Prop where
  h0 : L[0]? = some (List.range n, [])
  nd : (L.map (·.1)).Nodup
  gen : ∀ e ∈ L, Gen n ds e.1
  row : ∀ e ∈ L, (∀ s ∈ e.2, s ∈ ds.map (·.1)) ∧ rowE n (imOf ds) 0 e.2 = e.1
  srt : (L.map fun e => e.2.length).Pairwise (· ≤ ·)
  all : ∀ f, Gen n ds f → ∃ e ∈ L, e.1 = f
  bd : ∀ (i : Nat) (e : Led), L[i]? = some e → e.2.length ≤ i
theorem Bfs.done {n : Nat} {ds : List Deed} {L : List Led} {at_ : Nat} (b : Bfs n ds L at_) (h : L.length ≤ at_) : AllE n ds L := ⟨b.h0, b.nd, b.gen, b.row, b.srt, fun f hf => let ⟨e, he, q⟩ := List.mem_map.mp (b.all h hf); ⟨e, he, q⟩, b.bd⟩
theorem AllE.small {n : Nat} {ds : List Deed} {L : List Led} (a : AllE n ds L) (h : L.length ≤ 60) : Small n ds := fun l hl hg => by
  have := nodup_le hl (m := L.map (·.1)) fun f hf => by
    obtain ⟨e, he, q⟩ := a.all f (hg f hf)
    exact List.mem_map.mpr ⟨e, he, q⟩
  rw [List.length_map] at this
  omega
theorem AllE.len {n : Nat} {ds : List Deed} {L : List Led} (a : AllE n ds L) (h : Small n ds) : L.length ≤ 60 := by
  have := h (L.map (·.1)) a.nd fun f hf => by
    obtain ⟨e, he, rfl⟩ := List.mem_map.mp hf
    exact a.gen e he
  rwa [List.length_map] at this
theorem AllE.rows {n : Nat} {ds : List Deed} {L : List Led} (a : AllE n ds L) (h : Small n ds) : ∀ e ∈ L, e.2.length ≤ 60 := fun e he => by
  obtain ⟨i, hi⟩ := List.getElem?_of_mem he
  have h1 := a.bd i e hi
  have h2 := (List.getElem?_eq_some_iff.mp hi).1
  have h3 := a.len h
  omega
end B
/-! the law's own effects. -/
namespace B
open PySem PySem.Spec PyProof.Rows L2
section
variable {Rl : Hp → Hp → Prop} [RlOk Rl] {K : PySem.W.Frag} {σ : L2.St} {H H' : Hp} {te : TE}
theorem e_int1 {n : Nat} (h : Ev Rl te σ H n) : Ev Rl (tCB rInt1 (tCons te tNil)) σ H n := fun H1 e Q q => h H1 e _ fun v H2 e2 r => by
  obtain rfl : v = .int n := r
  exact .inl ⟨_, rfl, q _ H2 e2 rfl⟩
end
def spLE (k : Nat) : Sp := spP (ι := Nat × List Deed × Addr × List (PT k)) (fun i H => MachOk i.1 i.2.1 ∧ k ≤ 8 ∧ okRow (i.2.1.map (·.1)) k i.2.2.2 ∧ LsAt H i.2.2.1 i.2.1) (fun i => [mp i.1, mp (Raw.mk (.ref i.2.2.1)), mp i.2.2.2]) fun i => rowE i.1 (imOf i.2.1) k i.2.2.2
def spLE' : Nat → Sp
  | 0 => fun _ _ _ _ => False
  | k + 1 => spLE k
def undoN (n : Nat) (f : List Nat) : Nat → Nat
  | 0 => 0
  | i + 1 => if pwr n f (undoN n f i + 2) ≠ f then undoN n f i + 1 else undoN n f i
def spUndo : Sp := spP (ι := Nat × List Nat) (fun i _ => i.1 ≤ 1000000 ∧ Eff i.1 i.2) (fun i => [mp i.1, mp i.2]) fun i => undoN i.1 i.2 60
section
variable {P : Program} {w : World} {K : PySem.W.Frag} {mg : Str → Option Value} {base : Heap}
theorem e_thn {Rl : Hp → Hp → Prop} [RlOk Rl] {σ : L2.St} {H : Hp} {n : Nat} {a b : List Nat} {ta tb : TE} (hn : n ≤ 1000000) (ha : Eff n a) (hb : Eff n b) (ra : Ev Rl ta σ H a) (rb : Ev Rl tb σ H b) : Ev Rl (tCall spThen [] E0 (tCons ta (tCons tb tNil))) σ H (thn a b) :=
  e_call (ι := List Nat × List Nat) (res := fun i : List Nat × List Nat => thn i.1 i.2) (a, b) (ea_cons ra (ea_cons rb ea_nil)) fun _ _ => ⟨by show a.length ≤ _; rw [ha.1]; exact hn, fun s hs => by show s < b.length; rw [hb.1]; exact ha.2 s hs⟩
theorem filter_im {ds : List Deed} {z : Str} (h : z ∈ ds.map (·.1)) : ((ds.filter fun d : Deed => decide (d.1 = z)).map (·.2))[0]? = some (imOf ds z) := by
  rw [List.getElem?_map, ← List.head?_eq_getElem?, List.head?_filter]
  unfold imOf
  obtain ⟨d, hd, e⟩ := imOf_at h
  have : (ds.find? fun d => decide (d.1 = z)).isSome = true := by rw [List.find?_isSome]; exact ⟨d, hd, decide_eq_true e⟩
  obtain ⟨x, hx⟩ := Option.isSome_iff_exists.mp this
  rw [hx]; rfl
theorem ok_le_none (W : Wd K mg) : Fn P w K mg base 8 "_law_effect" p_law_effect (fun _ _ _ _ => False) :=
  fn_ok (k := 4) W 44 sc_law_effect (fun _ _ _ _ z => z.elim) (fun _ _ _ _ _ _ us hl => match us, hl with | [_, _, _], _ => rfl) fun f cdv A outer s H vs Q E hr h => h.elim
theorem ok_law_effect (W : Wd K mg) : ∀ k, Fn P w K mg base (4 * k + 12) "_law_effect" p_law_effect (spLE k) := by
  have step : ∀ k, Fn P w K mg base (4 * k + 8) "_law_effect" p_law_effect (spLE' k) → Fn P w K mg base (4 * k + 12) "_law_effect" p_law_effect (spLE k) := fun k F => by
    refine fn_ok (k := 4 * k + 8) W 44 sc_law_effect (spP_len fun _ => rfl) (fun _ _ _ _ _ _ us hl => match us, hl with | [_, _, _], _ => rfl) fun f cdv A outer s H vs Q E hr h => ⟨_, w_law_effect spThen (spLE' k) W hr ((ok_law_then W).mono (by omega)) F, ?_⟩
    obtain ⟨⟨n, ds, p, row⟩, ⟨ok, hk, hrow, hL⟩, hr', hq⟩ := h
    obtain ⟨v0, v1, v2, rfl, r0, r1, r2⟩ := reps3 hr'
    obtain rfl : v0 = .int n := r0
    obtain rfl : v1 = .ref p := r1
    have hn : n ≤ 1000000 := by have h1 : 2 ≤ n := ok.lo; have h2 : n ≤ 49 := ok.hi; omega
    show tSeq _ _ _ _ _
    refine k_seq (k_set (Rl := Ex) (a := List.range n) (e_tupRg (e_var rfl rfl) hn) fun v3 H4 e4 r4 => ?_)
    dsimp only
    refine k_seq (k_for (Rl := Ex) (wz_tup (xs := row) (e_var rfl (up e4 r2))) (fun H3 i σ1 H5 => Ex H3 H5 ∧ ∃ x3 o4 o5 o6 o7 o8 o9, σ1 = [some (.int n), some (.ref p), some v2, some x3, o4, o5, o6, o7, o8, o9] ∧ Enc.rep (tp H5) x3 (rowE n (imOf ds) k (row.take i)))
      (fun H3 e3 => ⟨Ex.refl _, _, _, _, _, _, _, _, rfl, by
        have : rowE n (imOf ds) k (row.take 0) = List.range n := by rw [rowE_eq]; rfl
        rw [this]; exact up (Rl := Ex) e3 r4⟩) (fun _ i σ1 H4 h => h.1) (fun _ i σ1 H4 H5 ⟨a, x3, o4, o5, o6, o7, o8, o9, b, c⟩ e => ⟨a.trans e, x3, o4, o5, o6, o7, o8, o9, b, up (Rl := Ex) e c⟩) ?_ ?_)
    · rintro H3 e3 i x v _ H5 hx ⟨e5, x3, o4, o5, o6, o7, o8, o9, rfl, rx3⟩ y
      have hxm : x ∈ row := List.mem_of_getElem? hx
      have op := hrow.part x hxm
      have e05 := e4.trans (e3.trans e5)
      have efo : Eff n (rowE n (imOf ds) k (row.take i)) := eff_row ok.im k _ (okRow.of fun p hp => hrow.part p (List.mem_of_mem_take hp))
      have epa : Eff n (partE n (imOf ds) k x) := eff_part ok.im k x op
      have htk := rowE_take (n := n) (im := imOf ds) hx
      refine tgt_name ?_
      rcases PT.cases y op with ⟨z, rfl, hz, hE⟩ | ⟨k', r, t, rfl, ry, hr2, ht, hE⟩
      · refine k_if (Rl := Ex) (b := false) (et_B (e_isi (e_var (a := z) rfl rfl) ty_str k_str_tup)) (fun h => by cases h) fun _ H6 e6 => ?_
        have hL6 := hL.mono (e05.trans e6)
        refine k_set (Rl := Ex) (a := thn (rowE n (imOf ds) k (row.take i)) (partE n (imOf ds) k x)) (e_thn hn efo epa (e_var rfl (up (Rl := Ex) e6 rx3)) ?_) fun v3' H7 e7 r3' => ⟨e5.trans (e6.trans e7), v3', _, _, _, _, _, _, rfl, by rw [htk]; exact r3'⟩
        rw [hE]
        exact e_ixNew (e_lc2 (K := K) (fun d : Deed => decide (d.1 = z)) (fun d : Deed => d.2) fr_ex (ws_ls (e_var rfl rfl) hL6.ls) (by have := ok.most; omega) (by decide) fun x v u H1 hx e1 y1 y2 => ⟨et_test (e_op (e_var rfl y1) (e_var (a := z) rfl rfl) rv_eqS), fun _ => e_var rfl y2⟩) (eN 0) (filter_im hz) fr_ex
      · have efr : Eff n (rowE n (imOf ds) k' r) := eff_row ok.im k' r hr2
        refine k_if (Rl := Ex) (b := true) (et_B (e_isi (e_var rfl ry) ty_pair k_tup_tup)) (fun _ H6 e6 => ?_) (fun h => by cases h)
        have hL6 := hL.mono (e05.trans e6)
        have ry6 := up (Rl := Ex) e6 ry
        refine k_seq (k_par (Rl := Ex) (a := rowE n (imOf ds) k' r) (b := t) (ea_cons (e_call (ι := Nat × List Deed × Addr × List (PT k')) (res := fun i => rowE i.1 (imOf i.2.1) k' i.2.2.2) (n, ds, p, r) (ea_cons (e_var rfl rfl) (ea_cons (e_var rfl rfl) (ea_cons (e_fst (p := (r, t)) (e_var rfl ry6) (eN 0)) ea_nil))) fun H7 e7 => ⟨ok, by omega, hr2, hL6.mono e7⟩) (ea_cons (e_snd (p := (r, t)) (e_var rfl ry6) (eN 1)) ea_nil)) fun v5 v6 H7 e7 r5 r6 => ?_)
        dsimp only
        obtain rfl : v6 = .int t := r6
        refine k_for (Rl := Ex) (items := List.range 64) (wz_rg1 (n := 64) (ea_cons (eN 64) ea_nil) (by decide)) (fun H8 j σ1 H9 => Ex H8 H9 ∧ ∃ (fo sq : List Nat) (tm : Nat), ∃ x3 x5 o7, σ1 = [some (.int n), some (.ref p), some v2, some x3, some v, some x5, some (.int (tm : Nat)), o7, o8, o9] ∧ Eff n fo ∧ Eff n sq ∧ Enc.rep (tp H9) x3 fo ∧ Enc.rep (tp H9) x5 sq ∧ tm < 2 ^ (64 - j) ∧ thn fo (pwr n sq tm) = rowE n (imOf ds) (k' + 1) (row.take (i + 1)))
          (fun H8 e8 => ⟨Ex.refl _, _, _, t, x3, v5, _, rfl, efo, efr, up (Rl := Ex) (e6.trans (e7.trans e8)) rx3, up (Rl := Ex) e8 r5, by show t < 2 ^ 64; exact Nat.lt_trans ht (by decide), by rw [htk, hE]⟩) (fun _ i σ1 H4 h => h.1) (fun _ i σ1 H4 H5 ⟨a, fo, sq, tm, x3, x5, o7, b, c1, c2, c3, c4, c5⟩ e => ⟨a.trans e, fo, sq, tm, x3, x5, o7, b, c1, c2, up (Rl := Ex) e c3, up (Rl := Ex) e c4, c5⟩) ?_ ?_
        · rintro H8 e8 j jj vj _ H9 hj ⟨e9, fo, sq, tm, y3, y5, o7, rfl, efo', esq, ry3, ry5, htm, heq⟩ hyj
          obtain rfl : vj = .int jj := hyj
          refine tgt_name ?_
          let fo' := if tm % 2 = 1 then thn fo sq else fo
          have efo'' : Eff n fo' := by
            show Eff n (if _ then _ else _)
            split
            · exact efo'.thn esq
            · exact efo'
          have key : thn fo' (pwr n (thn sq sq) (tm / 2)) = rowE n (imOf ds) (k' + 1) (row.take (i + 1)) := by
            rw [← heq, pwr_round esq tm]
            show thn (if _ then _ else _) _ = _
            split
            · rw [thn_assoc efo' esq]
            · rw [one_thn ((esq.thn esq).pwr _)]
          have hj64 : j < 64 := by have := (List.getElem?_eq_some_iff.mp hj).1; rwa [List.length_range] at this
          refine k_seq (k_ifSet (a := fo') (b := decide (tm % 2 = 1)) (et_test (e_op (e_modN (e_int1 (e_var (a := tm) rfl rfl)) (eN 2) (by decide)) (eN 1) rv_eqN)) (fun h3 H3 e3 => ?_) (fun h3 => ⟨y3, rfl, ?_⟩) fun x3' H10 e10 r3' => ?_)
          · have : fo' = thn fo sq := if_pos (of_decide_eq_true h3)
            rw [this]
            exact e_thn hn efo' esq (e_var rfl (up (Rl := Ex) e3 ry3)) (e_var rfl (up (Rl := Ex) e3 ry5))
          · have : fo' = fo := if_neg (of_decide_eq_false h3)
            rw [this]
            exact ry3
          have r5' := up (Rl := Ex) e10 ry5
          dsimp only
          refine k_par (Rl := Ex) (a := thn sq sq) (b := tm / 2) (ea_cons (e_thn hn esq esq (e_var rfl r5') (e_var rfl r5')) (ea_cons (e_divN (e_var (a := tm) rfl rfl) (eN 2) (by decide) (by decide)) ea_nil)) fun y5' y6' H11 e11 s5 s6 => ?_
          obtain rfl : y6' = .int ((tm / 2 : Nat) : Int) := s6
          refine ⟨e9.trans (e10.trans e11), fo', thn sq sq, tm / 2, x3', y5', _, rfl, efo'', esq.thn esq, up (Rl := Ex) e11 r3', s5, ?_, key⟩
          have : 64 - j = (64 - (j + 1)) + 1 := by omega
          rw [this, Nat.pow_succ] at htm
          omega
        · rintro H8 e8 _ H9 ⟨e9, fo, sq, tm, y3, y5, o7, rfl, efo', esq, ry3, ry5, htm, heq⟩
          rw [List.length_range] at htm
          have htm : tm = 0 := by have : tm < 1 := htm; omega
          subst htm
          rw [show pwr n sq 0 = List.range n from rfl, thn_one efo'] at heq
          exact ⟨e5.trans (e6.trans (e7.trans (e8.trans e9))), y3, _, _, _, _, _, _, rfl, by rw [← heq]; exact ry3⟩
    · rintro H3 e3 _ H5 ⟨e5, x3, o4, o5, o6, o7, o8, o9, rfl, rx3⟩
      rw [List.take_length] at rx3
      dsimp only
      exact k_ret (Rl := Ex) (e_var rfl rx3) fun v H6 e6 r => hq v H6 (e4.trans (e3.trans (e5.trans e6))) r
  intro k
  induction k with
  | zero => exact step 0 (ok_le_none W)
  | succ k ih => exact step (k + 1) (ih.mono (by omega))
theorem ok_law_undoing (W : Wd K mg) : Fn P w K mg base 8 "_law_undoing" p_law_undoing spUndo := by
  refine fn_ok (k := 4) W 45 sc_law_undoing (spP_len fun _ => rfl) (fun _ _ _ _ _ _ us hl => match us, hl with | [_, _], _ => rfl) fun f cdv A outer s H vs Q E hr h => ⟨_, w_law_undoing spThen W hr (ok_law_then W), ?_⟩
  obtain ⟨⟨n, g⟩, ⟨hn, hg⟩, hr', hq⟩ := h
  obtain ⟨v0, v1, rfl, r0, r1⟩ := reps2 hr'
  show tSeq _ _ _ _ _
  refine k_seq (k_par (Rl := Ex) (a := g) (b := (0 : Nat)) (ea_cons (e_var rfl r1) (ea_cons (eN 0) ea_nil)) fun x2 x3 H1 e1 s2 s3 => ?_)
  obtain rfl : x3 = .int (0 : Nat) := s3
  dsimp only
  refine k_seq (k_for (Rl := Ex) (items := List.range 60) (wz_rg1 (n := 60) (ea_cons (eN 60) ea_nil) (by decide)) (fun H3 i σ1 H4 => Ex H3 H4 ∧ ∃ x2 o4, σ1 = [some v0, some v1, some x2, some (.int (undoN n g i : Nat)), o4] ∧ Enc.rep (tp H4) x2 (pwr n g (undoN n g i + 1)))
    (fun H3 e3 => ⟨Ex.refl _, _, _, rfl, by
      show Enc.rep (tp H3) x2 (pwr n g 1)
      rw [pwr_one hg]; exact up (Rl := Ex) e3 s2⟩) (fun _ i σ1 H4 h => h.1) (fun _ i σ1 H4 H5 ⟨a, x2, o4, b, c⟩ e => ⟨a.trans e, x2, o4, b, up (Rl := Ex) e c⟩) ?_ ?_)
  · rintro H3 e3 i x v _ H4 hx ⟨e4, x2, o4, rfl, rx2⟩ hv
    refine tgt_name ?_
    have r1' : Enc.rep (tp H4) v1 g := up (Rl := Ex) (e1.trans (e3.trans e4)) r1
    have ep := hg.pwr (undoN n g i + 1)
    have hth : thn (pwr n g (undoN n g i + 1)) g = pwr n g (undoN n g i + 2) := rfl
    refine k_if (Rl := Ex) (b := !decide (thn (pwr n g (undoN n g i + 1)) g = g)) (et_test (e_op (e_thn hn ep hg (e_var rfl rx2) (e_var rfl r1')) (e_var rfl r1') (rv_neD (fun _ _ => trivial) (fun _ _ => trivial) (by decide)))) (fun h H5 e5 => ?_) fun h H5 e5 => ?_
    · have hne : pwr n g (undoN n g i + 2) ≠ g := fun z => by rw [hth, decide_eq_true z] at h; cases h
      have hu : undoN n g (i + 1) = undoN n g i + 1 := if_pos hne
      refine k_par (Rl := Ex) (a := pwr n g (undoN n g i + 2)) (b := undoN n g i + 1) (ea_cons (e_thn hn ep hg (e_var rfl (up (Rl := Ex) e5 rx2)) (e_var rfl (up (Rl := Ex) e5 r1'))) (ea_cons (e_addN (e_var (a := undoN n g i) rfl rfl) (eN 1)) ea_nil)) fun y2 y3 H6 e6 s2 s3 => ?_
      obtain rfl : y3 = .int ((undoN n g i + 1 : Nat) : Int) := s3
      exact ⟨e4.trans (e5.trans e6), y2, _, by rw [hu]; rfl, by rw [hu]; exact s2⟩
    · have heq : pwr n g (undoN n g i + 2) = g := by
        rw [hth] at h
        simpa using h
      have hu : undoN n g (i + 1) = undoN n g i := if_neg fun z => z heq
      exact ⟨e4.trans e5, x2, _, by rw [hu]; rfl, by rw [hu]; exact up (Rl := Ex) e5 rx2⟩
  · rintro H3 e3 _ H4 ⟨e4, x2, o4, rfl, rx2⟩
    dsimp only
    exact k_ret (Rl := Ex) (a := undoN n g 60) (e_var rfl rfl) fun v H6 e6 r => hq v H6 (e1.trans (e3.trans (e4.trans e6))) r
end
end B
namespace B
open PySem PySem.Spec PyProof.Rows L2
def n_all_effects : List Str := ["machine", "most", "nothing", "found", "known", "at", "effect", "row", "name", "images", "further"]
def p_all_effects : List Str := ["machine", "most"]
theorem sc_all_effects : FnScope n_all_effects p_all_effects (defScope K26.s_all_effects) := ⟨rfl, rfl, rfl, by decide +kernel, rfl, by decide +kernel, by decide +kernel⟩
def t_all_effects (K : PySem.W.Frag) (sp_effect_then : Sp) : TS := (tSeq (tIfS (tTest (tOp rLtI (tVar 1) (tC (.int 1)))) tNever tNext)
  (tSeq (tAsg (tTupRg (tRg1 (tFld K (tVar 0) "size"))) (gName 2))
  (tSeq (tPar3 3 4 5 (tCons (tLst (tCons (tTup (tCons (tVar 2) (tCons (tTup tNil) tNil))) tNil)) (tCons (tDisp1T (tVar 2) (tC (.int 0))) (tCons (tC (.int 0)) tNil))))
  (tSeq (tWhile (tTest (tOp rLtI (tVar 5) (tCB (rLenU K) (tCons (tVar 3) tNil)))) (tSeq (tAsg (tOp (rIxU K) (tVar 3) (tVar 5)) (gTup K 2 (gCons (gName 6) (gCons (gName 7) gNil))))
  (tSeq (tFor (iTup K (tFld K (tVar 0) "deeds")) (gTup K 2 (gCons (gName 8) (gCons (gName 9) gNil))) (tSeq (tAsg (tCall sp_effect_then [] E0 (tCons (tVar 6) (tCons (tVar 9) tNil))) (gName 10))
  (tIfS (tTest (tOp (rNinU K) (tVar 10) (tVar 4))) (tSeq (tIfS (tTest (tOp (rEqU K) (tCB (rLenU K) (tCons (tVar 3) tNil)) (tVar 1))) tNever tNext)
  (tSeq (sDPut (tVar 4) (tVar 10) (tCB (rLenU K) (tCons (tVar 3) tNil)))
  (tDrop (tBM K "list" rAppend (tVar 3) (tCons (tTup (tCons (tVar 10) (tCons (tOp (rAddU K) (tVar 7) (tTup (tCons (tVar 8) tNil))) tNil))) tNil))))) tNext)))
  (tAug 5 (tC (.int 1)) (ipI fun i j => i + j)))))
  (tRet (tThen (tVar 3) (kTup K)))))))
theorem w_all_effects {P : Program} {w : World} {K : PySem.W.Frag} {mg : Str → Option Value} {base : Heap} {f : Addr} {cdv : Value} {A : Around} {outer : List Env} {s : Shared} {H : Hp} {E : XK} {k : Nat} (sp_effect_then : Sp) (W : Wd K mg)
    (hr : Room (k + 3) (A.deeper (envOfC "all_effects" (defScope K26.s_all_effects) s.heap.objs.size f cdv))) (F_effect_then : Fn P w K mg base k "effect_then" p_effect_then sp_effect_then) :
    PSs (cxOf CX0 P w K mg base n_all_effects "all_effects" (defScope K26.s_all_effects) f cdv A outer s H E).nox (defBody K26.s_all_effects) (t_all_effects K sp_effect_then) := by
  have hr0 := hr.mono (Nat.le_add_right k 3)
  have hr1 : Room (k + 1) _ := hr.mono (by omega)
  have hu := huS hr
  have hu1 := huS1 hr
  exact (pss_cons (ps_if (pt_cmpR op_ltI (pv 1) pe_int (nomark _)) pss_never pss_nil)
    (pss_cons (ps_set (i := 2) sc_all_effects.nd rfl (Or.inl rfl) (pe_tupRg rfl rfl (W.free 55) (prg_1 rfl (W.free 61) (pe_fld (pv 0) rfl))))
    (pss_cons (ps_par3 (i := 3) (j := 4) (l := 5) rfl sc_all_effects.nd rfl rfl rfl (by decide) (by decide) (by decide) rfl rfl rfl (pa_cons (pe_lst (pa_cons (pe_tup (pa_cons (pv 2) (pa_cons (pe_tup pa_nil) pa_nil))) pa_nil)) (pa_cons (pe_disp1T hu1 (pv 2) pe_int) (pa_cons pe_int pa_nil))) rfl)
    (pss_cons (ps_while PassesOwn.never (pt_cmpR op_ltI (pv 5) (pe_callB call_lenU rfl (W.free 56) boot_len (pa_cons (pv 3) pa_nil)) (nomark _)) (pss_cons (ps_asg (pe_ix (ix_U hu) (pv 3) (pv 5) fun _ _ => rfl) (pg_tup rfl (pgs_cons (pg_name (i := 6) sc_all_effects.nd rfl (Or.inl rfl)) (pgs_cons (pg_name (i := 7) sc_all_effects.nd rfl (Or.inl rfl)) pgs_nil))))
    (pss_cons (ps_for PassesOwn.never rfl (pi_tup (pe_fld (pv 0) rfl)) (pg_tup rfl (pgs_cons (pg_name (i := 8) sc_all_effects.nd rfl (Or.inl rfl)) (pgs_cons (pg_name (i := 9) sc_all_effects.nd rfl (Or.inl rfl)) pgs_nil))) (pss_cons (ps_set (i := 10) sc_all_effects.nd rfl (Or.inl rfl) (pe_f F_effect_then (Nat.le_refl _) hr0 rfl (W.glo 8) (pa_cons (pv 6) (pa_cons (pv 9) pa_nil))))
    (pss_one (ps_if (pt_cmpR (op_ninU hu) (pv 10) (pv 4) rfl) (pss_cons (ps_if (pt_cmpR (op_eqU hu) (pe_callB call_lenU rfl (W.free 56) boot_len (pa_cons (pv 3) pa_nil)) (pv 1) (nomark _)) pss_never pss_nil)
    (pss_cons (ps_dput hu1 (pv 4) (pv 10) (pe_callB call_lenU rfl (W.free 56) boot_len (pa_cons (pv 3) pa_nil)) rfl)
    (pss_one (ps_expr (pe_bm PySem.F.plainAttrs_list PySem.F.slot_list_append PySem.F.type_list_append mt_append (pv 3) (pa_cons (pe_tup (pa_cons (pv 10) (pa_cons (pe_op op_addU (pv 7) (pe_tup (pa_cons (pv 8) pa_nil))) pa_nil))) pa_nil)))))) pss_nil))))
    (pss_one (ps_aug (i := 5) sc_all_effects.nd rfl (Or.inl rfl) pe_int ip_add)))))
    (pss_one (ps_ret (pe_tupleOf rfl (W.free 55) (pv 3))))))))
def n_lots_below : List Str := ["many", "found", "last", "lot", "more"]
def p_lots_below : List Str := ["many"]
theorem sc_lots_below : FnScope n_lots_below p_lots_below (defScope K26.s_lots_below) := ⟨rfl, rfl, rfl, by decide +kernel, rfl, by decide +kernel, by decide +kernel⟩
def t_lots_below (K : PySem.W.Frag) : TS := (tSeq (tPar 1 2 (tCons (tLst (tCons (tTup tNil) tNil)) (tCons (tLst (tCons (tTup tNil) tNil)) tNil)))
  (tSeq (tWhile (tTest (tOp rGtI (tCB (rLenU K) (tCons (tVar 2) tNil)) (tC (.int 0)))) (tSeq (tAsg (tLc2 (iList K (tVar 2)) (gName 3) tYes (iRng2 (tCons (tIf (tTest (tOp rGtI (tCB (rLenU K) (tCons (tVar 3) tNil)) (tC (.int 0)))) (tOp (rAddU K) (tOp (rIxU K) (tVar 3) (tUn rNegI (tC (.int 1)))) (tC (.int 1))) (tC (.int 0))) (tCons (tVar 0) tNil))) (gName 4) tYes (tOp (rAddU K) (tVar 3) (tTup (tCons (tVar 4) tNil))) [3, 4] [4]) (gName 2))
  (tAug 1 (tVar 2) rExt2)))
  (tRet (tVar 1))))
theorem w_lots_below {P : Program} {w : World} {K : PySem.W.Frag} {mg : Str → Option Value} {base : Heap} {f : Addr} {cdv : Value} {A : Around} {outer : List Env} {s : Shared} {H : Hp} {E : XK} {k : Nat} (W : Wd K mg)
    (hr : Room (k + 3) (A.deeper (envOfC "lots_below" (defScope K26.s_lots_below) s.heap.objs.size f cdv))) :
    PSs (cxOf CX0 P w K mg base n_lots_below "lots_below" (defScope K26.s_lots_below) f cdv A outer s H E).nox (defBody K26.s_lots_below) (t_lots_below K) := by
  have hr0 := hr.mono (Nat.le_add_right k 3)
  have hr1 : Room (k + 1) _ := hr.mono (by omega)
  have hu := huS hr
  have hu1 := huS1 hr
  exact (pss_cons (ps_par (i := 1) (j := 2) rfl sc_lots_below.nd rfl rfl (by decide) rfl rfl (pa_cons (pe_lst (pa_cons (pe_tup pa_nil) pa_nil)) (pa_cons (pe_lst (pa_cons (pe_tup pa_nil) pa_nil)) pa_nil)) rfl)
    (pss_cons (ps_while PassesOwn.never (pt_cmpR op_gtI (pe_callB call_lenU rfl (W.free 56) boot_len (pa_cons (pv 2) pa_nil)) pe_int (nomark _)) (pss_cons (ps_setLc2 (i := 2) (own := [("lot", 3), ("more", 4)]) (vs1 := [4]) rfl sc_lots_below.nd rfl rfl (sw_true rfl rfl rfl (by decide +kernel)) (pi_list (pv 2)) (blkOk_by (N := n_lots_below) (sc := defScope K26.s_lots_below) (by decide +kernel)) (by decide) (fun _ _ _ _ _ => (pg_name (i := 3) sc_lots_below.nd rfl (by first | exact Or.inl rfl | exact Or.inr rfl))) (fun _ _ _ _ _ => pts_nil) (fun _ _ _ _ _ => (pi_range2 rfl (W.free 61) (pa_cons (pe_ifExp (pt_cmpR op_gtI (pe_callB call_lenU rfl (W.free 56) boot_len (pa_cons (pv 3) pa_nil)) pe_int (nomark _)) (pe_op op_addU (pe_ix (ix_U hu) (pv 3) (pe_un un_neg pe_int) fun _ _ => rfl) pe_int) pe_int) (pa_cons (pv 0) pa_nil)))) (fun _ _ _ _ _ => (pg_name (i := 4) sc_lots_below.nd rfl (by first | exact Or.inl rfl | exact Or.inr rfl))) (fun _ _ _ _ _ => pts_nil) (fun _ _ _ _ _ => (pe_op op_addU (pv 3) (pe_tup (pa_cons (pv 4) pa_nil)))))
    (pss_one (ps_aug (i := 1) sc_lots_below.nd rfl (Or.inl rfl) (pv 2) (pip_of iop_ext)))))
    (pss_one (ps_ret (pv 1)))))
def n_lot_rows : List Str := ["machine", "most", "listed", "found", "at", "further", "lot"]
def p_lot_rows : List Str := ["machine", "most"]
theorem sc_lot_rows : FnScope n_lot_rows p_lot_rows (defScope K26.s_lot_rows) := ⟨rfl, rfl, rfl, by decide +kernel, rfl, by decide +kernel, by decide +kernel⟩
def t_lot_rows (K : PySem.W.Frag) (sp_shared_states sp_all_effects : Sp) (sp_least_pairs : Gx.SpO) : TS := (tSeq (tAsg (tCallN 1 (["most"] : List Str).length sp_all_effects (fun vs zs => vs ++ zs) E0 (tCons (tVar 0) tNil) (tCons (tVar 1) tNil)) (gName 2))
  (tSeq (tAsg tDNewT (gName 3))
  (tSeq (Gx.tForG sp_least_pairs [] (tCons (tVar 2) tNil) (gTup K 2 (gCons (gName 4) (gCons (gName 5) gNil))) (tSeq (tAsg (tCall sp_shared_states [] E0 (tCons (tOp (rIxU K) (tOp (rIxU K) (tVar 2) (tVar 4)) (tC (.int 0))) (tCons (tOp (rIxU K) (tOp (rIxU K) (tVar 2) (tVar 5)) (tC (.int 0))) tNil))) (gName 6))
  (tIfS (tTest (tOp (rNinU K) (tVar 6) (tVar 3))) (sDPut (tVar 3) (tVar 6) (tTup (tCons (tOp (rIxU K) (tOp (rIxU K) (tVar 2) (tVar 4)) (tC (.int 1))) (tCons (tOp (rIxU K) (tOp (rIxU K) (tVar 2) (tVar 5)) (tC (.int 1))) tNil)))) tNext)))
  (tRet (tVar 3)))))
theorem w_lot_rows {P : Program} {w : World} {K : PySem.W.Frag} {mg : Str → Option Value} {base : Heap} {f : Addr} {cdv : Value} {A : Around} {outer : List Env} {s : Shared} {H : Hp} {E : XK} {k : Nat} (sp_shared_states sp_all_effects : Sp) (sp_least_pairs : Gx.SpO) (W : Wd K mg)
    (hr : Room (k + 3) (A.deeper (envOfC "lot_rows" (defScope K26.s_lot_rows) s.heap.objs.size f cdv))) (F_shared_states : Fn P w K mg base k "shared_states" p_shared_states sp_shared_states) {fdg : FuncData} (F_least_pairs : Gx.GFnO P w K mg base k (He.ga K "least_pairs") fdg p_least_pairs sp_least_pairs) (KG : PySem.W.keepIn K (.ref (He.ga K "least_pairs")) = true) (BG : Binds K fdg p_least_pairs []) (F_all_effects : FnK P w K mg base k "all_effects" p_all_effects 1 ["most"] [.int 1500] sp_all_effects) :
    PSs (cxOf CX0 P w K mg base n_lot_rows "lot_rows" (defScope K26.s_lot_rows) f cdv A outer s H E).nox (defBody K26.s_lot_rows) (t_lot_rows K sp_shared_states sp_all_effects sp_least_pairs) := by
  have hr0 := hr.mono (Nat.le_add_right k 3)
  have hr1 : Room (k + 1) _ := hr.mono (by omega)
  have hu := huS hr
  have hu1 := huS1 hr
  exact (pss_cons (ps_set (i := 2) sc_lot_rows.nd rfl (Or.inl rfl) (pe_fk F_all_effects (Nat.le_refl _) hr0 rfl (W.glo 13) (pa_cons (pv 0) pa_nil) (pk_cons (pv 1) pk_nil)))
    (pss_cons (ps_set (i := 3) sc_lot_rows.nd rfl (Or.inl rfl) pe_dnewT)
    (pss_cons (Gx.ps_forGen F_least_pairs (hr.mono (Nat.le_add_right _ _)) rfl (fun _ _ z => z) rfl (W.glo 19) KG BG .nil (pa_cons (pv 2) pa_nil) (pg_tup rfl (pgs_cons (pg_name (i := 4) sc_lot_rows.nd rfl (Or.inl rfl)) (pgs_cons (pg_name (i := 5) sc_lot_rows.nd rfl (Or.inl rfl)) pgs_nil))) (pss_cons (ps_set (i := 6) sc_lot_rows.nd rfl (Or.inl rfl) (pe_f F_shared_states (Nat.le_refl _) hr0 rfl (W.glo 18) (pa_cons (pe_ix (ix_U hu) (pe_ix (ix_U hu) (pv 2) (pv 4) fun _ _ => rfl) pe_int fun _ _ => rfl) (pa_cons (pe_ix (ix_U hu) (pe_ix (ix_U hu) (pv 2) (pv 5) fun _ _ => rfl) pe_int fun _ _ => rfl) pa_nil))))
    (pss_one (ps_if (pt_cmpR (op_ninU hu) (pv 6) (pv 3) rfl) (pss_one (ps_dput hu1 (pv 3) (pv 6) (pe_tup (pa_cons (pe_ix (ix_U hu) (pe_ix (ix_U hu) (pv 2) (pv 4) fun _ _ => rfl) pe_int fun _ _ => rfl) (pa_cons (pe_ix (ix_U hu) (pe_ix (ix_U hu) (pv 2) (pv 5) fun _ _ => rfl) pe_int fun _ _ => rfl) pa_nil))) rfl)) pss_nil))))
    (pss_one (ps_ret (pv 3))))))
def n_exchange_lots : List Str := ["machine", "most"]
def p_exchange_lots : List Str := ["machine", "most"]
theorem sc_exchange_lots : FnScope n_exchange_lots p_exchange_lots (defScope K26.s_exchange_lots) := ⟨rfl, rfl, rfl, by decide +kernel, rfl, by decide +kernel, by decide +kernel⟩
def t_exchange_lots (K : PySem.W.Frag) (sp_lot_rows : Sp) : TS := (tRet (tThen (tCKw (rSortLots K (He.ga K "lot_key")) (tCons (tCB rListDT (tCons (tCall sp_lot_rows [] E0 (tCons (tVar 0) (tCons (tVar 1) tNil))) tNil)) tNil) (tCons (tC (.ref (He.ga K "lot_key"))) tNil)) (kTup K)))
theorem w_exchange_lots {P : Program} {w : World} {K : PySem.W.Frag} {mg : Str → Option Value} {base : Heap} {f : Addr} {cdv : Value} {A : Around} {outer : List Env} {s : Shared} {H : Hp} {E : XK} {k : Nat} (sp_lot_rows : Sp) (W : Wd K mg)
    (hr : Room (k + 3) (A.deeper (envOfC "exchange_lots" (defScope K26.s_exchange_lots) s.heap.objs.size f cdv))) (F_lot_rows : Fn P w K mg base k "lot_rows" p_lot_rows sp_lot_rows) (CRS : ∀ X : Cx, X.K = K → X.mg = mg → X.A = A.deeper (envOfC "exchange_lots" (defScope K26.s_exchange_lots) s.heap.objs.size f cdv) → CallRK X (.builtin "sorted") [Str.ofString "key"] (rSortLots X.K (He.ga K "lot_key"))) :
    PSs (cxOf CX0 P w K mg base n_exchange_lots "exchange_lots" (defScope K26.s_exchange_lots) f cdv A outer s H E).nox (defBody K26.s_exchange_lots) (t_exchange_lots K sp_lot_rows) := by
  have hr0 := hr.mono (Nat.le_add_right k 3)
  have hr1 : Room (k + 1) _ := hr.mono (by omega)
  have hu := huS hr
  have hu1 := huS1 hr
  exact (pss_one (ps_ret (pe_tupleOf rfl (W.free 55) (pe_callBK (CRS _ rfl rfl rfl) rfl (W.free 62) boot_sorted (pa_cons (pe_callTy (call_list_dT rfl) rfl (W.free 54) boot_list (pa_cons (pe_f F_lot_rows (Nat.le_refl _) hr0 rfl (W.glo 20) (pa_cons (pv 0) (pa_cons (pv 1) pa_nil))) pa_nil)) pa_nil) (pk_cons (pe_glob rfl (W.glo 14) rfl) pk_nil)))))
def n_apart_counts : List Str := ["machine", "most", "lot"]
def p_apart_counts : List Str := ["machine", "most"]
theorem sc_apart_counts : FnScope n_apart_counts p_apart_counts (defScope K26.s_apart_counts) := ⟨rfl, rfl, rfl, by decide +kernel, rfl, by decide +kernel, by decide +kernel⟩
def t_apart_counts (K : PySem.W.Frag) (w : World) (sp_lot_rows : Sp) : TS := (tRet (tThen (tCB (rSortedSet w) (tCons (tScI w (iKeys (tLockR (tCall sp_lot_rows [] E0 (tCons (tVar 0) (tCons (tVar 1) tNil))))) (gName 2) tYes (tOp rSubI (tFld K (tVar 0) "size") (tCB (rLenU K) (tCons (tVar 2) tNil))) [2]) tNil)) (kTup K)))
theorem w_apart_counts {P : Program} {w : World} {K : PySem.W.Frag} {mg : Str → Option Value} {base : Heap} {f : Addr} {cdv : Value} {A : Around} {outer : List Env} {s : Shared} {H : Hp} {E : XK} {k : Nat} (sp_lot_rows : Sp) (W : Wd K mg)
    (hr : Room (k + 3) (A.deeper (envOfC "apart_counts" (defScope K26.s_apart_counts) s.heap.objs.size f cdv))) (F_lot_rows : Fn P w K mg base k "lot_rows" p_lot_rows sp_lot_rows) :
    PSs (cxOf CX0 P w K mg base n_apart_counts "apart_counts" (defScope K26.s_apart_counts) f cdv A outer s H E).nox (defBody K26.s_apart_counts) (t_apart_counts K w sp_lot_rows) := by
  have hr0 := hr.mono (Nat.le_add_right k 3)
  have hr1 : Room (k + 1) _ := hr.mono (by omega)
  have hu := huS hr
  have hu1 := huS1 hr
  exact (pss_one (ps_ret (pe_tupleOf rfl (W.free 55) (pe_callB (cr_sortedSet rfl) rfl (W.free 62) boot_sorted (pa_cons (pe_scI (own := [("lot", 2)]) rfl sc_apart_counts.nd (pi_keys (pe_lockR (pe_f F_lot_rows (Nat.le_refl _) hr0 rfl (W.glo 20) (pa_cons (pv 0) (pa_cons (pv 1) pa_nil))))) (blkOk_by (N := n_apart_counts) (sc := defScope K26.s_apart_counts) (by decide +kernel)) (fun _ _ _ _ _ => (pg_name (i := 2) sc_apart_counts.nd rfl (by first | exact Or.inl rfl | exact Or.inr rfl))) (fun _ _ _ _ _ => pts_nil) (fun _ _ _ _ _ => (pe_op op_subI (pe_fld (pv 0) rfl) (pe_callB call_lenU rfl (W.free 56) boot_len (pa_cons (pv 2) pa_nil))))) pa_nil)))))
def n_least_lie : List Str := ["machine", "most", "listed", "at", "further", "lot"]
def p_least_lie : List Str := ["machine", "most"]
theorem sc_least_lie : FnScope n_least_lie p_least_lie (defScope K26.s_least_lie) := ⟨rfl, rfl, rfl, by decide +kernel, rfl, by decide +kernel, by decide +kernel⟩
def t_least_lie (K : PySem.W.Frag) (sp_states_without sp_shared_states sp_all_effects : Sp) (sp_least_pairs : Gx.SpO) : TS := (tSeq (tAsg (tCallN 1 (["most"] : List Str).length sp_all_effects (fun vs zs => vs ++ zs) E0 (tCons (tVar 0) tNil) (tCons (tVar 1) tNil)) (gName 2))
  (tSeq (Gx.tForG sp_least_pairs [] (tCons (tVar 2) tNil) (gTup K 2 (gCons (gName 3) (gCons (gName 4) gNil))) (tSeq (tAsg (tCall sp_shared_states [] E0 (tCons (tOp (rIxU K) (tOp (rIxU K) (tVar 2) (tVar 3)) (tC (.int 0))) (tCons (tOp (rIxU K) (tOp (rIxU K) (tVar 2) (tVar 4)) (tC (.int 0))) tNil))) (gName 5))
  (tIfS (tTest (tChain rLtI rLtI (tC (.int 0)) (tCB (rLenU K) (tCons (tVar 5) tNil)) (tFld K (tVar 0) "size"))) (tRet (tTup (tCons (tOp (rIxU K) (tOp (rIxU K) (tVar 2) (tVar 3)) (tC (.int 1))) (tCons (tOp (rIxU K) (tOp (rIxU K) (tVar 2) (tVar 4)) (tC (.int 1))) (tCons (tOp (rIxU K) (tVar 5) (tC (.int 0))) (tCons (tOp (rIxU K) (tCall sp_states_without [] E0 (tCons (tFld K (tVar 0) "size") (tCons (tVar 5) tNil))) (tC (.int 0))) tNil)))))) tNext)))
  (tRet (tC .non))))
theorem w_least_lie {P : Program} {w : World} {K : PySem.W.Frag} {mg : Str → Option Value} {base : Heap} {f : Addr} {cdv : Value} {A : Around} {outer : List Env} {s : Shared} {H : Hp} {E : XK} {k : Nat} (sp_states_without sp_shared_states sp_all_effects : Sp) (sp_least_pairs : Gx.SpO) (W : Wd K mg)
    (hr : Room (k + 3) (A.deeper (envOfC "least_lie" (defScope K26.s_least_lie) s.heap.objs.size f cdv))) (F_states_without : Fn P w K mg base k "states_without" p_states_without sp_states_without) (F_shared_states : Fn P w K mg base k "shared_states" p_shared_states sp_shared_states) {fdg : FuncData} (F_least_pairs : Gx.GFnO P w K mg base k (He.ga K "least_pairs") fdg p_least_pairs sp_least_pairs) (KG : PySem.W.keepIn K (.ref (He.ga K "least_pairs")) = true) (BG : Binds K fdg p_least_pairs []) (F_all_effects : FnK P w K mg base k "all_effects" p_all_effects 1 ["most"] [.int 1500] sp_all_effects) :
    PSs (cxOf CX0 P w K mg base n_least_lie "least_lie" (defScope K26.s_least_lie) f cdv A outer s H E).nox (defBody K26.s_least_lie) (t_least_lie K sp_states_without sp_shared_states sp_all_effects sp_least_pairs) := by
  have hr0 := hr.mono (Nat.le_add_right k 3)
  have hr1 : Room (k + 1) _ := hr.mono (by omega)
  have hu := huS hr
  have hu1 := huS1 hr
  exact (pss_cons (ps_set (i := 2) sc_least_lie.nd rfl (Or.inl rfl) (pe_fk F_all_effects (Nat.le_refl _) hr0 rfl (W.glo 13) (pa_cons (pv 0) pa_nil) (pk_cons (pv 1) pk_nil)))
    (pss_cons (Gx.ps_forGen F_least_pairs (hr.mono (Nat.le_add_right _ _)) rfl (fun _ _ z => z) rfl (W.glo 19) KG BG .nil (pa_cons (pv 2) pa_nil) (pg_tup rfl (pgs_cons (pg_name (i := 3) sc_least_lie.nd rfl (Or.inl rfl)) (pgs_cons (pg_name (i := 4) sc_least_lie.nd rfl (Or.inl rfl)) pgs_nil))) (pss_cons (ps_set (i := 5) sc_least_lie.nd rfl (Or.inl rfl) (pe_f F_shared_states (Nat.le_refl _) hr0 rfl (W.glo 18) (pa_cons (pe_ix (ix_U hu) (pe_ix (ix_U hu) (pv 2) (pv 3) fun _ _ => rfl) pe_int fun _ _ => rfl) (pa_cons (pe_ix (ix_U hu) (pe_ix (ix_U hu) (pv 2) (pv 4) fun _ _ => rfl) pe_int fun _ _ => rfl) pa_nil))))
    (pss_one (ps_if (pt_chain op_ltI op_ltI pe_int (pe_callB call_lenU rfl (W.free 56) boot_len (pa_cons (pv 5) pa_nil)) (pe_fld (pv 0) rfl)) (pss_one (ps_ret (pe_tup (pa_cons (pe_ix (ix_U hu) (pe_ix (ix_U hu) (pv 2) (pv 3) fun _ _ => rfl) pe_int fun _ _ => rfl) (pa_cons (pe_ix (ix_U hu) (pe_ix (ix_U hu) (pv 2) (pv 4) fun _ _ => rfl) pe_int fun _ _ => rfl) (pa_cons (pe_ix (ix_U hu) (pv 5) pe_int fun _ _ => rfl) (pa_cons (pe_ix (ix_U hu) (pe_f F_states_without (Nat.le_refl _) hr0 rfl (W.glo 17) (pa_cons (pe_fld (pv 0) rfl) (pa_cons (pv 5) pa_nil))) pe_int fun _ _ => rfl) pa_nil))))))) pss_nil))))
    (pss_one (ps_ret pe_non))))
def n_is_honest : List Str := ["machine", "most"]
def p_is_honest : List Str := ["machine", "most"]
theorem sc_is_honest : FnScope n_is_honest p_is_honest (defScope K26.s_is_honest) := ⟨rfl, rfl, rfl, by decide +kernel, rfl, by decide +kernel, by decide +kernel⟩
def t_is_honest (K : PySem.W.Frag) (sp_least_lie : Sp) : TS := (tRet (tOp rIsNone (tCallN 1 (["most"] : List Str).length sp_least_lie (fun vs zs => vs ++ zs) E0 (tCons (tVar 0) tNil) (tCons (tVar 1) tNil)) (tC .non)))
theorem w_is_honest {P : Program} {w : World} {K : PySem.W.Frag} {mg : Str → Option Value} {base : Heap} {f : Addr} {cdv : Value} {A : Around} {outer : List Env} {s : Shared} {H : Hp} {E : XK} {k : Nat} (sp_least_lie : Sp) (W : Wd K mg)
    (hr : Room (k + 3) (A.deeper (envOfC "is_honest" (defScope K26.s_is_honest) s.heap.objs.size f cdv))) (F_least_lie : FnK P w K mg base k "least_lie" p_least_lie 1 ["most"] [.int 400] sp_least_lie) :
    PSs (cxOf CX0 P w K mg base n_is_honest "is_honest" (defScope K26.s_is_honest) f cdv A outer s H E).nox (defBody K26.s_is_honest) (t_is_honest K sp_least_lie) := by
  have hr0 := hr.mono (Nat.le_add_right k 3)
  have hr1 : Room (k + 1) _ := hr.mono (by omega)
  have hu := huS hr
  have hu1 := huS1 hr
  exact (pss_one (ps_ret (pe_cmpR op_isNone (pe_fk F_least_lie (Nat.le_refl _) hr0 rfl (W.glo 23) (pa_cons (pv 0) pa_nil) (pk_cons (pv 1) pk_nil)) pe_non (nomark _))))
def n_meet_of : List Str := ["size", "lots", "states", "found", "lot", "state"]
def p_meet_of : List Str := ["size", "lots", "states"]
theorem sc_meet_of : FnScope n_meet_of p_meet_of (defScope K26.s_meet_of) := ⟨rfl, rfl, rfl, by decide +kernel, rfl, by decide +kernel, by decide +kernel⟩
def t_meet_of (K : PySem.W.Frag) (sp_lot_within : Sp) : TS := (tSeq (tAsg (tTupRg (tRg1 (tVar 0))) (gName 3))
  (tSeq (tFor (iTup K (tVar 1)) (gName 4) (tIfS (tB (tCall sp_lot_within [] E0 (tCons (tVar 2) (tCons (tVar 4) tNil)))) (tAsg (tThen (tLc (iTup K (tVar 3)) (gName 5) (tTest (tOp (rInU K) (tVar 5) (tVar 4))) (tVar 5) [5]) (kTup K)) (gName 3)) tNext))
  (tRet (tVar 3))))
theorem w_meet_of {P : Program} {w : World} {K : PySem.W.Frag} {mg : Str → Option Value} {base : Heap} {f : Addr} {cdv : Value} {A : Around} {outer : List Env} {s : Shared} {H : Hp} {E : XK} {k : Nat} (sp_lot_within : Sp) (W : Wd K mg)
    (hr : Room (k + 3) (A.deeper (envOfC "meet_of" (defScope K26.s_meet_of) s.heap.objs.size f cdv))) (F_lot_within : Fn P w K mg base k "lot_within" p_lot_within sp_lot_within) :
    PSs (cxOf CX0 P w K mg base n_meet_of "meet_of" (defScope K26.s_meet_of) f cdv A outer s H E).nox (defBody K26.s_meet_of) (t_meet_of K sp_lot_within) := by
  have hr0 := hr.mono (Nat.le_add_right k 3)
  have hr1 : Room (k + 1) _ := hr.mono (by omega)
  have hu := huS hr
  have hu1 := huS1 hr
  exact (pss_cons (ps_set (i := 3) sc_meet_of.nd rfl (Or.inl rfl) (pe_tupRg rfl rfl (W.free 55) (prg_1 rfl (W.free 61) (pv 0))))
    (pss_cons (ps_for PassesOwn.never rfl (pi_tup (pv 1)) (pg_name (i := 4) sc_meet_of.nd rfl (Or.inr rfl)) (pss_one (ps_if (pt_val (pe_f F_lot_within (Nat.le_refl _) hr0 rfl (W.glo 15) (pa_cons (pv 2) (pa_cons (pv 4) pa_nil)))) (pss_one (ps_set (i := 3) sc_meet_of.nd rfl (Or.inl rfl) (pe_tupleOf rfl (W.free 55) (pe_lc (own := [("state", 5)]) rfl sc_meet_of.nd (pi_tup (pv 3)) (blkOk_by (N := n_meet_of) (sc := defScope K26.s_meet_of) (by decide +kernel)) (fun _ _ _ _ _ => (pg_name (i := 5) sc_meet_of.nd rfl (by first | exact Or.inl rfl | exact Or.inr rfl))) (fun _ _ _ _ _ => (pts_one (pt_cmpR (op_inU hu) (pv 5) (pv 4) rfl))) (fun _ _ _ _ _ => (pv 5)))))) pss_nil)))
    (pss_one (ps_ret (pv 3)))))
def n_vouched_states : List Str := ["machine", "states", "most"]
def p_vouched_states : List Str := ["machine", "states", "most"]
theorem sc_vouched_states : FnScope n_vouched_states p_vouched_states (defScope K26.s_vouched_states) := ⟨rfl, rfl, rfl, by decide +kernel, rfl, by decide +kernel, by decide +kernel⟩
def t_vouched_states (K : PySem.W.Frag) (sp_meet_of sp_exchange_lots : Sp) : TS := (tRet (tCall sp_meet_of [] E0 (tCons (tFld K (tVar 0) "size") (tCons (tCallN 1 (["most"] : List Str).length sp_exchange_lots (fun vs zs => vs ++ zs) E0 (tCons (tVar 0) tNil) (tCons (tVar 2) tNil)) (tCons (tVar 1) tNil)))))
theorem w_vouched_states {P : Program} {w : World} {K : PySem.W.Frag} {mg : Str → Option Value} {base : Heap} {f : Addr} {cdv : Value} {A : Around} {outer : List Env} {s : Shared} {H : Hp} {E : XK} {k : Nat} (sp_meet_of sp_exchange_lots : Sp) (W : Wd K mg)
    (hr : Room (k + 3) (A.deeper (envOfC "vouched_states" (defScope K26.s_vouched_states) s.heap.objs.size f cdv))) (F_meet_of : Fn P w K mg base k "meet_of" p_meet_of sp_meet_of) (F_exchange_lots : FnK P w K mg base k "exchange_lots" p_exchange_lots 1 ["most"] [.int 400] sp_exchange_lots) :
    PSs (cxOf CX0 P w K mg base n_vouched_states "vouched_states" (defScope K26.s_vouched_states) f cdv A outer s H E).nox (defBody K26.s_vouched_states) (t_vouched_states K sp_meet_of sp_exchange_lots) := by
  have hr0 := hr.mono (Nat.le_add_right k 3)
  have hr1 : Room (k + 1) _ := hr.mono (by omega)
  have hu := huS hr
  have hu1 := huS1 hr
  exact (pss_one (ps_ret (pe_f F_meet_of (Nat.le_refl _) hr0 rfl (W.glo 25) (pa_cons (pe_fld (pv 0) rfl) (pa_cons (pe_fk F_exchange_lots (Nat.le_refl _) hr0 rfl (W.glo 21) (pa_cons (pv 0) pa_nil) (pk_cons (pv 2) pk_nil)) (pa_cons (pv 1) pa_nil))))))
def n_against_vouching : List Str := ["machine", "states", "state", "most", "listed", "at", "further", "lot"]
def p_against_vouching : List Str := ["machine", "states", "state", "most"]
theorem sc_against_vouching : FnScope n_against_vouching p_against_vouching (defScope K26.s_against_vouching) := ⟨rfl, rfl, rfl, by decide +kernel, rfl, by decide +kernel, by decide +kernel⟩
def t_against_vouching (K : PySem.W.Frag) (sp_lot_within sp_shared_states sp_all_effects : Sp) (sp_least_pairs : Gx.SpO) : TS := (tSeq (tAsg (tCallN 1 (["most"] : List Str).length sp_all_effects (fun vs zs => vs ++ zs) E0 (tCons (tVar 0) tNil) (tCons (tVar 3) tNil)) (gName 4))
  (tSeq (Gx.tForG sp_least_pairs [] (tCons (tVar 4) tNil) (gTup K 2 (gCons (gName 5) (gCons (gName 6) gNil))) (tSeq (tAsg (tCall sp_shared_states [] E0 (tCons (tOp (rIxU K) (tOp (rIxU K) (tVar 4) (tVar 5)) (tC (.int 0))) (tCons (tOp (rIxU K) (tOp (rIxU K) (tVar 4) (tVar 6)) (tC (.int 0))) tNil))) (gName 7))
  (tIfS (tAnd (tTest (tOp (rNinU K) (tVar 2) (tVar 7))) (tB (tCall sp_lot_within [] E0 (tCons (tVar 1) (tCons (tVar 7) tNil))))) (tRet (tTup (tCons (tOp (rIxU K) (tOp (rIxU K) (tVar 4) (tVar 5)) (tC (.int 1))) (tCons (tOp (rIxU K) (tOp (rIxU K) (tVar 4) (tVar 6)) (tC (.int 1))) tNil)))) tNext)))
  (tRet (tC .non))))
theorem w_against_vouching {P : Program} {w : World} {K : PySem.W.Frag} {mg : Str → Option Value} {base : Heap} {f : Addr} {cdv : Value} {A : Around} {outer : List Env} {s : Shared} {H : Hp} {E : XK} {k : Nat} (sp_lot_within sp_shared_states sp_all_effects : Sp) (sp_least_pairs : Gx.SpO) (W : Wd K mg)
    (hr : Room (k + 3) (A.deeper (envOfC "against_vouching" (defScope K26.s_against_vouching) s.heap.objs.size f cdv))) (F_lot_within : Fn P w K mg base k "lot_within" p_lot_within sp_lot_within) (F_shared_states : Fn P w K mg base k "shared_states" p_shared_states sp_shared_states) {fdg : FuncData} (F_least_pairs : Gx.GFnO P w K mg base k (He.ga K "least_pairs") fdg p_least_pairs sp_least_pairs) (KG : PySem.W.keepIn K (.ref (He.ga K "least_pairs")) = true) (BG : Binds K fdg p_least_pairs []) (F_all_effects : FnK P w K mg base k "all_effects" p_all_effects 1 ["most"] [.int 1500] sp_all_effects) :
    PSs (cxOf CX0 P w K mg base n_against_vouching "against_vouching" (defScope K26.s_against_vouching) f cdv A outer s H E).nox (defBody K26.s_against_vouching) (t_against_vouching K sp_lot_within sp_shared_states sp_all_effects sp_least_pairs) := by
  have hr0 := hr.mono (Nat.le_add_right k 3)
  have hr1 : Room (k + 1) _ := hr.mono (by omega)
  have hu := huS hr
  have hu1 := huS1 hr
  exact (pss_cons (ps_set (i := 4) sc_against_vouching.nd rfl (Or.inl rfl) (pe_fk F_all_effects (Nat.le_refl _) hr0 rfl (W.glo 13) (pa_cons (pv 0) pa_nil) (pk_cons (pv 3) pk_nil)))
    (pss_cons (Gx.ps_forGen F_least_pairs (hr.mono (Nat.le_add_right _ _)) rfl (fun _ _ z => z) rfl (W.glo 19) KG BG .nil (pa_cons (pv 4) pa_nil) (pg_tup rfl (pgs_cons (pg_name (i := 5) sc_against_vouching.nd rfl (Or.inl rfl)) (pgs_cons (pg_name (i := 6) sc_against_vouching.nd rfl (Or.inl rfl)) pgs_nil))) (pss_cons (ps_set (i := 7) sc_against_vouching.nd rfl (Or.inl rfl) (pe_f F_shared_states (Nat.le_refl _) hr0 rfl (W.glo 18) (pa_cons (pe_ix (ix_U hu) (pe_ix (ix_U hu) (pv 4) (pv 5) fun _ _ => rfl) pe_int fun _ _ => rfl) (pa_cons (pe_ix (ix_U hu) (pe_ix (ix_U hu) (pv 4) (pv 6) fun _ _ => rfl) pe_int fun _ _ => rfl) pa_nil))))
    (pss_one (ps_if (PW.pt (pw_and (pt_cmpR (op_ninU hu) (pv 2) (pv 7) rfl) (pw_and1 (pt_val (pe_f F_lot_within (Nat.le_refl _) hr0 rfl (W.glo 15) (pa_cons (pv 1) (pa_cons (pv 7) pa_nil))))))) (pss_one (ps_ret (pe_tup (pa_cons (pe_ix (ix_U hu) (pe_ix (ix_U hu) (pv 4) (pv 5) fun _ _ => rfl) pe_int fun _ _ => rfl) (pa_cons (pe_ix (ix_U hu) (pe_ix (ix_U hu) (pv 4) (pv 6) fun _ _ => rfl) pe_int fun _ _ => rfl) pa_nil))))) pss_nil))))
    (pss_one (ps_ret pe_non))))
def n_vouched_lots : List Str := ["machine", "most", "lots", "lot"]
def p_vouched_lots : List Str := ["machine", "most"]
theorem sc_vouched_lots : FnScope n_vouched_lots p_vouched_lots (defScope K26.s_vouched_lots) := ⟨rfl, rfl, rfl, by decide +kernel, rfl, by decide +kernel, by decide +kernel⟩
def t_vouched_lots (K : PySem.W.Frag) (sp_lots_below sp_meet_of sp_exchange_lots : Sp) : TS := (tSeq (tAsg (tCallN 1 (["most"] : List Str).length sp_exchange_lots (fun vs zs => vs ++ zs) E0 (tCons (tVar 0) tNil) (tCons (tVar 1) tNil)) (gName 2))
  (tRet (tThen (tLc (iList K (tCall sp_lots_below [] E0 (tCons (tFld K (tVar 0) "size") tNil))) (gName 3) (tTest (tOp (rEqU K) (tCall sp_meet_of [] E0 (tCons (tFld K (tVar 0) "size") (tCons (tVar 2) (tCons (tVar 3) tNil)))) (tVar 3))) (tVar 3) [3]) (kTup K))))
theorem w_vouched_lots {P : Program} {w : World} {K : PySem.W.Frag} {mg : Str → Option Value} {base : Heap} {f : Addr} {cdv : Value} {A : Around} {outer : List Env} {s : Shared} {H : Hp} {E : XK} {k : Nat} (sp_lots_below sp_meet_of sp_exchange_lots : Sp) (W : Wd K mg)
    (hr : Room (k + 3) (A.deeper (envOfC "vouched_lots" (defScope K26.s_vouched_lots) s.heap.objs.size f cdv))) (F_lots_below : Fn P w K mg base k "lots_below" p_lots_below sp_lots_below) (F_meet_of : Fn P w K mg base k "meet_of" p_meet_of sp_meet_of) (F_exchange_lots : FnK P w K mg base k "exchange_lots" p_exchange_lots 1 ["most"] [.int 400] sp_exchange_lots) :
    PSs (cxOf CX0 P w K mg base n_vouched_lots "vouched_lots" (defScope K26.s_vouched_lots) f cdv A outer s H E).nox (defBody K26.s_vouched_lots) (t_vouched_lots K sp_lots_below sp_meet_of sp_exchange_lots) := by
  have hr0 := hr.mono (Nat.le_add_right k 3)
  have hr1 : Room (k + 1) _ := hr.mono (by omega)
  have hu := huS hr
  have hu1 := huS1 hr
  exact (pss_cons (ps_set (i := 2) sc_vouched_lots.nd rfl (Or.inr rfl) (pe_fk F_exchange_lots (Nat.le_refl _) hr0 rfl (W.glo 21) (pa_cons (pv 0) pa_nil) (pk_cons (pv 1) pk_nil)))
    (pss_one (ps_ret (pe_tupleOf rfl (W.free 55) (pe_lc (own := [("lot", 3)]) rfl sc_vouched_lots.nd (pi_list (pe_f F_lots_below (Nat.le_refl _) hr0 rfl (W.glo 16) (pa_cons (pe_fld (pv 0) rfl) pa_nil))) (blkOk_by (N := n_vouched_lots) (sc := defScope K26.s_vouched_lots) (by decide +kernel)) (fun _ _ _ _ _ => (pg_name (i := 3) sc_vouched_lots.nd rfl (by first | exact Or.inl rfl | exact Or.inr rfl))) (fun _ _ _ _ _ => (pts_one (pt_cmpR (op_eqU hu) (pe_f F_meet_of (Nat.le_refl _) hr0 rfl (W.glo 25) (pa_cons (pe_fld (pv 0) rfl) (pa_cons (pv 2) (pa_cons (pv 3) pa_nil)))) (pv 3) (nomark _)))) (fun _ _ _ _ _ => (pv 3)))))))
def n_vouch_grouping : List Str := ["machine", "most", "lots", "state", "vouched", "numbers", "many", "lot", "alike", "other"]
def p_vouch_grouping : List Str := ["machine", "most"]
theorem sc_vouch_grouping : FnScope n_vouch_grouping p_vouch_grouping (defScope K26.s_vouch_grouping) := ⟨rfl, rfl, rfl, by decide +kernel, rfl, by decide +kernel, by decide +kernel⟩
def t_vouch_grouping (K : PySem.W.Frag) (sp_meet_of sp_exchange_lots : Sp) : TS := (tSeq (tAsg (tCallN 1 (["most"] : List Str).length sp_exchange_lots (fun vs zs => vs ++ zs) E0 (tCons (tVar 0) tNil) (tCons (tVar 1) tNil)) (gName 2))
  (tSeq (tAsg (tLc (iRng1 (tCons (tFld K (tVar 0) "size") tNil)) (gName 3) tYes (tCall sp_meet_of [] E0 (tCons (tFld K (tVar 0) "size") (tCons (tVar 2) (tCons (tTup (tCons (tVar 3) tNil)) tNil)))) [3]) (gName 4))
  (tSeq (tPar 5 6 (tCons (tLst tNil) (tCons (tC (.int 0)) tNil)))
  (tSeq (tFor (iEnum K (tCons (tVar 4) tNil)) (gTup K 2 (gCons (gName 3) (gCons (gName 7) gNil))) (tSeq (tAsg (tLc (iTup K (tVar 7)) (gName 9) (tAnd (tTest (tOp rLtI (tVar 9) (tVar 3))) (tTest (tOp (rInU K) (tVar 3) (tOp (rIxU K) (tVar 4) (tVar 9))))) (tVar 9) [9]) (gName 8))
  (tIfS (tTest (tOp rGtI (tCB (rLenU K) (tCons (tVar 8) tNil)) (tC (.int 0)))) (tDrop (tBM K "list" rAppend (tVar 5) (tCons (tOp (rIxU K) (tVar 5) (tOp (rIxU K) (tVar 8) (tC (.int 0)))) tNil))) (tSeq (tDrop (tBM K "list" rAppend (tVar 5) (tCons (tVar 6) tNil)))
  (tAug 6 (tC (.int 1)) (ipI fun i j => i + j))))))
  (tRet (tThen (tVar 5) (kTup K)))))))
theorem w_vouch_grouping {P : Program} {w : World} {K : PySem.W.Frag} {mg : Str → Option Value} {base : Heap} {f : Addr} {cdv : Value} {A : Around} {outer : List Env} {s : Shared} {H : Hp} {E : XK} {k : Nat} (sp_meet_of sp_exchange_lots : Sp) (W : Wd K mg)
    (hr : Room (k + 3) (A.deeper (envOfC "vouch_grouping" (defScope K26.s_vouch_grouping) s.heap.objs.size f cdv))) (F_meet_of : Fn P w K mg base k "meet_of" p_meet_of sp_meet_of) (F_exchange_lots : FnK P w K mg base k "exchange_lots" p_exchange_lots 1 ["most"] [.int 400] sp_exchange_lots) :
    PSs (cxOf CX0 P w K mg base n_vouch_grouping "vouch_grouping" (defScope K26.s_vouch_grouping) f cdv A outer s H E).nox (defBody K26.s_vouch_grouping) (t_vouch_grouping K sp_meet_of sp_exchange_lots) := by
  have hr0 := hr.mono (Nat.le_add_right k 3)
  have hr1 : Room (k + 1) _ := hr.mono (by omega)
  have hu := huS hr
  have hu1 := huS1 hr
  exact (pss_cons (ps_set (i := 2) sc_vouch_grouping.nd rfl (Or.inr rfl) (pe_fk F_exchange_lots (Nat.le_refl _) hr0 rfl (W.glo 21) (pa_cons (pv 0) pa_nil) (pk_cons (pv 1) pk_nil)))
    (pss_cons (ps_set (i := 4) sc_vouch_grouping.nd rfl (Or.inr rfl) (pe_lc (own := [("state", 3)]) rfl sc_vouch_grouping.nd (pi_range1 rfl (W.free 61) (pa_cons (pe_fld (pv 0) rfl) pa_nil)) (blkOk_by (N := n_vouch_grouping) (sc := defScope K26.s_vouch_grouping) (by decide +kernel)) (fun _ _ _ _ _ => (pg_name (i := 3) sc_vouch_grouping.nd rfl (by first | exact Or.inl rfl | exact Or.inr rfl))) (fun _ _ _ _ _ => pts_nil) (fun _ _ _ _ _ => (pe_f F_meet_of (Nat.le_refl _) hr0 rfl (W.glo 25) (pa_cons (pe_fld (pv 0) rfl) (pa_cons (pv 2) (pa_cons (pe_tup (pa_cons (pv 3) pa_nil)) pa_nil)))))))
    (pss_cons (ps_par (i := 5) (j := 6) rfl sc_vouch_grouping.nd rfl rfl (by decide) rfl rfl (pa_cons (pe_lst pa_nil) (pa_cons pe_int pa_nil)) rfl)
    (pss_cons (ps_for PassesOwn.never rfl (pi_enum rfl (W.free 59) (pa_cons (pv 4) pa_nil)) (pg_tup rfl (pgs_cons (pg_name (i := 3) sc_vouch_grouping.nd rfl (Or.inr rfl)) (pgs_cons (pg_name (i := 7) sc_vouch_grouping.nd rfl (Or.inl rfl)) pgs_nil))) (pss_cons (ps_setLc (i := 8) (own := [("other", 9)]) rfl sc_vouch_grouping.nd rfl rfl (sw_true rfl rfl rfl (by decide +kernel)) (pi_tup (pv 7)) (blkOk_by (N := n_vouch_grouping) (sc := defScope K26.s_vouch_grouping) (by decide +kernel)) (fun _ _ _ _ _ => (pg_name (i := 9) sc_vouch_grouping.nd rfl (by first | exact Or.inl rfl | exact Or.inr rfl))) (fun _ _ _ _ _ => (pts_one (PW.pt (pw_and (pt_cmpR op_ltI (pv 9) (pv 3) (nomark _)) (pw_and1 (pt_cmpR (op_inU hu) (pv 3) (pe_ix (ix_U hu) (pv 4) (pv 9) fun _ _ => rfl) rfl)))))) (fun _ _ _ _ _ => (pv 9)))
    (pss_one (ps_if (pt_cmpR op_gtI (pe_callB call_lenU rfl (W.free 56) boot_len (pa_cons (pv 8) pa_nil)) pe_int (nomark _)) (pss_one (ps_expr (pe_bm PySem.F.plainAttrs_list PySem.F.slot_list_append PySem.F.type_list_append mt_append (pv 5) (pa_cons (pe_ix (ix_U hu) (pv 5) (pe_ix (ix_U hu) (pv 8) pe_int fun _ _ => rfl) fun _ _ => rfl) pa_nil)))) (pss_cons (ps_expr (pe_bm PySem.F.plainAttrs_list PySem.F.slot_list_append PySem.F.type_list_append mt_append (pv 5) (pa_cons (pv 6) pa_nil)))
    (pss_one (ps_aug (i := 6) sc_vouch_grouping.nd rfl (Or.inl rfl) pe_int ip_add)))))))
    (pss_one (ps_ret (pe_tupleOf rfl (W.free 55) (pv 5))))))))
def n_any_examples : List Str := ["machine", "most", "counts"]
def p_any_examples : List Str := ["machine", "most"]
theorem sc_any_examples : FnScope n_any_examples p_any_examples (defScope K26.s_any_examples) := ⟨rfl, rfl, rfl, by decide +kernel, rfl, by decide +kernel, by decide +kernel⟩
def t_any_examples (K : PySem.W.Frag) (sp_apart_counts : Sp) : TS := (tSeq (tAsg (tCallN 1 (["most"] : List Str).length sp_apart_counts (fun vs zs => vs ++ zs) E0 (tCons (tVar 0) tNil) (tCons (tVar 1) tNil)) (gName 2))
  (tRet (tIf (tTest (tOp rGtI (tCB (rLenU K) (tCons (tVar 2) tNil)) (tC (.int 1)))) (tOp rSubI (tOp (rAddU K) (tFld K (tVar 0) "size") (tC (.int 1))) (tOp (rIxU K) (tVar 2) (tC (.int 1)))) (tC (.int 0)))))
theorem w_any_examples {P : Program} {w : World} {K : PySem.W.Frag} {mg : Str → Option Value} {base : Heap} {f : Addr} {cdv : Value} {A : Around} {outer : List Env} {s : Shared} {H : Hp} {E : XK} {k : Nat} (sp_apart_counts : Sp) (W : Wd K mg)
    (hr : Room (k + 3) (A.deeper (envOfC "any_examples" (defScope K26.s_any_examples) s.heap.objs.size f cdv))) (F_apart_counts : FnK P w K mg base k "apart_counts" p_apart_counts 1 ["most"] [.int 400] sp_apart_counts) :
    PSs (cxOf CX0 P w K mg base n_any_examples "any_examples" (defScope K26.s_any_examples) f cdv A outer s H E).nox (defBody K26.s_any_examples) (t_any_examples K sp_apart_counts) := by
  have hr0 := hr.mono (Nat.le_add_right k 3)
  have hr1 : Room (k + 1) _ := hr.mono (by omega)
  have hu := huS hr
  have hu1 := huS1 hr
  exact (pss_cons (ps_set (i := 2) sc_any_examples.nd rfl (Or.inl rfl) (pe_fk F_apart_counts (Nat.le_refl _) hr0 rfl (W.glo 22) (pa_cons (pv 0) pa_nil) (pk_cons (pv 1) pk_nil)))
    (pss_one (ps_ret (pe_ifExp (pt_cmpR op_gtI (pe_callB call_lenU rfl (W.free 56) boot_len (pa_cons (pv 2) pa_nil)) pe_int (nomark _)) (pe_op op_subI (pe_op op_addU (pe_fld (pv 0) rfl) pe_int) (pe_ix (ix_U hu) (pv 2) pe_int fun _ _ => rfl)) pe_int))))
end B
/-! all_effects. -/
namespace B
open PySem PySem.Spec PyProof.Rows L2
def keyN (f : List Nat) : List L2.Key := f.map fun (n : Nat) => Sum.inl (n : Int)
theorem keyN_inj {f g : List Nat} (h : keyN f = keyN g) : f = g := by
  unfold keyN at h
  exact (List.map_inj_right (fun (x y : Nat) (e : (Sum.inl (x : Int) : L2.Key) = Sum.inl (y : Int)) => by injection e with e; omega)).mp h
theorem keyN_map (f : List Nat) : (keyN f).map kV = f.map fun (n : Nat) => V.int n := by
  unfold keyN
  rw [List.map_map]; rfl
/-- a dict keyed by tuples of numbers -/
def DtAt (H : Hp) (D : Addr) (ks : List (List Nat)) : Prop := ∃ kvs : List (List L2.Key × V), H D = some (.dT kvs) ∧ kvs.map (·.1) = ks.map keyN
theorem DtAt.mono {H H' : Hp} {D : Addr} {ks : List (List Nat)} (h : DtAt H D ks) (e : Ex H H') : DtAt H' D ks := let ⟨kvs, a, b⟩ := h; ⟨kvs, e _ _ a, b⟩
theorem valV_isSome {kvs : List (List L2.Key × V)} {ks : List (List Nat)} (h : kvs.map (·.1) = ks.map keyN) (f : List Nat) : (valV kvs (keyN f)).isSome = decide (f ∈ ks) := by
  have e : (keyN f ∈ kvs.map (·.1)) ↔ f ∈ ks := by
    rw [h, List.mem_map]
    exact ⟨fun ⟨x, hx, e⟩ => keyN_inj e ▸ hx, fun hx => ⟨f, hx, rfl⟩⟩
  cases q : valV kvs (keyN f) with
  | some v => exact (decide_eq_true (e.mp (valV_in q))).symm
  | none => exact (decide_eq_false fun z => valV_not q (e.mpr z)).symm
section
variable {Rl : Hp → Hp → Prop} [RlOk Rl] {K : PySem.W.Frag} {σ : L2.St} {H H' : Hp} {ta tb te : TE} {α : Type} [Enc α] {D : Ends}
theorem rep_keys {f : List Nat} {v : V} (h : Enc.rep (tp H) v f) : ∃ b, v = .ref b ∧ H b = some (.tup ((keyN f).map kV)) := by
  obtain ⟨b, vs, rfl, hb, r⟩ := h
  have hb : H b = some (.tup vs) := hb
  rw [RepA.ints.mp r] at hb
  exact ⟨b, rfl, by rw [keyN_map]; exact hb⟩
theorem e_ninDict {d : Addr} {ks : List (List Nat)} {f : List Nat} (ha : Ev Ex ta σ H f) (hb : Ev Ex tb σ H (Raw.mk (.ref d))) (hd : DtAt H d ks) : Ev Ex (tOp (rNinU K) ta tb) σ H (!decide (f ∈ ks)) := e_op ha hb fun v w H1 e hv hw Q q => by
  obtain rfl : w = .ref d := hw
  obtain ⟨b, rfl, hb⟩ := rep_keys hv
  obtain ⟨kvs, h1, h2⟩ := hd
  exact .inr (.inr (.inr ⟨d, _, rfl, DGet.t (e _ _ h1) hb, q _ H1 (Ex.refl _) (by show V.bl _ = V.bl _; rw [valV_isSome h2])⟩))
theorem k_dput {j i : Nat} {d : Addr} {ks : List (List Nat)} {f : List Nat} {v : V} {a : α} (hj : σ[j]? = some (some (.ref d))) (hi : σ[i]? = some (some v)) (hv : Enc.rep (tp H) v f) (hd : DtAt H d ks) (hn : f ∉ ks) (hl : ks.length < 1000000) (h : Ev Ex te σ H a)
    (k : ∀ H2, ExM (· = d) H H2 → DtAt H2 d (ks ++ [f]) → D.nx σ H2) : sDPut (tVar j) (tVar i) te D σ H := h H (Ex.refl H) _ fun y H2 e r => by
  obtain ⟨b, rfl, hb⟩ := rep_keys hv
  obtain ⟨kvs, h1, h2⟩ := hd
  have h1' := e _ _ h1
  have hk : kvs.length = ks.length := by have := congrArg List.length h2; rwa [List.length_map, List.length_map] at this
  have hnone : valV kvs (keyN f) = none := by
    have := valV_isSome h2 f
    rw [decide_eq_false hn] at this
    exact Option.isNone_iff_eq_none.mp (by rw [← Option.not_isSome, this]; rfl)
  refine ⟨.ref d, hj, .ref b, hi, d, _, rfl, DPut.t h1' (e _ _ hb) (by rw [hk]; exact szl hl), k _ (ExM.mut (RlOk.ex e) h1' (fun z => z) rfl) ⟨putK kvs (keyN f) y, upd_same, ?_⟩⟩
  have : putK kvs (keyN f) y = kvs ++ [(keyN f, y)] := putK_new y hnone
  rw [this, List.map_append, List.map_append, h2]; rfl
theorem e_catT {xs ys : List α} (ha : Ev Rl ta σ H xs) (hb : Ev Rl tb σ H ys) (hl : xs.length + ys.length ≤ 1000000) : Ev Rl (tOp (rAddU K) ta tb) σ H (xs ++ ys) := e_op ha hb (rv_right (rv_left fun v w H1 e hv hw Q q => by
  obtain ⟨a, vs, rfl, ha, r1⟩ := hv
  obtain ⟨b, ws, rfl, hb, r2⟩ := hw
  refine ⟨a, b, vs, ws, rfl, rfl, SqT.of ha, SqT.of hb, by rw [r1.length, r2.length]; exact sz hl, fun h => q _ H1 (RlOk.refl _) ⟨b, ws, rfl, hb, ?_⟩, fun _ h => q _ H1 (RlOk.refl _) ⟨a, vs, rfl, ha, ?_⟩, fun _ _ p hp => q _ _ (RlOk.ex (Ex.new hp)) ⟨p, _, rfl, upd_same, upA (Rl := Ex) (Ex.new hp) (r1.append r2)⟩⟩
  · subst h
    have := r1.length
    cases xs with
    | nil => exact r2
    | cons => cases this
  · subst h
    have := r2.length
    cases ys with
    | nil => rw [List.append_nil]; exact r1
    | cons => cases this))
theorem e_unitT : Ev Rl (tTup tNil) σ H ([] : List α) := e_tupH eh_nil (by show 0 ≤ 1000000; decide)
theorem e_one {a : α} (h : Ev Rl te σ H a) : Ev Rl (tTup (tCons te tNil)) σ H [a] := e_tupH (eh_cons h eh_nil) (by show 1 ≤ 1000000; decide)
/-- {t: 0} as an assignment's value -/
theorem e_disp {te' : TE} {f : List Nat} {a : α} (h : Ev Ex te σ H f) (h' : Ev Ex te' σ H a) : ∀ Q : VK, (∀ d H2, H d = none → Ex H H2 → DtAt H2 d [f] → Q (.ref d) H2) → tDisp1T te te' σ H Q := fun Q q p hp => by
  have e0 : Ex H (upd H p (.dT [])) := Ex.new hp
  refine h _ e0 _ fun v H1 e1 r => h' H1 (e0.trans e1) _ fun y H2 e2 r2 => ?_
  obtain ⟨b, rfl, hb⟩ := rep_keys (up (Rl := Ex) e2 r)
  refine ⟨e2 _ _ (e1 _ _ upd_same), b, keyN f, rfl, hb, q p _ hp (fun c o hc => ?_) ⟨_, upd_same, rfl⟩⟩
  rw [upd_ne (ne_of_none hc hp)]
  exact e2 _ _ (e1 _ _ (e0 _ _ hc))
end
theorem k_par3' {σ : L2.St} {H : Hp} {D : Ends} {i j l : Nat} {t1 t2 t3 : TE} (h : t1 σ H fun x H1 => t2 σ H1 fun y H2 => t3 σ H2 fun z H3 => ∃ u v w, [x, y, z] = [u, v, w] ∧ D.nx (((σ.set i (some u)).set j (some v)).set l (some w)) H3) : tPar3 i j l (tCons t1 (tCons t2 (tCons t3 tNil))) D σ H := h
theorem k_par' {σ : L2.St} {H : Hp} {D : Ends} {i j : Nat} {t1 t2 : TE} (h : t1 σ H fun x H1 => t2 σ H1 fun y H2 => ∃ u v, [x, y] = [u, v] ∧ D.nx ((σ.set i (some u)).set j (some v)) H2) : tPar i j (tCons t1 (tCons t2 tNil)) D σ H := h
abbrev effs (L : List Led) : List (List Nat) := L.map fun e => e.1
theorem effs_snoc (L : List Led) (e : Led) : effs (L ++ [e]) = effs L ++ [e.1] := by show List.map _ _ = _; rw [List.map_append]; rfl
/-- a promise that leaves the answer open -/
def spN {ι β : Type} [Enc β] (pre : ι → Hp → Prop) (ms : ι → List MP) (post : ι → β → Prop) : Sp := fun vs H Q _ => ∃ i, pre i H ∧ Reps (tp H) (ms i) vs ∧ ∀ v b H2, Ex H H2 → post i b → Enc.rep (tp H2) v b → Q v H2
theorem spN_len {ι β : Type} [Enc β] {pre : ι → Hp → Prop} {ms : ι → List MP} {post : ι → β → Prop} {n : Nat} (h : ∀ i, (ms i).length = n) (vs : List V) (H : Hp) (Q : VK) (E : XK) (z : spN pre ms post vs H Q E) : vs.length = n := by
  obtain ⟨i, _, r, _⟩ := z
  rw [reps_len r, h i]
def spAll (K : PySem.W.Frag) : Sp := spN (ι := Nat × List Deed × Addr × Nat) (fun i H => MachOk i.1 i.2.1 ∧ Small i.1 i.2.1 ∧ 61 ≤ i.2.2.2 ∧ MachAt K H i.2.2.1 i.1 i.2.1) (fun i => [mp (Raw.mk (.ref i.2.2.1)), mp i.2.2.2]) fun i (L : List Led) => AllE i.1 i.2.1 L
theorem MachOk.eff {n : Nat} {ds : List Deed} (ok : MachOk n ds) : ∀ d ∈ ds, Eff n d.2 := fun d hd => (ok.ok d hd).im
section
variable {P : Program} {w : World} {K : PySem.W.Frag} {mg : Str → Option Value} {base : Heap}
theorem ok_all_effects (W : Wd K mg) : FnK P w K mg base 8 "all_effects" p_all_effects 1 ["most"] [.int 1500] (spAll K) := by
  refine fnk_ok (k := 4) W 13 1 sc_all_effects rfl (spN_len fun _ => rfl) (fun D doc pm an cdv ct us ks h1 h2 => ?_) (fun D doc pm an cdv ct us ws h1 h2 => ?_) fun f cdv A outer s H vs Q E hr h => ⟨_, w_all_effects spThen W hr (ok_effect_then W), ?_⟩
  · match us, ks, h1, h2 with
    | [u], [k], _, _ => exact ⟨_, _, _, _, _, _, rfl, rfl, rfl⟩
  · match us, ws, h1, h2 with
    | [u], [k], _, _ => rfl
  obtain ⟨⟨n, ds, p, most⟩, ⟨ok, sm, hm, hM⟩, hr', hq⟩ := h
  obtain ⟨v0, v1, rfl, r0, r1⟩ := reps2 hr'
  obtain rfl : v0 = .ref p := r0
  obtain rfl : v1 = .int most := r1
  have hn : n ≤ 1000000 := by have h1 : 2 ≤ n := ok.lo; have h2 : n ≤ 49 := ok.hi; omega
  show tSeq _ _ _ _ _
  refine k_seq (k_ifN (Rl := Ex) (et_is (et_test (e_op (e_var (a := most) rfl rfl) (eN 1) rv_ltN)) (decide_eq_false (by have : 61 ≤ most := hm; omega))) fun H1 e1 => ?_)
  dsimp only
  refine k_seq (k_set (Rl := Ex) (a := List.range n) (e_tupRg (e_size W.mf rfl (hM.mono e1).ms) hn) fun v2 H2 e2 r2 => ?_)
  dsimp only
  refine k_seq (k_par3' ?_)
  -- the first entries
  refine e_lstH (Rl := Ex) (xs := [((List.range n, []) : Led)]) (eh_cons (e_pair (e_var rfl r2) e_unitT) eh_nil) (by show 1 ≤ 1000000; decide) H2 (Ex.refl _) _ fun pf vs3 H3 hn3 e3 hl3 rl3 => ?_
  refine e_disp (f := List.range n) (a := (0 : Nat)) (e_var rfl (up (Rl := Ex) e3 r2)) (eN 0) _ fun pd H4 hn4 e4 hd4 => ?_
  refine ⟨.ref pf, .ref pd, .int 0, rfl, ?_⟩
  dsimp only
  have e24 := e3.trans e4
  have hlf : LsAt H4 pf [((List.range n, []) : Led)] := ⟨vs3, e4 _ _ hl3, upA (Rl := Ex) e4 rl3⟩
  have hfd : pf ≠ pd := fun z => by rw [← z, hl3] at hn4; cases hn4
  let S : Addr → Prop := fun a => a = pf ∨ a = pd
  have hS : ∀ a, S a → ∀ u, H2 a = some u → False := fun a ha u hu => by
    rcases ha with rfl | rfl
    · rw [hn3] at hu; cases hu
    · have := e3 _ _ hu; rw [hn4] at this; cases this
  have hM2 : MachAt K H2 p n ds := hM.mono (e1.trans e2)
  -- the machine stands while the two change
  have hMs : Ms K (ExM S) H2 p n ds := hM2.msM fun a ha u hu => (hS a ha u hu).elim
  refine k_seq (k_while (Rl := Ex) (fun m σ1 H5 => ExM S H2 H5 ∧ ∃ (L : List Led) (at_ : Nat), ∃ o6 o7 o8 o9 o10, m + at_ = 61 ∧ at_ ≤ L.length ∧ σ1 = [some (.ref p), some (.int (most : Nat)), some v2, some (.ref pf), some (.ref pd), some (.int (at_ : Nat)), o6, o7, o8, o9, o10] ∧ LsAt H5 pf L ∧ DtAt H5 pd (effs L) ∧ Bfs n ds L at_)
    ⟨61, RlOk.ex e24, [(List.range n, [])], 0, _, _, _, _, _, rfl, Nat.zero_le _, rfl, hlf, hd4, Bfs.start n ds⟩ ?_)
  rintro m _ H5 ⟨e5, L, at_, o6, o7, o8, o9, o10, hma, hal, rfl, hL, hD, bfs⟩
  have hlen := bfs.len sm
  refine ⟨decide (at_ < L.length), et_test (e_op (e_var (a := at_) rfl rfl) (e_lenLs (e_var rfl rfl) hL.ls) rv_ltN), fun hb H6 e6 => ?_, fun hb H6 e6 => ?_⟩
  · have hle : L.length ≤ at_ := by have := of_decide_eq_false hb; omega
    dsimp only
    refine k_ret (Rl := Ex) (a := L) (e_tupleLs (e_var rfl rfl) (hL.mono e6).ls) fun v H7 e7 r => hq v L H7 ?_ (bfs.done hle) r
    exact ExM.out (e1.trans e2) (RlOk.trans e5 (RlOk.ex (e6.trans e7))) fun a ha => by
      cases q : H a with
      | none => rfl
      | some u => exact (hS a ha u ((e1.trans e2) _ _ q)).elim
  · have hlt := of_decide_eq_true hb
    have hL6 := hL.mono e6
    have hD6 := hD.mono e6
    obtain ⟨e, he⟩ : ∃ e, L[at_]? = some e := ⟨L[at_], List.getElem?_eq_getElem hlt⟩
    have hem : e ∈ L := List.mem_of_getElem? he
    have ee : Eff n e.1 := (bfs.gen e hem).eff ok.eff
    refine k_seq (k_set2 (Rl := Ex) (p := e) (e_ixLs (e_var rfl rfl) hL6.ls (e_var (a := at_) rfl rfl) he) fun w6 w7 H7 e7 r6 r7 => ?_)
    have E27 : ExM S H2 H7 := RlOk.trans e5 (RlOk.ex (e6.trans e7))
    dsimp only
    refine k_seq (k_for (Rl := ExM S) (wz_deeds W.mf rfl (hMs.mono E27)) (fun H8 j σ1 H9 => ExM S H8 H9 ∧ ∃ (L : List Led), ∃ o8 o9 o10, at_ < L.length ∧ L[at_]? = some e ∧ σ1 = [some (.ref p), some (.int (most : Nat)), some v2, some (.ref pf), some (.ref pd), some (.int (at_ : Nat)), some w6, some w7, o8, o9, o10] ∧ LsAt H9 pf L ∧ DtAt H9 pd (effs L) ∧ Bfs n ds L at_ ∧ ∀ d ∈ ds.take j, thn e.1 d.2 ∈ effs L)
      (fun H8 e8 => ⟨RlOk.refl _, L, _, _, _, hlt, he, rfl, hL6.mono (e7.trans e8), hD6.mono (e7.trans e8), bfs, fun d hd => by rw [List.take_zero] at hd; cases hd⟩) (fun _ i σ1 H4 h => h.1) (fun _ i σ1 H4 H5 ⟨a, L, o8, o9, o10, b, c, d, l, t, f⟩ e => ⟨RlOk.trans a (RlOk.ex e), L, o8, o9, o10, b, c, d, l.mono e, t.mono e, f⟩) ?_ ?_)
    · rintro H8 e8 j d v _ H9 hj ⟨e9, L, o8, o9, o10, hlt, he, rfl, hL9, hD9, bfs, hcl⟩ y
      have hd : d ∈ ds := List.mem_of_getElem? hj
      have hlen := bfs.len sm
      have htk : ds.take (j + 1) = ds.take j ++ [d] := by rw [List.take_add_one, hj]; rfl
      refine tgt_pair y fun u8 u9 s8 s9 => ?_
      have r69 : Enc.rep (tp H9) w6 e.1 := up (Rl := ExM S) (RlOk.trans (RlOk.ex e8) e9) r6
      have r79 : Enc.rep (tp H9) w7 e.2 := up (Rl := ExM S) (RlOk.trans (RlOk.ex e8) e9) r7
      refine k_seq (k_set (Rl := Ex) (a := thn e.1 d.2) (e_thn hn ee (ok.eff d hd) (e_var rfl r69) (e_var rfl s9)) fun u10 H10 e10 r10 => ?_)
      dsimp only
      have hL10 := hL9.mono e10
      have hD10 := hD9.mono e10
      refine k_if (Rl := Ex) (b := !decide (thn e.1 d.2 ∈ effs L)) (et_test (e_ninDict (e_var rfl r10) (e_var rfl rfl) hD10)) (fun hb H11 e11 => ?_) fun hb H11 e11 => ?_
      · have hnin : thn e.1 d.2 ∉ effs L := fun z => by rw [decide_eq_true z] at hb; cases hb
        have hL11 := hL10.mono e11
        have hD11 := hD10.mono e11
        refine k_seq (k_ifN (Rl := Ex) (et_is (et_test (e_op (e_lenLs (e_var rfl rfl) hL11.ls) (e_var (a := most) rfl rfl) rv_eqN)) (decide_eq_false (by have : 61 ≤ most := hm; omega))) fun H12 e12 => ?_)
        dsimp only
        have hL12 := hL11.mono e12
        refine k_seq (k_dput (a := L.length) rfl rfl (up (Rl := Ex) (e11.trans e12) r10) (hD11.mono e12) hnin (by rw [List.length_map]; omega) (e_lenLs (e_var rfl rfl) hL12.ls) fun H13 e13 hD13 => ?_)
        dsimp only
        have hL13 : LsAt H13 pf L := by
          obtain ⟨z1, z2, z3⟩ := hL12
          exact ⟨z1, e13.1 _ _ z2 (.inl hfd), upA (Rl := ExM (· = pd)) e13 z3⟩
        have e9_13 : ExM S H9 H13 := RlOk.trans (RlOk.ex (e10.trans (e11.trans e12))) (e13.mono fun a h => .inr h)
        have r10' : Enc.rep (tp H13) u10 (thn e.1 d.2) := up (Rl := ExM (· = pd)) e13 (up (Rl := Ex) (e11.trans e12) r10)
        refine k_append (a := ((thn e.1 d.2, e.2 ++ [d.1]) : Led)) rfl hL13 (e_pair (e_var rfl r10') (e_catT (e_var rfl (up (Rl := ExM S) e9_13 r79)) (e_one (e_var rfl (up (Rl := ExM S) e9_13 s8))) ?_)) (by omega) fun H14 e14 hL14 => ⟨RlOk.trans e9 (RlOk.trans e9_13 (e14.mono fun a h => .inl h)), _, _, _, _, by rw [List.length_append]; omega, by rw [List.getElem?_append_left hlt]; exact he, rfl, hL14, ?_, bfs.add ok.nd he hd hnin, fun d' hd' => ?_⟩
        · have h1 := bfs.bd at_ e he
          show e.2.length + 1 ≤ 1000000
          omega
        · obtain ⟨z1, z2, z3⟩ := hD13
          exact ⟨z1, e14.1 _ _ z2 (.inl (Ne.symm hfd)), by rw [z3, effs_snoc]⟩
        · rw [htk] at hd'
          rw [effs_snoc]
          rcases List.mem_append.mp hd' with h | h
          · exact List.mem_append_left _ (hcl d' h)
          · rw [List.mem_singleton.mp h]; exact List.mem_append_right _ (by simp)
      · have hin : thn e.1 d.2 ∈ effs L := by simpa using hb
        refine ⟨RlOk.trans e9 (RlOk.ex (e10.trans e11)), L, _, _, _, hlt, he, rfl, hL10.mono e11, hD10.mono e11, bfs, fun d' hd' => ?_⟩
        rw [htk] at hd'
        rcases List.mem_append.mp hd' with h | h
        · exact hcl d' h
        · rw [List.mem_singleton.mp h]; exact hin
    · rintro H8 e8 _ H9 ⟨e9, L, o8, o9, o10, hlt, he, rfl, hL9, hD9, bfs, hcl⟩
      rw [List.take_length] at hcl
      have hlen := bfs.len sm
      dsimp only
      refine k_aug (Rl := Ex) (m := (at_ : Int)) (n := 1) rfl rfl (e_c fun _ => rfl) fun H10 e10 => ⟨m - 1, by omega, RlOk.trans E27 (RlOk.trans (RlOk.ex e8) (RlOk.trans e9 (RlOk.ex e10))), L, at_ + 1, _, _, _, _, _, by omega, hlt, rfl, hL9.mono e10, hD9.mono e10, bfs.next he hcl⟩
end
end B
namespace B
open PySem PySem.Spec PyProof.Rows L2
def n_least_pairs : List Str := ["listed", "lengths", "longest", "begins", "length", "total", "at", "rest", "further", "effect", "row"]
def p_least_pairs : List Str := ["listed"]
theorem sc_least_pairs : Gx.GScope' n_least_pairs p_least_pairs (defScope K26.s_least_pairs) := ⟨⟨rfl, rfl, rfl, by decide +kernel, rfl, by decide +kernel, by decide +kernel⟩, by decide +kernel⟩
def t_least_pairs (K : PySem.W.Frag) (PL : List (Int × Int)) : TS := (Gx.tGPre (tAsg (tLc (iTup K (tVar 0)) (gTup K 2 (gCons (gName 9) (gCons (gName 10) gNil))) tYes (tCB (rLenU K) (tCons (tVar 10) tNil)) [9, 10]) (gName 1))
  (Gx.tGPre (tAsg (tOp (rIxU K) (tVar 1) (tUn rNegI (tC (.int 1)))) (gName 2))
  (Gx.tGPre (tAsg (tOp rMulU (tLst (tCons (tC (.int 0)) tNil)) (tOp (rAddU K) (tVar 2) (tC (.int 2)))) (gName 3))
  (Gx.tGPre (tFor (iList K (tVar 1)) (gName 4) (tAugS (tVar 3) (tOp (rAddU K) (tVar 4) (tC (.int 1))) (tC (.int 1)) (rGetL K) (ipI fun i j => i + j) rSetL))
  (Gx.tGPre (tFor (iRng1 (tCons (tOp (rAddU K) (tVar 2) (tC (.int 1))) tNil)) (gName 4) (tAugS (tVar 3) (tOp (rAddU K) (tVar 4) (tC (.int 1))) (tOp (rIxU K) (tVar 3) (tVar 4)) (rGetL K) (ipI fun i j => i + j) rSetL))
  (Gx.tGLast PL fun ll => (Gx.tGFor ll (iRng1 (tCons (tOp (rAddU K) (tOp rMulU (tC (.int 2)) (tVar 2)) (tC (.int 1))) tNil)) 5 (Gx.tGT (Gx.tGFor ll (iRng1 (tCons (tOp (rIxU K) (tVar 3) (tOp (rAddU K) (tCB rMin2 (tCons (tOp rDivI (tVar 5) (tC (.int 2))) (tCons (tVar 2) tNil))) (tC (.int 1)))) tNil)) 6 (Gx.tGT (Gx.tGP ll (tAsg (tOp rSubI (tVar 5) (tOp (rIxU K) (tVar 1) (tVar 6))) (gName 7))) (Gx.tGT (Gx.tGIf ll (tTest (tOp rLeI (tVar 7) (tVar 2))) (Gx.tGT (Gx.tGFor ll (iRng2 (tCons (tCB rMax2 (tCons (tVar 6) (tCons (tOp (rIxU K) (tVar 3) (tVar 7)) tNil))) (tCons (tOp (rIxU K) (tVar 3) (tOp (rAddU K) (tVar 7) (tC (.int 1)))) tNil))) 8 (Gx.tGT (Gx.tGY ll PL (tTup (tCons (tVar 6) (tCons (tVar 8) tNil)))) (fun D j σ => D.nx j σ))) (fun D j σ => D.nx j σ))) (fun D j σ => D.nx j σ)))) (fun D j σ => D.nx j σ)))))))))
theorem w_least_pairs {P : Program} {w : World} {K : PySem.W.Frag} {mg : Str → Option Value} {base : Heap} {f : Addr} {cdv : Value} {A : Around} {outer : List Env} {L a : Addr} {go : Obj} {k : Nat} {PL : List (Int × Int)} (W : Wd K mg)
    (hr : Room (k + 3) (A.deeper (envOfC "least_pairs" (defScope K26.s_least_pairs) L f cdv))) (gok : (Gx.gpOf P w K mg base n_least_pairs "least_pairs" (defScope K26.s_least_pairs) f cdv A outer L a go).Ok) :
    Gx.GB A (Gx.gpOf P w K mg base n_least_pairs "least_pairs" (defScope K26.s_least_pairs) f cdv A outer L a go) PL (defBody K26.s_least_pairs) (t_least_pairs K PL) := by
  have hu := huS hr
  exact (Gx.gb_cons (fun _ _ => (ps_setLc (i := 1) (own := [("effect", 9), ("row", 10)]) rfl sc_least_pairs.nd rfl rfl (sw_true rfl rfl rfl (by decide +kernel)) (pi_tup (pv 0)) (blkOk_by (N := n_least_pairs) (sc := defScope K26.s_least_pairs) (by decide +kernel)) (fun _ _ _ _ _ => (pg_tup rfl (pgs_cons (pg_name (i := 9) sc_least_pairs.nd rfl (by first | exact Or.inl rfl | exact Or.inr rfl)) (pgs_cons (pg_name (i := 10) sc_least_pairs.nd rfl (by first | exact Or.inl rfl | exact Or.inr rfl)) pgs_nil)))) (fun _ _ _ _ _ => pts_nil) (fun _ _ _ _ _ => (pe_callB call_lenU rfl (W.free 56) boot_len (pa_cons (pv 10) pa_nil)))))
    (Gx.gb_cons (fun _ _ => (ps_set (i := 2) sc_least_pairs.nd rfl (Or.inl rfl) (pe_ix (ix_U hu) (pv 1) (pe_un un_neg pe_int) fun _ _ => rfl)))
    (Gx.gb_cons (fun _ _ => (ps_set (i := 3) sc_least_pairs.nd rfl (Or.inl rfl) (pe_op op_mulU (pe_lst (pa_cons pe_int pa_nil)) (pe_op op_addU (pv 2) pe_int))))
    (Gx.gb_cons (fun _ _ => (ps_for PassesOwn.never rfl (pi_list (pv 1)) (pg_name (i := 4) sc_least_pairs.nd rfl (Or.inl rfl)) (pss_one (ps_augS (pv 3) (pe_op op_addU (pv 4) pe_int) get_list pe_int ip_add set_list))))
    (Gx.gb_cons (fun _ _ => (ps_for PassesOwn.never rfl (pi_range1 rfl (W.free 61) (pa_cons (pe_op op_addU (pv 2) pe_int) pa_nil)) (pg_name (i := 4) sc_least_pairs.nd rfl (Or.inl rfl)) (pss_one (ps_augS (pv 3) (pe_op op_addU (pv 4) pe_int) get_list (pe_ix (ix_U hu) (pv 3) (pv 4) fun _ _ => rfl) ip_add set_list))))
    (Gx.gb_last fun ll hab => (Gx.gs_for (fun _ _ => (pi_range1 rfl (W.free 61) (pa_cons (pe_op op_addU (pe_op op_mulU pe_int (pv 2)) pe_int) pa_nil))) (fun _ _ => (pg_name (i := 5) sc_least_pairs.nd rfl (Or.inl rfl))) (Gx.gss_cons (Gx.gs_for (fun _ _ => (pi_range1 rfl (W.free 61) (pa_cons (pe_ix (ix_U hu) (pv 3) (pe_op op_addU (pe_callB (call_min2 rfl) rfl (W.free 65) boot_min (pa_cons (pe_op op_divI (pv 5) pe_int) (pa_cons (pv 2) pa_nil))) pe_int) fun _ _ => rfl) pa_nil))) (fun _ _ => (pg_name (i := 6) sc_least_pairs.nd rfl (Or.inl rfl))) (Gx.gss_cons (Gx.gs_ps fun _ _ => (ps_set (i := 7) sc_least_pairs.nd rfl (Or.inl rfl) (pe_op op_subI (pv 5) (pe_ix (ix_U hu) (pv 1) (pv 6) fun _ _ => rfl)))) (Gx.gss_cons (Gx.gs_if (fun _ _ => (pt_cmpR op_leI (pv 7) (pv 2) (nomark _))) (Gx.gss_cons (Gx.gs_for (fun _ _ => (pi_range2 rfl (W.free 61) (pa_cons (pe_callB (call_max2 rfl) rfl (W.free 66) boot_max (pa_cons (pv 6) (pa_cons (pe_ix (ix_U hu) (pv 3) (pv 7) fun _ _ => rfl) pa_nil))) (pa_cons (pe_ix (ix_U hu) (pv 3) (pe_op op_addU (pv 7) pe_int) fun _ _ => rfl) pa_nil)))) (fun _ _ => (pg_name (i := 8) sc_least_pairs.nd rfl (Or.inl rfl))) (Gx.gss_cons (Gx.gs_yield gok hab (fun _ _ => (pe_tup (pa_cons (pv 6) (pa_cons (pv 8) pa_nil))))) Gx.gss_nil)) Gx.gss_nil)) Gx.gss_nil))) Gx.gss_nil))))))))
end B
/-! the pairs, by the sum of their rows' lengths. -/
namespace B
open PySem L2
def bg (lens : List Nat) (l : Nat) : Nat := lens.countP fun x => decide (x < l)
def cnt (lens : List Nat) (b : Nat) : Nat := lens.countP fun x => decide (x + 1 = b)
theorem bg_zero (lens : List Nat) : bg lens 0 = 0 := by
  unfold bg
  rw [List.countP_eq_zero]
  intro x _ h
  exact absurd (of_decide_eq_true h) (Nat.not_lt_zero x)
theorem bg_succ (lens : List Nat) (l : Nat) : bg lens (l + 1) = cnt lens (l + 1) + bg lens l := by
  unfold bg cnt
  induction lens with
  | nil => rfl
  | cons x xs ih =>
    rw [List.countP_cons, List.countP_cons, List.countP_cons, ih]
    by_cases h1 : x < l
    · rw [if_pos (decide_eq_true (show x < l + 1 by omega)), if_neg (by rw [decide_eq_false (by omega)]; decide), if_pos (decide_eq_true h1)]; omega
    · by_cases h2 : x = l
      · rw [if_pos (decide_eq_true (show x < l + 1 by omega)), if_pos (decide_eq_true (by omega)), if_neg (by rw [decide_eq_false h1]; decide)]; omega
      · rw [if_neg (by rw [decide_eq_false (by omega)]; decide), if_neg (by rw [decide_eq_false (by omega)]; decide), if_neg (by rw [decide_eq_false h1]; decide)]; omega
theorem set_map_range {n k v : Nat} (f : Nat → Nat) (h : k < n) : ((List.range n).map f).set k v = (List.range n).map fun b => if b = k then v else f b := by
  apply List.ext_getElem?
  intro i
  rw [List.getElem?_set, List.getElem?_map, List.getElem?_map, List.length_map, List.length_range]
  by_cases e : k = i
  · subst e
    rw [if_pos rfl, if_pos h, List.getElem?_range h, Option.map_some, if_pos rfl]
  · rw [if_neg e]
    by_cases hi : i < n
    · rw [List.getElem?_range hi, Option.map_some, Option.map_some, if_neg (fun z => e z.symm)]
    · rw [List.getElem?_eq_none (by rw [List.length_range]; omega)]; rfl
theorem at_map_range {n k : Nat} (f : Nat → Nat) (h : k < n) : ((List.range n).map f)[k]? = some (f k) := by
  rw [List.getElem?_map, List.getElem?_range h]; rfl
/-- the innermost -/
def pIn (lens : List Nat) (lg total a : Nat) : List (Int × Int) :=
  let rest := total - lens.getD a 0
  if rest ≤ lg then ((List.range (bg lens (rest + 1) - max a (bg lens rest))).map fun i => ((a : Int), ((max a (bg lens rest) + i : Nat) : Int))) else []
def pMid (lens : List Nat) (lg total : Nat) : List (Int × Int) := (List.range (bg lens (min (total / 2) lg + 1))).flatMap (pIn lens lg total)
def pAll (lens : List Nat) (lg : Nat) : List (Int × Int) := (List.range (2 * lg + 1)).flatMap (pMid lens lg)
theorem flat_at {α β : Type} (f : α → List β) : ∀ {xs : List α} {i : Nat} {x : α} {k : Nat}, xs[i]? = some x → k < (f x).length → (xs.flatMap f)[((xs.take i).flatMap f).length + k]? = (f x)[k]?
  | [], _, _, _, h, _ => by cases h
  | y :: xs, 0, x, k, h, hk => by
    cases h
    rw [List.take_zero, List.flatMap_nil, List.length_nil, Nat.zero_add, List.flatMap_cons, List.getElem?_append_left hk]
  | y :: xs, i + 1, x, k, h, hk => by
    rw [List.take_succ_cons, List.flatMap_cons, List.flatMap_cons, List.length_append, List.getElem?_append_right (by omega), show (f y).length + ((xs.take i).flatMap f).length + k - (f y).length = ((xs.take i).flatMap f).length + k by omega]
    exact flat_at f (by simpa using h) hk
theorem flat_take_succ {α β : Type} (f : α → List β) {xs : List α} {i : Nat} {x : α} (h : xs[i]? = some x) : ((xs.take (i + 1)).flatMap f).length = ((xs.take i).flatMap f).length + (f x).length := by
  rw [List.take_add_one, h, List.flatMap_append, List.length_append]
  simp
/-! all pairs, once the lengths go up -/
theorem bg_le (lens : List Nat) (l : Nat) : bg lens l ≤ lens.length := List.countP_le_length
theorem bg_iff {lens : List Nat} (h : lens.Pairwise (· ≤ ·)) {i l : Nat} (hi : i < lens.length) : lens.getD i 0 < l ↔ i < bg lens l := by
  induction lens generalizing i with
  | nil => cases hi
  | cons x xs ih =>
    obtain ⟨h1, h2⟩ := List.pairwise_cons.mp h
    unfold bg
    rw [List.countP_cons]
    by_cases hx : x < l
    · rw [if_pos (decide_eq_true hx)]
      cases i with
      | zero => exact ⟨fun _ => Nat.succ_pos _, fun _ => hx⟩
      | succ i =>
        have := ih h2 (i := i) (by simpa using hi)
        rw [show (x :: xs).getD (i + 1) 0 = xs.getD i 0 from rfl, this]
        unfold bg
        omega
    · rw [if_neg (by rw [decide_eq_false hx]; decide)]
      have z : xs.countP (fun x => decide (x < l)) = 0 := by
        rw [List.countP_eq_zero]
        intro y hy hh
        have := h1 y hy
        have := of_decide_eq_true hh
        omega
      rw [z]
      refine ⟨fun hlt => ?_, fun z => absurd z (Nat.not_lt_zero _)⟩
      exfalso
      cases i with
      | zero => exact hx hlt
      | succ i =>
        have hi' : i < xs.length := by simpa using hi
        have h3 : (x :: xs).getD (i + 1) 0 = xs[i] := by
          show xs.getD i 0 = _
          rw [List.getD_eq_getElem?_getD, List.getElem?_eq_getElem hi']; rfl
        rw [h3] at hlt
        have := h1 xs[i] (List.getElem_mem hi')
        omega
theorem getD_le {lens : List Nat} (h : lens.Pairwise (· ≤ ·)) {i j : Nat} (hij : i ≤ j) (hj : j < lens.length) : lens.getD i 0 ≤ lens.getD j 0 := by
  rcases Nat.lt_or_eq_of_le hij with h1 | h1
  · have := List.pairwise_iff_getElem.mp h i j (by omega) hj h1
    rw [List.getD_eq_getElem?_getD, List.getD_eq_getElem?_getD, List.getElem?_eq_getElem hj, List.getElem?_eq_getElem (by omega)]
    exact this
  · rw [h1]; exact Nat.le_refl _
theorem pAll_mem {lens : List Nat} {lg : Nat} (h : lens.Pairwise (· ≤ ·)) (hl : ∀ i, i < lens.length → lens.getD i 0 ≤ lg) {a b : Nat} (hab : a ≤ b) (hb : b < lens.length) : ((a : Int), (b : Int)) ∈ pAll lens lg := by
  have ha : a < lens.length := by omega
  let la := lens.getD a 0
  let lb := lens.getD b 0
  have hla : la ≤ lg := hl a ha
  have hlb : lb ≤ lg := hl b hb
  have hle : la ≤ lb := getD_le h hab hb
  refine List.mem_flatMap.mpr ⟨la + lb, List.mem_range.mpr (by omega), List.mem_flatMap.mpr ⟨a, List.mem_range.mpr ?_, ?_⟩⟩
  · rw [← bg_iff h ha]
    show la < _
    omega
  · unfold pIn
    have hr : la + lb - lens.getD a 0 = lb := by show la + lb - la = lb; omega
    rw [hr]
    rw [if_pos hlb]
    have hb1 : bg lens lb ≤ b := by
      have := mt (bg_iff h hb (l := lb)).mpr (by show ¬ lb < lb; omega)
      omega
    have hb2 : b < bg lens (lb + 1) := (bg_iff h hb).mp (by show lb < lb + 1; omega)
    refine List.mem_map.mpr ⟨b - max a (bg lens lb), List.mem_range.mpr (by omega), ?_⟩
    congr 1
    omega
theorem pAll_lt {lens : List Nat} {lg : Nat} {x y : Int} (h : (x, y) ∈ pAll lens lg) : ∃ a b : Nat, x = a ∧ y = b ∧ a < lens.length ∧ b < lens.length := by
  obtain ⟨total, _, h⟩ := List.mem_flatMap.mp h
  obtain ⟨a, ha, h⟩ := List.mem_flatMap.mp h
  have ha := List.mem_range.mp ha
  unfold pIn at h
  simp only at h
  split at h
  · obtain ⟨i, hi, e⟩ := List.mem_map.mp h
    have hi := List.mem_range.mp hi
    injection e with e1 e2
    have h1 := bg_le lens (min (total / 2) lg + 1)
    have h2 := bg_le lens (total - lens.getD a 0 + 1)
    exact ⟨a, _, e1.symm, e2.symm, by omega, by omega⟩
  · cases h
end B
/-! least_pairs. -/
namespace B
open PySem PySem.Spec PyProof.Rows L2
section
variable {K : PySem.W.Frag} {σ : L2.St} {H H' : Hp} {ta tb tc te ti : TE} {v : V} {α : Type} [Enc α] {D : Ends}
theorem rep_flat (x : V) : ∀ n : Nat, (List.replicate n [x]).flatten = List.replicate n x
  | 0 => rfl
  | n + 1 => by rw [List.replicate_succ, List.flatten_cons, rep_flat x n]; rfl
theorem repA_rep {T : TL} {x : V} {a : α} (h : Enc.rep T x a) : ∀ n : Nat, RepA T (List.replicate n x) (List.replicate n a)
  | 0 => trivial
  | n + 1 => ⟨h, repA_rep h n⟩
/-- [x] * n -/
theorem e_rep1 {Rl : Hp → Hp → Prop} [RlOk Rl] {n : Nat} {a : α} (ha : Ev Rl ta σ H a) (hb : Ev Rl tb σ H n) (hn : n ≤ 1000000) (hf : Fr Rl H) : EvL Rl (tOp rMulU (tLst (tCons ta tNil)) tb) σ H (List.replicate n a) := fun H1 e Q q =>
  e_lstH (eh_cons ha eh_nil) (by show 1 ≤ 1000000; decide) H1 e _ fun p vs H2 hp e2 hl r => hb H2 (RlOk.trans e e2) _ fun w H3 e3 hw => by
    obtain rfl : w = .int n := hw
    have hl3 := hf p H1 H2 H3 _ e hp hl e3
    have hlen := r.length
    refine .inr ⟨p, n, vs, rfl, rfl, hl3, by omega, by omega, ?_, fun l hl' => q l _ _ (RlOk.back (RlOk.trans e2 e3) hl') (RlOk.trans (RlOk.trans e2 e3) (RlOk.ex (Ex.new hl'))) upd_same ?_⟩
    · rw [hlen]
      exact Nat.le_trans (show 1 * (n : Int).toNat ≤ 1000000 by rw [Nat.one_mul]; exact hn) (by decide)
    · match vs, hlen, r with
      | [x], _, ⟨rx, _⟩ =>
        have e4 : (List.replicate (n : Int).toNat [x]).flatten = List.replicate n x := rep_flat x n
        rw [e4]
        exact repA_rep (up (Rl := Rl) (RlOk.trans e3 (RlOk.ex (Ex.new hl'))) rx) n
theorem k_augS {j : Nat} {p : Addr} {xs : List Nat} {i b x : Nat} (hj : σ[j]? = some (some (.ref p))) (hl : LsAt H p xs) (hi : Ev Ex ti σ H i) (hx : xs[i]? = some x) (hb : Ev Ex te σ H b) (k : ∀ H2, ExM (· = p) H H2 → LsAt H2 p (xs.set i (x + b)) → D.nx σ H2) :
    tAugS (tVar j) ti te (rGetL K) (ipI fun i j => i + j) rSetL D σ H := by
  refine ⟨.ref p, hj, hi H (Ex.refl H) _ fun w H1 e1 hw => ?_⟩
  obtain rfl : w = .int i := hw
  obtain ⟨vs, h1, h2⟩ := hl.mono e1
  obtain ⟨y, hy, ry⟩ := h2.get hx
  obtain rfl : y = .int x := ry
  refine ⟨p, vs, i, _, rfl, rfl, SqL.of h1, hy, hb.mono e1 H1 (Ex.refl _) _ fun u H2 e2 hu => ?_⟩
  obtain rfl : u = .int b := hu
  have h1' := e2 _ _ h1
  have hlt : i < vs.length := (List.getElem?_eq_some_iff.mp hy).1
  refine ⟨x, b, rfl, rfl, p, vs, i, i, rfl, rfl, h1', ?_, k _ (ExM.mut (RlOk.ex (e1.trans e2)) h1' (fun z => z) rfl) ⟨_, upd_same, RepA.mono (tp_upd h1' (fun z => z)) (RepA.set (by show V.int _ = V.int _; rw [Int.natCast_add]) (upA (Rl := Ex) e2 h2))⟩⟩
  unfold ixN
  rw [if_pos (by omega)]
  simp [hlt]
/-- the two lists of the run, as they stand -/
theorem ext_of {p : Addr} {u : HO} (h : H p = some u) (hu : ∀ φ, u ≠ .ext φ) (e : ExM (· = p) H H') : Gx.ExT H H' := fun b φ hb => by
  refine e.1 b _ hb (.inl fun z => ?_)
  subst z
  rw [h] at hb
  cases hb
  exact hu φ rfl
theorem ext_ex (e : Ex H H') : Gx.ExT H H' := fun b φ hb => e b _ hb
end
def lensOf (L : List Led) : List Nat := L.map fun e => e.2.length
def lgOf (L : List Led) : Nat := (lensOf L).getD (L.length - 1) 0
def spPairs : Gx.SpO := fun vs H PL => ∃ (v : V) (L : List Led), vs = [v] ∧ Enc.rep (tp H) v L ∧ 0 < L.length ∧ L.length ≤ 60 ∧ (∀ e ∈ L, e.2.length ≤ 60) ∧ (lensOf L).Pairwise (· ≤ ·) ∧ PL = pAll (lensOf L) (lgOf L)
def tpR (H : Hp) : TL := fun a vs => Rd H a (.tup vs)
theorem e_min {Rl : Hp → Hp → Prop} [RlOk Rl] {σ : L2.St} {H : Hp} {ta tb : TE} {a b : Nat} (ha : Ev Rl ta σ H a) (hb : Ev Rl tb σ H b) : Ev Rl (tCB rMin2 (tCons ta (tCons tb tNil))) σ H (min a b) := fun H1 e Q q => ha H1 e _ fun v H2 e2 r => hb H2 (RlOk.trans e e2) _ fun w H3 e3 r' => by
  obtain rfl : v = .int a := r
  obtain rfl : w = .int b := r'
  refine ⟨a, b, rfl, q _ H3 (RlOk.trans e2 e3) ?_⟩
  show V.int _ = V.int _
  split <;> congr 1 <;> omega
theorem e_max {Rl : Hp → Hp → Prop} [RlOk Rl] {σ : L2.St} {H : Hp} {ta tb : TE} {a b : Nat} (ha : Ev Rl ta σ H a) (hb : Ev Rl tb σ H b) : Ev Rl (tCB rMax2 (tCons ta (tCons tb tNil))) σ H (max a b) := fun H1 e Q q => ha H1 e _ fun v H2 e2 r => hb H2 (RlOk.trans e e2) _ fun w H3 e3 r' => by
  obtain rfl : v = .int a := r
  obtain rfl : w = .int b := r'
  refine ⟨a, b, rfl, q _ H3 (RlOk.trans e2 e3) ?_⟩
  show V.int _ = V.int _
  split <;> congr 1 <;> omega
theorem e_neg1 {Rl : Hp → Hp → Prop} [RlOk Rl] {σ : L2.St} {H : Hp} : Ev Rl (tUn rNegI (tC (.int 1))) σ H (-1 : Int) := fun H1 e Q q => ⟨1, rfl, q _ H1 (RlOk.refl _) rfl⟩
/-- a row's length, where tuples are only read -/
theorem lens_lc {K : PySem.W.Frag} {σ : L2.St} {H : Hp} {v : V} {L : List Led} (h0 : σ[0]? = some (some v)) (hl : 10 < σ.length) (r : Enc.rep (tpR H) v L) (hn : L.length ≤ 60) (hr : ∀ e ∈ L, e.2.length ≤ 60) :
    EvL Ex (tLc (iTup K (tVar 0)) (gTup K 2 (gCons (gName 9) (gCons (gName 10) gNil))) tYes (tCB (rLenU K) (tCons (tVar 10) tNil)) [9, 10]) σ H (lensOf L) := by
  obtain ⟨a, vs, rfl, ha, hrs⟩ := r
  have rdx : ∀ {H1 H2 : Hp} {a : Addr} {vs : List V}, Ex H1 H2 → tpR H1 a vs → tpR H2 a vs := fun e h => h.imp (fun z => e _ _ z) fun ⟨o, z⟩ => ⟨o, e _ _ z⟩
  have h := e_lc (Rl := Ex) (σ := σ) (H := H) (wi := iTup K (tVar 0)) (g := gTup K 2 (gCons (gName 9) (gCons (gName 10) gNil))) (tt := tYes) (te := tCB (rLenU K) (tCons (tVar 10) tNil)) (vs := [9, 10]) (n := L.length) (Y := fun i H1 x => ∀ e, L[i]? = some e → Enc.rep (tpR H1) x e) (fun _ => true) (fun i => (lensOf L).getD i 0) fr_ex (fun H1 e1 R q => ?_) (by omega) (fun i H1 x hi e1 y => ?_)
  · have : ((List.range L.length).filter fun _ => true).map (fun i => (lensOf L).getD i 0) = lensOf L := by
      rw [List.filter_eq_self.mpr fun _ _ => rfl]
      have hl : L.length = (lensOf L).length := by unfold lensOf; rw [List.length_map]
      rw [hl]
      apply List.ext_getElem?
      intro i
      rw [List.getElem?_map]
      by_cases hi : i < (lensOf L).length
      · rw [List.getElem?_range hi, getD_at hi]; rfl
      · rw [List.getElem?_eq_none (by rw [List.length_range]; omega), List.getElem?_eq_none (by omega)]; rfl
    rw [this] at h
    exact h
  · have hs : ∀ H3, Ex H1 H3 → SqT K H3 a vs := fun H3 e3 => .inl (rdx (e1.trans e3) ha)
    refine ⟨.ref a, h0, a, rfl, ⟨vs, hs H1 (Ex.refl _)⟩, q (Itt K a) H1 (Ex.refl _) fun H3 e3 => ⟨fun i hi => ?_, ⟨vs, hs H3 e3, by rw [hrs.length]; exact Nat.le_refl _⟩, fun i x H4 hi hy => ?_⟩⟩
    · exact ⟨vs, vs[i]'(by rw [hrs.length]; exact hi), hs H3 e3, by simp [hrs.length, hi]⟩
    · obtain ⟨rfl, hy⟩ := hy
      refine ⟨Ex.refl _, fun x' hx' => ?_⟩
      obtain ⟨y, h1, h2⟩ := hrs.get hx'
      have h3 := hy vs (hs H4 e3)
      rw [h1] at h3
      cases h3
      exact Enc.mono (fun _ _ z => rdx (e1.trans e3) z) h2
  · obtain ⟨e, he⟩ : ∃ e, L[i]? = some e := ⟨L[i], List.getElem?_eq_getElem hi⟩
    obtain ⟨d, x1, x2, rfl, hd, r1, b, ws, rfl, hb, hw⟩ := y e he
    intro Q q
    have hv : (lensOf L).getD i 0 = e.2.length := by
      unfold lensOf
      rw [List.getD_eq_getElem?_getD, List.getElem?_map, he]; rfl
    refine ⟨d, [x1, .ref b], rfl, .inl hd, rfl, x1, [.ref b], rfl, .ref b, [], rfl, rfl, q _ _ ⟨Ex.refl _, ?_, et_yes, fun _ H2 e2 Q' q' => ⟨.ref b, ?_, .inl ⟨b, ws, rfl, .inr (.inl (rdx e2 hb)), q' _ H2 (Ex.refl _) ?_⟩⟩⟩⟩
    · show (((((σ.set 10 none).set 9 none).set 9 (some x1)).set 10 (some (.ref b))).set 10 none).set 9 none = (σ.set 10 none).set 9 none
      rw [List.set_set, List.set_set, List.set_comm _ _ (by decide : (10 : Nat) ≠ 9), List.set_set, List.set_comm _ _ (by decide : (9 : Nat) ≠ 10), List.set_set]
    · rw [List.getElem?_set]
      simp [wipe, hl]
    · show V.int _ = V.int _
      rw [hv, hw.length]
end B
/-! least_pairs, run. -/
namespace B
open PySem PySem.Spec PyProof.Rows L2
section
variable {ll : Gx.LL} {K : PySem.W.Frag} {σ : L2.St} {te ta tb : TE} {D : Gx.GEn} {j : Nat} {t : Gx.TGo} {i0 : Nat}
theorem g_for1 {n : Nat} (h : ∀ H, ll.At H → Ev Ex te σ H n) (hn : n ≤ 1000000) (Wf : Nat → Nat → L2.St → Prop) (w0 : Wf 0 j σ) (wd : ∀ j' σ', Wf n j' σ' → D.nx j' σ')
    (hs : ∀ i j' σ', i < n → Wf i j' σ' → t { nx := Wf (i + 1), ct := Wf (i + 1), bk := D.nx } j' (σ'.set i0 (some (.int ((i : Nat) : Int))))) : Gx.tGFor ll (iRng1 (tCons te tNil)) i0 t D j σ := fun H hl => h H hl H (Ex.refl H) _ fun v H2 e2 r => by
  obtain rfl : v = .int n := r
  refine ⟨n, rfl, by omega, by omega, e2, 0, n, rfl, Wf, w0, wd, fun i j' σ' hi hw => ?_⟩
  rw [Int.zero_add]
  exact hs i j' σ' hi hw
theorem g_for2 {lo hi : Nat} (h1 : ∀ H, ll.At H → Ev Ex ta σ H lo) (h2 : ∀ H, ll.At H → Ev Ex tb σ H hi) (hl : lo ≤ 1000000) (hh : hi ≤ 1000000) (Wf : Nat → Nat → L2.St → Prop) (w0 : Wf 0 j σ) (wd : ∀ j' σ', Wf (hi - lo) j' σ' → D.nx j' σ')
    (hs : ∀ i j' σ', i < hi - lo → Wf i j' σ' → t { nx := Wf (i + 1), ct := Wf (i + 1), bk := D.nx } j' (σ'.set i0 (some (.int ((lo + i : Nat) : Int))))) : Gx.tGFor ll (iRng2 (tCons ta (tCons tb tNil))) i0 t D j σ := fun H hA => h1 H hA H (Ex.refl H) _ fun v H2 e2 r => (h2 H hA) H2 e2 _ fun u H3 e3 r' => by
  obtain rfl : v = .int lo := r
  obtain rfl : u = .int hi := r'
  refine ⟨lo, hi, rfl, by omega, e2.trans e3, lo, hi - lo, ?_, Wf, w0, wd, fun i j' σ' hi' hw => ?_⟩
  · congr 1; omega
  · have := hs i j' σ' hi' hw
    rw [Int.natCast_add] at this
    exact this
theorem g_set {j0 : Nat} {α : Type} [Enc α] {a : α} (h : ∀ H, ll.At H → Ev Ex te σ H a) (k : ∀ v, (∃ H, Enc.rep (tp H) v a) → D.nx j (σ.set j0 (some v))) : Gx.tGP ll (tAsg te (gName j0)) D j σ := fun H hl => h H hl H (Ex.refl H) _ fun v H2 e2 r => ⟨e2, k v ⟨H2, r⟩⟩
theorem g_if {tc : TT} {b : Bool} (h : ∀ H, ll.At H → EvT Ex tc σ H b) (h1 : b = true → t D j σ) (h2 : b = false → D.nx j σ) : Gx.tGIf ll tc t D j σ := fun H hl => h H hl H (Ex.refl H) _ fun H2 e2 => ⟨e2, by
  cases b with
  | true => exact h1 rfl
  | false => exact h2 rfl⟩
theorem g_yield {PL : List (Int × Int)} {x y : Nat} (hp : PL[j]? = some ((x : Int), (y : Int))) (h1 : ∀ H, ll.At H → Ev Ex ta σ H x) (h2 : ∀ H, ll.At H → Ev Ex tb σ H y) (k : D.nx (j + 1) σ) : Gx.tGY ll PL (tTup (tCons ta (tCons tb tNil))) D j σ := fun H hl => ⟨x, y, hp, e_pair (h1 H hl) (h2 H hl) H (Ex.refl H) _ fun v H2 e2 r => by
  obtain ⟨d, v1, v2, rfl, hd, r1, r2⟩ := r
  obtain rfl : v1 = .int x := r1
  obtain rfl : v2 = .int y := r2
  exact ⟨⟨d, rfl, e2, hd⟩, k⟩⟩
end
theorem rep_tpR {H Hg : Hp} (t : Gx.TupEx H Hg) {α : Type} [Enc α] {v : V} {x : α} (r : Enc.rep (tp H) v x) : Enc.rep (tpR Hg) v x := Enc.mono (fun a vs h => t a vs (.inl h)) r
section
variable {P : Program} {w : World} {K : PySem.W.Frag} {mg : Str → Option Value} {base : Heap}
theorem ok_least_pairs (W : Wd K mg) : ∃ fd, Gx.GFnO P w K mg base 5 (He.ga K "least_pairs") fd p_least_pairs spPairs ∧ PySem.W.keepIn K (.ref (He.ga K "least_pairs")) = true ∧ Binds K fd p_least_pairs [] := by
  obtain ⟨fd, F⟩ := W.c.def_ 19 (d := K26.d_least_pairs) rfl
  have F : FunD K "least_pairs" "least_pairs" (defArgs K26.s_least_pairs) (defBody K26.s_least_pairs) (defScope K26.s_least_pairs) [] [] (He.ga K "least_pairs") fd := F
  have hb : Binds K fd p_least_pairs [] := F.bindsN (fun _ _ _ _ _ _ us hl => match us, hl with | [_], _ => rfl)
  have kp := F.kp
  obtain ⟨oc, od, dV, kV, doc, pm, an, cdv, ct, osl, rfl, lk, hcd, _, _⟩ := F.ex
  refine ⟨_, Gx.gfnO_of (k := 3) lk hcd sc_least_pairs (fun vs H PL h => by obtain ⟨v, L, rfl, _⟩ := h; rfl) (fun A outer L a go H vs PL hr gok h => ⟨_, w_least_pairs (k := 0) W hr gok, fun Hg ht => ?_⟩), kp, hb⟩
  obtain ⟨v0, LL, rfl, r0, hne, h60, hrow, hsrt, rfl⟩ := h
  have r0 := rep_tpR ht r0
  have hll : (lensOf LL).length = LL.length := by unfold lensOf; rw [List.length_map]
  have hle : ∀ x ∈ lensOf LL, x ≤ 60 := fun x hx => by
    obtain ⟨e, he, rfl⟩ := List.mem_map.mp hx
    exact hrow e he
  have hlast : (lensOf LL)[LL.length - 1]? = some (lgOf LL) := getD_at (by rw [hll]; omega)
  have hlg : lgOf LL ≤ 60 := hle _ (List.mem_of_getElem? hlast)
  have hmax : ∀ i, i < (lensOf LL).length → (lensOf LL).getD i 0 ≤ lgOf LL := fun i hi => getD_le hsrt (by omega) (by omega)
  generalize hlens : lensOf LL = lens at *
  generalize hlgv : lgOf LL = lg at *
  show Gx.tGPre _ _ _ _ _
  refine k_setL (Rl := Ex) (xs := lens) (by rw [← hlens]; exact lens_lc rfl (by show 10 < 11; decide) r0 h60 hrow) fun p1 vs1 H1 hn1 e1 hl1 rl1 => ⟨ext_ex e1, ?_⟩
  have hL1 : LsAt H1 p1 lens := ⟨vs1, hl1, rl1⟩
  refine k_set (Rl := Ex) (a := lg) (e_ixLsLast (xs := lens) (e_var rfl rfl) hL1.ls e_neg1 (by rw [hll]; exact hlast)) fun v2 H2 e2 r2 => ⟨ext_ex e2, ?_⟩
  obtain rfl : v2 = .int lg := r2
  refine k_setL (Rl := Ex) (xs := List.replicate (lg + 2) 0) (e_rep1 (eN 0) (e_addN (e_var (a := lg) rfl rfl) (eN 2)) (by omega) fr_ex) fun pb vs3 H3 hn3 e3 hl3 rl3 => ⟨ext_ex e3, ?_⟩
  have hL3 := hL1.mono (e2.trans e3)
  have hpb : p1 ≠ pb := fun z => by obtain ⟨_, q, _⟩ := hL1.mono e2; rw [z, hn3] at q; cases q
  have hB3 : LsAt H3 pb (List.replicate (lg + 2) 0) := ⟨vs3, hl3, rl3⟩
  have extOf : ∀ {Ha Hb : Hp} {xs : List Nat}, LsAt Ha pb xs → ExM (· = pb) Ha Hb → Gx.ExT Ha Hb := fun h e => by
    obtain ⟨_, q, _⟩ := h
    exact ext_of q (fun φ z => nomatch z) e
  have cnt0 : List.replicate (lg + 2) 0 = (List.range (lg + 2)).map (cnt (lens.take 0)) := by
    rw [List.take_zero, show cnt [] = (fun _ => 0) from rfl, List.map_const', List.length_range]
  have cntS : ∀ i x, lens[i]? = some x → ∀ b, cnt (lens.take (i + 1)) b = cnt (lens.take i) b + if x + 1 = b then 1 else 0 := fun i x hx b => by
    unfold cnt
    rw [List.take_add_one, hx, List.countP_append]
    simp [List.countP_cons]
  refine k_for (Rl := ExM (· = pb)) (wz_ls (xs := lens) (e_var rfl rfl) (hL3.lsM hpb)) (fun H4 i σ1 H5 => ExM (· = pb) H4 H5 ∧ (∃ o4, σ1 = [some v0, some (.ref p1), some (.int lg), some (.ref pb), o4, none, none, none, none, none, none]) ∧ LsAt H5 pb ((List.range (lg + 2)).map (cnt (lens.take i))))
    (fun H4 e4 => ⟨RlOk.refl _, ⟨_, rfl⟩, by rw [← cnt0]; exact hB3.mono e4⟩) (fun _ i σ1 H4 h => h.1) (fun _ i σ1 H4 H5 h e => ⟨RlOk.trans h.1 (RlOk.ex e), h.2.1, h.2.2.mono e⟩) ?_ ?_
  · rintro H4 e4 i x v _ H5 hx ⟨e5, ⟨o4, rfl⟩, hB⟩ hv
    obtain rfl : v = .int x := hv
    refine tgt_name ?_
    have hi : i < lens.length := (List.getElem?_eq_some_iff.mp hx).1
    have hxl : x ≤ lg := by
      have := hmax i hi
      rw [List.getD_eq_getElem?_getD, hx] at this
      exact this
    refine k_augS (K := K) (i := x + 1) (b := 1) rfl hB (e_addN (e_var (a := x) rfl rfl) (eN 1)) (at_map_range _ (by omega)) (eN 1) fun H6 e6 hB6 => ⟨RlOk.trans e5 e6, ⟨_, rfl⟩, ?_⟩
    rw [set_map_range _ (by omega)] at hB6
    have : (fun b => if b = x + 1 then cnt (lens.take i) (x + 1) + 1 else cnt (lens.take i) b) = cnt (lens.take (i + 1)) := by
      funext b
      rw [cntS i x hx b]
      by_cases h : b = x + 1
      · rw [if_pos h, if_pos h.symm, h]
      · rw [if_neg h, if_neg (fun z => h z.symm)]; rfl
    rw [this] at hB6
    exact hB6
  rintro H4 e4 _ H5 ⟨e5, ⟨o4, rfl⟩, hB5⟩
  rw [List.take_length] at hB5
  refine ⟨extOf hB3 (RlOk.trans (RlOk.ex e4) e5), ?_⟩
  have hL5 : LsAt H5 p1 lens := ((hL3.mono e4).lsM hpb |>.mono e5).to
  have start5 : (List.range (lg + 2)).map (cnt lens) = (List.range (lg + 2)).map fun b => if b ≤ 0 then bg lens b else cnt lens b := by
    refine List.map_congr_left fun b _ => ?_
    by_cases h : b ≤ 0
    · obtain rfl : b = 0 := by omega
      rw [if_pos h, bg_zero]
      unfold cnt
      rw [List.countP_eq_zero]
      intro x _ hh
      have := of_decide_eq_true hh
      omega
    · rw [if_neg h]
  refine k_for (Rl := ExM (· = pb)) (wz_rg1 (n := lg + 1) (ea_cons (e_addN (e_var (a := lg) rfl rfl) (eN 1)) ea_nil) (by omega)) (fun H6 i σ1 H7 => ExM (· = pb) H6 H7 ∧ (∃ o4, σ1 = [some v0, some (.ref p1), some (.int lg), some (.ref pb), o4, none, none, none, none, none, none]) ∧ LsAt H7 pb ((List.range (lg + 2)).map fun b => if b ≤ i then bg lens b else cnt lens b))
    (fun H6 e6 => ⟨RlOk.refl _, ⟨_, rfl⟩, by rw [← start5]; exact hB5.mono e6⟩) (fun _ i σ1 H4 h => h.1) (fun _ i σ1 H4 H5 h e => ⟨RlOk.trans h.1 (RlOk.ex e), h.2.1, h.2.2.mono e⟩) ?_ ?_
  · rintro H6 e6 i x v _ H7 hx ⟨e7, ⟨o4, rfl⟩, hB⟩ hv
    obtain rfl : v = .int x := hv
    obtain rfl := range_at hx
    have hi : x < lg + 1 := by have := (List.getElem?_eq_some_iff.mp hx).1; rwa [List.length_range] at this
    refine tgt_name ?_
    refine k_augS (K := K) (i := x + 1) (b := bg lens x) rfl hB (e_addN (e_var (a := x) rfl rfl) (eN 1)) (at_map_range _ (by omega)) (e_ixLs (e_var rfl rfl) hB.ls (e_var (a := x) rfl rfl) (by rw [at_map_range _ (by omega), if_pos (Nat.le_refl x)])) fun H8 e8 hB8 => ⟨RlOk.trans e7 e8, ⟨_, rfl⟩, ?_⟩
    rw [set_map_range _ (by omega)] at hB8
    have : (fun b => if b = x + 1 then (if x + 1 ≤ x then bg lens (x + 1) else cnt lens (x + 1)) + bg lens x else if b ≤ x then bg lens b else cnt lens b) = fun b => if b ≤ x + 1 then bg lens b else cnt lens b := by
      funext b
      by_cases h : b = x + 1
      · subst h
        rw [if_pos rfl, if_neg (by omega), if_pos (Nat.le_refl _), bg_succ]
      · rw [if_neg h]
        by_cases h2 : b ≤ x
        · rw [if_pos h2, if_pos (by omega)]
        · rw [if_neg h2, if_neg (by omega)]
    rw [this] at hB8
    exact hB8
  rintro H6 e6 _ H7 ⟨e7, ⟨o4', rfl⟩, hB7⟩
  refine ⟨extOf hB5 (RlOk.trans (RlOk.ex e6) e7), ?_⟩
  have hL7 : LsAt H7 p1 lens := ((hL5.mono e6).lsM hpb |>.mono e7).to
  rw [List.length_range] at hB7
  have fin7 : ((List.range (lg + 2)).map fun b => if b ≤ lg + 1 then bg lens b else cnt lens b) = (List.range (lg + 2)).map (bg lens) := List.map_congr_left fun b hb => by
    have := List.mem_range.mp hb
    rw [if_pos (by omega)]
  rw [fin7] at hB7
  obtain ⟨vsA, hA1, hA2⟩ := hL7
  obtain ⟨vsB, hB1, hB2⟩ := hB7
  have hA3 := RepA.ints.mp hA2
  have hB3' := RepA.ints.mp hB2
  refine ⟨⟨p1, pb, vsA, vsB⟩, ⟨hA1, hB1⟩, hpb, ?_⟩
  generalize hll' : (⟨p1, pb, vsA, vsB⟩ : Gx.LL) = ll
  have lsA : ∀ H, ll.At H → LsAt H p1 lens := fun H h => by subst hll'; exact ⟨vsA, h.1, RepA.ints.mpr hA3⟩
  have lsB : ∀ H, ll.At H → LsAt H pb ((List.range (lg + 2)).map (bg lens)) := fun H h => by subst hll'; exact ⟨vsB, h.2, RepA.ints.mpr hB3'⟩
  have bgl : ∀ l, bg lens l ≤ 60 := fun l => by have := bg_le lens l; omega
  refine g_for1 (n := 2 * lg + 1) (fun H hl => e_addN (e_mulN (eN 2) (e_var (a := lg) rfl rfl) (by constructor <;> omega)) (eN 1)) (by omega)
    (fun i j σ' => j = (((List.range (2 * lg + 1)).take i).flatMap (pMid lens lg)).length ∧ ∃ o4 o5 o6 o7 o8, σ' = [some v0, some (.ref p1), some (.int lg), some (.ref pb), o4, o5, o6, o7, o8, none, none])
    ⟨rfl, _, _, _, _, _, rfl⟩ (fun j' σ' ⟨h, _⟩ => ?_) ?_
  · show j' = _
    rw [h]
    have : (List.range (2 * lg + 1)).take (2 * lg + 1) = List.range (2 * lg + 1) := List.take_of_length_le (by rw [List.length_range]; exact Nat.le_refl _)
    rw [this]; rfl
  rintro total j _ hi ⟨rfl, o4, o5, o6, o7, o8, rfl⟩
  have htot : (List.range (2 * lg + 1))[total]? = some total := List.getElem?_range hi
  have hnx := flat_take_succ (pMid lens lg) htot
  refine g_for1 (n := bg lens (min (total / 2) lg + 1)) (fun H hl => e_ixLs (e_var rfl rfl) (lsB H hl).ls (e_addN (e_min (e_divN (e_var (a := total) rfl rfl) (eN 2) (by decide) (by decide)) (e_var (a := lg) rfl rfl)) (eN 1)) (at_map_range _ (by omega))) (by have := bgl (min (total / 2) lg + 1); omega)
    (fun i j σ' => j = (((List.range (2 * lg + 1)).take total).flatMap (pMid lens lg)).length + (((List.range (bg lens (min (total / 2) lg + 1))).take i).flatMap (pIn lens lg total)).length ∧ ∃ o4 o6 o7 o8, σ' = [some v0, some (.ref p1), some (.int lg), some (.ref pb), o4, some (.int (total : Nat)), o6, o7, o8, none, none])
    ⟨rfl, _, _, _, _, rfl⟩ (fun j' σ' ⟨h, z4, z6, z7, z8, hz⟩ => ?_) ?_
  · refine ⟨?_, z4, _, z6, z7, z8, hz⟩
    rw [hnx, h]
    have : (List.range (bg lens (min (total / 2) lg + 1))).take (bg lens (min (total / 2) lg + 1)) = List.range (bg lens (min (total / 2) lg + 1)) := List.take_of_length_le (by rw [List.length_range]; exact Nat.le_refl _)
    rw [this]; rfl
  rintro at_ j _ hat ⟨rfl, o4, o6, o7, o8, rfl⟩
  have hatl : at_ < lens.length := by have := bg_le lens (min (total / 2) lg + 1); omega
  have hla : lens.getD at_ 0 ≤ total := by
    have := (bg_iff hsrt hatl).mpr hat
    omega
  have hatr : (List.range (bg lens (min (total / 2) lg + 1)))[at_]? = some at_ := List.getElem?_range hat
  have hnx2 := flat_take_succ (pIn lens lg total) hatr
  refine g_set (a := total - lens.getD at_ 0) (fun H hl => e_subN (e_var (a := total) rfl rfl) (e_ixLs (e_var rfl rfl) (lsA H hl).ls (e_var (a := at_) rfl rfl) (getD_at hatl)) hla) fun v7 ⟨Hx, r7⟩ => ?_
  obtain rfl : v7 = .int ((total - lens.getD at_ 0 : Nat) : Int) := r7
  generalize hrest : total - lens.getD at_ 0 = rest at *
  refine g_if (b := decide (rest ≤ lg)) (fun H hl => et_test (e_op (e_var (a := rest) rfl rfl) (e_var (a := lg) rfl rfl) rv_leN)) (fun hb => ?_) fun hb => ?_
  · have hb := of_decide_eq_true hb
    have hpin : pIn lens lg total at_ = (List.range (bg lens (rest + 1) - max at_ (bg lens rest))).map fun i => ((at_ : Int), ((max at_ (bg lens rest) + i : Nat) : Int)) := by
      unfold pIn
      simp only [hrest]
      rw [if_pos hb]
    refine g_for2 (lo := max at_ (bg lens rest)) (hi := bg lens (rest + 1)) (fun H hl => e_max (e_var (a := at_) rfl rfl) (e_ixLs (e_var rfl rfl) (lsB H hl).ls (e_var (a := rest) rfl rfl) (at_map_range _ (by omega)))) (fun H hl => e_ixLs (e_var rfl rfl) (lsB H hl).ls (e_addN (e_var (a := rest) rfl rfl) (eN 1)) (at_map_range _ (by omega))) (by have := bgl rest; omega) (by have := bgl (rest + 1); omega)
      (fun i j σ' => j = (((List.range (2 * lg + 1)).take total).flatMap (pMid lens lg)).length + (((List.range (bg lens (min (total / 2) lg + 1))).take at_).flatMap (pIn lens lg total)).length + i ∧ ∃ o4 o8, σ' = [some v0, some (.ref p1), some (.int lg), some (.ref pb), o4, some (.int (total : Nat)), some (.int (at_ : Nat)), some (.int (rest : Nat)), o8, none, none])
      ⟨rfl, _, _, rfl⟩ (fun j' σ' ⟨h, z4, z8, hz⟩ => ?_) ?_
    · refine ⟨?_, z4, _, _, z8, hz⟩
      rw [hnx2, h, hpin, List.length_map, List.length_range]
      omega
    · rintro i j _ hi2 ⟨rfl, o4, o8, rfl⟩
      have h1 : (pIn lens lg total at_)[i]? = some ((at_ : Int), ((max at_ (bg lens rest) + i : Nat) : Int)) := by
        rw [hpin, List.getElem?_map, List.getElem?_range hi2]; rfl
      have h2 := flat_at (pIn lens lg total) hatr (List.getElem?_eq_some_iff.mp h1).1
      have h3 := flat_at (pMid lens lg) htot (k := (((List.range (bg lens (min (total / 2) lg + 1))).take at_).flatMap (pIn lens lg total)).length + i) (List.getElem?_eq_some_iff.mp (h2.trans h1)).1
      refine g_yield (x := at_) (y := max at_ (bg lens rest) + i) ?_ (fun H hl => e_var rfl rfl) (fun H hl => e_var rfl rfl) ⟨by omega, _, _, rfl⟩
      rw [← Nat.add_assoc] at h3
      exact h3.trans (h2.trans h1)
  · have hb := of_decide_eq_false hb
    have hpin : pIn lens lg total at_ = [] := by
      unfold pIn
      simp only [hrest]
      rw [if_neg hb]
    refine ⟨?_, _, _, _, _, rfl⟩
    rw [hnx2, hpin]; rfl
end
end B
/-! the lots of a machine. -/
namespace B
open PySem PySem.Spec PyProof.Rows L2
def IsLot (n : Nat) (ds : List Deed) (lot : List Nat) : Prop := ∃ f g, Gen n ds f ∧ Gen n ds g ∧ lot = shared f g
theorem shared_comm {n : Nat} {f g : List Nat} (hf : Eff n f) (hg : Eff n g) : shared f g = shared g f := by
  unfold shared
  rw [hf.1, hg.1]
  exact List.filter_congr fun s _ => decide_eq_decide.mpr eq_comm
def lotOf (L : List Led) (x y : Nat) : List Nat := shared ((L.getD x ([], [])).1) ((L.getD y ([], [])).1)
section
variable {Rl : Hp → Hp → Prop} [RlOk Rl] {K : PySem.W.Frag} {σ : L2.St} {H H' : Hp} {ta tb te : TE} {α β : Type} [Enc α] [Enc β] {D : Ends}
/-- x = f(.., most=m), the answer left open -/
theorem k_setN {ι : Type} {pre : ι → Hp → Prop} {ms : ι → List MP} {post : ι → β → Prop} {E : XK} {t : TE} {j : Nat} (i : ι) (h : ∀ Q : VK, (∀ v b H2, Ex H H2 → post i b → Enc.rep (tp H2) v b → Q v H2) → t σ H Q) (k : ∀ v b H2, Ex H H2 → post i b → Enc.rep (tp H2) v b → D.nx (σ.set j (some v)) H2) : tAsg t (gName j) D σ H := h _ k
theorem n_callN {ι : Type} {pre : ι → Hp → Prop} {ms : ι → List MP} {post : ι → β → Prop} {E : XK} (i : ι) {m1 m2 : MP} (hms : ms i = [m1, m2]) (h1 : EvA Ex (tCons ta tNil) σ H [m1]) (h2 : EvA Ex (tCons tb tNil) σ H [m2]) (hp : ∀ H1, Ex H H1 → pre i H1) (Q : VK) (q : ∀ v b H2, Ex H H2 → post i b → Enc.rep (tp H2) v b → Q v H2) :
    tCallN 1 (["most"] : List Str).length (spN pre ms post) (fun vs zs => vs ++ zs) E (tCons ta tNil) (tCons tb tNil) σ H Q := h1 H (Ex.refl H) _ fun vs H1 e1 r1 => h2 H1 e1 _ fun zs H2 e2 r2 => by
  obtain ⟨v, rfl, s1⟩ := reps1 r1
  obtain ⟨z, rfl, s2⟩ := reps1 r2
  exact ⟨rfl, rfl, i, hp H2 (e1.trans e2), by rw [hms]; exact ⟨m1.mono (RlOk.tup e2) s1, s2, trivial⟩, fun v b H3 e3 p r => q v b H3 (e1.trans (e2.trans e3)) p r⟩
end
theorem k_all {K : PySem.W.Frag} {σ : L2.St} {H : Hp} {D : Ends} {jm jo j n most : Nat} {p : Addr} {ds : List Deed} (h0 : σ[jm]? = some (some (.ref p))) (h1 : σ[jo]? = some (some (.int (most : Nat)))) (ok : MachOk n ds) (sm : Small n ds) (hm : 61 ≤ most) (hM : MachAt K H p n ds)
    (k : ∀ v L H2, Ex H H2 → AllE n ds L → Enc.rep (tp H2) v L → D.nx (σ.set j (some v)) H2) : tAsg (tCallN 1 (["most"] : List Str).length (spAll K) (fun vs zs => vs ++ zs) E0 (tCons (tVar jm) tNil) (tCons (tVar jo) tNil)) (gName j) D σ H :=
  n_callN (ι := Nat × List Deed × Addr × Nat) (post := fun i (L : List Led) => AllE i.1 i.2.1 L) (n, ds, p, most) rfl (ea_cons (e_var (a := Raw.mk (.ref p)) h0 rfl) ea_nil) (ea_cons (e_var (a := most) h1 rfl) ea_nil) (fun H1 e => ⟨ok, sm, hm, hM.mono e⟩) _ fun v L H2 e al r => k v L H2 e al r
theorem AllE.eff {n : Nat} {ds : List Deed} {L : List Led} (a : AllE n ds L) (ok : MachOk n ds) : ∀ e ∈ L, Eff n e.1 := fun e he => (a.gen e he).eff ok.eff
theorem AllE.pairs {n : Nat} {ds : List Deed} {L : List Led} (a : AllE n ds L) (sm : Small n ds) {H : Hp} {v : V} (r : Enc.rep (tp H) v L) : spPairs [v] H (pAll (lensOf L) (lgOf L)) :=
  ⟨v, L, rfl, r, by have := (List.getElem?_eq_some_iff.mp a.h0).1; exact this, a.len sm, a.rows sm, a.srt, rfl⟩
theorem pAll_at {L : List Led} {i : Nat} {x y : Int} (h : (pAll (lensOf L) (lgOf L))[i]? = some (x, y)) : ∃ a b : Nat, x = a ∧ y = b ∧ a < L.length ∧ b < L.length := by
  obtain ⟨a, b, h1, h2, h3, h4⟩ := pAll_lt (List.mem_of_getElem? h)
  unfold lensOf at h3 h4
  rw [List.length_map] at h3 h4
  exact ⟨a, b, h1, h2, h3, h4⟩
/-- every lot comes from one of the pairs -/
theorem AllE.lots {n : Nat} {ds : List Deed} {L : List Led} (al : AllE n ds L) (ok : MachOk n ds) {lot : List Nat} (h : IsLot n ds lot) : ∃ (i a b : Nat), (pAll (lensOf L) (lgOf L))[i]? = some ((a : Int), (b : Int)) ∧ lot = lotOf L a b ∧ a < L.length ∧ b < L.length := by
  obtain ⟨f, g, hf, hg, rfl⟩ := h
  obtain ⟨e1, h1, rfl⟩ := al.all f hf
  obtain ⟨e2, h2, rfl⟩ := al.all g hg
  obtain ⟨a, ha⟩ := List.getElem?_of_mem h1
  obtain ⟨b, hb⟩ := List.getElem?_of_mem h2
  have hal := (List.getElem?_eq_some_iff.mp ha).1
  have hbl := (List.getElem?_eq_some_iff.mp hb).1
  have hll : (lensOf L).length = L.length := by unfold lensOf; rw [List.length_map]
  have hmax : ∀ i, i < (lensOf L).length → (lensOf L).getD i 0 ≤ lgOf L := fun i hi => getD_le al.srt (by omega) (by show _ < (lensOf L).length; omega)
  have ea : (L.getD a ([], [])) = e1 := by rw [List.getD_eq_getElem?_getD, ha]; rfl
  have eb : (L.getD b ([], [])) = e2 := by rw [List.getD_eq_getElem?_getD, hb]; rfl
  rcases Nat.le_total a b with hab | hab
  · obtain ⟨i, hi⟩ := List.getElem?_of_mem (pAll_mem (lens := lensOf L) (lg := lgOf L) al.srt hmax hab (by rw [hll]; exact hbl))
    exact ⟨i, a, b, hi, by unfold lotOf; rw [ea, eb], hal, hbl⟩
  · obtain ⟨i, hi⟩ := List.getElem?_of_mem (pAll_mem (lens := lensOf L) (lg := lgOf L) al.srt hmax hab (by rw [hll]; exact hal))
    exact ⟨i, b, a, hi, by unfold lotOf; rw [ea, eb]; exact shared_comm (al.eff ok e1 h1) (al.eff ok e2 h2), hbl, hal⟩
theorem AllE.isLot {n : Nat} {ds : List Deed} {L : List Led} (al : AllE n ds L) {a b : Nat} (ha : a < L.length) (hb : b < L.length) : IsLot n ds (lotOf L a b) := by
  unfold lotOf
  rw [List.getD_eq_getElem?_getD, List.getD_eq_getElem?_getD, List.getElem?_eq_getElem ha, List.getElem?_eq_getElem hb]
  exact ⟨_, _, al.gen _ (List.getElem_mem ha), al.gen _ (List.getElem_mem hb), rfl⟩
theorem getL {L : List Led} {a : Nat} (ha : a < L.length) : L[a]? = some (L.getD a ([], [])) := by
  rw [List.getD_eq_getElem?_getD, List.getElem?_eq_getElem ha]; rfl
/-- the lot of a pair, walked -/
theorem e_lot {K : PySem.W.Frag} {σ : L2.St} {H : Hp} {n jl ja jb : Nat} {ds : List Deed} {L : List Led} {v : V} {a b : Nat} (al : AllE n ds L) (ok : MachOk n ds) (hl : σ[jl]? = some (some v)) (r : Enc.rep (tp H) v L) (ha : a < L.length) (hb : b < L.length) (hja : σ[ja]? = some (some (.int (a : Nat)))) (hjb : σ[jb]? = some (some (.int (b : Nat)))) :
    Ev Ex (tCall spShared [] E0 (tCons (tOp (rIxU K) (tOp (rIxU K) (tVar jl) (tVar ja)) (tC (.int 0))) (tCons (tOp (rIxU K) (tOp (rIxU K) (tVar jl) (tVar jb)) (tC (.int 0))) tNil))) σ H (lotOf L a b) := by
  have ea := al.eff ok _ (List.mem_of_getElem? (getL ha))
  have eb := al.eff ok _ (List.mem_of_getElem? (getL hb))
  have hn : n ≤ 1000000 := by have h1 : 2 ≤ n := ok.lo; have h2 : n ≤ 49 := ok.hi; omega
  exact e_call (ι := List Nat × List Nat) (res := fun i => shared i.1 i.2) ((L.getD a ([], [])).1, (L.getD b ([], [])).1) (ea_cons (e_fst (p := L.getD a ([], [])) (e_ixT (e_var hl r) (e_var (a := a) hja rfl) (getL ha)) (eN 0)) (ea_cons (e_fst (p := L.getD b ([], [])) (e_ixT (e_var hl r) (e_var (a := b) hjb rfl) (getL hb)) (eN 0)) ea_nil)) fun _ _ => ⟨by show (L.getD a ([], [])).1.length ≤ _; rw [ea.1]; exact hn, by show Eff (L.getD a ([], [])).1.length _; rw [ea.1]; exact ea, by show Eff (L.getD a ([], [])).1.length _; rw [ea.1]; exact eb⟩
theorem flat_len {α β : Type} (f : α → List β) (k : Nat) : ∀ xs : List α, (∀ x ∈ xs, (f x).length ≤ k) → (xs.flatMap f).length ≤ xs.length * k
  | [], _ => Nat.zero_le _
  | x :: xs, h => by
    rw [List.flatMap_cons, List.length_append, List.length_cons, Nat.succ_mul]
    have h1 := h x List.mem_cons_self
    have h2 := flat_len f k xs fun y hy => h y (List.mem_cons_of_mem _ hy)
    omega
theorem lots_le {n : Nat} {ds : List Deed} {L : List Led} (al : AllE n ds L) (sm : Small n ds) {ks : List (List Nat)} (nd : ks.Nodup) (h : ∀ lot ∈ ks, IsLot n ds lot) : ks.length ≤ 3600 := by
  have h1 := nodup_le nd (m := (L.map (·.1)).flatMap fun f => (L.map (·.1)).map fun g => shared f g) fun lot hl => by
    obtain ⟨f, g, hf, hg, rfl⟩ := h lot hl
    obtain ⟨e1, m1, rfl⟩ := al.all f hf
    obtain ⟨e2, m2, rfl⟩ := al.all g hg
    exact List.mem_flatMap.mpr ⟨e1.1, List.mem_map_of_mem m1, List.mem_map.mpr ⟨e2.1, List.mem_map_of_mem m2, rfl⟩⟩
  have h2 := flat_len (fun f => (L.map (·.1)).map fun g => shared f g) 60 (L.map (·.1)) fun f _ => by
    rw [List.length_map, List.length_map]; exact al.len sm
  rw [List.length_map] at h2
  have h3 := al.len sm
  have h4 : L.length * 60 ≤ 60 * 60 := Nat.mul_le_mul_right 60 h3
  omega
theorem gfn_mono {P : Program} {w : World} {K : PySem.W.Frag} {mg : Str → Option Value} {base : Heap} {j k : Nat} {f : Addr} {fd : FuncData} {ps : List Str} {sp : Gx.SpO} (F : Gx.GFnO P w K mg base j f fd ps sp) (h : j ≤ k) : Gx.GFnO P w K mg base k f fd ps sp :=
  ⟨F.len, fun A outer s H args us vs PL hr => F.run A outer s H args us vs PL (hr.mono h)⟩
def preM (K : PySem.W.Frag) (i : Nat × List Deed × Addr × Nat) (H : Hp) : Prop := MachOk i.1 i.2.1 ∧ Small i.1 i.2.1 ∧ 61 ≤ i.2.2.2 ∧ MachAt K H i.2.2.1 i.1 i.2.1
def msM (i : Nat × List Deed × Addr × Nat) : List MP := [mp (Raw.mk (.ref i.2.2.1)), mp i.2.2.2]
def spRows (K : PySem.W.Frag) : Sp := fun vs H Q _ => ∃ i, preM K i H ∧ Reps (tp H) (msM i) vs ∧ ∀ d ks H2, H d = none → Ex H H2 → DtAt H2 d ks → ks.Nodup → ks.length ≤ 3600 → (∀ lot, lot ∈ ks ↔ IsLot i.1 i.2.1 lot) → Q (.ref d) H2
section
variable {P : Program} {w : World} {K : PySem.W.Frag} {mg : Str → Option Value} {base : Heap}
theorem ok_lot_rows (W : Wd K mg) : Fn P w K mg base 12 "lot_rows" p_lot_rows (spRows K) := by
  obtain ⟨fdg, GF, KG, BG⟩ := ok_least_pairs (P := P) (w := w) (base := base) W
  refine fn_ok (k := 8) W 20 sc_lot_rows (fun vs H Q E h => by obtain ⟨i, _, r, _⟩ := h; rw [reps_len r]; rfl) (fun _ _ _ _ _ _ us hl => match us, hl with | [_, _], _ => rfl) fun f cdv A outer s H vs Q E hr h => ⟨_, w_lot_rows spShared (spAll K) spPairs W hr (F_shared_states := (ok_shared_states W).mono (by decide)) (F_all_effects := ok_all_effects W) (F_least_pairs := gfn_mono GF (by decide)) (KG := KG) (BG := BG), ?_⟩
  obtain ⟨⟨n, ds, p, most⟩, ⟨ok, sm, hm, hM⟩, hr', hq⟩ := h
  obtain ⟨v0, v1, rfl, r0, r1⟩ := reps2 hr'
  obtain rfl : v0 = .ref p := r0
  obtain rfl : v1 = .int most := r1
  show tSeq _ _ _ _ _
  refine k_seq (k_all rfl rfl ok sm hm hM fun v2 L H1 e1 al r2 => ?_)
  dsimp only
  refine k_seq ?_
  intro pd hn3
  have e2 : Ex H1 (upd H1 pd (.dT [])) := Ex.new hn3
  have r2' := up (Rl := Ex) e2 r2
  refine k_seq ?_
  refine ⟨v2, rfl, pAll (lensOf L) (lgOf L), al.pairs sm r2', fun i σ' H' => ExM (· = pd) (upd H1 pd (.dT [])) H' ∧ ∃ (ks : List (List Nat)), ∃ o4 o5 o6, σ' = [some (.ref p), some (.int (most : Nat)), some v2, some (.ref pd), o4, o5, o6] ∧ DtAt H' pd ks ∧ ks.Nodup ∧ (∀ lot ∈ ks, IsLot n ds lot) ∧ ∀ (k a b : Nat), k < i → (pAll (lensOf L) (lgOf L))[k]? = some (((a : Nat) : Int), ((b : Nat) : Int)) → lotOf L a b ∈ ks,
    ⟨RlOk.refl _, [], _, _, _, rfl, ⟨[], upd_same, rfl⟩, List.nodup_nil, fun lot h => (nomatch h), fun k a b h => absurd h (Nat.not_lt_zero k)⟩, ?_, ?_⟩
  · rintro σ' H' ⟨e3, ks, o4, o5, o6, rfl, hD, nd, hk1, hk2⟩
    dsimp only
    refine ⟨.ref pd, rfl, hq pd ks H' (RlOk.back (Rl := Ex) e1 hn3) (ExM.out e1 (RlOk.trans (RlOk.ex e2) e3) fun a ha => by subst ha; exact RlOk.back (Rl := Ex) e1 hn3) hD nd (lots_le al sm nd hk1) fun lot => ⟨hk1 lot, fun h => ?_⟩⟩
    obtain ⟨i, a, b, h1, rfl, _, _⟩ := al.lots ok h
    exact hk2 i a b (List.getElem?_eq_some_iff.mp h1).1 h1
  · rintro i x y σ' H' hxy ⟨e3, ks, o4, o5, o6, rfl, hD, nd, hk1, hk2⟩ q hq'
    obtain ⟨a, b, rfl, rfl, ha, hb⟩ := pAll_at hxy
    have e4 : Ex H' (upd H' q (.tup [.int (a : Nat), .int (b : Nat)])) := Ex.new hq'
    refine ⟨q, [.int a, .int b], rfl, SqT.of upd_same, rfl, .int a, [.int b], rfl, .int b, [], rfl, rfl, ?_⟩
    have r24 := up (Rl := Ex) e4 (up (Rl := ExM (· = pd)) e3 r2')
    have hD4 := hD.mono e4
    refine k_seq (k_set (Rl := Ex) (a := lotOf L a b) (e_lot al ok rfl r24 ha hb rfl rfl) fun v6 H6 e6 r6 => ?_)
    dsimp only
    have hD6 := hD4.mono e6
    refine k_if (Rl := Ex) (b := !decide (lotOf L a b ∈ ks)) (et_test (e_ninDict (e_var rfl r6) (e_var rfl rfl) hD6)) (fun hbb H7 e7 => ?_) fun hbb H7 e7 => ?_
    · have hnin : lotOf L a b ∉ ks := fun z => by rw [decide_eq_true z] at hbb; cases hbb
      have hlen := lots_le al sm nd hk1
      have r27 := up (Rl := Ex) (e6.trans e7) r24
      refine k_dput (a := ((L.getD a ([], [])).2, (L.getD b ([], [])).2)) rfl rfl (up (Rl := Ex) e7 r6) (hD6.mono e7) hnin (by omega) (e_pair (e_snd (p := L.getD a ([], [])) (e_ixT (e_var rfl r27) (e_var (a := a) rfl rfl) (getL ha)) (eN 1)) (e_snd (p := L.getD b ([], [])) (e_ixT (e_var rfl r27) (e_var (a := b) rfl rfl) (getL hb)) (eN 1))) fun H8 e8 hD8 => ⟨RlOk.trans e3 (RlOk.trans (RlOk.ex (e4.trans (e6.trans e7))) e8), _, _, _, _, rfl, hD8, nd_snoc nd hnin, fun lot hl => ?_, fun k a' b' hk hp => ?_⟩
      · rcases List.mem_append.mp hl with h | h
        · exact hk1 lot h
        · rw [List.mem_singleton.mp h]; exact al.isLot ha hb
      · by_cases h : k < i
        · exact List.mem_append_left _ (hk2 k a' b' h hp)
        · have : k = i := by omega
          subst this
          rw [hxy] at hp
          injection hp with hp
          injection hp with h1 h2
          have h1 : a = a' := by omega
          have h2 : b = b' := by omega
          subst h1 h2
          exact List.mem_append_right _ (by simp)
    · have hin : lotOf L a b ∈ ks := by simpa using hbb
      refine ⟨RlOk.trans e3 (RlOk.ex (e4.trans (e6.trans e7))), ks, _, _, _, rfl, hD6.mono e7, nd, hk1, fun k a' b' hk hp => ?_⟩
      by_cases h : k < i
      · exact hk2 k a' b' h hp
      · have : k = i := by omega
        subst this
        rw [hxy] at hp
        injection hp with hp
        injection hp with h1 h2
        have h1 : a = a' := by omega
        have h2 : b = b' := by omega
        subst h1 h2
        exact hin
end
end B
/-! exchange_lots, meet_of, vouched_states, against_vouching, least_lie. -/
namespace B
open PySem PySem.Spec PyProof.Rows L2
def spLots (K : PySem.W.Frag) : Sp := spN (ι := Nat × List Deed × Addr × Nat) (preM K) msM fun i (r : List (List Nat)) => r.length ≤ 3600 ∧ ∀ lot, lot ∈ r ↔ IsLot i.1 i.2.1 lot
def meetOf (n : Nat) (lots : List (List Nat)) (states : List Nat) : List Nat := (List.range n).filter fun s => lots.all fun lot => !within states lot || decide (s ∈ lot)
def spMeet : Sp := spP (ι := Nat × List (List Nat) × List Nat) (fun i _ => i.1 ≤ 1000000 ∧ i.2.2.length ≤ 1000000) (fun i => [mp i.1, mp i.2.1, mp i.2.2]) fun i => meetOf i.1 i.2.1 i.2.2
/-- the states that the lots vouch for -/
noncomputable def vouch (n : Nat) (ds : List Deed) (states : List Nat) : List Nat := (List.range n).filter fun s => @decide (∀ lot, IsLot n ds lot → within states lot = true → s ∈ lot) (Classical.propDecidable _)
theorem meet_vouch {n : Nat} {ds : List Deed} {lots : List (List Nat)} (h : ∀ lot, lot ∈ lots ↔ IsLot n ds lot) (states : List Nat) : meetOf n lots states = vouch n ds states := by
  unfold meetOf vouch
  refine List.filter_congr fun s _ => ?_
  rw [Bool.eq_iff_iff, List.all_eq_true, @decide_eq_true_eq _ (Classical.propDecidable _)]
  constructor
  · intro q lot hl hw
    have := q lot ((h lot).mpr hl)
    rw [hw] at this
    simpa using this
  · intro q lot hl
    cases hw : within states lot with
    | false => rfl
    | true => exact decide_eq_true (q lot ((h lot).mp hl) hw)
def spVouch (K : PySem.W.Frag) : Sp := fun vs H Q _ => ∃ (i : Nat × List Deed × Addr × Nat) (st : List Nat), preM K i H ∧ st.length ≤ 1000000 ∧ Reps (tp H) [mp (Raw.mk (.ref i.2.2.1)), mp st, mp i.2.2.2] vs ∧ ∀ v H2, Ex H H2 → Enc.rep (tp H2) v (vouch i.1 i.2.1 st) → Q v H2
theorem keys_bs {H : Hp} {kvs : List (List L2.Key × V)} {bs : List Addr} {ks : List (List Nat)} (h : IsKeys H kvs bs) (e : kvs.map (·.1) = ks.map keyN) : ∃ cs : List (Addr × List Nat), bs = cs.map (·.1) ∧ ks = cs.map (·.2) ∧ ∀ c ∈ cs, H c.1 = some (.tup (c.2.map fun (n : Nat) => V.int n)) := by
  unfold IsKeys at h
  induction h generalizing ks with
  | nil =>
    cases ks with
    | nil => exact ⟨[], rfl, rfl, fun c h => (nomatch h)⟩
    | cons => cases e
  | @cons kv b kvs bs h t ih =>
    cases ks with
    | nil => cases e
    | cons k ks =>
      rw [List.map_cons, List.map_cons] at e
      injection e with e1 e2
      obtain ⟨cs, h1, h2, h3⟩ := ih e2
      refine ⟨(b, k) :: cs, by rw [h1]; rfl, by rw [h2]; rfl, fun c hc => ?_⟩
      rcases List.mem_cons.mp hc with rfl | hc
      · rw [← keyN_map, ← e1]; exact h
      · exact h3 c hc
theorem rep_refs {H : Hp} : ∀ {cs : List (Addr × List Nat)}, (∀ c ∈ cs, H c.1 = some (.tup (c.2.map fun (n : Nat) => V.int n))) → RepA (tp H) (cs.map fun b => V.ref b.1) (cs.map (·.2))
  | [], _ => trivial
  | c :: cs, h => ⟨⟨c.1, _, rfl, h c List.mem_cons_self, RepA.ints.mpr rfl⟩, rep_refs fun d hd => h d (List.mem_cons_of_mem _ hd)⟩
section
variable {P : Program} {w : World} {K : PySem.W.Frag} {mg : Str → Option Value} {base : Heap}
/-- the lots' calls of lot_rows -/
theorem n_rows {σ : L2.St} {H : Hp} {n most : Nat} {p : Addr} {ds : List Deed} {Q : VK} (h0 : σ[0]? = some (some (.ref p))) (h1 : σ[1]? = some (some (.int (most : Nat)))) (pre : preM K (n, ds, p, most) H)
    (q : ∀ d ks H2, H d = none → Ex H H2 → DtAt H2 d ks → ks.Nodup → ks.length ≤ 3600 → (∀ lot, lot ∈ ks ↔ IsLot n ds lot) → Q (.ref d) H2) : tCall (spRows K) [] E0 (tCons (tVar 0) (tCons (tVar 1) tNil)) σ H Q :=
  ⟨.ref p, h0, .int most, h1, (n, ds, p, most), pre, ⟨rfl, rfl, trivial⟩, q⟩
theorem ok_exchange_lots (W : Wd K mg) : FnK P w K mg base 16 "exchange_lots" p_exchange_lots 1 ["most"] [.int 400] (spLots K) := by
  obtain ⟨fk, FK⟩ := W.c.def_ 14 (d := K26.d_lot_key) rfl
  have FK : FunD K "lot_key" "lot_key" (defArgs K26.s_lot_key) (keyBody _ _ _ _ _ _ _) (defScope K26.s_lot_key) [] [] (He.ga K "lot_key") fk := FK
  have hbk : Binds K fk ["lot"] [] := FunD.bindsN (ps := ["lot"]) FK (fun _ _ _ _ _ _ us hl => match us, hl with | [_], _ => rfl)
  refine fnk_ok (k := 12) W 21 1 sc_exchange_lots rfl (spN_len fun _ => rfl) (fun D doc pm an cdv ct us ks h1 h2 => ?_) (fun D doc pm an cdv ct us ws h1 h2 => ?_) fun f cdv A outer s H vs Q E hr h => ⟨_, w_exchange_lots (spRows K) W hr (F_lot_rows := ok_lot_rows W) (CRS := fun X hK hmg hA => ?_), ?_⟩
  · match us, ks, h1, h2 with
    | [u], [k], _, _ => exact ⟨_, _, _, _, _, _, rfl, rfl, rfl⟩
  · match us, ws, h1, h2 with
    | [u], [k], _, _ => rfl
  · subst hK hmg
    exact cr_sortLots (X := X) FK ⟨rfl, rfl, rfl, by decide +kernel, rfl, by decide +kernel, by decide +kernel⟩ rfl rfl (W.free 56) hbk (by rw [hA]; exact hr.mono (by decide))
  obtain ⟨⟨n, ds, p, most⟩, pre, hr', hq⟩ := h
  obtain ⟨v0, v1, rfl, r0, r1⟩ := reps2 hr'
  obtain rfl : v0 = .ref p := r0
  obtain rfl : v1 = .int most := r1
  show tCall _ _ _ _ _ _ _
  refine n_rows rfl rfl pre fun d ks H1 hn1 e1 hD nd hlen hks => ?_
  obtain ⟨kvs, hd, hk⟩ := hD
  refine ⟨d, kvs, rfl, .inl hd, fun p1 bs hp1 hkb => ?_⟩
  obtain ⟨cs, rfl, rfl, hcs⟩ := keys_bs hkb hk
  have e2 : Ex H1 (upd H1 p1 (.lst ((cs.map (·.1)).map V.ref))) := Ex.new hp1
  have hcs2 : ∀ c ∈ cs, (upd H1 p1 (.lst ((cs.map (·.1)).map V.ref))) c.1 = some (.tup (c.2.map fun (n : Nat) => V.int n)) := fun c hc => e2 _ _ (hcs c hc)
  refine ⟨p1, cs, rfl, rfl, ?_, hcs2, fun p2 ds' hp2 hperm => ?_⟩
  · have : (cs.map fun b => V.ref b.1) = (cs.map (·.1)).map V.ref := by rw [List.map_map]; rfl
    rw [this]
    exact SqL.of upd_same
  have e3 := Ex.new (o := .lst (ds'.map fun b => V.ref b.1)) hp2
  refine .inl ⟨p2, _, rfl, SqL.of upd_same, fun p3 hp3 => ?_⟩
  have e4 := Ex.new (o := .tup (ds'.map fun b => V.ref b.1)) hp3
  have e04 := e1.trans (e2.trans (e3.trans e4))
  refine hq _ (ds'.map (·.2)) _ e04 ⟨?_, fun lot => ?_⟩ ⟨p3, _, rfl, upd_same, rep_refs fun c hc => e4 _ _ (e3 _ _ (hcs2 c (hperm.mem_iff.mp hc)))⟩
  · rw [List.length_map, hperm.length_eq]
    rwa [List.length_map] at hlen
  · rw [← hks lot, List.mem_map, List.mem_map]
    exact ⟨fun ⟨c, hc, e⟩ => ⟨c, hperm.mem_iff.mp hc, e⟩, fun ⟨c, hc, e⟩ => ⟨c, hperm.mem_iff.mpr hc, e⟩⟩
theorem ok_meet_of (W : Wd K mg) : Fn P w K mg base 8 "meet_of" p_meet_of spMeet := by
  refine fn_ok (k := 4) W 25 sc_meet_of (spP_len fun _ => rfl) (fun _ _ _ _ _ _ us hl => match us, hl with | [_, _, _], _ => rfl) fun f cdv A outer s H vs Q E hr h => ⟨_, w_meet_of spWithin W hr (ok_lot_within W), ?_⟩
  obtain ⟨⟨n, lots, st⟩, ⟨hn, hst⟩, hr', hq⟩ := h
  obtain ⟨v0, v1, v2, rfl, r0, r1, r2⟩ := reps3 hr'
  obtain rfl : v0 = .int n := r0
  show tSeq _ _ _ _ _
  refine k_seq (k_set (Rl := Ex) (a := List.range n) (e_tupRg (e_var rfl rfl) hn) fun v3 H1 e1 r3 => ?_)
  dsimp only
  have take0 : meetOf n (lots.take 0) st = List.range n := by
    unfold meetOf
    rw [List.take_zero]
    exact List.filter_eq_self.mpr fun _ _ => rfl
  refine k_seq (k_for (Rl := Ex) (wz_tup (xs := lots) (e_var rfl (up (Rl := Ex) e1 r1))) (fun H3 i σ1 H4 => Ex H3 H4 ∧ ∃ x3 o4 o5, σ1 = [some (.int n), some v1, some v2, some x3, o4, o5] ∧ Enc.rep (tp H4) x3 (meetOf n (lots.take i) st))
    (fun H3 e3 => ⟨Ex.refl _, _, _, _, rfl, by rw [take0]; exact up (Rl := Ex) e3 r3⟩) (fun _ i σ1 H4 h => h.1) (fun _ i σ1 H4 H5 ⟨a, x3, o4, o5, b, c⟩ e => ⟨a.trans e, x3, o4, o5, b, up (Rl := Ex) e c⟩) ?_ ?_)
  · rintro H3 e3 i lot v _ H4 hx ⟨e4, x3, o4, o5, rfl, rx3⟩ y
    have r2' : Enc.rep (tp H4) v2 st := up (Rl := Ex) (e1.trans (e3.trans e4)) r2
    have htk : meetOf n (lots.take (i + 1)) st = (meetOf n (lots.take i) st).filter fun s => !within st lot || decide (s ∈ lot) := by
      unfold meetOf
      rw [List.take_add_one, hx, List.filter_filter]
      refine List.filter_congr fun s _ => ?_
      rw [List.all_append, Bool.and_comm]
      simp
    have hlen : (meetOf n (lots.take i) st).length ≤ 1000000 := by
      have h1 := List.length_filter_le (fun s => (lots.take i).all fun lot => !within st lot || decide (s ∈ lot)) (List.range n)
      rw [List.length_range] at h1
      exact Nat.le_trans h1 hn
    refine tgt_name ?_
    refine k_ifSet (a := meetOf n (lots.take (i + 1)) st) (b := within st lot) (et_B (e_call (ι := List Nat × List Nat) (res := fun i => within i.1 i.2) (st, lot) (ea_cons (e_var rfl r2') (ea_cons (e_var rfl y) ea_nil)) fun _ _ => hst)) (fun hw H5 e5 => ?_) (fun hw => ⟨x3, rfl, ?_⟩) fun v3' H5 e5 r3' => ⟨e4.trans e5, v3', _, _, rfl, r3'⟩
    · rw [htk, hw]
      exact e_tupleNew (e_lcF _ fr_ex (ws_tup (e_var rfl (up (Rl := Ex) e5 rx3))) hlen (by show 5 < 6; decide) (fun _ _ _ h => h) fun x v H6 hx e6 y' => et_test (e_op (e_var rfl y') (e_var rfl (up (Rl := Ex) (e5.trans e6) y)) rv_inN))
    · have : (meetOf n (lots.take i) st).filter (fun s => !false || decide (s ∈ lot)) = meetOf n (lots.take i) st := List.filter_eq_self.mpr fun _ _ => rfl
      rw [htk, hw, this]
      exact rx3
  · rintro H3 e3 _ H4 ⟨e4, x3, o4, o5, rfl, rx3⟩
    rw [List.take_length] at rx3
    dsimp only
    exact k_ret (Rl := Ex) (e_var rfl rx3) fun v H6 e6 r => hq v H6 (e1.trans (e3.trans (e4.trans e6))) r
theorem vouch_len {n : Nat} {ds : List Deed} {st : List Nat} : (vouch n ds st).length ≤ n := by
  have h1 := List.length_filter_le (fun s => @decide (∀ lot, IsLot n ds lot → within st lot = true → s ∈ lot) (Classical.propDecidable _)) (List.range n)
  rw [List.length_range] at h1
  exact h1
/-- the lots' calls of exchange_lots -/
theorem n_lots {σ : L2.St} {H : Hp} {jm jo n most : Nat} {p : Addr} {ds : List Deed} {Q : VK} (h0 : σ[jm]? = some (some (.ref p))) (h1 : σ[jo]? = some (some (.int (most : Nat)))) (pre : preM K (n, ds, p, most) H)
    (q : ∀ v (lots : List (List Nat)) H2, Ex H H2 → lots.length ≤ 3600 → (∀ lot, lot ∈ lots ↔ IsLot n ds lot) → Enc.rep (tp H2) v lots → Q v H2) : tCallN 1 (["most"] : List Str).length (spLots K) (fun vs zs => vs ++ zs) E0 (tCons (tVar jm) tNil) (tCons (tVar jo) tNil) σ H Q :=
  ⟨.ref p, h0, .int most, h1, rfl, rfl, (n, ds, p, most), pre, ⟨rfl, rfl, trivial⟩, fun v b H2 e post r => q v b H2 e post.1 post.2 r⟩
theorem n_call3 {σ : L2.St} {H : Hp} {Q : VK} {sp : Sp} {E : XK} {ta tb tc : TE} (h : ta σ H fun x H1 => tb σ H1 fun y H2 => tc σ H2 fun z H3 => sp [x, y, z] H3 Q E) : tCall sp [] E (tCons ta (tCons tb (tCons tc tNil))) σ H Q := h
theorem preM.mono {i : Nat × List Deed × Addr × Nat} {H H' : Hp} (h : preM K i H) (e : Ex H H') : preM K i H' := ⟨h.1, h.2.1, h.2.2.1, h.2.2.2.mono e⟩
theorem ok_vouched_states (W : Wd K mg) : FnK P w K mg base 20 "vouched_states" p_vouched_states 2 ["most"] [.int 400] (spVouch K) := by
  refine fnk_ok (k := 16) W 26 2 sc_vouched_states rfl (fun vs H Q E h => by obtain ⟨i, st, _, _, r, _⟩ := h; rw [reps_len r]; rfl) (fun D doc pm an cdv ct us ks h1 h2 => ?_) (fun D doc pm an cdv ct us ws h1 h2 => ?_) fun f cdv A outer s H vs Q E hr h => ⟨_, w_vouched_states spMeet (spLots K) W hr (F_meet_of := (ok_meet_of W).mono (by decide)) (F_exchange_lots := ok_exchange_lots W), ?_⟩
  · match us, ks, h1, h2 with
    | [u, v], [k], _, _ => exact ⟨_, _, _, _, _, _, rfl, rfl, rfl⟩
  · match us, ws, h1, h2 with
    | [u, v], [k], _, _ => rfl
  obtain ⟨⟨n, ds, p, most⟩, st, pre, hst, hr', hq⟩ := h
  obtain ⟨v0, v1, v2, rfl, r0, r1, r2⟩ := reps3 hr'
  obtain rfl : v0 = .ref p := r0
  obtain rfl : v2 = .int most := r2
  have ok : MachOk n ds := pre.1
  have hn : n ≤ 1000000 := by have h1 : 2 ≤ n := ok.lo; have h2 : n ≤ 49 := ok.hi; omega
  refine n_call3 ?_
  refine e_size (Rl := Ex) W.mf rfl pre.2.2.2.ms H (Ex.refl H) _ fun vn H1 e1 rn => ?_
  obtain rfl : vn = .int n := rn
  refine n_lots rfl rfl (pre.mono e1) fun vl lots H2 e2 _ hlots rl => ?_
  refine ⟨v1, rfl, (n, lots, st), ⟨hn, hst⟩, ⟨rfl, rl, up (Rl := Ex) (e1.trans e2) r1, trivial⟩, fun v H3 e3 r3 => hq v H3 (e1.trans (e2.trans e3)) ?_⟩
  have r3 : Enc.rep (tp H3) v (meetOf n lots st) := r3
  rw [meet_vouch hlots] at r3
  exact r3
/-- None, or rows that tell against it -/
def Against (n : Nat) (ds : List Deed) (st : List Nat) (t : Nat) (H : Hp) (v : V) : Prop :=
  (v = .non ∧ ∀ lot, IsLot n ds lot → within st lot = true → t ∈ lot) ∨ ∃ r1 r2 : List Str, Enc.rep (tp H) v (r1, r2) ∧ (∀ s ∈ r1, s ∈ ds.map (·.1)) ∧ (∀ s ∈ r2, s ∈ ds.map (·.1)) ∧ r1.length ≤ 60 ∧ r2.length ≤ 60 ∧ t ∉ shared (rowE n (imOf ds) 0 r1) (rowE n (imOf ds) 0 r2) ∧ within st (shared (rowE n (imOf ds) 0 r1) (rowE n (imOf ds) 0 r2)) = true
def spAgainst (K : PySem.W.Frag) : Sp := fun vs H Q _ => ∃ (i : Nat × List Deed × Addr × Nat) (st : List Nat) (t : Nat), preM K i H ∧ st.length ≤ 1000000 ∧ Reps (tp H) [mp (Raw.mk (.ref i.2.2.1)), mp st, mp t, mp i.2.2.2] vs ∧ ∀ v H2, Ex H H2 → Against i.1 i.2.1 st t H2 v → Q v H2
theorem ok_against_vouching (W : Wd K mg) : FnK P w K mg base 12 "against_vouching" p_against_vouching 3 ["most"] [.int 400] (spAgainst K) := by
  obtain ⟨fdg, GF, KG, BG⟩ := ok_least_pairs (P := P) (w := w) (base := base) W
  refine fnk_ok (k := 8) W 27 3 sc_against_vouching rfl (fun vs H Q E h => by obtain ⟨i, st, t, _, _, r, _⟩ := h; rw [reps_len r]; rfl) (fun D doc pm an cdv ct us ks h1 h2 => ?_) (fun D doc pm an cdv ct us ws h1 h2 => ?_) fun f cdv A outer s H vs Q E hr h => ⟨_, w_against_vouching spWithin spShared (spAll K) spPairs W hr (F_lot_within := (ok_lot_within W).mono (by decide)) (F_shared_states := (ok_shared_states W).mono (by decide)) (F_all_effects := ok_all_effects W) (F_least_pairs := gfn_mono GF (by decide)) (KG := KG) (BG := BG), ?_⟩
  · match us, ks, h1, h2 with
    | [u, v, z], [k], _, _ => exact ⟨_, _, _, _, _, _, rfl, rfl, rfl⟩
  · match us, ws, h1, h2 with
    | [u, v, z], [k], _, _ => rfl
  obtain ⟨⟨n, ds, p, most⟩, st, t, ⟨ok, sm, hm, hM⟩, hst, hr', hq⟩ := h
  obtain ⟨v0, v1, v2, v3, rfl, r0, r1, r2, r3⟩ := reps4 hr'
  obtain rfl : v0 = .ref p := r0
  obtain rfl : v2 = .int t := r2
  obtain rfl : v3 = .int most := r3
  show tSeq _ _ _ _ _
  refine k_seq (k_all rfl rfl ok sm hm hM fun v4 L H1 e1 al r4 => ?_)
  dsimp only
  refine k_seq ?_
  refine ⟨v4, rfl, pAll (lensOf L) (lgOf L), al.pairs sm r4, fun i σ' H' => Ex H1 H' ∧ ∃ o5 o6 o7, σ' = [some (.ref p), some v1, some (.int (t : Nat)), some (.int (most : Nat)), some v4, o5, o6, o7] ∧ ∀ (k a b : Nat), k < i → (pAll (lensOf L) (lgOf L))[k]? = some (((a : Nat) : Int), ((b : Nat) : Int)) → within st (lotOf L a b) = true → t ∈ lotOf L a b,
    ⟨Ex.refl _, _, _, _, rfl, fun k a b h => absurd h (Nat.not_lt_zero k)⟩, ?_, ?_⟩
  · rintro σ' H' ⟨e3, o5, o6, o7, rfl, hk⟩
    dsimp only
    refine k_ret (Rl := Ex) (a := ()) (e_c fun _ => rfl) fun v H5 e5 r => hq v H5 (e1.trans (e3.trans e5)) (.inl ⟨r, fun lot hl hw => ?_⟩)
    obtain ⟨i, a, b, h1, rfl, _, _⟩ := al.lots ok hl
    exact hk i a b (List.getElem?_eq_some_iff.mp h1).1 h1 hw
  · rintro i x y σ' H' hxy ⟨e3, o5, o6, o7, rfl, hk⟩ q hq'
    obtain ⟨a, b, rfl, rfl, ha, hb⟩ := pAll_at hxy
    have e4 : Ex H' (upd H' q (.tup [.int (a : Nat), .int (b : Nat)])) := Ex.new hq'
    refine ⟨q, [.int a, .int b], rfl, SqT.of upd_same, rfl, .int a, [.int b], rfl, .int b, [], rfl, rfl, ?_⟩
    have r44 := up (Rl := Ex) (e3.trans e4) r4
    have r14 : Enc.rep (tp (upd H' q (.tup [.int (a : Nat), .int (b : Nat)]))) v1 st := up (Rl := Ex) (e1.trans (e3.trans e4)) r1
    refine k_seq (k_set (Rl := Ex) (a := lotOf L a b) (e_lot al ok rfl r44 ha hb rfl rfl) fun v7 H6 e6 r7 => ?_)
    dsimp only
    refine k_if (Rl := Ex) (b := !decide (t ∈ lotOf L a b) && within st (lotOf L a b)) (et_and (et_test (e_op (e_var (a := t) rfl rfl) (e_var rfl r7) rv_ninN)) fun _ => et_B (e_call (ι := List Nat × List Nat) (res := fun i => within i.1 i.2) (st, lotOf L a b) (ea_cons (e_var rfl (up (Rl := Ex) e6 r14)) (ea_cons (e_var rfl r7) ea_nil)) fun _ _ => hst)) (fun hbb H7 e7 => ?_) fun hbb H7 e7 => ?_
    · obtain ⟨h1, h2⟩ := Bool.and_eq_true_iff.mp hbb
      have hnin : t ∉ lotOf L a b := fun z => by rw [decide_eq_true z] at h1; cases h1
      have r47 := up (Rl := Ex) (e6.trans e7) r44
      have ra := al.row _ (List.mem_of_getElem? (getL ha))
      have rb := al.row _ (List.mem_of_getElem? (getL hb))
      refine k_ret (Rl := Ex) (a := ((L.getD a ([], [])).2, (L.getD b ([], [])).2)) (e_pair (e_snd (p := L.getD a ([], [])) (e_ixT (e_var rfl r47) (e_var (a := a) rfl rfl) (getL ha)) (eN 1)) (e_snd (p := L.getD b ([], [])) (e_ixT (e_var rfl r47) (e_var (a := b) rfl rfl) (getL hb)) (eN 1))) fun v H8 e8 r8 => hq v H8 (e1.trans (e3.trans (e4.trans (e6.trans (e7.trans e8))))) (.inr ⟨_, _, r8, ra.1, rb.1, al.rows sm _ (List.mem_of_getElem? (getL ha)), al.rows sm _ (List.mem_of_getElem? (getL hb)), ?_, ?_⟩)
      · rw [ra.2, rb.2]; exact hnin
      · rw [ra.2, rb.2]; exact h2
    · refine ⟨e3.trans (e4.trans (e6.trans e7)), _, _, _, rfl, fun k a' b' hk' hp hw => ?_⟩
      by_cases h : k < i
      · exact hk k a' b' h hp hw
      · have : k = i := by omega
        subst this
        rw [hxy] at hp
        injection hp with hp
        injection hp with h1 h2
        have h1 : a = a' := by omega
        have h2 : b = b' := by omega
        subst h1 h2
        rw [hw, Bool.and_true] at hbb
        simpa using hbb
end
end B
/-! counts, honesty. -/
namespace B
open PySem PySem.Spec PyProof.Rows L2
theorem shared_len {f g : List Nat} : (shared f g).length ≤ f.length := by
  unfold shared
  have h := List.length_filter_le (fun s => decide (g.getD (f.getD s 0) 0 = f.getD (g.getD s 0) 0)) (List.range f.length)
  rwa [List.length_range] at h
theorem IsLot.len {n : Nat} {ds : List Deed} (ok : MachOk n ds) {lot : List Nat} (h : IsLot n ds lot) : lot.length ≤ n := by
  obtain ⟨f, g, hf, hg, rfl⟩ := h
  have := shared_len (f := f) (g := g)
  rw [(hf.eff ok.eff).1] at this
  exact this
theorem IsLot.lt {n : Nat} {ds : List Deed} (ok : MachOk n ds) {lot : List Nat} (h : IsLot n ds lot) : ∀ s ∈ lot, s < n := fun s hs => by
  obtain ⟨f, g, hf, hg, rfl⟩ := h
  have h1 := List.mem_range.mp (List.mem_filter.mp hs).1
  rw [(hf.eff ok.eff).1] at h1
  exact h1
theorem IsLot.full {n : Nat} {ds : List Deed} (ok : MachOk n ds) {lot : List Nat} (h : IsLot n ds lot) (hl : ∀ s, s < n → s ∈ lot) : lot.length = n := by
  obtain ⟨f, g, hf, hg, rfl⟩ := h
  have e := (hf.eff ok.eff).1
  have : shared f g = List.range f.length := List.filter_eq_self.mpr fun s hs => (List.mem_filter.mp (hl s (by rw [← e]; exact List.mem_range.mp hs))).2
  rw [this, List.length_range, e]
/-- no lot but empty or full -/
def Honest (n : Nat) (ds : List Deed) : Prop := ∀ lot, IsLot n ds lot → ¬ (0 < lot.length ∧ lot.length < n)
def Counts (n : Nat) (ds : List Deed) (cs : List Nat) : Prop := cs.Pairwise (· < ·) ∧ ∀ c, c ∈ cs ↔ ∃ lot, IsLot n ds lot ∧ c = n - lot.length
def spCounts (K : PySem.W.Frag) : Sp := spN (ι := Nat × List Deed × Addr × Nat) (preM K) msM fun i (r : List Nat) => Counts i.1 i.2.1 r
def AnyEx (n : Nat) (ds : List Deed) (r : Nat) : Prop := ∃ cs, Counts n ds cs ∧ r = if 1 < cs.length then n + 1 - cs.getD 1 0 else 0
def spAny (K : PySem.W.Frag) : Sp := spN (ι := Nat × List Deed × Addr × Nat) (preM K) msM fun i (r : Nat) => AnyEx i.1 i.2.1 r
def spLie (K : PySem.W.Frag) : Sp := fun vs H Q _ => ∃ i, preM K i H ∧ Reps (tp H) (msM i) vs ∧ ∀ v H2, Ex H H2 → (v = .non ↔ Honest i.1 i.2.1) → Q v H2
def spHonest (K : PySem.W.Frag) : Sp := spN (ι := Nat × List Deed × Addr × Nat) (preM K) msM fun i (b : Bool) => b = true ↔ Honest i.1 i.2.1
theorem scan100 : 100 < scanBound := by decide
section
variable {P : Program} {w : World} {K : PySem.W.Frag} {mg : Str → Option Value} {base : Heap}
theorem ok_apart_counts (W : Wd K mg) : FnK P w K mg base 16 "apart_counts" p_apart_counts 1 ["most"] [.int 400] (spCounts K) := by
  refine fnk_ok (k := 12) W 22 1 sc_apart_counts rfl (spN_len fun _ => rfl) (fun D doc pm an cdv ct us ks h1 h2 => ?_) (fun D doc pm an cdv ct us ws h1 h2 => ?_) fun f cdv A outer s H vs Q E hr h => ⟨_, w_apart_counts (spRows K) W hr (F_lot_rows := ok_lot_rows W), ?_⟩
  · match us, ks, h1, h2 with
    | [u], [k], _, _ => exact ⟨_, _, _, _, _, _, rfl, rfl, rfl⟩
  · match us, ws, h1, h2 with
    | [u], [k], _, _ => rfl
  obtain ⟨⟨n, ds, p, most⟩, pre, hr', hq⟩ := h
  obtain ⟨v0, v1, rfl, r0, r1⟩ := reps2 hr'
  obtain rfl : v0 = .ref p := r0
  obtain rfl : v1 = .int most := r1
  have ok : MachOk n ds := pre.1
  have hn49 : n ≤ 49 := ok.hi
  show tCall _ _ _ _ _ _ _
  refine n_rows rfl rfl pre fun d ks H1 hn1 e1 hD nd hlen hks => ?_
  obtain ⟨kvs, hd, hk⟩ := hD
  refine ⟨d, _, rfl, hd, trivial, fun od => ⟨d, od, rfl, .inr ⟨kvs, upd_same, fun D hDn => ?_⟩⟩⟩
  let H2 := upd H1 d (.frz od (.dT kvs))
  have e2 : Ex H H2 := fun a o ha => by
    have h1 := e1 _ _ ha
    show upd H1 d _ a = _
    rw [upd_ne (ne_of_none ha hn1)]; exact h1
  have hdD : d ≠ D := fun z => by
    have hDn : H2 D = none := hDn
    rw [← z] at hDn
    have : H2 d = some (.frz od (.dT kvs)) := upd_same
    rw [this] at hDn; cases hDn
  let S : Addr → Prop := fun a => a = D
  have hM2 : MachAt K H2 p n ds := pre.2.2.2.mono e2
  have hMs : Ms K (ExM S) H2 p n ds := hM2.msM fun a ha u hu => by
    have ha : a = D := ha
    subst ha
    have hDn : H2 a = none := hDn
    rw [hDn] at hu; cases hu
  have kl : kvs.length = ks.length := by have := congrArg List.length hk; rwa [List.length_map, List.length_map] at this
  have set1 : ∀ (l : List Nat) (j : Int), (l.any fun c => decide (j = (c : Int))) = true ↔ ∃ c ∈ l, j = (c : Int) := fun l j => by
    rw [List.any_eq_true]
    exact ⟨fun ⟨c, h, e⟩ => ⟨c, h, of_decide_eq_true e⟩, fun ⟨c, h, e⟩ => ⟨c, h, decide_eq_true e⟩⟩
  refine ⟨fun i m Hc => m = ks.length - i ∧ i ≤ ks.length ∧ ExM S H2 Hc ∧ ∃ l : List Nat, l.Nodup ∧ (∀ c ∈ l, c ≤ n) ∧ Hc D = some (SetO w D (fun j => l.any fun c => decide (j = (c : Int))) l.length) ∧ ∀ c, c ∈ l ↔ ∃ k ∈ ks.take i, c = n - k.length,
    ⟨ks.length, by omega, Nat.zero_le _, RlOk.ex (Ex.new hDn), [], List.nodup_nil, fun c h => (nomatch h), upd_same, fun c => ⟨fun h => (nomatch h), fun ⟨k, h, _⟩ => by rw [List.take_zero] at h; cases h⟩⟩, ?_⟩
  rintro i m Hc ⟨rfl, hi, ec, l, lnd, lle, hS, hl⟩
  have hdc : Hc d = some (.frz od (.dT kvs)) := ec.1 d _ upd_same (.inl hdD)
  have l50 : l.length ≤ 50 := by
    have := nodup_le lnd (m := List.range (n + 1)) fun c hc => List.mem_range.mpr (by have := lle c hc; omega)
    rw [List.length_range] at this
    omega
  by_cases hlt : i < ks.length
  · refine .inr ⟨⟨hdc, by rw [kl]; exact hlt⟩, fun H' => i + 1 ≤ ks.length ∧ ExM S H2 H' ∧ ∃ l : List Nat, l.Nodup ∧ (∀ c ∈ l, c ≤ n) ∧ H' D = some (SetO w D (fun j => l.any fun c => decide (j = (c : Int))) l.length) ∧ ∀ c, c ∈ l ↔ ∃ k ∈ ks.take (i + 1), c = n - k.length, fun H' h => ⟨ks.length - (i + 1), by omega, rfl, h⟩, fun x H' hy => ?_⟩
    obtain ⟨rfl, k, v, q, hkv, rfl, hq'⟩ := hy
    obtain ⟨lot, hlot⟩ : ∃ lot, ks[i]? = some lot := ⟨ks[i], List.getElem?_eq_getElem hlt⟩
    have hkk : k = keyN lot := by
      have h1 : (kvs.map (·.1))[i]? = some k := by rw [List.getElem?_map, hkv]; rfl
      rw [hk, List.getElem?_map, hlot] at h1
      exact (Option.some.inj h1).symm
    rw [hkk, keyN_map] at hq'
    have hil : IsLot n ds lot := (hks lot).mp (List.mem_of_getElem? hlot)
    have hll : lot.length ≤ n := hil.len ok
    have htk : ks.take (i + 1) = ks.take i ++ [lot] := by rw [List.take_add_one, hlot]; rfl
    refine ⟨rfl, ?_⟩
    dsimp only [tYes]
    refine iteT ?_
    have rlot : Enc.rep (tp H') (.ref q) lot := ⟨q, _, rfl, hq', RepA.ints.mpr rfl⟩
    refine e_subN (e_size (Rl := Ex) (p := p) (n := n) (ds := ds) W.mf rfl (hMs.mono ec).at.ms) (e_lenT (e_var (a := lot) rfl rlot)) hll H' (Ex.refl _) _ fun y H4 e4 ry => ?_
    obtain rfl : y = .int ((n - lot.length : Nat) : Int) := ry
    have hS4 := e4 _ _ hS
    refine ⟨((n - lot.length : Nat) : Int), _, l.length, rfl, hS4, by have := scan100; omega, hlt, ?_, ?_⟩
    · exact ExM.mut (RlOk.trans ec (RlOk.ex e4)) hS4 (fun z => z) rfl
    · by_cases hin : (n - lot.length) ∈ l
      · have hany : (l.any fun c => decide ((((n - lot.length : Nat) : Int)) = (c : Int))) = true := (set1 l _).mpr ⟨_, hin, rfl⟩
        refine ⟨l, lnd, lle, ?_, fun c => ?_⟩
        · rw [upd_same, if_pos hany]
          congr 2
          funext j
          rw [Bool.eq_iff_iff, Bool.or_eq_true, decide_eq_true_eq]
          exact ⟨fun h => h.elim id fun h => by rw [h]; exact hany, .inl⟩
        · rw [hl c, htk]
          constructor
          · rintro ⟨k, h1, h2⟩; exact ⟨k, List.mem_append_left _ h1, h2⟩
          · rintro ⟨k, h1, h2⟩
            rcases List.mem_append.mp h1 with h | h
            · exact ⟨k, h, h2⟩
            · rw [List.mem_singleton.mp h] at h2
              exact (hl c).mp (by rw [h2]; exact hin)
      · have hany : ¬ (l.any fun c => decide ((((n - lot.length : Nat) : Int)) = (c : Int))) = true := fun z => by
          obtain ⟨c, h1, h2⟩ := (set1 l _).mp z
          have : n - lot.length = c := by omega
          exact hin (by rw [this]; exact h1)
        refine ⟨l ++ [n - lot.length], nd_snoc lnd hin, fun c hc => ?_, ?_, fun c => ?_⟩
        · rcases List.mem_append.mp hc with h | h
          · exact lle c h
          · rw [List.mem_singleton.mp h]; omega
        · rw [upd_same, if_neg hany, List.length_append, List.length_singleton]
          congr 2
          funext j
          rw [List.any_append]
          simp
        · rw [List.mem_append, List.mem_singleton, hl c, htk]
          constructor
          · rintro (⟨k, h1, h2⟩ | h)
            · exact ⟨k, List.mem_append_left _ h1, h2⟩
            · exact ⟨lot, List.mem_append_right _ (by simp), h⟩
          · rintro ⟨k, h1, h2⟩
            rcases List.mem_append.mp h1 with h | h
            · exact .inl ⟨k, h, h2⟩
            · rw [List.mem_singleton.mp h] at h2; exact .inr h2
  · have hie : i = ks.length := by omega
    subst hie
    refine .inl ⟨⟨hdc, by rw [kl]; exact Nat.le_refl _⟩, ?_⟩
    rw [List.take_length] at hl
    refine ⟨D, _, l.length, rfl, hS, by omega, fun ns p' hsrt hmem hlen' hp' => ?_⟩
    have e3 := Ex.new (o := .lst (ns.map V.int)) hp'
    refine .inl ⟨p', _, rfl, SqL.of upd_same, fun p3 hp3 => ?_⟩
    have e4 := Ex.new (o := .tup (ns.map V.int)) hp3
    have hnn : ∀ z ∈ ns, ∃ c : Nat, z = c ∧ c ∈ l := fun z hz => by
      obtain ⟨c, h1, h2⟩ := (set1 l z).mp ((hmem z).mp hz)
      exact ⟨c, h2, h1⟩
    have hmapn : (ns.map Int.toNat).map (fun (n : Nat) => V.int n) = ns.map V.int := by
      rw [List.map_map]
      refine List.map_congr_left fun z hz => ?_
      obtain ⟨c, rfl, _⟩ := hnn z hz
      rfl
    refine hq _ (ns.map Int.toNat) _ (ExM.out e2 (RlOk.trans ec (RlOk.ex (e3.trans e4))) fun a ha => ?_) ⟨?_, fun c => ?_⟩ ⟨p3, _, rfl, upd_same, RepA.ints.mpr hmapn.symm⟩
    · have ha : a = D := ha
      subst ha
      exact RlOk.back (Rl := Ex) e2 hDn
    · refine List.pairwise_map.mpr (List.Pairwise.imp_of_mem (fun {a b} ha hb hab => ?_) hsrt)
      obtain ⟨c, rfl, _⟩ := hnn a ha
      obtain ⟨c', rfl, _⟩ := hnn b hb
      show c < c'
      omega
    · constructor
      · intro hc
        obtain ⟨z, hz, rfl⟩ := List.mem_map.mp hc
        obtain ⟨c, rfl, h1⟩ := hnn z hz
        obtain ⟨k, hk1, hk2⟩ := (hl c).mp h1
        exact ⟨k, (hks k).mp hk1, hk2⟩
      · rintro ⟨lot, h1, rfl⟩
        have h2 := (hl (n - lot.length)).mpr ⟨lot, (hks lot).mpr h1, rfl⟩
        exact List.mem_map.mpr ⟨_, (hmem _).mpr ((set1 l _).mpr ⟨_, h2, rfl⟩), rfl⟩
end
end B
/-! any_examples, least_lie, is_honest. -/
namespace B
open PySem PySem.Spec PyProof.Rows L2
section
variable {P : Program} {w : World} {K : PySem.W.Frag} {mg : Str → Option Value} {base : Heap}
theorem n_M {β : Type} [Enc β] {post : Nat × List Deed × Addr × Nat → β → Prop} {σ : L2.St} {H : Hp} {jm jo n most : Nat} {p : Addr} {ds : List Deed} {Q : VK} (h0 : σ[jm]? = some (some (.ref p))) (h1 : σ[jo]? = some (some (.int (most : Nat)))) (pre : preM K (n, ds, p, most) H)
    (q : ∀ v b H2, Ex H H2 → post (n, ds, p, most) b → Enc.rep (tp H2) v b → Q v H2) : tCallN 1 (["most"] : List Str).length (spN (preM K) msM post) (fun vs zs => vs ++ zs) E0 (tCons (tVar jm) tNil) (tCons (tVar jo) tNil) σ H Q :=
  ⟨.ref p, h0, .int most, h1, rfl, rfl, (n, ds, p, most), pre, ⟨rfl, rfl, trivial⟩, q⟩
theorem k_retTup {σ : L2.St} {H : Hp} {D : Ends} {ta : TA} {ms : List MP} (h : EvA Ex ta σ H ms) (hl : ms.length ≤ 1000000) (k : ∀ p H2, Ex H H2 → D.rt (.ref p) H2) : tRet (tTup ta) D σ H :=
  h H (Ex.refl H) _ fun vs H2 e rs => ⟨by rw [reps_len rs]; exact sz hl, fun pt hpt => k pt _ (e.trans (Ex.new hpt))⟩
theorem ok_any_examples (W : Wd K mg) : FnK P w K mg base 20 "any_examples" p_any_examples 1 ["most"] [.int 400] (spAny K) := by
  refine fnk_ok (k := 16) W 30 1 sc_any_examples rfl (spN_len fun _ => rfl) (fun D doc pm an cdv ct us ks h1 h2 => ?_) (fun D doc pm an cdv ct us ws h1 h2 => ?_) fun f cdv A outer s H vs Q E hr h => ⟨_, w_any_examples (spCounts K) W hr (F_apart_counts := ok_apart_counts W), ?_⟩
  · match us, ks, h1, h2 with
    | [u], [k], _, _ => exact ⟨_, _, _, _, _, _, rfl, rfl, rfl⟩
  · match us, ws, h1, h2 with
    | [u], [k], _, _ => rfl
  obtain ⟨⟨n, ds, p, most⟩, pre, hr', hq⟩ := h
  obtain ⟨v0, v1, rfl, r0, r1⟩ := reps2 hr'
  obtain rfl : v0 = .ref p := r0
  obtain rfl : v1 = .int most := r1
  have ok : MachOk n ds := pre.1
  show tSeq _ _ _ _ _
  refine k_seq ?_
  refine n_M (post := fun i (r : List Nat) => Counts i.1 i.2.1 r) rfl rfl pre fun v2 cs H1 e1 hcs r2 => ?_
  have hcs : Counts n ds cs := hcs
  have hM1 := pre.2.2.2.mono e1
  have hle : ∀ c ∈ cs, c ≤ n := fun c hc => by
    obtain ⟨lot, _, rfl⟩ := (hcs.2 c).mp hc
    omega
  dsimp only
  show tRet _ _ _ _
  refine k_ret (Rl := Ex) (a := if 1 < cs.length then n + 1 - cs.getD 1 0 else 0) (e_if (b := decide (1 < cs.length)) (et_test (e_op (e_lenT (e_var rfl r2)) (eN 1) rv_gtN)) (fun hb => ?_) fun hb => ?_) fun v H5 e5 r => hq v _ H5 (e1.trans e5) ⟨cs, hcs, rfl⟩ r
  · have hb := of_decide_eq_true hb
    rw [if_pos hb]
    have hm := List.mem_of_getElem? (getD_at hb)
    exact e_subN (e_addN (e_size W.mf rfl hM1.ms) (eN 1)) (e_ixT (e_var rfl r2) (eN 1) (getD_at hb)) (by have := hle _ hm; omega)
  · have hb := of_decide_eq_false hb
    rw [if_neg hb]
    exact eN 0
theorem ok_least_lie (W : Wd K mg) : FnK P w K mg base 12 "least_lie" p_least_lie 1 ["most"] [.int 400] (spLie K) := by
  obtain ⟨fdg, GF, KG, BG⟩ := ok_least_pairs (P := P) (w := w) (base := base) W
  refine fnk_ok (k := 8) W 23 1 sc_least_lie rfl (fun vs H Q E h => by obtain ⟨i, _, r, _⟩ := h; rw [reps_len r]; rfl) (fun D doc pm an cdv ct us ks h1 h2 => ?_) (fun D doc pm an cdv ct us ws h1 h2 => ?_) fun f cdv A outer s H vs Q E hr h => ⟨_, w_least_lie spWithout spShared (spAll K) spPairs W hr (F_states_without := (ok_states_without W).mono (by decide)) (F_shared_states := (ok_shared_states W).mono (by decide)) (F_all_effects := ok_all_effects W) (F_least_pairs := gfn_mono GF (by decide)) (KG := KG) (BG := BG), ?_⟩
  · match us, ks, h1, h2 with
    | [u], [k], _, _ => exact ⟨_, _, _, _, _, _, rfl, rfl, rfl⟩
  · match us, ws, h1, h2 with
    | [u], [k], _, _ => rfl
  obtain ⟨⟨n, ds, p, most⟩, ⟨ok, sm, hm, hM⟩, hr', hq⟩ := h
  obtain ⟨v0, v1, rfl, r0, r1⟩ := reps2 hr'
  obtain rfl : v0 = .ref p := r0
  obtain rfl : v1 = .int most := r1
  have hn : n ≤ 1000000 := by have h1 : 2 ≤ n := ok.lo; have h2 : n ≤ 49 := ok.hi; omega
  show tSeq _ _ _ _ _
  refine k_seq (k_all rfl rfl ok sm hm hM fun v2 L H1 e1 al r2 => ?_)
  dsimp only
  refine k_seq ?_
  refine ⟨v2, rfl, pAll (lensOf L) (lgOf L), al.pairs sm r2, fun i σ' H' => Ex H1 H' ∧ ∃ o3 o4 o5, σ' = [some (.ref p), some (.int (most : Nat)), some v2, o3, o4, o5] ∧ ∀ (k a b : Nat), k < i → (pAll (lensOf L) (lgOf L))[k]? = some (((a : Nat) : Int), ((b : Nat) : Int)) → ¬ (0 < (lotOf L a b).length ∧ (lotOf L a b).length < n),
    ⟨Ex.refl _, _, _, _, rfl, fun k a b h => absurd h (Nat.not_lt_zero k)⟩, ?_, ?_⟩
  · rintro σ' H' ⟨e3, o3, o4, o5, rfl, hk⟩
    dsimp only
    refine k_ret (Rl := Ex) (a := ()) (e_c fun _ => rfl) fun v H5 e5 r => hq v H5 (e1.trans (e3.trans e5)) ⟨fun _ lot hl => ?_, fun _ => r⟩
    obtain ⟨i, a, b, h1, rfl, _, _⟩ := al.lots ok hl
    exact hk i a b (List.getElem?_eq_some_iff.mp h1).1 h1
  · rintro i x y σ' H' hxy ⟨e3, o3, o4, o5, rfl, hk⟩ q hq'
    obtain ⟨a, b, rfl, rfl, ha, hb⟩ := pAll_at hxy
    have e4 : Ex H' (upd H' q (.tup [.int (a : Nat), .int (b : Nat)])) := Ex.new hq'
    refine ⟨q, [.int a, .int b], rfl, SqT.of upd_same, rfl, .int a, [.int b], rfl, .int b, [], rfl, rfl, ?_⟩
    have r24 := up (Rl := Ex) (e3.trans e4) r2
    have hM4 := hM.mono (e1.trans (e3.trans e4))
    refine k_seq (k_set (Rl := Ex) (a := lotOf L a b) (e_lot al ok rfl r24 ha hb rfl rfl) fun v5 H6 e6 r5 => ?_)
    dsimp only
    have hM6 := hM4.mono e6
    refine k_if (Rl := Ex) (b := decide (0 < (lotOf L a b).length) && decide ((lotOf L a b).length < n)) (et_test (e_chain (eN 0) (e_lenT (e_var rfl r5)) rv_ltN (fun _ => e_size W.mf rfl hM6.ms) fun _ => rv_ltN)) (fun hbb H7 e7 => ?_) fun hbb H7 e7 => ?_
    · obtain ⟨h1, h2⟩ := Bool.and_eq_true_iff.mp hbb
      have h1 := of_decide_eq_true h1
      have h2 := of_decide_eq_true h2
      have r27 := up (Rl := Ex) (e6.trans e7) r24
      have r57 := up (Rl := Ex) e7 r5
      have hM7 := hM6.mono e7
      have hwo : 0 < (without n (lotOf L a b)).length := by
        refine List.length_pos_iff.mpr fun z => ?_
        have := (al.isLot ha hb).full ok fun s hs => by
          by_cases h : s ∈ lotOf L a b
          · exact h
          · have : s ∈ without n (lotOf L a b) := List.mem_filter.mpr ⟨List.mem_range.mpr hs, by rw [decide_eq_false h]; rfl⟩
            rw [z] at this; cases this
        omega
      refine k_retTup (ea_cons (e_snd (p := L.getD a ([], [])) (e_ixT (e_var rfl r27) (e_var (a := a) rfl rfl) (getL ha)) (eN 1)) (ea_cons (e_snd (p := L.getD b ([], [])) (e_ixT (e_var rfl r27) (e_var (a := b) rfl rfl) (getL hb)) (eN 1)) (ea_cons (e_ixT (e_var rfl r57) (eN 0) (getD_at h1)) (ea_cons (e_ixT (e_call (ι := Nat × List Nat) (res := fun i => without i.1 i.2) (n, lotOf L a b) (ea_cons (e_size W.mf rfl hM7.ms) (ea_cons (e_var rfl r57) ea_nil)) fun _ _ => hn) (eN 0) (getD_at hwo)) ea_nil)))) (by show 4 ≤ 1000000; decide) fun pt H8 e8 => hq _ _ (e1.trans (e3.trans (e4.trans (e6.trans (e7.trans e8))))) ⟨fun z => (nomatch z), fun z => absurd ⟨h1, h2⟩ (z _ (al.isLot ha hb))⟩
    · refine ⟨e3.trans (e4.trans (e6.trans e7)), _, _, _, rfl, fun k a' b' hk' hp => ?_⟩
      by_cases h : k < i
      · exact hk k a' b' h hp
      · have : k = i := by omega
        subst this
        rw [hxy] at hp
        injection hp with hp
        injection hp with h1 h2
        have h1 : a = a' := by omega
        have h2 : b = b' := by omega
        subst h1 h2
        rintro ⟨h1, h2⟩
        rw [decide_eq_true h1, decide_eq_true h2] at hbb
        cases hbb
theorem ok_is_honest (W : Wd K mg) : FnK P w K mg base 16 "is_honest" p_is_honest 1 ["most"] [.int 400] (spHonest K) := by
  refine fnk_ok (k := 12) W 24 1 sc_is_honest rfl (spN_len fun _ => rfl) (fun D doc pm an cdv ct us ks h1 h2 => ?_) (fun D doc pm an cdv ct us ws h1 h2 => ?_) fun f cdv A outer s H vs Q E hr h => ⟨_, w_is_honest (spLie K) W hr (F_least_lie := ok_least_lie W), ?_⟩
  · match us, ks, h1, h2 with
    | [u], [k], _, _ => exact ⟨_, _, _, _, _, _, rfl, rfl, rfl⟩
  · match us, ws, h1, h2 with
    | [u], [k], _, _ => rfl
  obtain ⟨⟨n, ds, p, most⟩, pre, hr', hq⟩ := h
  obtain ⟨v0, v1, rfl, r0, r1⟩ := reps2 hr'
  obtain rfl : v0 = .ref p := r0
  obtain rfl : v1 = .int most := r1
  refine ⟨.ref p, rfl, .int most, rfl, rfl, rfl, (n, ds, p, most), pre, ⟨rfl, rfl, trivial⟩, fun v H2 e hv => ⟨rfl, ?_⟩⟩
  refine hq _ (decide (v = .non)) H2 e ?_ rfl
  show decide (v = .non) = true ↔ Honest n ds
  rw [decide_eq_true_eq]
  exact hv
end
end B
/-! the law's own effects, counted. -/
namespace B
open PySem PySem.Spec PyProof.Rows L2
/-- a new list, the promise leaves open which -/
def spNL {ι β : Type} [Enc β] (pre : ι → Hp → Prop) (ms : ι → List MP) (post : ι → List β → Prop) : Sp := fun vs H Q _ => ∃ i, pre i H ∧ Reps (tp H) (ms i) vs ∧ ∀ p ws b H2, H p = none → Ex H H2 → post i b → H2 p = some (.lst ws) → RepA (tp H2) ws b → Q (.ref p) H2
theorem spNL_len {ι β : Type} [Enc β] {pre : ι → Hp → Prop} {ms : ι → List MP} {post : ι → List β → Prop} {n : Nat} (h : ∀ i, (ms i).length = n) (vs : List V) (H : Hp) (Q : VK) (E : XK) (z : spNL pre ms post vs H Q E) : vs.length = n := by
  obtain ⟨i, _, r, _⟩ := z
  rw [reps_len r, h i]
def spEffs : Sp := spNL (ι := Nat × List Deed × Addr × Nat) (fun i H => MachOk i.1 i.2.1 ∧ i.2.2.2 = 60 ∧ LsAt H i.2.2.1 i.2.1) (fun i => [mp i.1, mp (Raw.mk (.ref i.2.2.1)), mp i.2.2.2]) fun i (L : List Led) => L.length ≤ 60 → AllE i.1 i.2.1 L
section
variable {P : Program} {w : World} {K : PySem.W.Frag} {mg : Str → Option Value} {base : Heap}
theorem ok_law_effects (W : Wd K mg) : Fn P w K mg base 8 "_law_effects" p_law_effects spEffs := by
  refine fn_ok (k := 4) W 38 sc_law_effects (spNL_len fun _ => rfl) (fun _ _ _ _ _ _ us hl => match us, hl with | [_, _, _], _ => rfl) fun f cdv A outer s H vs Q E hr h => ⟨_, w_law_effects spThen W hr (ok_law_then W), ?_⟩
  obtain ⟨⟨n, ds, p, lim⟩, ⟨ok, hlim, hP⟩, hr', hq⟩ := h
  obtain ⟨v0, v1, v2, rfl, r0, r1, r2⟩ := reps3 hr'
  obtain rfl : v0 = .int n := r0
  obtain rfl : v1 = .ref p := r1
  obtain rfl : lim = 60 := hlim
  obtain rfl : v2 = .int (60 : Nat) := r2
  have hn : n ≤ 1000000 := by have h1 : 2 ≤ n := ok.lo; have h2 : n ≤ 49 := ok.hi; omega
  show tSeq _ _ _ _ _
  refine k_seq (k_setL (Rl := Ex) (xs := [((List.range n, []) : Led)]) (e_lstH (eh_cons (e_pair (e_tupRg (e_var rfl rfl) hn) e_unitT) eh_nil) (by show 1 ≤ 1000000; decide)) fun pf vs3 H3 hn3 e3 hl3 rl3 => ?_)
  dsimp only
  refine k_seq ?_
  refine e_disp (f := List.range n) (a := (0 : Nat)) (e_tupRg (e_var rfl rfl) hn) (eN 0) _ fun pd H4 hn4 e4 hd4 => ?_
  show tSeq (tAsg (tC (.int 0)) (gName 5)) _ _ _ _
  refine k_seq (k_set (Rl := Ex) (a := (0 : Nat)) (eN 0) fun v5 H4' e4' r5 => ?_)
  obtain rfl : v5 = .int (0 : Nat) := r5
  dsimp only
  have e24 := e3.trans (e4.trans e4')
  have hlf : LsAt H4' pf [((List.range n, []) : Led)] := ⟨vs3, (e4.trans e4') _ _ hl3, upA (Rl := Ex) (e4.trans e4') rl3⟩
  have hfd : pf ≠ pd := fun z => by rw [← z, hl3] at hn4; cases hn4
  let S : Addr → Prop := fun a => a = pf ∨ a = pd
  have hS : ∀ a, S a → ∀ u, H a = some u → False := fun a ha u hu => by
    rcases ha with rfl | rfl
    · rw [hn3] at hu; cases hu
    · have := e3 _ _ hu; rw [hn4] at this; cases this
  have hpS : ¬ S p := fun z => by obtain ⟨_, q, _⟩ := hP; exact hS p z _ q
  have hPs : Ls (ExM S) H p ds := hP.lsM hpS
  refine k_seq (k_while (Rl := Ex) (fun m σ1 H5 => ExM S H H5 ∧ ∃ (L : List Led) (at_ : Nat), ∃ o6 o7 o8, (L.length ≤ 60 → m + at_ = 61) ∧ (60 < L.length → m = 0) ∧ at_ ≤ L.length ∧ L.length ≤ 68 ∧ σ1 = [some (.int (n : Nat)), some (.ref p), some (.int (60 : Nat)), some (.ref pf), some (.ref pd), some (.int (at_ : Nat)), o6, o7, o8] ∧ LsAt H5 pf L ∧ DtAt H5 pd (effs L) ∧ Bfs n ds L at_)
    ⟨61, RlOk.ex e24, [(List.range n, [])], 0, _, _, _, fun _ => rfl, fun z => by simp at z, Nat.zero_le _, by show 1 ≤ 68; decide, rfl, hlf, hd4.mono e4', Bfs.start n ds⟩ ?_)
  rintro m _ H5 ⟨e5, L, at_, o6, o7, o8, hm1, hm2, hal, h68, rfl, hL, hD, bfs⟩
  refine ⟨decide (at_ < L.length) && decide (L.length ≤ 60), et_and (et_test (e_op (e_var (a := at_) rfl rfl) (e_lenLs (e_var rfl rfl) hL.ls) rv_ltN)) (fun _ => et_test (e_op (e_lenLs (e_var rfl rfl) hL.ls) (e_var (a := (60 : Nat)) rfl rfl) rv_leN)), fun hb H6 e6 => ?_, fun hb H6 e6 => ?_⟩
  · have hor : L.length ≤ at_ ∨ 60 < L.length := by
      rcases Bool.and_eq_false_iff.mp hb with h | h
      · have := of_decide_eq_false h; omega
      · have := of_decide_eq_false h; omega
    dsimp only
    obtain ⟨ws, z1, z2⟩ := hL.mono e6
    refine ⟨.ref pf, rfl, hq pf ws L H6 ?_ ?_ (fun hle => bfs.done (by omega)) z1 z2⟩
    · exact RlOk.back (Rl := Ex) (Ex.refl H) hn3
    · exact ExM.out (Ex.refl H) (RlOk.trans e5 (RlOk.ex e6)) fun a ha => by
        cases q : H a with
        | none => rfl
        | some u => exact (hS a ha u q).elim
  · obtain ⟨hlt, h60⟩ := Bool.and_eq_true_iff.mp hb
    have hlt := of_decide_eq_true hlt
    have h60 := of_decide_eq_true h60
    have hL6 := hL.mono e6
    have hD6 := hD.mono e6
    obtain ⟨e, he⟩ : ∃ e, L[at_]? = some e := ⟨L[at_], List.getElem?_eq_getElem hlt⟩
    have hem : e ∈ L := List.mem_of_getElem? he
    have ee : Eff n e.1 := (bfs.gen e hem).eff ok.eff
    have E27 : ExM S H H6 := RlOk.trans e5 (RlOk.ex e6)
    refine k_seq (k_for (Rl := ExM S) (wz_ls (xs := ds) (e_var rfl rfl) (hPs.mono E27)) (fun H8 j σ1 H9 => ExM S H8 H9 ∧ ∃ (L : List Led), ∃ o6 o7 o8, at_ < L.length ∧ L.length ≤ 60 + j ∧ L[at_]? = some e ∧ σ1 = [some (.int (n : Nat)), some (.ref p), some (.int (60 : Nat)), some (.ref pf), some (.ref pd), some (.int (at_ : Nat)), o6, o7, o8] ∧ LsAt H9 pf L ∧ DtAt H9 pd (effs L) ∧ Bfs n ds L at_ ∧ ∀ d ∈ ds.take j, thn e.1 d.2 ∈ effs L)
      (fun H8 e8 => ⟨RlOk.refl _, L, _, _, _, hlt, h60, he, rfl, hL6.mono e8, hD6.mono e8, bfs, fun d hd => by rw [List.take_zero] at hd; cases hd⟩) (fun _ i σ1 H4 h => h.1) (fun _ i σ1 H4 H5 ⟨a, L, o6, o7, o8, b, b', c, d, l, t, f⟩ e => ⟨RlOk.trans a (RlOk.ex e), L, o6, o7, o8, b, b', c, d, l.mono e, t.mono e, f⟩) ?_ ?_)
    · rintro H8 e8 j d v _ H9 hj ⟨e9, L, o6, o7, o8, hlt, hj60, he, rfl, hL9, hD9, bfs, hcl⟩ y
      have hd : d ∈ ds := List.mem_of_getElem? hj
      have hjl : j < ds.length := (List.getElem?_eq_some_iff.mp hj).1
      have h8 : ds.length ≤ 8 := ok.most
      have htk : ds.take (j + 1) = ds.take j ++ [d] := by rw [List.take_add_one, hj]; rfl
      refine tgt_pair y fun u8 u9 s8 s9 => ?_
      refine k_seq (k_set (Rl := Ex) (a := thn e.1 d.2) (e_thn hn ee (ok.eff d hd) (e_fst (p := e) (e_ixLs (e_var rfl rfl) hL9.ls (e_var (a := at_) rfl rfl) he) (eN 0)) (e_var rfl s9)) fun u10 H10 e10 r10 => ?_)
      dsimp only
      have hL10 := hL9.mono e10
      have hD10 := hD9.mono e10
      refine k_if (Rl := Ex) (b := !decide (thn e.1 d.2 ∈ effs L)) (et_test (e_ninDict (e_var rfl r10) (e_var rfl rfl) hD10)) (fun hb H11 e11 => ?_) fun hb H11 e11 => ?_
      · have hnin : thn e.1 d.2 ∉ effs L := fun z => by rw [decide_eq_true z] at hb; cases hb
        have hL11 := hL10.mono e11
        have hD11 := hD10.mono e11
        refine k_seq (k_dput (a := L.length) rfl rfl (up (Rl := Ex) e11 r10) hD11 hnin (by rw [List.length_map]; omega) (e_lenLs (e_var rfl rfl) hL11.ls) fun H13 e13 hD13 => ?_)
        dsimp only
        have hL13 : LsAt H13 pf L := by
          obtain ⟨z1, z2, z3⟩ := hL11
          exact ⟨z1, e13.1 _ _ z2 (.inl hfd), upA (Rl := ExM (· = pd)) e13 z3⟩
        have e9_13 : ExM S H9 H13 := RlOk.trans (RlOk.ex (e10.trans e11)) (e13.mono fun a h => .inr h)
        have r10' : Enc.rep (tp H13) u10 (thn e.1 d.2) := up (Rl := ExM (· = pd)) e13 (up (Rl := Ex) e11 r10)
        refine k_append (a := ((thn e.1 d.2, e.2 ++ [d.1]) : Led)) rfl hL13 (e_pair (e_var rfl r10') (e_catT (e_snd (p := e) (e_ixLs (e_var rfl rfl) hL13.ls (e_var (a := at_) rfl rfl) he) (eN 1)) (e_one (e_var rfl (up (Rl := ExM S) e9_13 s8))) ?_)) (by omega) fun H14 e14 hL14 => ⟨RlOk.trans e9 (RlOk.trans e9_13 (e14.mono fun a h => .inl h)), _, _, _, _, by rw [List.length_append]; omega, by rw [List.length_append]; show L.length + 1 ≤ _; omega, by rw [List.getElem?_append_left hlt]; exact he, rfl, hL14, ?_, bfs.add ok.nd he hd hnin, fun d' hd' => ?_⟩
        · have h1 := bfs.bd at_ e he
          show e.2.length + 1 ≤ 1000000
          omega
        · obtain ⟨z1, z2, z3⟩ := hD13
          exact ⟨z1, e14.1 _ _ z2 (.inl (Ne.symm hfd)), by rw [z3, effs_snoc]⟩
        · rw [htk] at hd'
          rw [effs_snoc]
          rcases List.mem_append.mp hd' with h | h
          · exact List.mem_append_left _ (hcl d' h)
          · rw [List.mem_singleton.mp h]; exact List.mem_append_right _ (by simp)
      · have hin : thn e.1 d.2 ∈ effs L := by simpa using hb
        refine ⟨RlOk.trans e9 (RlOk.ex (e10.trans e11)), L, _, _, _, hlt, by omega, he, rfl, hL10.mono e11, hD10.mono e11, bfs, fun d' hd' => ?_⟩
        rw [htk] at hd'
        rcases List.mem_append.mp hd' with h | h
        · exact hcl d' h
        · rw [List.mem_singleton.mp h]; exact hin
    · rintro H8 e8 _ H9 ⟨e9, L', o6, o7, o8, hlt, hj60, he, rfl, hL9, hD9, bfs, hcl⟩
      rw [List.take_length] at hcl
      have h8 : ds.length ≤ 8 := ok.most
      have hm := hm1 h60
      dsimp only
      refine k_set (Rl := Ex) (a := at_ + 1) (e_addN (e_var (a := at_) rfl rfl) (eN 1)) fun y H10 e10 r => ?_
      obtain rfl : y = .int ((at_ + 1 : Nat) : Int) := r
      by_cases h : L'.length ≤ 60
      · exact ⟨m - 1, by omega, RlOk.trans E27 (RlOk.trans (RlOk.ex e8) (RlOk.trans e9 (RlOk.ex e10))), L', at_ + 1, _, _, _, fun _ => by omega, fun z => by omega, hlt, by omega, rfl, hL9.mono e10, hD9.mono e10, bfs.next he hcl⟩
      · exact ⟨0, by omega, RlOk.trans E27 (RlOk.trans (RlOk.ex e8) (RlOk.trans e9 (RlOk.ex e10))), L', at_ + 1, _, _, _, fun z => absurd z h, fun _ => rfl, hlt, by omega, rfl, hL9.mono e10, hD9.mono e10, bfs.next he hcl⟩
end
end B
/-! lots_below. -/
namespace B
open PySem PySem.Spec PyProof.Rows L2
def loOf (lot : List Nat) : Nat := if 0 < lot.length then lot.getD (lot.length - 1) 0 + 1 else 0
def nxt (n : Nat) (lot : List Nat) : List (List Nat) := (List.range (n - loOf lot)).map fun k => lot ++ [loOf lot + k]
def lvl (n : Nat) : Nat → List (List Nat)
  | 0 => [[]]
  | k + 1 => (lvl n k).flatMap (nxt n)
def below (n : Nat) : Nat → List (List Nat)
  | 0 => [[]]
  | k + 1 => below n k ++ lvl n (k + 1)
/-- rising, below n -/
def Inc (n : Nat) (lot : List Nat) : Prop := lot.Pairwise (· < ·) ∧ ∀ s ∈ lot, s < n
theorem loOf_snoc (l : List Nat) (x : Nat) : loOf (l ++ [x]) = x + 1 := by
  unfold loOf
  rw [if_pos (by simp)]
  congr 1
  rw [List.getD_eq_getElem?_getD, List.length_append, List.length_singleton, Nat.add_sub_cancel, List.getElem?_append_right (Nat.le_refl _), Nat.sub_self]; rfl
theorem inc_snoc {n : Nat} {l : List Nat} {x : Nat} : Inc n (l ++ [x]) ↔ Inc n l ∧ loOf l ≤ x ∧ x < n := by
  unfold Inc
  rw [List.pairwise_append]
  constructor
  · rintro ⟨⟨h1, _, h3⟩, h4⟩
    refine ⟨⟨h1, fun s hs => h4 s (List.mem_append_left _ hs)⟩, ?_, h4 x (List.mem_append_right _ (by simp))⟩
    unfold loOf
    split
    · rename_i h
      have := h3 _ (List.mem_of_getElem? (getD_at (xs := l) (i := l.length - 1) (by omega))) x (by simp)
      omega
    · exact Nat.zero_le _
  · rintro ⟨⟨h1, h2⟩, h3, h4⟩
    refine ⟨⟨h1, by simp, fun a ha b hb => ?_⟩, fun s hs => ?_⟩
    · rw [List.mem_singleton.mp hb]
      have hpos : 0 < l.length := List.length_pos_of_mem ha
      unfold loOf at h3
      rw [if_pos hpos] at h3
      obtain ⟨i, hi⟩ := List.getElem?_of_mem ha
      have hil := (List.getElem?_eq_some_iff.mp hi).1
      have hle : a ≤ l.getD (l.length - 1) 0 := by
        rcases Nat.lt_or_eq_of_le (show i ≤ l.length - 1 by omega) with h | h
        · have := List.pairwise_iff_getElem.mp h1 i (l.length - 1) hil (by omega) h
          rw [List.getElem?_eq_getElem hil] at hi
          rw [← Option.some.inj hi, List.getD_eq_getElem?_getD, List.getElem?_eq_getElem (by omega)]
          exact Nat.le_of_lt this
        · subst h
          rw [List.getD_eq_getElem?_getD, hi]; exact Nat.le_refl _
      omega
    · rcases List.mem_append.mp hs with h | h
      · exact h2 s h
      · rw [List.mem_singleton.mp h]; exact h4
theorem lvl_mem {n : Nat} : ∀ {k : Nat} {lot : List Nat}, lot ∈ lvl n k ↔ lot.length = k ∧ Inc n lot
  | 0, lot => by
    show lot ∈ [[]] ↔ _
    rw [List.mem_singleton]
    exact ⟨fun h => by subst h; exact ⟨rfl, List.Pairwise.nil, fun s h => (nomatch h)⟩, fun h => List.length_eq_zero_iff.mp h.1⟩
  | k + 1, lot => by
    show lot ∈ (lvl n k).flatMap (nxt n) ↔ _
    rw [List.mem_flatMap]
    constructor
    · rintro ⟨l, hl, h⟩
      obtain ⟨i, hi, rfl⟩ := List.mem_map.mp h
      have hi := List.mem_range.mp hi
      obtain ⟨h1, h2⟩ := lvl_mem.mp hl
      exact ⟨by rw [List.length_append, h1]; rfl, inc_snoc.mpr ⟨h2, by omega, by omega⟩⟩
    · rintro ⟨h1, h2⟩
      have hne : lot ≠ [] := fun z => by subst z; cases h1
      have e := List.dropLast_concat_getLast hne
      rw [← e] at h2
      obtain ⟨h3, h4, h5⟩ := inc_snoc.mp h2
      refine ⟨lot.dropLast, lvl_mem.mpr ⟨by rw [List.length_dropLast, h1]; rfl, h3⟩, List.mem_map.mpr ⟨lot.getLast hne - loOf lot.dropLast, List.mem_range.mpr (by omega), ?_⟩⟩
      rw [show loOf lot.dropLast + (lot.getLast hne - loOf lot.dropLast) = lot.getLast hne by omega]
      exact e
theorem Inc.len {n : Nat} {lot : List Nat} (h : Inc n lot) : lot.length ≤ n := by
  have := nodup_le (l := lot) (m := List.range n) (h.1.imp fun hab => Nat.ne_of_lt hab) fun s hs => List.mem_range.mpr (h.2 s hs)
  rwa [List.length_range] at this
theorem below_mem {n : Nat} : ∀ {k : Nat} {lot : List Nat}, lot ∈ below n k ↔ lot.length ≤ k ∧ Inc n lot
  | 0, lot => by
    show lot ∈ [[]] ↔ _
    rw [List.mem_singleton]
    exact ⟨fun h => by subst h; exact ⟨Nat.le_refl _, List.Pairwise.nil, fun s h => (nomatch h)⟩, fun h => List.length_eq_zero_iff.mp (Nat.le_zero.mp h.1)⟩
  | k + 1, lot => by
    show lot ∈ below n k ++ lvl n (k + 1) ↔ _
    rw [List.mem_append, below_mem, lvl_mem]
    constructor
    · rintro (⟨h1, h2⟩ | ⟨h1, h2⟩)
      · exact ⟨by omega, h2⟩
      · exact ⟨by omega, h2⟩
    · rintro ⟨h1, h2⟩
      by_cases h : lot.length ≤ k
      · exact .inl ⟨h, h2⟩
      · exact .inr ⟨by omega, h2⟩
theorem lvl_len {n : Nat} : ∀ k, (lvl n k).length ≤ n ^ k
  | 0 => Nat.le_refl _
  | k + 1 => by
    have h := flat_len (nxt n) n (lvl n k) fun l _ => by unfold nxt; rw [List.length_map, List.length_range]; omega
    show ((lvl n k).flatMap (nxt n)).length ≤ _
    rw [Nat.pow_succ]
    exact Nat.le_trans h (Nat.mul_le_mul_right n (lvl_len k))
theorem below_len {n : Nat} (h5 : n ≤ 5) : ∀ k, k ≤ 6 → (below n k).length ≤ 1 + k * 15625
  | 0, _ => Nat.le_refl _
  | k + 1, hk => by
    have h1 := below_len h5 k (by omega)
    have h2 := lvl_len (n := n) (k + 1)
    have h3 : n ^ (k + 1) ≤ 5 ^ 6 := Nat.le_trans (Nat.pow_le_pow_left h5 _) (Nat.pow_le_pow_right (by decide) hk)
    show (below n k ++ lvl n (k + 1)).length ≤ _
    rw [List.length_append]
    have : (5 : Nat) ^ 6 = 15625 := by decide
    omega
theorem lvl_len6 {n k : Nat} (h5 : n ≤ 5) (hk : k ≤ 6) : (lvl n k).length ≤ 15625 := Nat.le_trans (lvl_len k) (Nat.le_trans (Nat.pow_le_pow_left h5 _) (Nat.le_trans (Nat.pow_le_pow_right (by decide) hk) (by decide)))
theorem lvl_nil {n k : Nat} (h : n < k) : lvl n k = [] := by
  cases e : lvl n k with
  | nil => rfl
  | cons x xs =>
    have := lvl_mem.mp (show x ∈ lvl n k by rw [e]; exact List.mem_cons_self)
    have := this.2.len
    omega
def spBelowL : Sp := spNL (ι := Nat) (fun n _ => n ≤ 5) (fun n => [mp n]) fun n (L : List (List Nat)) => L.length ≤ 100000 ∧ ∀ lot, lot ∈ L ↔ Inc n lot
section
variable {P : Program} {w : World} {K : PySem.W.Frag} {mg : Str → Option Value} {base : Heap}
theorem e_lo {σ : L2.St} {H : Hp} {j : Nat} {v : V} {lot : List Nat} (hj : σ[j]? = some (some v)) (r : Enc.rep (tp H) v lot) : Ev Ex (tIf (tTest (tOp rGtI (tCB (rLenU K) (tCons (tVar j) tNil)) (tC (.int 0)))) (tOp (rAddU K) (tOp (rIxU K) (tVar j) (tUn rNegI (tC (.int 1)))) (tC (.int 1))) (tC (.int 0))) σ H (loOf lot) := by
  refine e_if (b := decide (0 < lot.length)) (et_test (e_op (e_lenT (e_var hj r)) (eN 0) rv_gtN)) (fun hb => ?_) fun hb => ?_
  · have hb := of_decide_eq_true hb
    have : loOf lot = lot.getD (lot.length - 1) 0 + 1 := if_pos hb
    rw [this]
    exact e_addN (e_ixTlast (e_var hj r) e_neg1 (getD_at (by omega))) (eN 1)
  · have hb := of_decide_eq_false hb
    have : loOf lot = 0 := if_neg hb
    rw [this]
    exact eN 0
theorem k_push {H : Hp} {D : Addr} {xs : List (List Nat)} {x : List Nat} {v : V} (hl : LsAt H D xs) (r : Enc.rep (tp H) v x) : ∃ acc, H D = some (.lst acc) ∧ acc.length = xs.length ∧ ExM (· = D) H (upd H D (.lst (acc ++ [v]))) ∧ LsAt (upd H D (.lst (acc ++ [v]))) D (xs ++ [x]) := by
  obtain ⟨vs, h1, h2⟩ := hl
  exact ⟨vs, h1, h2.length, ExM.mut (RlOk.refl _) h1 (fun z => z) rfl, _, upd_same, RepA.snoc (RepA.mono (tp_upd h1 fun z => z) h2) (Enc.mono (tp_upd h1 fun z => z) r)⟩
theorem e_next {H : Hp} {n : Nat} {pl : Addr} {xs : List (List Nat)} {Q : VK} {o1 o3 o4 : Option V} (hl : LsAt H pl xs) (hn : n ≤ 5) (hx : ∀ l ∈ xs, l.length ≤ 6 ∧ loOf l ≤ 6) (hxl : xs.length ≤ 20000)
    (q : ∀ D H2, H D = none → Ex H H2 → LsAt H2 D (xs.flatMap (nxt n)) → Q (.ref D) H2) :
    tLc2 (iList K (tVar 2)) (gName 3) tYes (iRng2 (tCons (tIf (tTest (tOp rGtI (tCB (rLenU K) (tCons (tVar 3) tNil)) (tC (.int 0)))) (tOp (rAddU K) (tOp (rIxU K) (tVar 3) (tUn rNegI (tC (.int 1)))) (tC (.int 1))) (tC (.int 0))) (tCons (tVar 0) tNil))) (gName 4) tYes (tOp (rAddU K) (tVar 3) (tTup (tCons (tVar 4) tNil))) [3, 4] [4]
      [some (.int (n : Nat)), o1, some (.ref pl), o3, o4] H Q := by
  obtain ⟨vs, hv1, hv2⟩ := hl
  refine ⟨.ref pl, rfl, pl, rfl, ⟨vs, SqL.of hv1⟩, fun D hD => ?_⟩
  have hpD : pl ≠ D := fun z => by subst z; rw [hv1] at hD; cases hD
  let H1 := upd H D (.lst [])
  have E01 : Ex H H1 := Ex.new hD
  have hvl : vs.length = xs.length := hv2.length
  have pres : ∀ {Hc}, ExM (· = D) H1 Hc → Hc pl = some (.lst vs) := fun e => e.1 pl _ (E01 _ _ hv1) (.inl hpD)
  have bound : ∀ i, ((xs.take i).flatMap (nxt n)).length ≤ 100000 := fun i => by
    have h := flat_len (nxt n) 5 (xs.take i) fun l _ => by unfold nxt; rw [List.length_map, List.length_range]; omega
    have h2 : (xs.take i).length ≤ xs.length := by rw [List.length_take]; omega
    omega
  refine ⟨fun i m Hc => m = xs.length - i ∧ i ≤ xs.length ∧ ExM (· = D) H1 Hc ∧ LsAt Hc D ((xs.take i).flatMap (nxt n)), ⟨xs.length, by omega, Nat.zero_le _, RlOk.refl _, [], upd_same, trivial⟩, ?_⟩
  rintro i m Hc ⟨rfl, hi, ec, hL⟩
  have hpl := pres ec
  by_cases hlt : i < xs.length
  · refine .inr ⟨⟨vs, vs[i]'(by omega), SqL.of hpl, by simp [hvl, hlt]⟩, fun H' => i + 1 ≤ xs.length ∧ ExM (· = D) H1 H' ∧ LsAt H' D ((xs.take (i + 1)).flatMap (nxt n)), fun H' h => ⟨xs.length - (i + 1), by omega, rfl, h⟩, fun x H' hy => ?_⟩
    obtain ⟨rfl, hy⟩ := hy
    obtain ⟨lot, hlot⟩ : ∃ lot, xs[i]? = some lot := ⟨xs[i], List.getElem?_eq_getElem hlt⟩
    have hlm : lot ∈ xs := List.mem_of_getElem? hlot
    have rx : Enc.rep (tp H') x lot := by
      obtain ⟨y, h1, h2⟩ := (upA (Rl := ExM (· = D)) (RlOk.trans (RlOk.ex E01) ec) hv2).get hlot
      have h3 := hy vs (SqL.of hpl)
      rw [h1] at h3
      cases h3
      exact h2
    have htk : (xs.take (i + 1)).flatMap (nxt n) = (xs.take i).flatMap (nxt n) ++ nxt n lot := by
      rw [List.take_add_one, hlot, List.flatMap_append]; simp
    refine ⟨rfl, ?_⟩
    dsimp only [tYes]
    refine iteT ?_
    refine ea_cons (e_lo (K := K) (lot := lot) (j := 3) (v := x) rfl rx) (ea_cons (e_var (a := n) (i := 0) (v := .int (n : Nat)) rfl rfl) ea_nil) H' (Ex.refl _) _ fun as H4 e4 ra => ?_
    obtain ⟨a1, a2, rfl, ra1, ra2⟩ := reps2 ra
    obtain rfl : a1 = .int (loOf lot : Nat) := ra1
    obtain rfl : a2 = .int n := ra2
    refine ⟨loOf lot, n, rfl, ?_, ?_⟩
    · have := (hx lot hlm).2
      omega
    have hcnt : ((n : Int) - (loOf lot : Nat)).toNat = n - loOf lot := by omega
    rw [hcnt]
    have e14 : ExM (· = D) H1 H4 := RlOk.trans ec (RlOk.ex e4)
    refine ⟨fun j k Hd => k = (n - loOf lot) - j ∧ j ≤ n - loOf lot ∧ ExM (· = D) H1 Hd ∧ Enc.rep (tp Hd) x lot ∧ LsAt Hd D ((xs.take i).flatMap (nxt n) ++ (nxt n lot).take j), ⟨_, rfl, Nat.zero_le _, e14, up (Rl := Ex) e4 rx, by rw [List.take_zero, List.append_nil]; exact hL.mono e4⟩, ?_⟩
    rintro j k Hd ⟨rfl, hj, ed, rxd, hLd⟩
    by_cases hjl : j < n - loOf lot
    · refine .inr ⟨hjl, fun H' => j + 1 ≤ n - loOf lot ∧ ExM (· = D) H1 H' ∧ Enc.rep (tp H') x lot ∧ LsAt H' D ((xs.take i).flatMap (nxt n) ++ (nxt n lot).take (j + 1)), fun H' h => ⟨n - loOf lot - (j + 1), by omega, rfl, h⟩, fun y H5 hy5 => ?_⟩
      obtain ⟨rfl, rfl⟩ := hy5
      refine ⟨rfl, ?_⟩
      dsimp only [tYes]
      refine iteT ?_
      refine e_catT (xs := lot) (ys := [loOf lot + j]) (e_var (i := 3) (v := x) rfl rxd) (e_one (e_var (a := loOf lot + j) (i := 4) rfl (by show V.int _ = V.int _; rw [Int.natCast_add]))) (by have := (hx lot hlm).1; show lot.length + 1 ≤ _; omega) H5 (Ex.refl _) _ fun z H6 e6 rz => ?_
      obtain ⟨acc, h1, h2, h3, h4⟩ := k_push (hLd.mono e6) rz
      have hnx : (nxt n lot)[j]? = some (lot ++ [loOf lot + j]) := by unfold nxt; rw [List.getElem?_map, List.getElem?_range hjl]; rfl
      refine ⟨acc, h1, ?_, hjl, RlOk.trans ed (RlOk.trans (RlOk.ex e6) h3), up (Rl := ExM (· = D)) (RlOk.trans (RlOk.ex e6) h3) rxd, ?_⟩
      · rw [h2, List.length_append]
        have hb := bound i
        have : ((nxt n lot).take j).length ≤ 5 := by rw [List.length_take]; omega
        exact szl (by omega)
      · have : (xs.take i).flatMap (nxt n) ++ (nxt n lot).take (j + 1) = (xs.take i).flatMap (nxt n) ++ (nxt n lot).take j ++ [lot ++ [loOf lot + j]] := by
          rw [List.take_add_one, hnx, List.append_assoc]; rfl
        rw [this]
        exact h4
    · have hje : j = n - loOf lot := by omega
      subst hje
      refine .inl ⟨Nat.le_refl _, hlt, ed, ?_⟩
      rw [htk]
      have : (nxt n lot).take (n - loOf lot) = nxt n lot := List.take_of_length_le (by unfold nxt; rw [List.length_map, List.length_range]; exact Nat.le_refl _)
      rw [this] at hLd
      exact hLd
  · have hie : i = xs.length := by omega
    subst hie
    rw [List.take_length] at hL
    refine .inl ⟨⟨vs, SqL.of hpl, by omega⟩, q D Hc hD ?_ hL⟩
    exact ExM.out E01 ec fun a ha => by subst ha; exact hD
theorem Inc.lo {n : Nat} {lot : List Nat} (h : Inc n lot) : loOf lot ≤ n := by
  unfold loOf
  split
  · rename_i hp
    have := h.2 _ (List.mem_of_getElem? (getD_at (xs := lot) (i := lot.length - 1) (by omega)))
    omega
  · exact Nat.zero_le _
theorem ok_lots_below (W : Wd K mg) : Fn P w K mg base 4 "lots_below" p_lots_below spBelowL := by
  refine fn_ok (k := 0) W 16 sc_lots_below (spNL_len fun _ => rfl) (fun _ _ _ _ _ _ us hl => match us, hl with | [_], _ => rfl) fun f cdv A outer s H vs Q E hr h => ⟨_, w_lots_below W hr, ?_⟩
  obtain ⟨n, hn, hr', hq⟩ := h
  obtain ⟨v0, rfl, r0⟩ := reps1 hr'
  obtain rfl : v0 = .int n := r0
  show tSeq _ _ _ _ _
  refine k_seq (k_par' ?_)
  refine e_lstH (Rl := Ex) (xs := [([] : List Nat)]) (eh_cons e_unitT eh_nil) (by show 1 ≤ 1000000; decide) H (Ex.refl _) _ fun pf vs1 H1 hn1 e1 hl1 rl1 => ?_
  refine e_lstH (Rl := Ex) (xs := [([] : List Nat)]) (eh_cons e_unitT eh_nil) (by show 1 ≤ 1000000; decide) H1 (Ex.refl _) _ fun pl vs2 H2 hn2 e2 hl2 rl2 => ?_
  refine ⟨.ref pf, .ref pl, rfl, ?_⟩
  have hfl : pf ≠ pl := fun z => by rw [← z, hl1] at hn2; cases hn2
  dsimp only
  refine k_seq (k_while (Rl := Ex) (fun m σ1 Hc => ExM (· = pf) H Hc ∧ ∃ k pl o3 o4, m + k = 7 ∧ k ≤ n + 1 ∧ σ1 = [some (.int (n : Nat)), some (.ref pf), some (.ref pl), o3, o4] ∧ pf ≠ pl ∧ LsAt Hc pf (below n k) ∧ LsAt Hc pl (lvl n k))
    ⟨7, RlOk.ex (e1.trans e2), 0, pl, _, _, rfl, Nat.zero_le _, rfl, hfl, ⟨vs1, e2 _ _ hl1, upA (Rl := Ex) e2 rl1⟩, ⟨vs2, hl2, rl2⟩⟩ ?_)
  rintro m _ Hc ⟨ec, k, pl, o3, o4, hmk, hk1, rfl, hfl, hF, hLl⟩
  refine ⟨decide (0 < (lvl n k).length), et_test (e_op (e_lenLs (e_var rfl rfl) hLl.ls) (eN 0) rv_gtN), fun hb H3 e3 => ?_, fun hb H3 e3 => ?_⟩
  · have hb := of_decide_eq_false hb
    dsimp only
    obtain ⟨ws, z1, z2⟩ := hF.mono e3
    refine ⟨.ref pf, rfl, hq pf ws (below n k) H3 hn1 (ExM.out (Ex.refl H) (RlOk.trans ec (RlOk.ex e3)) fun a ha => by subst ha; exact hn1) ⟨?_, fun lot => ?_⟩ z1 z2⟩
    · have := below_len (n := n) hn k
      have hn5 : n ≤ 5 := hn
      have := this (by omega)
      omega
    · rw [below_mem]
      refine ⟨fun h => h.2, fun h => ⟨?_, h⟩⟩
      refine Nat.le_of_not_lt fun hlt => ?_
      have hnil : lvl n k = [] := List.length_eq_zero_iff.mp (by omega)
      have : lot.take k ∈ lvl n k := lvl_mem.mpr ⟨by rw [List.length_take]; omega, h.1.sublist (List.take_sublist _ _), fun s hs => h.2 s (List.mem_of_mem_take hs)⟩
      rw [hnil] at this
      cases this
  · have hb := of_decide_eq_true hb
    have hkn : k ≤ n := by
      refine Nat.le_of_not_lt fun h => ?_
      rw [lvl_nil h] at hb
      exact absurd hb (by decide)
    have hn5 : n ≤ 5 := hn
    refine k_seq ?_
    refine e_next (K := K) (hLl.mono e3) hn5 (fun l hl => ?_) (by have := lvl_len6 (n := n) hn5 (k := k) (by omega); omega) fun D H4 hn4 e4 hD => ?_
    · obtain ⟨h1, h2⟩ := lvl_mem.mp hl
      have := h2.lo
      omega
    have hF4 := hF.mono (e3.trans e4)
    obtain ⟨wf, f1, f2⟩ := hF4
    obtain ⟨wl, l1, l2⟩ := hD
    have hfD : pf ≠ D := fun z => by obtain ⟨_, q, _⟩ := hF.mono e3; rw [z, hn4] at q; cases q
    have hle := below_len (n := n) hn5 (k + 1) (by omega)
    have hle2 : (below n k ++ lvl n (k + 1)).length ≤ 1 + (k + 1) * 15625 := hle
    rw [List.length_append] at hle2
    refine ⟨.ref pf, rfl, .ref D, rfl, pf, D, wf, wl, rfl, rfl, f1, l1, ?_, m - 1, by omega, ?_, k + 1, D, _, _, by omega, by omega, rfl, hfD, ?_, ?_⟩
    · rw [f2.length, l2.length]
      exact sz (by show (below n k).length + (lvl n (k + 1)).length ≤ _; omega)
    · exact RlOk.trans ec (RlOk.trans (RlOk.ex (e3.trans e4)) (ExM.mut (RlOk.refl _) f1 (fun z => z) rfl))
    · exact ⟨_, upd_same, RepA.mono (tp_upd f1 fun z => z) (f2.append l2)⟩
    · exact ⟨wl, by rw [upd_ne (Ne.symm hfD)]; exact l1, RepA.mono (tp_upd f1 fun z => z) l2⟩
end
end B
/-! vouched_lots, vouch_grouping. -/
namespace B
open PySem PySem.Spec PyProof.Rows L2
theorem mem_vouch {n : Nat} {ds : List Deed} {st : List Nat} {s : Nat} : s ∈ vouch n ds st ↔ s < n ∧ ∀ lot, IsLot n ds lot → within st lot = true → s ∈ lot := by
  unfold vouch
  rw [List.mem_filter, List.mem_range, @decide_eq_true_eq _ (Classical.propDecidable _)]
theorem within_one {s : Nat} {lot : List Nat} : within [s] lot = true ↔ s ∈ lot := by
  unfold within
  rw [List.all_cons, List.all_nil, Bool.and_true, decide_eq_true_eq]
/-- each vouches for the other -/
def Mut2 (n : Nat) (ds : List Deed) (s t : Nat) : Prop := t ∈ vouch n ds [s] ∧ s ∈ vouch n ds [t]
theorem mem_al {n : Nat} {ds : List Deed} {s t : Nat} : t ∈ vouch n ds [s] ↔ t < n ∧ ∀ lot, IsLot n ds lot → s ∈ lot → t ∈ lot := by
  rw [mem_vouch]
  exact ⟨fun h => ⟨h.1, fun lot hl hs => h.2 lot hl (within_one.mpr hs)⟩, fun h => ⟨h.1, fun lot hl hs => h.2 lot hl (within_one.mp hs)⟩⟩
theorem al_refl {n : Nat} {ds : List Deed} {s : Nat} (h : s < n) : s ∈ vouch n ds [s] := mem_al.mpr ⟨h, fun _ _ h => h⟩
theorem al_trans {n : Nat} {ds : List Deed} {s t u : Nat} (h1 : t ∈ vouch n ds [s]) (h2 : u ∈ vouch n ds [t]) : u ∈ vouch n ds [s] := by
  obtain ⟨_, a⟩ := mem_al.mp h1
  obtain ⟨b, c⟩ := mem_al.mp h2
  exact mem_al.mpr ⟨b, fun lot hl hs => c lot hl (a lot hl hs)⟩
theorem Mut2.symm {n : Nat} {ds : List Deed} {s t : Nat} (h : Mut2 n ds s t) : Mut2 n ds t s := ⟨h.2, h.1⟩
theorem Mut2.trans {n : Nat} {ds : List Deed} {s t u : Nat} (h : Mut2 n ds s t) (k : Mut2 n ds t u) : Mut2 n ds s u := ⟨al_trans h.1 k.1, al_trans k.2 h.2⟩
def spVLots (K : PySem.W.Frag) : Sp := spN (ι := Nat × List Deed × Addr × Nat) (fun i H => preM K i H ∧ i.1 ≤ 5) msM fun i (r : List (List Nat)) => r.length ≤ 100000 ∧ ∀ lot, lot ∈ r ↔ Inc i.1 lot ∧ vouch i.1 i.2.1 lot = lot
def GroupOk (n : Nat) (ds : List Deed) (r : List Nat) : Prop := r.length = n ∧ ∀ s t, s < n → t < n → (r.getD s 0 = r.getD t 0 ↔ Mut2 n ds s t)
def spGroup (K : PySem.W.Frag) : Sp := spN (ι := Nat × List Deed × Addr × Nat) (preM K) msM fun i (r : List Nat) => GroupOk i.1 i.2.1 r
theorem lc_src {K : PySem.W.Frag} {te tx : TE} {g : TG} {tt : TT} {vs : List Nat} {k : V → Hp → VK → Prop} {σ : L2.St} {H : Hp} {Q : VK} (h : te σ H fun x H1 => tThen (tLc (iList K (tC x)) g tt tx vs) k σ H1 Q) : tThen (tLc (iList K te) g tt tx vs) k σ H Q := h
section
variable {P : Program} {w : World} {K : PySem.W.Frag} {mg : Str → Option Value} {base : Heap}
theorem k_setQ {σ : L2.St} {H : Hp} {D : Ends} {te : TE} {j : Nat} (h : te σ H fun v H1 => D.nx (σ.set j (some v)) H1) : tAsg te (gName j) D σ H := h
theorem n_call1 {σ : L2.St} {H : Hp} {Q : VK} {sp : Sp} {E : XK} {ta : TE} (h : ta σ H fun x H1 => sp [x] H1 Q E) : tCall sp [] E (tCons ta tNil) σ H Q := h
theorem e_meet {σ : L2.St} {H : Hp} {n jm jl : Nat} {ds : List Deed} {p : Addr} {lots : List (List Nat)} {st : List Nat} {vl : V} {te : TE} (m : Mf K) (hn : n ≤ 1000000) (hst : st.length ≤ 1000000) (hm : σ[jm]? = some (some (.ref p))) (hM : MachAt K H p n ds) (hl : σ[jl]? = some (some vl)) (rl : Enc.rep (tp H) vl lots) (h : Ev Ex te σ H st) :
    Ev Ex (tCall spMeet [] E0 (tCons (tFld K (tVar jm) "size") (tCons (tVar jl) (tCons te tNil)))) σ H (meetOf n lots st) :=
  e_call (ι := Nat × List (List Nat) × List Nat) (res := fun i => meetOf i.1 i.2.1 i.2.2) (n, lots, st) (ea_cons (e_size m hm hM.ms) (ea_cons (e_var hl rl) (ea_cons h ea_nil))) fun _ _ => ⟨hn, hst⟩
theorem ok_vouched_lots (W : Wd K mg) : FnK P w K mg base 20 "vouched_lots" p_vouched_lots 1 ["most"] [.int 400] (spVLots K) := by
  refine fnk_ok (k := 16) W 28 1 sc_vouched_lots rfl (spN_len fun _ => rfl) (fun D doc pm an cdv ct us ks h1 h2 => ?_) (fun D doc pm an cdv ct us ws h1 h2 => ?_) fun f cdv A outer s H vs Q E hr h => ⟨_, w_vouched_lots spBelowL spMeet (spLots K) W hr (F_lots_below := (ok_lots_below W).mono (by decide)) (F_meet_of := (ok_meet_of W).mono (by decide)) (F_exchange_lots := ok_exchange_lots W), ?_⟩
  · match us, ks, h1, h2 with
    | [u], [k], _, _ => exact ⟨_, _, _, _, _, _, rfl, rfl, rfl⟩
  · match us, ws, h1, h2 with
    | [u], [k], _, _ => rfl
  obtain ⟨⟨n, ds, p, most⟩, ⟨pre, hn5⟩, hr', hq⟩ := h
  obtain ⟨v0, v1, rfl, r0, r1⟩ := reps2 hr'
  obtain rfl : v0 = .ref p := r0
  obtain rfl : v1 = .int most := r1
  have ok : MachOk n ds := pre.1
  have hn : n ≤ 1000000 := by have h1 : 2 ≤ n := ok.lo; have h2 : n ≤ 49 := ok.hi; omega
  show tSeq _ _ _ _ _
  refine k_seq (k_setQ ?_)
  refine n_lots rfl rfl pre fun v2 lots H1 e1 _ hlots r2 => ?_
  dsimp only
  have hM1 := pre.2.2.2.mono e1
  refine lc_src (n_call1 ?_)
  refine e_size (Rl := Ex) W.mf rfl hM1.ms H1 (Ex.refl _) _ fun vn H2 e2 rn => ?_
  obtain rfl : vn = .int n := rn
  refine ⟨n, hn5, ⟨rfl, trivial⟩, fun p2 ws L H3 hn3 e3 ⟨hlen, hL⟩ hw1 hw2 => ?_⟩
  have hLs : LsAt H3 p2 L := ⟨ws, hw1, hw2⟩
  have hM3 := hM1.mono (e2.trans e3)
  have r23 := up (Rl := Ex) (e2.trans e3) r2
  refine e_tupleNew (e_lcF (fun lot => decide (vouch n ds lot = lot)) fr_ex (ws_ls (e_c fun _ => rfl) hLs.ls) (by omega) (by show 3 < 4; decide) (fun _ _ _ h => h) fun lot v H4 hx e4 y => ?_) H3 (Ex.refl _) _ fun v H4 e4 r4 => hq v _ H4 (e1.trans (e2.trans (e3.trans e4))) ⟨?_, fun lot => ?_⟩ r4
  · have hi := (hL lot).mp hx
    have := e_meet W.mf hn (st := lot) (by have := hi.len; omega) (σ := ((L2.start n_vouched_lots [V.ref p, V.int (most : Nat)]).set 2 (some v2) |>.set 3 none |>.set 3 (some v))) (jm := 0) (jl := 2) (te := tVar 3) rfl (hM3.mono e4) rfl (up (Rl := Ex) e4 r23) (e_var rfl y)
    rw [meet_vouch hlots] at this
    exact et_test (e_op this (e_var rfl y) (rv_eqD (fun _ _ => trivial) (fun _ _ => trivial) (by decide)))
  · exact Nat.le_trans (List.length_filter_le _ _) hlen
  · rw [List.mem_filter, hL, decide_eq_true_eq]
theorem ok_vouch_grouping (W : Wd K mg) : FnK P w K mg base 20 "vouch_grouping" p_vouch_grouping 1 ["most"] [.int 400] (spGroup K) := by
  refine fnk_ok (k := 16) W 29 1 sc_vouch_grouping rfl (spN_len fun _ => rfl) (fun D doc pm an cdv ct us ks h1 h2 => ?_) (fun D doc pm an cdv ct us ws h1 h2 => ?_) fun f cdv A outer s H vs Q E hr h => ⟨_, w_vouch_grouping spMeet (spLots K) W hr (F_meet_of := (ok_meet_of W).mono (by decide)) (F_exchange_lots := ok_exchange_lots W), ?_⟩
  · match us, ks, h1, h2 with
    | [u], [k], _, _ => exact ⟨_, _, _, _, _, _, rfl, rfl, rfl⟩
  · match us, ws, h1, h2 with
    | [u], [k], _, _ => rfl
  obtain ⟨⟨n, ds, p, most⟩, pre, hr', hq⟩ := h
  obtain ⟨v0, v1, rfl, r0, r1⟩ := reps2 hr'
  obtain rfl : v0 = .ref p := r0
  obtain rfl : v1 = .int most := r1
  have ok : MachOk n ds := pre.1
  have hn : n ≤ 1000000 := by have h1 : 2 ≤ n := ok.lo; have h2 : n ≤ 49 := ok.hi; omega
  show tSeq _ _ _ _ _
  refine k_seq (k_setQ ?_)
  refine n_lots rfl rfl pre fun v2 lots H1 e1 _ hlots r2 => ?_
  have hM1 := pre.2.2.2.mono e1
  dsimp only
  refine k_seq (k_setL (Rl := Ex) (xs := (List.range n).map fun s => vouch n ds [s]) (e_lcM (fun s => vouch n ds [s]) fr_ex (ws_rg1 (ea_cons (e_size W.mf rfl hM1.ms) ea_nil) hn) (by rw [List.length_range]; exact hn) fun s v H2 hx e2 y => ?_) fun pv vs3 H3 hn3 e3 hl3 rl3 => ?_)
  · have := e_meet W.mf hn (st := [s]) (by show 1 ≤ 1000000; decide) (σ := ((L2.start n_vouch_grouping [V.ref p, V.int (most : Nat)]).set 2 (some v2) |>.set 3 none |>.set 3 (some v))) (jm := 0) (jl := 2) (te := tTup (tCons (tVar 3) tNil)) rfl (hM1.mono e2) rfl (up (Rl := Ex) e2 r2) (e_one (e_var rfl y))
    rw [meet_vouch hlots] at this
    exact this
  dsimp only
  generalize hV : (List.range n).map (fun s => vouch n ds [s]) = V0 at *
  have hVl : V0.length = n := by rw [← hV, List.length_map, List.length_range]
  have hVat : ∀ s, s < n → V0[s]? = some (vouch n ds [s]) := fun s hs => by rw [← hV, List.getElem?_map, List.getElem?_range hs]; rfl
  refine k_seq (k_par' ?_)
  refine e_lstH (Rl := Ex) (xs := ([] : List Nat)) eh_nil (by show 0 ≤ 1000000; decide) H3 (Ex.refl _) _ fun pn vs4 H4 hn4 e4 hl4 rl4 => ?_
  refine ⟨.ref pn, .int 0, rfl, ?_⟩
  dsimp only
  have hLv : LsAt H4 pv V0 := ⟨vs3, e4 _ _ hl3, upA (Rl := Ex) e4 rl3⟩
  have hpn : pv ≠ pn := fun z => by rw [z] at hl3; rw [hl3] at hn4; cases hn4
  have hstart : LsAt H4 pn ([] : List Nat) := ⟨vs4, hl4, rl4⟩
  have hLm : Ls (ExM (· = pn)) H4 pv V0 := hLv.lsM hpn
  refine k_seq (k_for (Rl := ExM (· = pn)) (wz_enumL (xs := V0) (e_var rfl rfl) hLm) (fun H5 i σ1 H6 => ExM (· = pn) H5 H6 ∧ ∃ (nums : List Nat) (many : Nat), ∃ o3 o7 o8 o9, σ1 = [some (.ref p), some (.int (most : Nat)), some v2, o3, some (.ref pv), some (.ref pn), some (.int (many : Nat)), o7, o8, o9] ∧ LsAt H6 pn nums ∧ nums.length = i ∧ (∀ s t, s < i → t < i → (nums.getD s 0 = nums.getD t 0 ↔ Mut2 n ds s t)) ∧ ∀ s, s < i → nums.getD s 0 < many)
    (fun H5 e5 => ⟨RlOk.refl _, [], 0, _, _, _, _, rfl, hstart.mono e5, rfl, fun s t h => absurd h (Nat.not_lt_zero s), fun s h => absurd h (Nat.not_lt_zero s)⟩) (fun _ i σ1 H4 h => h.1) (fun _ i σ1 H4 H5 ⟨a, nums, many, o3, o7, o8, o9, b, c, d⟩ e => ⟨RlOk.trans a (RlOk.ex e), nums, many, o3, o7, o8, o9, b, c.mono e, d⟩) ?_ ?_)
  · rintro H5 e5 i x v _ H6 hx ⟨e6, nums, many, o3, o7, o8, o9, rfl, hN, hNl, heq, hlt⟩ y
    rw [List.getElem?_mapIdx] at hx
    have hin : i < n := by
      cases q : V0[i]? with
      | none => rw [q] at hx; cases hx
      | some z => rw [← hVl]; exact (List.getElem?_eq_some_iff.mp q).1
    rw [hVat i hin] at hx
    cases hx
    refine tgt_pair y fun u3 u7 s3 s7 => ?_
    obtain rfl : u3 = .int (i : Nat) := s3
    have s7 : Enc.rep (tp H6) u7 (vouch n ds [i]) := s7
    have hLv6 : Ls Ex H6 pv V0 := ((hLm.mono (RlOk.trans (RlOk.ex e5) e6)).to).ls
    have hal : ∀ o ∈ vouch n ds [i], o < n := fun o ho => (mem_al.mp ho).1
    let alike := (vouch n ds [i]).filter fun o => decide (o < i) && decide (i ∈ vouch n ds [o])
    have hmem : ∀ o, o ∈ alike ↔ o < i ∧ Mut2 n ds i o := fun o => by
      show o ∈ List.filter _ _ ↔ _
      rw [List.mem_filter, Bool.and_eq_true, decide_eq_true_eq, decide_eq_true_eq]
      exact ⟨fun h => ⟨h.2.1, h.1, h.2.2⟩, fun h => ⟨h.2.1, h.1, h.2.2⟩⟩
    refine k_seq (k_setL (Rl := Ex) (xs := alike) (e_lcF (fun o => decide (o < i) && decide (i ∈ vouch n ds [o])) fr_ex (ws_tup (e_var rfl s7)) (by have := vouch_len (n := n) (ds := ds) (st := [i]); omega) (by show 9 < 10; decide) (fun _ _ _ h => h) fun o v H7 ho e7 y7 => et_and (et_test (e_op (e_var rfl y7) (e_var (a := i) rfl rfl) rv_ltN)) fun _ => et_test (e_op (e_var (a := i) rfl rfl) (e_ixLs (e_var rfl rfl) (hLv6.mono e7) (e_var rfl y7) (hVat o (hal o ho))) rv_inN)) fun pa vsa H7 hna e7 hla rla => ?_)
    dsimp only
    have hA : LsAt H7 pa alike := ⟨vsa, hla, rla⟩
    have hN7 := hN.mono e7
    have hnl : nums.length < 1000000 := by omega
    refine k_if (Rl := Ex) (b := decide (0 < alike.length)) (et_test (e_op (e_lenLs (e_var rfl rfl) hA.ls) (eN 0) rv_gtN)) (fun hb H8 e8 => ?_) fun hb H8 e8 => ?_
    · have hb := of_decide_eq_true hb
      obtain ⟨o, ho⟩ : ∃ o, alike[0]? = some o := ⟨alike[0], List.getElem?_eq_getElem hb⟩
      obtain ⟨ho1, ho2⟩ := (hmem o).mp (List.mem_of_getElem? ho)
      refine k_append (a := nums.getD o 0) (xs := nums) (j := 5) rfl (hN7.mono e8) (e_ixLs (e_var rfl rfl) (hN7.mono e8).ls (e_ixLs (e_var rfl rfl) (hA.mono e8).ls (eN 0) ho) (getD_at (by omega))) hnl fun H9 e9 hN9 => ⟨RlOk.trans e6 (RlOk.trans (RlOk.ex (e7.trans e8)) e9), _, many, _, _, _, _, rfl, hN9, by rw [List.length_append, hNl]; rfl, ?_, ?_⟩
      · have gl : ∀ s, s < i → (nums ++ [nums.getD o 0]).getD s 0 = nums.getD s 0 := fun s hs => by rw [List.getD_eq_getElem?_getD, List.getElem?_append_left (by omega), ← List.getD_eq_getElem?_getD]
        have gi : (nums ++ [nums.getD o 0]).getD i 0 = nums.getD o 0 := by rw [List.getD_eq_getElem?_getD, List.getElem?_append_right (by omega), hNl, Nat.sub_self]; rfl
        intro s t hs ht
        by_cases h1 : s < i
        · by_cases h2 : t < i
          · rw [gl s h1, gl t h2]; exact heq s t h1 h2
          · obtain rfl : t = i := by omega
            rw [gl s h1, gi, heq s o h1 ho1]
            exact ⟨fun h => h.trans ho2.symm, fun h => h.trans ho2⟩
        · obtain rfl : s = i := by omega
          by_cases h2 : t < s
          · rw [gl t h2, gi, heq o t ho1 h2]
            exact ⟨fun h => ho2.trans h, fun h => ho2.symm.trans h⟩
          · obtain rfl : t = s := by omega
            exact ⟨fun _ => ⟨al_refl hin, al_refl hin⟩, fun _ => rfl⟩
      · intro s hs
        by_cases h1 : s < i
        · rw [List.getD_eq_getElem?_getD, List.getElem?_append_left (by omega), ← List.getD_eq_getElem?_getD]; exact hlt s h1
        · obtain rfl : s = i := by omega
          rw [List.getD_eq_getElem?_getD, List.getElem?_append_right (by omega), hNl, Nat.sub_self]
          exact hlt o ho1
    · have hb := of_decide_eq_false hb
      have hnone : ∀ o, o < i → ¬ Mut2 n ds i o := fun o h1 h2 => by
        have := List.length_pos_of_mem ((hmem o).mpr ⟨h1, h2⟩)
        omega
      refine k_seq (k_append (a := many) (xs := nums) (j := 5) rfl (hN7.mono e8) (e_var (a := many) rfl rfl) hnl fun H9 e9 hN9 => ?_)
      dsimp only
      refine k_aug (Rl := Ex) (m := (many : Int)) (n := 1) rfl rfl (e_c fun _ => rfl) fun H10 e10 => ⟨RlOk.trans e6 (RlOk.trans (RlOk.ex (e7.trans e8)) (RlOk.trans e9 (RlOk.ex e10))), _, many + 1, _, _, _, _, rfl, hN9.mono e10, by rw [List.length_append, hNl]; rfl, ?_, ?_⟩
      · have gl : ∀ s, s < i → (nums ++ [many]).getD s 0 = nums.getD s 0 := fun s hs => by rw [List.getD_eq_getElem?_getD, List.getElem?_append_left (by omega), ← List.getD_eq_getElem?_getD]
        have gi : (nums ++ [many]).getD i 0 = many := by rw [List.getD_eq_getElem?_getD, List.getElem?_append_right (by omega), hNl, Nat.sub_self]; rfl
        intro s t hs ht
        by_cases h1 : s < i
        · by_cases h2 : t < i
          · rw [gl s h1, gl t h2]; exact heq s t h1 h2
          · obtain rfl : t = i := by omega
            rw [gl s h1, gi]
            have := hlt s h1
            exact ⟨fun h => by omega, fun h => absurd h.symm (hnone s h1)⟩
        · obtain rfl : s = i := by omega
          by_cases h2 : t < s
          · rw [gl t h2, gi]
            have := hlt t h2
            exact ⟨fun h => by omega, fun h => absurd h (hnone t h2)⟩
          · obtain rfl : t = s := by omega
            exact ⟨fun _ => ⟨al_refl hin, al_refl hin⟩, fun _ => rfl⟩
      · intro s hs
        by_cases h1 : s < i
        · rw [List.getD_eq_getElem?_getD, List.getElem?_append_left (by omega), ← List.getD_eq_getElem?_getD]
          have := hlt s h1; omega
        · obtain rfl : s = i := by omega
          rw [List.getD_eq_getElem?_getD, List.getElem?_append_right (by omega), hNl, Nat.sub_self]
          show many < many + 1
          omega
  · rintro H5 e5 _ H6 ⟨e6, nums, many, o3, o7, o8, o9, rfl, hN, hNl, heq, hlt⟩
    rw [List.length_mapIdx, hVl] at hNl heq
    dsimp only
    refine k_ret (Rl := Ex) (a := nums) (e_tupleLs (e_var rfl rfl) hN.ls) fun v H7 e7 r7 => hq v nums H7 ?_ ⟨hNl, heq⟩ r7
    exact ExM.out (e1.trans (e3.trans (e4.trans e5))) (RlOk.trans e6 (RlOk.ex e7)) fun a ha => by subst ha; exact RlOk.back (Rl := Ex) (e1.trans e3) hn4
end
end B
/-! a deal: a list of a list of whole numbers and a number; what is dealt is left open. -/
namespace B
open PySem PySem.Spec PyProof.Rows L2
def DealAt (d c : Addr) (H : Hp) : Prop := ∃ (m : Nat) (cells : List Nat), H d = some (.lst [.ref c, .int (m : Nat)]) ∧ H c = some (.lst (cells.map fun (n : Nat) => V.int n)) ∧ m < 2147483647 ∧ cells.length ≤ 63
theorem DealAt.ne {d c : Addr} {H : Hp} (h : DealAt d c H) : d ≠ c := fun z => by
  obtain ⟨m, cells, h1, h2, _⟩ := h
  subst z
  rw [h1] at h2
  cases cells with
  | nil => cases h2
  | cons x xs => injection h2 with h2; injection h2 with h2; rw [List.map_cons] at h2; injection h2 with h2; cases h2
theorem DealAt.lst {d c : Addr} {H : Hp} (h : DealAt d c H) : ∀ a, (a = d ∨ a = c) → ∀ u, H a = some u → ∃ xs, u = .lst xs := fun a ha u hu => by
  obtain ⟨m, cells, h1, h2, _⟩ := h
  rcases ha with rfl | rfl
  · rw [h1] at hu; exact ⟨_, (Option.some.inj hu).symm⟩
  · rw [h2] at hu; exact ⟨_, (Option.some.inj hu).symm⟩
def Dl (d c : Addr) (H H' : Hp) : Prop := ExM (fun a => a = d ∨ a = c) H H' ∧ (DealAt d c H → DealAt d c H')
instance (d c : Addr) : RlOk (Dl d c) where
  refl H := ⟨RlOk.refl H, id⟩
  trans e f := ⟨RlOk.trans e.1 f.1, fun h => f.2 (e.2 h)⟩
  ex e := ⟨RlOk.ex e, fun ⟨m, cells, h1, h2, h3⟩ => ⟨m, cells, e _ _ h1, e _ _ h2, h3⟩⟩
  tup e := RlOk.tup e.1
  put := fun {H H' p o} e h => ⟨RlOk.put e.1 h, fun hD => by
    obtain ⟨m, cells, h1, h2, h3⟩ := e.2 hD
    obtain ⟨_, _, k1, k2, _⟩ := hD
    exact ⟨m, cells, by rw [upd_ne (ne_of_none k1 h)]; exact h1, by rw [upd_ne (ne_of_none k2 h)]; exact h2, h3⟩⟩
  back e h := RlOk.back e.1 h
theorem Dl.ls {d c : Addr} {α : Type} [Enc α] {H : Hp} {p : Addr} {xs : List α} (h : LsAt H p xs) (h1 : p ≠ d) (h2 : p ≠ c) : Ls (Dl d c) H p xs := let ⟨vs, a, b⟩ := h; ⟨vs, b, fun H1 e => e.1.1 p _ a (.inl fun z => z.elim h1 h2)⟩
theorem Dl.lsAt {d c : Addr} {α : Type} [Enc α] {H H' : Hp} {p : Addr} {xs : List α} (e : Dl d c H H') (h : LsAt H p xs) (h1 : p ≠ d) (h2 : p ≠ c) : LsAt H' p xs := ((Dl.ls h h1 h2).mono e).to
theorem Dl.fr {d c : Addr} {H : Hp} (h : DealAt d c H) : Fr (Dl d c) H := fun p H2 H3 H4 o e hn ho f => f.1.1 p o ho (.inl fun z => by
  obtain ⟨m, cells, h1, h2, _⟩ := e.2 h
  rcases z with z | z
  · rw [z, h1] at hn; cases hn
  · rw [z, h2] at hn; cases hn)
theorem DealAt.fresh {d c : Addr} {H : Hp} (h : DealAt d c H) {p : Addr} (hp : H p = none) : p ≠ d ∧ p ≠ c := by
  obtain ⟨m, cells, h1, h2, _⟩ := h
  exact ⟨fun z => (by rw [z, h1] at hp; cases hp), fun z => (by rw [z, h2] at hp; cases hp)⟩
/-- what an expression evaluates to, left open -/
def EvN (Rl : Hp → Hp → Prop) {α : Type} [Enc α] (te : TE) (σ : L2.St) (H : Hp) (p : α → Prop) : Prop := ∀ H1, Rl H H1 → ∀ Q : VK, (∀ a v H2, p a → Rl H1 H2 → Enc.rep (tp H2) v a → Q v H2) → te σ H1 Q
section
variable {Rl : Hp → Hp → Prop} [RlOk Rl] {K : PySem.W.Frag} {σ : L2.St} {H H' : Hp} {ta tb te : TE} {α β γ : Type} [Enc α] [Enc β] [Enc γ] {D : Ends}
theorem n_ev {a : α} (h : Ev Rl te σ H a) : EvN Rl te σ H (· = a) := fun H1 e Q q => h H1 e Q fun v H2 e2 r => q a v H2 rfl e2 r
theorem n_imp {p q : α → Prop} (h : EvN Rl te σ H p) (hpq : ∀ a, p a → q a) : EvN Rl te σ H q := fun H1 e Q k => h H1 e Q fun a v H2 ha e2 r => k a v H2 (hpq a ha) e2 r
theorem n_op {r : R2} {p : α → Prop} {q : β → Prop} {f : α → β → γ} (ha : EvN Rl ta σ H p) (hb : EvN Rl tb σ H q) (hr : ∀ a b, p a → q b → RV Rl r (mp a) (mp b) H (mp (f a b))) : EvN Rl (tOp r ta tb) σ H (fun c => ∃ a b, p a ∧ q b ∧ c = f a b) := fun H1 e Q k =>
  ha H1 e _ fun a x H2 hpa e2 rx => hb H2 (RlOk.trans e e2) _ fun b y H3 hqb e3 ry => hr a b hpa hqb x y H3 (RlOk.trans (RlOk.trans e e2) e3) (up e3 rx) ry Q fun v H4 e4 rv => k _ v H4 ⟨a, b, hpa, hqb, rfl⟩ (RlOk.trans (RlOk.trans e2 e3) e4) rv
theorem k_nset {p : α → Prop} {j : Nat} (h : EvN Rl te σ H p) (k : ∀ a v H2, p a → Rl H H2 → Enc.rep (tp H2) v a → D.nx (σ.set j (some v)) H2) : tAsg te (gName j) D σ H := h H (RlOk.refl H) _ k
theorem k_nret {p : α → Prop} (h : EvN Rl te σ H p) (k : ∀ a v H2, p a → Rl H H2 → Enc.rep (tp H2) v a → D.rt v H2) : tRet te D σ H := h H (RlOk.refl H) _ k
theorem e_toRaw {m : Nat} (h : Ev Rl te σ H (Raw.mk (.int (m : Nat)))) : Ev Rl te σ H m := fun H1 e Q q => h H1 e Q fun v H2 e2 r => q v H2 e2 r
theorem n_int1 {p : Nat → Prop} (h : EvN Rl te σ H p) : EvN Rl (tCB rInt1 (tCons te tNil)) σ H p := fun H1 e Q q => h H1 e _ fun a v H2 hp e2 r => by
  obtain rfl : v = .int a := r
  exact .inl ⟨_, rfl, q a _ H2 hp e2 rfl⟩
end
def spAnyD : Sp := fun vs H Q _ => ∃ (d c : Addr) (b : Nat), DealAt d c H ∧ 0 < b ∧ b < 2 ^ 64 ∧ vs = [.ref d, .int (b : Nat)] ∧ ∀ (r : Nat) H2, r < b → Dl d c H H2 → Q (.int (r : Nat)) H2
theorem spAnyD_len (vs : List V) (H : Hp) (Q : VK) (E : XK) (z : spAnyD vs H Q E) : vs.length = 2 := by obtain ⟨_, _, _, _, _, _, rfl, _⟩ := z; rfl
section
variable {K : PySem.W.Frag} {σ : L2.St} {H : Hp} {d c : Addr} {j b : Nat} {tb : TE} {E : XK}
theorem n_any (hj : σ[j]? = some (some (.ref d))) (hb : Ev (Dl d c) tb σ H b) (hD : DealAt d c H) (h0 : 0 < b) (h64 : b < 2 ^ 64) : EvN (Dl d c) (tCall spAnyD [] E (tCons (tVar j) (tCons tb tNil))) σ H (fun r : Nat => r < b) := fun H1 e Q q =>
  ⟨.ref d, hj, hb H1 e _ fun v H2 e2 r => by
    obtain rfl : v = .int b := r
    exact ⟨d, c, b, e2.2 (e.2 hD), h0, h64, rfl, fun r H3 hr e3 => q r _ H3 hr (RlOk.trans e2 e3) rfl⟩⟩
end
section
variable {P : Program} {w : World} {K : PySem.W.Frag} {mg : Str → Option Value} {base : Heap}
/-- the two lists -/
theorem DealAt.d {d c : Addr} {H : Hp} (h : DealAt d c H) : ∃ (m : Nat) (cells : List Nat), LsAt H d [Raw.mk (.ref c), Raw.mk (.int (m : Nat))] ∧ LsAt H c cells ∧ m < 2147483647 ∧ cells.length ≤ 63 := by
  obtain ⟨m, cells, h1, h2, h3⟩ := h
  exact ⟨m, cells, ⟨_, h1, rfl, rfl, trivial⟩, ⟨_, h2, RepA.ints.mpr rfl⟩, h3⟩
theorem DealAt.of {d c : Addr} {H : Hp} {m : Nat} {cells : List Nat} (h1 : LsAt H d [Raw.mk (.ref c), Raw.mk (.int (m : Nat))]) (h2 : LsAt H c cells) (h3 : m < 2147483647) (h4 : cells.length ≤ 63) : DealAt d c H := by
  obtain ⟨vs, a1, a2⟩ := h1
  obtain ⟨ws, b1, b2⟩ := h2
  refine ⟨m, cells, ?_, ?_, h3, h4⟩
  · match vs, a2 with
    | [x, y], ⟨rx, ry, _⟩ =>
      obtain rfl : x = .ref c := rx
      obtain rfl : y = .int m := ry
      exact a1
  · rw [RepA.ints.mp b2] at b1; exact b1
theorem ok_law_any (W : Wd K mg) : Fn P w K mg base 4 "_law_any" p_law_any spAnyD := by
  refine fn_ok (k := 0) W 32 sc_law_any spAnyD_len (fun _ _ _ _ _ _ us hl => match us, hl with | [_, _], _ => rfl) fun f cdv A outer s H vs Q E hr h => ⟨_, w_law_any W hr, ?_⟩
  obtain ⟨d, c, b, hD, hb0, hb64, rfl, hq⟩ := h
  have hdc := hD.ne
  obtain ⟨m, cells, hd, hc, hm, hlen63⟩ := hD.d
  let S : Addr → Prop := fun a => a = d ∨ a = c
  have dlOf : ∀ {H2 : Hp} {m' : Nat} {cells' : List Nat}, ExM S H H2 → LsAt H2 d [Raw.mk (.ref c), Raw.mk (.int (m' : Nat))] → LsAt H2 c cells' → m' < 2147483647 → cells'.length ≤ 63 → Dl d c H H2 := fun e h1 h2 h3 h4 => ⟨e, fun _ => DealAt.of h1 h2 h3 h4⟩
  show tSeq _ _ _ _ _
  have d0 : ∀ {σ : L2.St} {H1 : Hp} {m' : Nat}, σ[0]? = some (some (.ref d)) → LsAt H1 d [Raw.mk (.ref c), Raw.mk (.int (m' : Nat))] → Ev Ex (tOp (rIxU K) (tVar 0) (tC (.int 0))) σ H1 (Raw.mk (.ref c)) := fun h0 h => e_ixLs (x := Raw.mk (.ref c)) (e_var h0 rfl) h.ls (eN 0) rfl
  have cne : ∀ {σ : L2.St} {H1 : Hp} {m' : Nat} {cs : List Nat}, σ[0]? = some (some (.ref d)) → LsAt H1 d [Raw.mk (.ref c), Raw.mk (.int (m' : Nat))] → LsAt H1 c cs → EvT Ex (tTest (tOp (rNeU K) (tOp (rIxU K) (tVar 0) (tC (.int 0))) (tLst tNil))) σ H1 (!decide (cs = [])) := fun h0 h hcs => et_test (e_neL (ys := []) (d0 h0 h) hcs.ls (e_lstH eh_nil (by show 0 ≤ 1000000; decide)) (fun _ _ => trivial) (by simp) (by decide))
  -- pop of the list within
  have pop : ∀ {σ : L2.St} {H1 : Hp} {m' : Nat} {cs : List Nat} {Q1 : VK}, σ[0]? = some (some (.ref d)) → LsAt H1 d [Raw.mk (.ref c), Raw.mk (.int (m' : Nat))] → LsAt H1 c cs → cs ≠ [] → (∀ H2, ExM S H1 H2 → LsAt H2 d [Raw.mk (.ref c), Raw.mk (.int (m' : Nat))] → LsAt H2 c cs.dropLast → Q1 (.int ((cs.getD (cs.length - 1) 0 : Nat) : Int)) H2) → tBM0 K "list" rPop (tOp (rIxU K) (tVar 0) (tC (.int 0))) σ H1 Q1 := fun {σ H1 m' cs Q1} h0 h hcs hne k => by
    refine d0 h0 h H1 (Ex.refl _) _ fun v H2 e2 r => ?_
    obtain rfl : v = .ref c := r
    obtain ⟨ws, b1, b2⟩ := hcs.mono e2
    have hl := b2.length
    have hpos : 0 < cs.length := List.length_pos_iff.mpr hne
    refine ⟨.inl ⟨rfl, ws, SqL.of b1⟩, c, ws, .int ((cs.getD (cs.length - 1) 0 : Nat) : Int), rfl, rfl, b1, ?_, k _ (RlOk.trans (RlOk.ex e2) (ExM.mut (RlOk.refl _) b1 (fun z => z) (.inr rfl))) ?_ ⟨_, upd_same, RepA.mono (tp_upd b1 fun z => z) b2.dropLast⟩⟩
    · obtain ⟨y, hy, ry⟩ := b2.get (getD_at (xs := cs) (i := cs.length - 1) (by omega))
      obtain rfl : y = .int ((cs.getD (cs.length - 1) 0 : Nat) : Int) := ry
      rw [hl]; exact hy
    · obtain ⟨vs, a1, a2⟩ := h.mono e2
      exact ⟨vs, by rw [upd_ne hdc]; exact a1, RepA.mono (tp_upd b1 fun z => z) a2⟩
  refine k_seq (k_while (Rl := Ex) (fun n σ1 H1 => ExM S H H1 ∧ ∃ cs : List Nat, n = cs.length ∧ cs.length ≤ 63 ∧ σ1 = [some (.ref d), some (.int (b : Nat)), none] ∧ LsAt H1 d [Raw.mk (.ref c), Raw.mk (.int (m : Nat))] ∧ LsAt H1 c cs) ⟨cells.length, RlOk.refl _, cells, rfl, hlen63, rfl, hd, hc⟩ ?_)
  rintro n _ H1 ⟨e1, cs, rfl, h63, rfl, hd1, hc1⟩
  refine ⟨(!decide (cs = [])) && decide (cs.getD (cs.length - 1) 0 = 0), et_and (cne rfl hd1 hc1) (fun hne => et_test (e_op (e_ixLsLast (d0 rfl hd1) hc1.ls e_neg1 (getD_at ?_)) (eN 0) rv_eqN)), fun hb H2 e2 => ?_, fun hb H2 e2 => ?_⟩
  · have : cs ≠ [] := fun z => by rw [decide_eq_true z] at hne; cases hne
    have := List.length_pos_iff.mpr this
    omega
  · have hd2 := hd1.mono e2
    have hc2 := hc1.mono e2
    dsimp only
    refine k_seq (k_if (Rl := Ex) (cne rfl hd2 hc2) (fun hne H3 e3 => ?_) fun hne H3 e3 => ?_)
    · have hne : cs ≠ [] := fun z => by rw [decide_eq_true z] at hne; cases hne
      refine k_seq (k_setQ ?_)
      refine pop rfl (hd2.mono e3) (hc2.mono e3) hne fun H4 e4 hd4 hc4 => ?_
      refine .inl ⟨_, rfl, ?_⟩
      dsimp only
      generalize hz : cs.getD (cs.length - 1) 0 = z
      refine k_seq ?_
      refine d0 rfl hd4 H4 (Ex.refl _) _ fun v H5 e5 r => ?_
      obtain rfl : v = .ref c := r
      obtain ⟨ws, b1, b2⟩ := hc4.mono e5
      refine ⟨.inl ⟨rfl, ws, SqL.of b1⟩, e_divN (e_var (a := z) (i := 2) rfl rfl) (e_var (a := b) (i := 1) rfl rfl) hb0 hb64 H5 (Ex.refl _) _ fun y H6 e6 ry => ?_⟩
      have b1' := e6 _ _ b1
      have hlen := b2.length
      refine ⟨c, ws, y, rfl, rfl, b1', ?_, ?_⟩
      · have : ws.length = cs.length - 1 := by rw [hlen, List.length_dropLast]
        exact Nat.lt_of_lt_of_le (by omega : ws.length < 64) (by decide)
      obtain ⟨vs, a1, a2⟩ := hd4.mono (e5.trans e6)
      have t67 := tp_upd (o := .lst (ws ++ [y])) b1' (fun z => z)
      have hd7 : LsAt (upd H6 c (.lst (ws ++ [y]))) d [Raw.mk (.ref c), Raw.mk (.int (m : Nat))] := ⟨vs, by rw [upd_ne hdc]; exact a1, RepA.mono t67 a2⟩
      have hc7 : LsAt (upd H6 c (.lst (ws ++ [y]))) c (cs.dropLast ++ [z / b]) := ⟨_, upd_same, RepA.snoc (RepA.mono t67 (upA (Rl := Ex) e6 b2)) (Enc.mono t67 ry)⟩
      have e7 : ExM S H (upd H6 c (.lst (ws ++ [y]))) := RlOk.trans e1 (RlOk.trans (RlOk.ex (e2.trans e3)) (RlOk.trans e4 (ExM.mut (RlOk.ex (e5.trans e6)) b1' (fun z => z) (.inr rfl))))
      refine k_ret (Rl := Ex) (a := z % b) (e_modN (e_var (a := z) rfl rfl) (e_var (a := b) rfl rfl) hb0) fun v H8 e8 r8 => ?_
      obtain rfl : v = .int ((z % b : Nat) : Int) := r8
      exact hq (z % b) H8 (Nat.mod_lt _ hb0) (RlOk.trans (dlOf e7 hd7 hc7 hm (by rw [List.length_append, List.length_dropLast]; simp; omega)) (RlOk.ex e8))
    · have hd3 := hd2.mono e3
      have hc3 := hc2.mono e3
      dsimp only
      refine k_seq ?_
      refine e_modN (e_int1 (e_addN (e_mulN (e_toRaw (e_ixLs (x := Raw.mk (.int (m : Nat))) (e_var rfl rfl) hd3.ls (eN 1) rfl)) (eN 50021) (.inr (by decide))) (eN 97))) (eN 2147483647) (by decide) H3 (Ex.refl _) _ fun y H4 e4 ry => ?_
      obtain rfl : y = .int (((m * 50021 + 97) % 2147483647 : Nat) : Int) := ry
      generalize hz : (m * 50021 + 97) % 2147483647 = z
      have hzl : z < 2147483647 := by omega
      have hd4 := hd3.mono e4
      have hc4 := hc3.mono e4
      refine ⟨.ref d, rfl, ?_⟩
      obtain ⟨vs, a1, a2⟩ := hd4
      match vs, a1, a2 with
      | [x0, x1], a1, ⟨r0, r1, _⟩ =>
      obtain rfl : x0 = .ref c := r0
      refine ⟨d, _, 1, 1, rfl, rfl, a1, rfl, ?_⟩
      have t5 := tp_upd (o := .lst [.ref c, .int (z : Nat)]) a1 (fun z => z)
      obtain ⟨ws, b1, b2⟩ := hc4
      have hd5 : LsAt (upd H4 d (.lst [.ref c, .int (z : Nat)])) d [Raw.mk (.ref c), Raw.mk (.int (z : Nat))] := ⟨_, upd_same, rfl, rfl, trivial⟩
      have hc5 : LsAt (upd H4 d (.lst [.ref c, .int (z : Nat)])) c cs := ⟨ws, by rw [upd_ne hdc.symm]; exact b1, RepA.mono t5 b2⟩
      have e5 : ExM S H (upd H4 d (.lst [.ref c, .int (z : Nat)])) := RlOk.trans e1 (ExM.mut (RlOk.ex ((e2.trans e3).trans e4)) a1 (fun z => z) (.inl rfl))
      refine k_ret (Rl := Ex) (a := z / 64 % b) (e_modN (e_int1 (e_divN (e_toRaw (e_ixLs (x := Raw.mk (.int (z : Nat))) (e_var rfl rfl) hd5.ls (eN 1) rfl)) (eN 64) (by decide) (by decide))) (e_var (a := b) rfl rfl) hb0) fun v H8 e8 r8 => ?_
      obtain rfl : v = .int ((z / 64 % b : Nat) : Int) := r8
      exact hq _ H8 (Nat.mod_lt _ hb0) (RlOk.trans (dlOf e5 hd5 hc5 hzl h63) (RlOk.ex e8))
  · have hd2 := hd1.mono e2
    have hc2 := hc1.mono e2
    have hne : cs ≠ [] := fun z => by rw [z] at hb; cases hb
    dsimp only
    refine pop rfl hd2 hc2 hne fun H3 e3 hd3 hc3 => ?_
    have hpos : 0 < cs.length := List.length_pos_iff.mpr hne
    refine ⟨cs.dropLast.length, by rw [List.length_dropLast]; omega, RlOk.trans e1 (RlOk.trans (RlOk.ex e2) e3), cs.dropLast, rfl, by rw [List.length_dropLast]; omega, rfl, hd3, hc3⟩
end
end B
/-! what is dealt out of a list; a turn. -/
namespace B
open PySem PySem.Spec PyProof.Rows L2
def DlM (S : Addr → Prop) (d c : Addr) (H H' : Hp) : Prop := ExM (fun a => (a = d ∨ a = c) ∨ S a) H H' ∧ (DealAt d c H → DealAt d c H')
instance (S : Addr → Prop) (d c : Addr) : RlOk (DlM S d c) where
  refl H := ⟨RlOk.refl H, id⟩
  trans e f := ⟨RlOk.trans e.1 f.1, fun h => f.2 (e.2 h)⟩
  ex e := ⟨RlOk.ex e, fun ⟨m, cells, h1, h2, h3⟩ => ⟨m, cells, e _ _ h1, e _ _ h2, h3⟩⟩
  tup e := RlOk.tup e.1
  put := fun {H H' p o} e h => ⟨RlOk.put e.1 h, fun hD => by
    obtain ⟨m, cells, h1, h2, h3⟩ := e.2 hD
    obtain ⟨_, _, k1, k2, _⟩ := hD
    exact ⟨m, cells, by rw [upd_ne (ne_of_none k1 h)]; exact h1, by rw [upd_ne (ne_of_none k2 h)]; exact h2, h3⟩⟩
  back e h := RlOk.back e.1 h
section
variable {S : Addr → Prop} {d c : Addr} {H H1 H' : Hp}
theorem Dl.m (e : Dl d c H H') : DlM S d c H H' := ⟨e.1.mono fun a h => .inl h, e.2⟩
theorem DlM.out (e : Dl d c H H1) (f : DlM S d c H1 H') (h : ∀ a, S a → H a = none) : Dl d c H H' := ⟨ExM.outM e.1 f.1 fun a z => z.imp id (h a), fun g => f.2 (e.2 g)⟩
theorem DlM.ls {α : Type} [Enc α] {p : Addr} {xs : List α} (h : LsAt H p xs) (h1 : p ≠ d) (h2 : p ≠ c) (h3 : ¬ S p) : Ls (DlM S d c) H p xs := let ⟨vs, a, b⟩ := h; ⟨vs, b, fun H1 e => e.1.1 p _ a (.inl fun z => z.elim (fun z => z.elim h1 h2) h3)⟩
theorem DlM.mut {p : Addr} {u o : HO} (e : DlM S d c H H') (hp : H' p = some u) (hu : ¬ isTupO u) (hS : S p) (h1 : p ≠ d) (h2 : p ≠ c) : DlM S d c H (upd H' p o) := ⟨ExM.mut e.1 hp hu (.inr hS), fun g => by
  obtain ⟨m, cells, k1, k2, k3⟩ := e.2 g
  exact ⟨m, cells, by rw [upd_ne h1.symm]; exact k1, by rw [upd_ne h2.symm]; exact k2, k3⟩⟩
end
section
variable {Rl : Hp → Hp → Prop} [RlOk Rl] {K : PySem.W.Frag} {σ : L2.St} {H H' : Hp} {ta tb te : TE} {α β γ : Type} [Enc α] [Enc β] [Enc γ] {D : Ends} {xs : List α} {a b : Nat} {d c : Addr} {j i : Nat}
theorem rv_addN : RV Rl (rAddU K) (mp a) (mp b) H (mp (a + b)) := rv_left (rv_I0 (fun _ _ h => h) (fun _ _ h => h) fun _ => by show V.int _ = V.int _; rw [Int.natCast_add])
theorem rv_mulN (h : CMul a b) : RV Rl rMulU (mp a) (mp b) H (mp (a * b)) := rv_left (rv_I (fun _ _ h => h) (fun _ _ h => h) h fun _ => by show V.int _ = V.int _; rw [Int.natCast_mul])
theorem rv_modN (h : 0 < b) : RV Rl rModI (mp a) (mp b) H (mp (a % b)) := rv_I (fun _ _ h => h) (fun _ _ h => h) (by omega) fun _ => by show V.int _ = V.int _; rw [Int.natCast_emod]
theorem rv_subN (h : b ≤ a) : RV Rl rSubI (mp a) (mp b) H (mp (a - b)) := rv_I0 (fun _ _ h => h) (fun _ _ h => h) fun _ => by show V.int _ = V.int _; congr 1; omega
theorem rv_ixLs {p : Addr} {x : α} (hl : Ls Rl H p xs) (hx : xs[i]? = some x) : RV Rl (rIxU K) (mp (Raw.mk (.ref p))) (mp i) H (mp x) := fun v w H1 e hv hw Q q => by
  have hv : v = .ref p := hv
  have hw : w = .int i := hw
  subst hv hw
  obtain ⟨vs, r, k⟩ := hl
  obtain ⟨y, hy, ry⟩ := (upA e r).get hx
  exact .inl (.inl ⟨p, vs, i, y, rfl, rfl, SqL.of (k H1 e), atI_nat hy, q y H1 (RlOk.refl H1) ry⟩)
theorem n_ixLs {p : Addr} {q : Nat → Prop} (ha : Ev Rl ta σ H (Raw.mk (.ref p))) (hl : Ls Rl H p xs) (hb : EvN Rl tb σ H q) (hq : ∀ i, q i → i < xs.length) : EvN Rl (tOp (rIxU K) ta tb) σ H (· ∈ xs) := fun H1 e Q k =>
  ha H1 e _ fun x H2 e2 rx => hb H2 (RlOk.trans e e2) _ fun i y H3 hi e3 ry => rv_ixLs hl (List.getElem?_eq_getElem (hq i hi)) x y H3 (RlOk.trans (RlOk.trans e e2) e3) (up e3 rx) ry Q fun v H4 e4 r => k _ v H4 (List.getElem_mem _) (RlOk.trans (RlOk.trans e2 e3) e4) r
theorem n_pair {p : α → Prop} {q : β → Prop} (ha : EvN Rl ta σ H p) (hb : EvN Rl tb σ H q) : EvN Rl (tTup (tCons ta (tCons tb tNil))) σ H (fun z : α × β => p z.1 ∧ q z.2) := fun H1 e Q k =>
  ha H1 e _ fun a x H2 pa e2 rx => hb H2 (RlOk.trans e e2) _ fun b y H3 qb e3 ry => ⟨by show 2 ≤ sizeLine; decide, fun p hp => k (a, b) _ _ ⟨pa, qb⟩ (RlOk.trans (RlOk.trans e2 e3) (RlOk.ex (Ex.new hp))) ⟨p, x, y, rfl, upd_same, up (RlOk.ex (Rl := Rl) (Ex.new hp)) (up e3 rx), up (RlOk.ex (Rl := Rl) (Ex.new hp)) ry⟩⟩
/-- one that is dealt -/
theorem n_any' {E : XK} (sub : ∀ A B, Dl d c A B → Rl A B) (keep : ∀ B, Rl H B → DealAt d c B) (hj : σ[j]? = some (some (.ref d))) (hb : Ev Rl tb σ H b) (h0 : 0 < b) (h64 : b < 2 ^ 64) : EvN Rl (tCall spAnyD [] E (tCons (tVar j) (tCons tb tNil))) σ H (fun r : Nat => r < b) := fun H1 e Q q =>
  ⟨.ref d, hj, hb H1 e _ fun v H2 e2 r => by
    obtain rfl : v = .int b := r
    exact ⟨d, c, b, keep _ (RlOk.trans e e2), h0, h64, rfl, fun r H3 hr e3 => q r _ H3 hr (RlOk.trans e2 (sub _ _ e3)) rfl⟩⟩
theorem k_forN {g : TG} {tb : TS} {p : Nat → Prop} (h : EvN Rl te σ H p) (hn : ∀ n, p n → n ≤ 1000000) (I : Hp → Nat → L2.St → Hp → Prop)
    (h0 : ∀ n H1, p n → Rl H H1 → I H1 0 σ H1) (hr : ∀ H1 i σ1 H2, I H1 i σ1 H2 → Rl H1 H2) (he : ∀ H1 i σ1 H2 H3, I H1 i σ1 H2 → Ex H2 H3 → I H1 i σ1 H3)
    (hs : ∀ n H1, p n → Rl H H1 → ∀ i σ1 H2, i < n → I H1 i σ1 H2 → Tgt g (.int (i : Nat)) σ1 H2 fun σ2 H3 => tb { D with nx := I H1 (i + 1), ct := I H1 (i + 1), bk := D.nx } σ2 H3)
    (hd : ∀ n H1, p n → Rl H H1 → ∀ σ1 H2, I H1 n σ1 H2 → D.nx σ1 H2) : tFor (iRng1 (tCons te tNil)) g tb D σ H := h H (RlOk.refl H) _ fun n v H1 pn e r => by
  obtain rfl : v = .int n := r
  have := hn n pn
  refine ⟨n, rfl, by omega, by omega, ?_⟩
  have e0 : (n : Int).toNat = n := rfl
  rw [e0]
  refine k_loop (Rl := Rl) (items := List.range n) (Y := fun k _ v => v = .int (k : Nat)) (fun H3 e3 => ?_) (I H1) (h0 n H1 pn e) (hr H1) (he H1) (fun i x v σ1 H2 hx hI hv => ?_) (fun σ1 H2 hI => hd n H1 pn e σ1 H2 (by rw [List.length_range] at hI; exact hI))
  · have := wz_rg (Rl := Rl) (lo := 0) (n := n) H1 H3 e3
    simpa using this
  · obtain rfl := range_at hx
    rw [hv]
    exact hs n H1 pn e x σ1 H2 (by have := (List.getElem?_eq_some_iff.mp hx).1; rw [List.length_range] at this; exact this) hI
end
theorem repRaw {T : TL} : ∀ vs : List V, RepA T vs (vs.map Raw.mk)
  | [] => trivial
  | _ :: vs => ⟨rfl, repRaw vs⟩
theorem RepA.memV {α : Type} [Enc α] {T : TL} : ∀ {vs : List V} {xs : List α}, RepA T vs xs → ∀ v ∈ vs, ∃ x ∈ xs, Enc.rep T v x
  | [], [], _, _, h => nomatch h
  | v :: vs, x :: xs, ⟨r, s⟩, w, h => by
    rcases List.mem_cons.mp h with rfl | h
    · exact ⟨x, List.mem_cons_self, r⟩
    · obtain ⟨y, hy, ry⟩ := RepA.memV s w h
      exact ⟨y, List.mem_cons_of_mem _ hy, ry⟩
def spOfD : Sp := fun vs H Q _ => ∃ (d c p : Addr) (xs : List V), DealAt d c H ∧ H p = some (.lst xs) ∧ p ≠ d ∧ p ≠ c ∧ 0 < xs.length ∧ xs.length < 1000000 ∧ vs = [.ref d, .ref p] ∧ ∀ x H2, x ∈ xs → Dl d c H H2 → Q x H2
theorem spOfD_len (vs : List V) (H : Hp) (Q : VK) (E : XK) (z : spOfD vs H Q E) : vs.length = 2 := by obtain ⟨_, _, _, _, _, _, _, _, _, _, rfl, _⟩ := z; rfl
section
variable {P : Program} {w : World} {K : PySem.W.Frag} {mg : Str → Option Value} {base : Heap}
theorem ok_law_of (W : Wd K mg) : Fn P w K mg base 8 "_law_of" p_law_of spOfD := by
  refine fn_ok (k := 4) W 33 sc_law_of spOfD_len (fun _ _ _ _ _ _ us hl => match us, hl with | [_, _], _ => rfl) fun f cdv A outer s H vs Q E hr h => ⟨_, w_law_of spAnyD W hr (ok_law_any W), ?_⟩
  obtain ⟨d, c, p, xs, hD, hp, h1, h2, h0, hlen, rfl, hq⟩ := h
  have hl : LsAt H p (xs.map Raw.mk) := ⟨xs, hp, repRaw xs⟩
  refine k_nret (Rl := Dl d c) (n_ixLs (p := p) (xs := xs.map Raw.mk) (e_var rfl rfl) (Dl.ls hl h1 h2) (n_any' (b := (xs.map Raw.mk).length) (fun _ _ e => e) (fun _ e => e.2 hD) rfl (e_lenLs (e_var rfl rfl) (Dl.ls hl h1 h2)) (by rw [List.length_map]; exact h0) (by rw [List.length_map]; omega)) fun i hi => hi) fun x v H2 hx e r => ?_
  obtain ⟨y, hy, rfl⟩ := List.mem_map.mp hx
  obtain rfl : v = y := r
  exact hq v H2 hy e
def spTurn : Sp := fun vs H Q _ => ∃ (d c : Addr) (n : Nat), DealAt d c H ∧ n ≤ 1000 ∧ vs = [.ref d, .int (n : Nat)] ∧ ∀ (f : List Nat) v H2, f.length = n → f.Nodup → (∀ s ∈ f, s < n) → Dl d c H H2 → Enc.rep (tp H2) v f → Q v H2
theorem spTurn_len (vs : List V) (H : Hp) (Q : VK) (E : XK) (z : spTurn vs H Q E) : vs.length = 2 := by obtain ⟨_, _, _, _, _, rfl, _⟩ := z; rfl
theorem eraseIdx_perm {xs : List Nat} {i x : Nat} (h : xs[i]? = some x) : (x :: xs.eraseIdx i).Perm xs := by
  induction xs generalizing i with
  | nil => cases h
  | cons y ys ih =>
    cases i with
    | zero => obtain rfl : y = x := Option.some.inj h; exact List.Perm.refl _
    | succ i => exact (List.Perm.swap _ _ _).trans ((ih h).cons y)
theorem ok_law_turn (W : Wd K mg) : Fn P w K mg base 8 "_law_turn" p_law_turn spTurn := by
  refine fn_ok (k := 4) W 35 sc_law_turn spTurn_len (fun _ _ _ _ _ _ us hl => match us, hl with | [_, _], _ => rfl) fun f cdv A outer s H vs Q E hr h => ⟨_, w_law_turn spAnyD W hr (ok_law_any W), ?_⟩
  obtain ⟨d, c, n, hD, hn, rfl, hq⟩ := h
  show tSeq _ _ _ _ _
  refine k_seq (k_setL (Rl := Ex) (xs := List.range n) (e_lstRg (e_var rfl rfl) (by omega)) fun p1 vs1 H1 hn1 e1 hl1 r1 => ?_)
  dsimp only
  refine k_seq (k_setL (Rl := Ex) (xs := ([] : List Nat)) (e_lstH eh_nil (by decide)) fun p2 vs2 H2 hn2 e2 hl2 r2 => ?_)
  have hD1 : DealAt d c H1 := (RlOk.ex (Rl := Dl d c) e1).2 hD
  have hD2 : DealAt d c H2 := (RlOk.ex (Rl := Dl d c) e2).2 hD1
  obtain ⟨n1d, n1c⟩ := hD.fresh hn1
  obtain ⟨n2d, n2c⟩ := hD1.fresh hn2
  have n12 : p1 ≠ p2 := fun z => by rw [z] at hl1; rw [hl1] at hn2; cases hn2
  let S : Addr → Prop := fun a => a = p1 ∨ a = p2
  have hl1' : LsAt H2 p1 (List.range n) := LsAt.mono ⟨_, hl1, r1⟩ e2
  have hl2' : LsAt H2 p2 ([] : List Nat) := ⟨_, hl2, r2⟩
  dsimp only
  refine k_seq (k_for (Rl := DlM S d c) (wz_rg1 (n := n) (ea_cons (e_var rfl rfl) ea_nil) (by omega)) (fun H3 i σ1 H4 => DlM S d c H3 H4 ∧ ∃ (lo fo : List Nat) (o4 : Option V), σ1 = [some (.ref d), some (.int (n : Nat)), some (.ref p1), some (.ref p2), o4] ∧ LsAt H4 p1 lo ∧ LsAt H4 p2 fo ∧ fo.length = i ∧ (fo ++ lo).Perm (List.range n))
    (fun H3 e3 => ⟨RlOk.refl _, List.range n, [], _, rfl, hl1'.mono e3, hl2'.mono e3, rfl, List.Perm.refl _⟩) (fun _ i σ1 H4 h => h.1) (fun _ i σ1 H4 H5 ⟨a, lo, fo, o4, b, k1, k2, k3⟩ e => ⟨RlOk.trans a (RlOk.ex e), lo, fo, o4, b, k1.mono e, k2.mono e, k3⟩) ?_ ?_)
  · rintro H3 e3 i x v _ H4 hx ⟨e4, lo, fo, o4, rfl, k1, k2, rfl, hperm⟩ rfl
    obtain ⟨hx, hi⟩ : x = fo.length ∧ fo.length < n := by
      have h1 := range_at hx
      have h2 := (List.getElem?_eq_some_iff.mp hx).1
      rw [List.length_range] at h2
      exact ⟨h1, h2⟩
    have hlen := hperm.length_eq
    rw [List.length_append, List.length_range] at hlen
    have hD4 : DealAt d c H4 := e4.2 ((RlOk.ex (Rl := Dl d c) e3).2 hD2)
    refine tgt_name ?_
    obtain ⟨us, u1, u2⟩ := k2
    refine ⟨.ref p2, rfl, .inl ⟨rfl, us, SqL.of u1⟩, ?_⟩
    obtain ⟨ws, w1, w2⟩ := k1
    refine ⟨.ref p1, rfl, .inl ⟨rfl, ws, SqL.of w1⟩, ?_⟩
    refine n_any' (Rl := Dl d c) (b := lo.length) (fun _ _ e => e) (fun _ e => e.2 hD4) rfl (e_lenLs (e_var rfl rfl) (Dl.ls ⟨ws, w1, w2⟩ n1d n1c)) (by omega) (by omega) H4 (RlOk.refl _) _ fun r y H5 hr e5 ry => ?_
    obtain rfl : y = .int (r : Nat) := ry
    obtain ⟨ws', w1', w2'⟩ := Dl.lsAt e5 ⟨ws, w1, w2⟩ n1d n1c
    obtain ⟨us', u1', u2'⟩ := Dl.lsAt e5 ⟨us, u1, u2⟩ n2d n2c
    obtain ⟨z, hz⟩ : ∃ z, lo[r]? = some z := ⟨_, List.getElem?_eq_getElem hr⟩
    obtain ⟨zv, hzv, rz⟩ := w2'.get hz
    have hwl := w2'.length
    obtain rfl : zv = .int (z : Nat) := rz
    refine ⟨p1, ws', r, r, .int (z : Nat), rfl, rfl, w1', by omega, by omega, ?_, hzv, ?_⟩
    · exact (ixN_seq (n := ws'.length) (i := (r : Int)) (j := r) (by unfold ixN; rw [if_pos (by omega), if_pos (by omega)]; rfl)).1
    have e6 : DlM S d c H5 (upd H5 p1 (.lst (ws'.eraseIdx r))) := DlM.mut (RlOk.refl _) w1' (fun z => z) (.inl rfl) n1d n1c
    have t6 := tp_upd (o := .lst (ws'.eraseIdx r)) w1' (fun z => z)
    have u6 : upd H5 p1 (.lst (ws'.eraseIdx r)) p2 = some (.lst us') := by rw [upd_ne n12.symm]; exact u1'
    have r6 := w2'.eraseIdx (i := r)
    have w6 : upd H5 p1 (.lst (ws'.eraseIdx r)) p1 = some (.lst (ws'.eraseIdx r)) := upd_same
    generalize upd H5 p1 (.lst (ws'.eraseIdx r)) = H6 at e6 t6 u6 w6
    refine ⟨p2, us', .int (z : Nat), rfl, rfl, u6, by have := u2'.length; exact szl (by omega), ?_⟩
    have e7 : DlM S d c H5 (upd H6 p2 (.lst (us' ++ [.int (z : Nat)]))) := DlM.mut e6 u6 (fun z => z) (.inr rfl) n2d n2c
    have t7 := tp_upd (o := .lst (us' ++ [.int (z : Nat)])) u6 (fun z => z)
    have hzl : z < n := List.mem_range.mp (hperm.mem_iff.mp (List.mem_append.mpr (.inr (List.mem_of_getElem? hz))))
    refine ⟨RlOk.trans e4 (RlOk.trans (Dl.m e5) e7), lo.eraseIdx r, fo ++ [z], _, rfl, ⟨_, by rw [upd_ne n12]; exact w6, RepA.mono (fun a vs h => t7 a vs (t6 a vs h)) r6⟩, ⟨_, upd_same, RepA.snoc (RepA.mono (fun a vs h => t7 a vs (t6 a vs h)) u2') rfl⟩, by rw [List.length_append]; rfl, ?_⟩
    have h1 := (eraseIdx_perm hz).append_left fo
    rw [List.append_assoc]
    exact h1.trans hperm
  · rintro H3 e3 _ H4 ⟨e4, lo, fo, o4, rfl, k1, k2, hfl, hperm⟩
    rw [List.length_range] at hfl
    have hlen := hperm.length_eq
    rw [List.length_append, List.length_range] at hlen
    have hlo : lo = [] := List.eq_nil_of_length_eq_zero (by omega)
    subst hlo
    rw [List.append_nil] at hperm
    have e04 : Dl d c H H4 := DlM.out (RlOk.trans (RlOk.ex e1) (RlOk.trans (RlOk.ex e2) (RlOk.ex e3))) e4 fun a z => by
      rcases z with rfl | rfl
      · exact hn1
      · exact RlOk.back (Rl := Ex) e1 hn2
    dsimp only
    refine k_ret (Rl := Ex) (a := fo) (e_tupleLs (e_var rfl rfl) k2.ls) fun v H5 e5 r5 => hq fo v H5 hfl (hperm.nodup_iff.mpr List.nodup_range) (fun s hs => List.mem_range.mp (hperm.mem_iff.mp hs)) (RlOk.trans e04 (RlOk.ex e5)) r5
end
end B
/-! a name. -/
namespace B
open PySem PySem.Spec PyProof.Rows L2
section
variable {Rl : Hp → Hp → Prop} [RlOk Rl] {K : PySem.W.Frag} {σ : L2.St} {H H' : Hp} {ta tb te : TE} {i : Nat}
theorem rv_ixStr {z : Str} {c : Nat} (hz : z.length ≤ sizeLine) (hc : z.cps.toList[i]? = some c) : RV Rl (rIxU K) (mp z) (mp i) H (mp (⟨#[c]⟩ : Str)) := fun v w H1 _ hv hw Q q => by
  have hv : v = .str z := hv
  have hw : w = .int i := hw
  subst hv hw
  exact .inl (.inr (.inr ⟨z, i, c, rfl, rfl, hz, atI_nat hc, q _ H1 (RlOk.refl H1) rfl⟩))
theorem rv_catS {x y : Str} (h : x.length + y.length ≤ 1000000) : RV Rl (rAddU K) (mp x) (mp y) H (mp (x ++ y)) := fun v w H1 _ hv hw Q q => by
  have hv : v = .str x := hv
  have hw : w = .str y := hw
  subst hv hw
  exact .inr (.inr (.inr ⟨x, y, rfl, rfl, sz h, q _ H1 (RlOk.refl H1) rfl⟩))
end
theorem cps_app (x y : Str) : (x ++ y).cps.toList = x.cps.toList ++ y.cps.toList := by
  show (x.cps ++ y.cps).toList = _
  exact Array.toList_append
theorem len_app (x y : Str) : (x ++ y).length = x.length + y.length := by
  show (x.cps ++ y.cps).size = _
  exact Array.size_append
def spNameD : Sp := fun vs H Q _ => ∃ (d c p : Addr) (taken : List Str), DealAt d c H ∧ LsAt H p taken ∧ p ≠ d ∧ p ≠ c ∧ taken.length < 12 ∧ vs = [.ref d, .ref p] ∧ ∀ (z : Str) H2, NameOk z → z ∉ taken → Dl d c H H2 → Q (.str z) H2
theorem spNameD_len (vs : List V) (H : Hp) (Q : VK) (E : XK) (z : spNameD vs H Q E) : vs.length = 2 := by obtain ⟨_, _, _, _, _, _, _, _, _, rfl, _⟩ := z; rfl
theorem twelve : (("abcdefghijkl" : Str).cps.toList) = List.range' 97 12 := by decide +kernel
theorem sg_inj {a b : Nat} (h : (⟨#[a]⟩ : Str) = ⟨#[b]⟩) : a = b := by injection h with h; injection h with h; injection h
theorem free_letter {taken : List Str} (h : taken.length < 12) : ((List.range' 97 12).filter fun c => !decide ((⟨#[c]⟩ : Str) ∈ taken)) ≠ [] := fun z => by
  have hall : ∀ c ∈ List.range' 97 12, (⟨#[c]⟩ : Str) ∈ taken := fun c hc => by
    have := (List.filter_eq_nil_iff.mp z) c hc
    simpa using this
  have nd : ((List.range' 97 12).map fun c => (⟨#[c]⟩ : Str)).Nodup := List.Pairwise.map _ (fun a b hne h => hne (sg_inj h)) List.nodup_range'
  have := nodup_le nd fun x hx => by
    obtain ⟨c, hc, rfl⟩ := List.mem_map.mp hx
    exact hall c hc
  rw [List.length_map, List.length_range'] at this
  omega
section
variable {P : Program} {w : World} {K : PySem.W.Frag} {mg : Str → Option Value} {base : Heap}
theorem ok_law_name (W : Wd K mg) : Fn P w K mg base 8 "_law_name" p_law_name spNameD := by
  refine fn_ok (k := 4) W 34 sc_law_name spNameD_len (fun _ _ _ _ _ _ us hl => match us, hl with | [_, _], _ => rfl) fun f cdv A outer s H vs Q E hr h => ⟨_, w_law_name spAnyD W hr (ok_law_any W), ?_⟩
  obtain ⟨d, c, p, taken, hD, hp, hpd, hpc, hlen, rfl, hq⟩ := h
  show tSeq _ _ _ _ _
  refine k_seq (k_for (Rl := Dl d c) (wz_rg1 (n := 9) (ea_cons (eN 9) ea_nil) (by decide)) (fun H3 i σ1 H4 => Dl d c H3 H4 ∧ ∃ o2 o3 o4, σ1 = [some (.ref d), some (.ref p), o2, o3, o4])
    (fun H3 e3 => ⟨RlOk.refl _, _, _, _, rfl⟩) (fun _ i σ1 H4 h => h.1) (fun _ i σ1 H4 H5 ⟨a, b⟩ e => ⟨RlOk.trans a (RlOk.ex e), b⟩) ?_ ?_)
  · rintro H3 e3 i x v _ H4 hx ⟨e4, o2, o3, o4, rfl⟩ rfl
    refine tgt_name ?_
    have e04 : Dl d c H H4 := RlOk.trans (RlOk.ex e3) e4
    have hD4 := e04.2 hD
    refine k_seq (k_set (Rl := Dl d c) (a := (⟨#[]⟩ : Str)) (e_c fun _ => rfl) fun v H5 e5 r => ?_)
    obtain rfl : v = .str ⟨#[]⟩ := r
    dsimp only
    have hD5 := e5.2 hD4
    refine k_seq (k_forN (Rl := Dl d c) (p := fun n => 1 ≤ n ∧ n ≤ 8) (n_imp (n_op (f := fun a b => a + b) (n_ev (eN 1)) (n_op (f := fun a b => a * b) (n_any' (b := 2) (fun _ _ e => e) (fun _ e => e.2 hD5) rfl (eN 2) (by decide) (by decide)) (n_any' (b := 8) (fun _ _ e => e) (fun _ e => e.2 hD5) rfl (eN 8) (by decide) (by decide)) fun a b ha hb => rv_mulN (.inl (by omega))) fun a b ha hb => rv_addN) ?_) (fun n hn => by omega)
      (fun H6 i σ1 H7 => Dl d c H6 H7 ∧ ∃ (z : Str) (o2 o4 : Option V), σ1 = [some (.ref d), some (.ref p), o2, some (.str z), o4] ∧ z.length = i ∧ i ≤ 8 ∧ ∀ c ∈ z.cps.toList, 97 ≤ c ∧ c ≤ 122) (fun n H6 hn e6 => ⟨RlOk.refl _, _, _, _, rfl, rfl, by omega, fun c hc => nomatch hc⟩) (fun _ i σ1 H4 h => h.1) (fun _ i σ1 H4 H5 ⟨a, b⟩ e => ⟨RlOk.trans a (RlOk.ex e), b⟩) ?_ ?_)
    · rintro n ⟨a, b, rfl, ⟨a1, b1, h1, h2, rfl⟩, rfl⟩
      have : a1 * b1 ≤ 1 * 7 := Nat.mul_le_mul (by omega) (by omega)
      omega
    · rintro n H6 hn e6 i _ H7 hi ⟨e7, z, o2, o4, rfl, hz, hi8, hc⟩
      refine tgt_name ?_
      have hD7 := e7.2 (e6.2 hD5)
      refine k_nset (Rl := Dl d c) (n_op (f := fun a b => a ++ b) (n_ev (e_var (a := z) rfl rfl)) (n_op (f := fun (a : Str) (k : Nat) => (⟨#[97 + k]⟩ : Str)) (n_ev (e_c (a := ("abcdefghijklmnopqrstuvwxyz" : Str)) fun _ => rfl)) (n_any' (b := 26) (fun _ _ e => e) (fun _ e => e.2 hD7) rfl (eN 26) (by decide) (by decide)) fun a k ha hk => ?_) fun a b ha hb => ?_) fun a v H8 ha e8 r => ?_
      · subst ha
        exact rv_ixStr (by decide +kernel) (by rw [letters, List.getElem?_range' (by omega)]; congr 1; omega)
      · subst ha
        obtain ⟨_, k, _, _, rfl⟩ := hb
        refine rv_catS ?_
        rw [hz]
        show i + 1 ≤ 1000000
        omega
      · obtain ⟨_, _, rfl, ⟨_, k, _, hk, rfl⟩, rfl⟩ := ha
        obtain rfl : v = .str _ := r
        refine ⟨RlOk.trans e7 e8, _, _, _, rfl, by rw [len_app, hz]; rfl, by omega, fun c hc' => ?_⟩
        rw [cps_app] at hc'
        rcases List.mem_append.mp hc' with h | h
        · exact hc c h
        · have : c = 97 + k := List.mem_singleton.mp h
          omega
    · rintro n H6 hn e6 _ H7 ⟨e7, z, o2, o4, rfl, hz, hi8, hc⟩
      dsimp only
      have e07 : Dl d c H H7 := RlOk.trans e04 (RlOk.trans e5 (RlOk.trans e6 e7))
      refine k_if (Rl := Dl d c) (et_test (e_ninLsS (a := z) (e_var rfl rfl) (e_var rfl rfl) (Dl.ls (Dl.lsAt e07 hp hpd hpc) hpd hpc))) (fun hb H8 e8 => ?_) fun hb H8 e8 => ⟨RlOk.trans e4 (RlOk.trans e5 (RlOk.trans e6 (RlOk.trans e7 e8))), _, _, _, rfl⟩
      refine k_ret (Rl := Dl d c) (a := z) (e_var rfl rfl) fun v H9 e9 r => ?_
      obtain rfl : v = .str z := r
      exact hq z H9 ⟨by omega, by omega, hc⟩ (by simpa using hb) (RlOk.trans e07 (RlOk.trans e8 e9))
  · rintro H3 e3 _ H4 ⟨e4, o2, o3, o4, rfl⟩
    have e04 : Dl d c H H4 := RlOk.trans (RlOk.ex e3) e4
    have hp4 := Dl.lsAt e04 hp hpd hpc
    have hne := free_letter hlen
    dsimp only
    match hfl : (List.range' 97 12).filter fun c => !decide ((⟨#[c]⟩ : Str) ∈ taken), hne with
    | c0 :: cs, _ =>
    have hc0 : c0 ∈ (List.range' 97 12).filter fun c => !decide ((⟨#[c]⟩ : Str) ∈ taken) := by rw [hfl]; exact List.mem_cons_self
    obtain ⟨hc1, hc2⟩ := List.mem_filter.mp hc0
    refine k_ret (Rl := Ex) (a := (⟨#[c0]⟩ : Str)) (e_ixNew (xs := ((List.range' 97 12).filter fun c => !decide ((⟨#[c]⟩ : Str) ∈ taken)).map fun c => (⟨#[c]⟩ : Str)) ?_ (eN 0) (by rw [hfl]; rfl) fr_ex) fun v H9 e9 r => ?_
    · rw [← twelve]
      refine e_lc1 (fun c => !decide ((⟨#[c]⟩ : Str) ∈ taken)) (fun c => (⟨#[c]⟩ : Str)) fr_ex (ws_str (e_c fun _ => rfl)) (by rw [twelve]; decide) fun x v H1 hx e1 y => ?_
      obtain rfl : v = .str ⟨#[x]⟩ := y
      exact ⟨et_test (e_ninLsS (a := (⟨#[x]⟩ : Str)) (e_var rfl rfl) (e_var rfl rfl) (hp4.mono e1).ls), fun _ => e_var rfl rfl⟩
    · obtain rfl : v = .str ⟨#[c0]⟩ := r
      have := List.mem_range'_1.mp hc1
      exact hq _ H9 ⟨Nat.le_refl 1, by show 1 ≤ 8; decide, fun c hc => by obtain rfl : c = c0 := List.mem_singleton.mp hc; omega⟩ (by simpa using hc2) (RlOk.trans e04 (RlOk.ex e9))
end
end B
/-! one deed's images. -/
namespace B
open PySem PySem.Spec PyProof.Rows L2
section
variable {Rl : Hp → Hp → Prop} [RlOk Rl] {K : PySem.W.Frag} {σ : L2.St} {H H' : Hp} {ta tb te : TE} {i : Nat} {α : Type} [Enc α] {D : Ends} {t : TT}
theorem k_ifNset {p : α → Prop} {j : Nat} {b : Bool} (h : EvT Rl t σ H b) (hj : j < σ.length) (h1 : b = true → ∀ H2, Rl H H2 → EvN Rl te σ H2 p)
    (k : ∀ x H2, Rl H H2 → (b = false → σ[j]? = some x) → (b = true → ∃ a v, x = some v ∧ p a ∧ Enc.rep (tp H2) v a) → D.nx (σ.set j x) H2) : tIfS t (tAsg te (gName j)) tNext D σ H :=
  k_if h (fun hb H2 e => k_nset (h1 hb H2 e) fun a v H3 ha e3 r => k (some v) H3 (RlOk.trans e e3) (fun z => by rw [hb] at z; cases z) fun _ => ⟨a, v, rfl, ha, r⟩)
    fun hb H2 e => by
      have hj' : σ[j]? = some σ[j] := List.getElem?_eq_getElem hj
      have := k σ[j] H2 e (fun _ => hj') fun z => by rw [hb] at z; cases z
      rw [List.set_getElem_self] at this
      exact this
theorem k_nset2 {β : Type} [Enc β] {i j : Nat} {p : α × β → Prop} (h : EvN Rl te σ H p) (k : ∀ a v w H2, p a → Rl H H2 → Enc.rep (tp H2) v a.1 → Enc.rep (tp H2) w a.2 → D.nx ((σ.set i (some v)).set j (some w)) H2) : tAsg te (gTup K 2 (gCons (gName i) (gCons (gName j) gNil))) D σ H :=
  h H (RlOk.refl H) _ fun a v H2 pa e r => by
    obtain ⟨d, x, y, rfl, hd, rx, ry⟩ := r
    exact ⟨d, [x, y], rfl, SqT.of hd, rfl, x, [y], rfl, y, [], rfl, rfl, k a x y H2 pa e rx ry⟩
theorem e_intI {n : Int} (h : Ev Rl te σ H n) : Ev Rl (tCB rInt1 (tCons te tNil)) σ H n := fun H1 e Q q => h H1 e _ fun v H2 e2 r => by
  obtain rfl : v = .int n := r
  exact .inl ⟨_, rfl, q _ H2 e2 rfl⟩
end
theorem nodup_map_range {n : Nat} {f : Nat → Nat} (h : ∀ a b, a < n → b < n → f a = f b → a = b) : ((List.range n).map f).Nodup := by
  have : ∀ l : List Nat, l.Nodup → (∀ x ∈ l, x < n) → (l.map f).Nodup := fun l => by
    induction l with
    | nil => exact fun _ _ => List.nodup_nil
    | cons x l ih =>
      intro nd hl
      obtain ⟨h1, h2⟩ := List.nodup_cons.mp nd
      refine List.nodup_cons.mpr ⟨fun hm => ?_, ih h2 fun y hy => hl y (List.mem_cons_of_mem _ hy)⟩
      obtain ⟨y, hy, e⟩ := List.mem_map.mp hm
      obtain rfl := h y x (hl y (List.mem_cons_of_mem _ hy)) (hl x List.mem_cons_self) e
      exact h1 hy
  exact this _ List.nodup_range fun x hx => List.mem_range.mp hx
def kinds1 : List Str := ["turn", "ring", "two", "mirror"]
def kinds2 : List Str := ["even", "five", "flip"]
structure ImOk (n : Nat) (k : Str) (f : List Nat) : Prop where
  eff : Eff n f
  nd : k ∈ kinds1 → f.Nodup
  ring : k = "ring" → f = (List.range n).map fun s => (s + 1) % n
def spImages : Sp := fun vs H Q _ => ∃ (d c : Addr) (n : Nat) (k : Str), DealAt d c H ∧ 2 ≤ n ∧ n ≤ 49 ∧ (k ∈ kinds1 ∨ k ∈ kinds2) ∧ vs = [.ref d, .int (n : Nat), .str k] ∧ ∀ (f : List Nat) v H2, ImOk n k f → Dl d c H H2 → Enc.rep (tp H2) v f → Q v H2
theorem spImages_len (vs : List V) (H : Hp) (Q : VK) (E : XK) (z : spImages vs H Q E) : vs.length = 3 := by obtain ⟨_, _, _, _, _, _, _, _, rfl, _⟩ := z; rfl
theorem mirror_eq {n one s : Nat} (hs : s < n) (ho : one < n) : ((one : Int) - s) % (n : Int) = ((if s ≤ one then one - s else one + n - s : Nat) : Int) := by
  by_cases h : s ≤ one
  · rw [if_pos h, Int.emod_eq_of_lt (by omega) (by omega)]; omega
  · rw [if_neg h]
    have : (one : Int) - s = (one + n - s : Int) - n := by omega
    rw [this, Int.sub_emod_right, Int.emod_eq_of_lt (by omega) (by omega)]
    omega
theorem succ_mod {n s : Nat} (hs : s < n) : (s + 1) % n = if s + 1 = n then 0 else s + 1 := by
  by_cases h : s + 1 = n
  · rw [if_pos h, h, Nat.mod_self]
  · rw [if_neg h, Nat.mod_eq_of_lt (by omega)]
section
variable {P : Program} {w : World} {K : PySem.W.Frag} {mg : Str → Option Value} {base : Heap}
theorem ok_law_images (W : Wd K mg) : Fn P w K mg base 12 "_law_images" p_law_images spImages := by
  refine fn_ok (k := 8) W 36 sc_law_images spImages_len (fun _ _ _ _ _ _ us hl => match us, hl with | [_, _, _], _ => rfl) fun f cdv A outer s H vs Q E hr h => ⟨_, w_law_images spAnyD spTurn W hr (F_law_any := (ok_law_any W).mono (by decide)) (F_law_turn := ok_law_turn W), ?_⟩
  obtain ⟨d, c, n, k, hD, h2, h49, hk, rfl, hq⟩ := h
  have hnany : k ≠ "any" := fun z => by rw [z] at hk; revert hk; decide +kernel
  have hnline : k ≠ "line" := fun z => by rw [z] at hk; revert hk; decide +kernel
  have hnled : k ≠ "led" := fun z => by rw [z] at hk; revert hk; decide +kernel
  have any1 : ∀ {σ : L2.St} {H1 : Hp} {b : Nat} {tb : TE}, Dl d c H H1 → σ[0]? = some (some (.ref d)) → Ev (Dl d c) tb σ H1 b → 0 < b → b < 2 ^ 64 → EvN (Dl d c) (tCall spAnyD [] E0 (tCons (tVar 0) (tCons tb tNil))) σ H1 (fun r : Nat => r < b) := fun e h0 hb hb0 hb64 => n_any' (fun _ _ e => e) (fun _ e2 => (RlOk.trans e e2).2 hD) h0 hb hb0 hb64
  show tSeq _ _ _ _ _
  refine k_seq ?_
  refine k_nset2 (Rl := Dl d c) (n_pair (any1 (b := n) (RlOk.refl _) rfl (e_var rfl rfl) (by omega) (by omega)) (any1 (b := n) (RlOk.refl _) rfl (e_var rfl rfl) (by omega) (by omega))) fun ab x y H1 hab e1 rx ry => ?_
  obtain ⟨one, other⟩ := ab
  obtain ⟨h1, h2'⟩ : one < n ∧ other < n := hab
  obtain rfl : x = .int (one : Nat) := rx
  obtain rfl : y = .int (other : Nat) := ry
  dsimp only
  refine k_seq (k_ifNset (Rl := Dl d c) (p := fun r : Nat => r < n ∧ r ≠ one) (j := 4) (b := decide (k ∈ [("led" : Str), "two"])) (et_test (e_op (e_var (a := k) rfl rfl) (e_tupH (eh_cons (e_c fun _ => rfl) (eh_cons (e_c fun _ => rfl) eh_nil)) (by show 2 ≤ 1000000; decide)) rv_inS)) (by show 4 < 6; decide) (fun hb H2 e2 => ?_) fun x H2 e2 hf ht => ?_)
  · refine n_imp (n_op (f := fun a b => a % b) (n_int1 (n_op (f := fun a b => a + b) (n_ev (e_addN (e_var (a := one) rfl rfl) (eN 1))) (any1 (b := n - 1) (RlOk.trans e1 e2) rfl (e_subN (e_var (a := n) rfl rfl) (eN 1) (by omega)) (by omega) (by omega)) fun a b ha hb => rv_addN)) (n_ev (e_var (a := n) rfl rfl)) fun a b ha hb => rv_modN (by omega)) ?_
    rintro r ⟨a, b, ⟨a1, b1, rfl, hb1, rfl⟩, hbn, rfl⟩
    obtain rfl : n = b := hbn.symm
    refine ⟨Nat.mod_lt _ (by omega), ?_⟩
    by_cases hl : one + 1 + b1 < n
    · rw [Nat.mod_eq_of_lt hl]; omega
    · rw [Nat.mod_eq_sub_mod (by omega), Nat.mod_eq_of_lt (by omega)]; omega
  have e02 : Dl d c H H2 := RlOk.trans e1 e2
  obtain ⟨other, rfl, h2', hne⟩ : ∃ o2 : Nat, x = some (.int (o2 : Nat)) ∧ o2 < n ∧ (k = "two" → o2 ≠ one) := by
    by_cases hk2 : k ∈ [("led" : Str), "two"]
    · obtain ⟨a, v, rfl, ⟨ha, hb⟩, r⟩ := ht (decide_eq_true hk2)
      obtain rfl : v = .int (a : Nat) := r
      exact ⟨a, rfl, ha, fun _ => hb⟩
    · have := hf (decide_eq_false hk2)
      exact ⟨other, (Option.some.inj this).symm, h2', fun z => (hk2 (by rw [z]; exact List.mem_cons_of_mem _ List.mem_cons_self)).elim⟩
  dsimp only
  refine k_seq (k_if (Rl := Ex) (et_test (e_op (e_var (a := k) rfl rfl) (e_c (a := ("turn" : Str)) fun _ => rfl) rv_eqS)) (fun hb H3 e3 => ?_) fun hb H3 e3 => ?_)
  · have hk' : k = "turn" := of_decide_eq_true hb
    refine ⟨.ref d, rfl, .int (n : Nat), rfl, d, c, n, (RlOk.trans e02 (RlOk.ex (Rl := Dl d c) e3)).2 hD, by omega, rfl, fun f v H4 f1 f2 f3 e4 r => ?_⟩
    exact hq f v H4 ⟨⟨f1, f3⟩, fun _ => f2, fun z => by rw [hk'] at z; exact absurd z (by decide +kernel)⟩ (RlOk.trans e02 (RlOk.trans (RlOk.ex e3) e4)) r
  have e03 : Dl d c H H3 := RlOk.trans e02 (RlOk.ex e3)
  dsimp only
  refine k_seq (k_ifN (Rl := Ex) (et_is (et_test (e_op (e_var (a := k) rfl rfl) (e_c (a := ("any" : Str)) fun _ => rfl) rv_eqS)) (decide_eq_false hnany)) fun H4 e4 => ?_)
  dsimp only
  refine k_seq (k_ifN (Rl := Ex) (et_is (et_test (e_op (e_var (a := k) rfl rfl) (e_c (a := ("line" : Str)) fun _ => rfl) rv_eqS)) (decide_eq_false hnline)) fun H5 e5 => ?_)
  dsimp only
  refine k_seq (k_ifN (Rl := Ex) (et_is (et_test (e_op (e_var (a := k) rfl rfl) (e_c (a := ("led" : Str)) fun _ => rfl) rv_eqS)) (decide_eq_false hnled)) fun H6 e6 => ?_)
  have e06 : Dl d c H H6 := RlOk.trans e03 (RlOk.ex (e4.trans (e5.trans e6)))
  have rg : ∀ {σ : L2.St} {H1 : Hp}, σ[1]? = some (some (.int (n : Nat))) → Ws Ex (iRng1 (tCons (tVar 1) tNil)) σ H1 (List.range n) fun k _ v => v = .int (k : Nat) := fun h => ws_rg1 (ea_cons (e_var h rfl) ea_nil) (by omega)
  dsimp only
  refine k_seq (k_if (Rl := Ex) (et_test (e_op (e_var (a := k) rfl rfl) (e_c (a := ("two" : Str)) fun _ => rfl) rv_eqS)) (fun hb H7 e7 => ?_) fun hb H7 e7 => ?_)
  · have hk' : k = "two" := of_decide_eq_true hb
    have hne := hne hk'
    refine k_ret (Rl := Ex) (a := (List.range n).map fun s => if s = other then one else if s = one then other else s) (e_tupleNew (e_lcM (fun s => if s = other then one else if s = one then other else s) fr_ex (rg rfl) (by rw [List.length_range]; omega) fun x v H1 hx e1 y => ?_)) fun v H8 e8 r => ?_
    · obtain rfl : v = .int (x : Nat) := y
      refine e_is (e_if (a := if x = other then one else if x = one then other else x) (b := decide (x = other)) (et_test (e_op (e_var (a := x) rfl rfl) (e_var (a := other) rfl rfl) rv_eqN)) (fun h => ?_) fun h => ?_) rfl
      · rw [if_pos (of_decide_eq_true h)]; exact e_var rfl rfl
      · rw [if_neg (of_decide_eq_false h)]
        refine e_if (b := decide (x = one)) (et_test (e_op (e_var (a := x) rfl rfl) (e_var (a := one) rfl rfl) rv_eqN)) (fun h => ?_) fun h => ?_
        · rw [if_pos (of_decide_eq_true h)]; exact e_var rfl rfl
        · rw [if_neg (of_decide_eq_false h)]; exact e_var rfl rfl
    · refine hq _ v H8 ⟨⟨by rw [List.length_map, List.length_range], fun s hs => ?_⟩, fun _ => nodup_map_range fun a b ha hb e => ?_, fun z => by rw [hk'] at z; exact absurd z (by decide +kernel)⟩ (RlOk.trans e06 (RlOk.ex (e7.trans e8))) r
      · obtain ⟨y, hy, rfl⟩ := List.mem_map.mp hs
        have := List.mem_range.mp hy
        split
        · omega
        · split <;> omega
      · split at e <;> split at e <;> (try split at e) <;> (try split at e) <;> omega
  have e07 : Dl d c H H7 := RlOk.trans e06 (RlOk.ex e7)
  have hk2 : k ≠ "two" := of_decide_eq_false hb
  dsimp only
  refine k_seq (k_if (Rl := Ex) (et_test (e_op (e_var (a := k) rfl rfl) (e_c (a := ("ring" : Str)) fun _ => rfl) rv_eqS)) (fun hb H8 e8 => ?_) fun hb H8 e8 => ?_)
  · refine k_ret (Rl := Ex) (a := (List.range n).map fun s => (s + 1) % n) (e_tupleNew (e_lcM (fun s => (s + 1) % n) fr_ex (rg rfl) (by rw [List.length_range]; omega) fun x v H1 hx e1 y => ?_)) fun v H9 e9 r => ?_
    · obtain rfl : v = .int (x : Nat) := y
      exact e_modN (e_int1 (e_addN (e_var (a := x) rfl rfl) (eN 1))) (e_var (a := n) rfl rfl) (by omega)
    · refine hq _ v H9 ⟨⟨by rw [List.length_map, List.length_range], fun s hs => ?_⟩, fun _ => nodup_map_range fun a b ha hb e => ?_, fun _ => rfl⟩ (RlOk.trans e07 (RlOk.ex (e8.trans e9))) r
      · obtain ⟨y, hy, rfl⟩ := List.mem_map.mp hs
        exact Nat.mod_lt _ (by omega)
      · rw [succ_mod ha, succ_mod hb] at e
        split at e <;> split at e <;> omega
  have e08 : Dl d c H H8 := RlOk.trans e07 (RlOk.ex e8)
  have hkr : k ≠ "ring" := of_decide_eq_false hb
  dsimp only
  refine k_seq (k_if (Rl := Ex) (et_test (e_op (e_var (a := k) rfl rfl) (e_c (a := ("mirror" : Str)) fun _ => rfl) rv_eqS)) (fun hb H9 e9 => ?_) fun hb H9 e9 => ?_)
  · refine k_ret (Rl := Ex) (a := (List.range n).map fun s => if s ≤ one then one - s else one + n - s) (e_tupleNew (e_lcM (fun s => if s ≤ one then one - s else one + n - s) fr_ex (rg rfl) (by rw [List.length_range]; omega) fun x v H1 hx e1 y => ?_)) fun v HA eA r => ?_
    · obtain rfl : v = .int (x : Nat) := y
      exact e_toNat (e_modI (e_intI (e_subI (e_ofNat (e_var (a := one) rfl rfl)) (e_ofNat (e_var (a := x) rfl rfl)))) (e_ofNat (e_var (a := n) rfl rfl)) (by omega)) (mirror_eq (List.mem_range.mp hx) h1)
    · refine hq _ v HA ⟨⟨by rw [List.length_map, List.length_range], fun s hs => ?_⟩, fun _ => nodup_map_range fun a b ha hb e => ?_, fun z => (hkr z).elim⟩ (RlOk.trans e08 (RlOk.ex (e9.trans eA))) r
      · obtain ⟨y, hy, rfl⟩ := List.mem_map.mp hs
        have := List.mem_range.mp hy
        split <;> omega
      · split at e <;> split at e <;> omega
  have hkm : k ≠ "mirror" := of_decide_eq_false ‹_›
  have hkt : k ≠ "turn" := of_decide_eq_false ‹decide (k = ("turn" : Str)) = false›
  dsimp only
  refine k_ret (Rl := Ex) (a := (List.range n).map fun _ => one) (e_tupleNew (e_lcM (fun _ => one) fr_ex (rg rfl) (by rw [List.length_range]; omega) fun x v H1 hx e1 y => e_var rfl rfl)) fun v HA eA r => ?_
  refine hq _ v HA ⟨⟨by rw [List.length_map, List.length_range], fun s hs => ?_⟩, fun z => ?_, fun z => (hkr z).elim⟩ (RlOk.trans e08 (RlOk.ex (e9.trans eA))) r
  · obtain ⟨y, hy, rfl⟩ := List.mem_map.mp hs
    exact h1
  · simp only [kinds1, List.mem_cons, List.not_mem_nil, or_false] at z
    rcases z with z | z | z | z
    · exact (hkt z).elim
    · exact (hkr z).elim
    · exact (hk2 z).elim
    · exact (hkm z).elim
end
end B
/-! permutations; one deed alone is small. -/
namespace B
open PySem L2
structure Prm (n : Nat) (f : List Nat) : Prop where
  eff : Eff n f
  nd : f.Nodup
theorem Prm.inj {n : Nat} {f : List Nat} (h : Prm n f) {s t : Nat} (hs : s < n) (ht : t < n) (e : f.getD s 0 = f.getD t 0) : s = t := by
  have hp := List.pairwise_iff_getElem.mp h.nd
  have ls : s < f.length := by rw [h.eff.1]; exact hs
  have lt : t < f.length := by rw [h.eff.1]; exact ht
  have gs : f.getD s 0 = f[s] := by rw [List.getD_eq_getElem?_getD, List.getElem?_eq_getElem ls]; rfl
  have gt : f.getD t 0 = f[t] := by rw [List.getD_eq_getElem?_getD, List.getElem?_eq_getElem lt]; rfl
  rw [gs, gt] at e
  rcases Nat.lt_trichotomy s t with h | h | h
  · exact (hp s t ls lt h e).elim
  · exact h
  · exact (hp t s lt ls h e.symm).elim
theorem Prm.sur {n : Nat} {f : List Nat} (h : Prm n f) {y : Nat} (hy : y < n) : ∃ s, s < n ∧ f.getD s 0 = y := by
  have hm : y ∈ f := Classical.byContradiction fun hn => by
    have := nodup_le (m := List.range n) (List.nodup_cons.mpr ⟨hn, h.nd⟩) fun x hx => by
      rcases List.mem_cons.mp hx with rfl | hx
      · exact List.mem_range.mpr hy
      · exact List.mem_range.mpr (h.eff.2 x hx)
    rw [List.length_cons, List.length_range, h.eff.1] at this
    omega
  obtain ⟨i, hi⟩ := List.getElem?_of_mem hm
  have := (List.getElem?_eq_some_iff.mp hi).1
  exact ⟨i, by rw [← h.eff.1]; exact this, by rw [List.getD_eq_getElem?_getD, hi]; rfl⟩
theorem Prm.of {n : Nat} {f : List Nat} (e : Eff n f) (h : ∀ s t, s < n → t < n → f.getD s 0 = f.getD t 0 → s = t) : Prm n f := ⟨e, by
  refine List.pairwise_iff_getElem.mpr fun i j hi hj hij he => ?_
  have gs : f.getD i 0 = f[i] := by rw [List.getD_eq_getElem?_getD, List.getElem?_eq_getElem hi]; rfl
  have gt : f.getD j 0 = f[j] := by rw [List.getD_eq_getElem?_getD, List.getElem?_eq_getElem hj]; rfl
  have := h i j (by rw [← e.1]; exact hi) (by rw [← e.1]; exact hj) (by rw [gs, gt]; exact he)
  omega⟩
theorem prm_range (n : Nat) : Prm n (List.range n) := ⟨eff_range n, List.nodup_range⟩
theorem Prm.thn {n : Nat} {f g : List Nat} (hf : Prm n f) (hg : Prm n g) : Prm n (thn f g) := .of (hf.eff.thn hg.eff) fun s t hs ht e => by
  rw [getD_thn (by rw [hf.eff.1]; exact hs), getD_thn (by rw [hf.eff.1]; exact ht)] at e
  exact hf.inj hs ht (hg.inj (hf.eff.lt hs) (hf.eff.lt ht) e)
/-- g, k times over -/
def itN (g : Nat → Nat) : Nat → Nat → Nat
  | 0, s => s
  | k + 1, s => g (itN g k s)
theorem itN_add (g : Nat → Nat) (a s : Nat) : ∀ b, itN g (a + b) s = itN g b (itN g a s)
  | 0 => rfl
  | b + 1 => congrArg g (itN_add g a s b)
theorem pwr_it {n : Nat} {f : List Nat} (hf : Eff n f) {s : Nat} (hs : s < n) : ∀ t, (pwr n f t).getD s 0 = itN (fun x => f.getD x 0) t s
  | 0 => getD_range hs
  | t + 1 => by
    show (thn (pwr n f t) f).getD s 0 = _
    rw [getD_thn (by rw [(hf.pwr t).1]; exact hs), pwr_it hf hs t]; rfl
theorem it_lt {n : Nat} {f : List Nat} (hf : Eff n f) {s : Nat} (hs : s < n) (t : Nat) : itN (fun x => f.getD x 0) t s < n := by
  rw [← pwr_it hf hs t]; exact (hf.pwr t).lt hs
theorem it_mul {g : Nat → Nat} {p s : Nat} (h : itN g p s = s) : ∀ m, itN g (p * m) s = s
  | 0 => rfl
  | m + 1 => by rw [Nat.mul_succ, itN_add, it_mul h m, h]
theorem it_back {n : Nat} {f : List Nat} (h : Prm n f) {s t : Nat} (hs : s < n) (ht : t < n) : ∀ i, itN (fun x => f.getD x 0) i s = itN (fun x => f.getD x 0) i t → s = t
  | 0, e => e
  | i + 1, e => it_back h hs ht i (h.inj (it_lt h.eff hs i) (it_lt h.eff ht i) e)
/-- each place comes back within n steps -/
theorem Prm.period {n : Nat} {f : List Nat} (h : Prm n f) {s : Nat} (hs : s < n) : ∃ p, 1 ≤ p ∧ p ≤ n ∧ itN (fun x => f.getD x 0) p s = s := by
  obtain ⟨i, j, hi, hj, hne, e⟩ : ∃ i j, i < n + 1 ∧ j < n + 1 ∧ i ≠ j ∧ itN (fun x => f.getD x 0) i s = itN (fun x => f.getD x 0) j s := Classical.byContradiction fun hn => by
    have nd := nodup_map_range (n := n + 1) (f := fun i => itN (fun x => f.getD x 0) i s) fun a b ha hb e => Classical.byContradiction fun hab => hn ⟨a, b, ha, hb, hab, e⟩
    have := nodup_le (m := List.range n) nd fun x hx => by
      obtain ⟨i, _, rfl⟩ := List.mem_map.mp hx
      exact List.mem_range.mpr (it_lt h.eff hs i)
    rw [List.length_map, List.length_range, List.length_range] at this
    omega
  have key : ∀ i j, i < j → j < n + 1 → itN (fun x => f.getD x 0) i s = itN (fun x => f.getD x 0) j s → ∃ p, 1 ≤ p ∧ p ≤ n ∧ itN (fun x => f.getD x 0) p s = s := fun i j hij hj e => by
    refine ⟨j - i, by omega, by omega, ?_⟩
    have hj' : j = (j - i) + i := by omega
    rw [hj', itN_add] at e
    exact (it_back h hs (it_lt h.eff hs _) i e).symm
  rcases Nat.lt_or_gt_of_ne hne with h1 | h1
  · exact key i j h1 hj e
  · exact key j i h1 hi e.symm
theorem Prm.sixty {n : Nat} {f : List Nat} (h : Prm n f) (hn : n ≤ 6) : pwr n f 60 = List.range n := eff_ext (h.eff.pwr 60).1 List.length_range fun s hs => by
  rw [pwr_it h.eff hs, getD_range hs]
  obtain ⟨p, h1, h2, e⟩ := h.period hs
  have : p = 1 ∨ p = 2 ∨ p = 3 ∨ p = 4 ∨ p = 5 ∨ p = 6 := by omega
  rcases this with rfl | rfl | rfl | rfl | rfl | rfl
  · exact it_mul e 60
  · exact it_mul e 30
  · exact it_mul e 20
  · exact it_mul e 15
  · exact it_mul e 12
  · exact it_mul e 10
/-- carried over by places -/
theorem carried {n k : Nat} {f places : List Nat} {g : Nat → Nat} (hf : Eff n f) (hp : Prm n places) (hg : ∀ s, s < n → g s < n) (e : ∀ s, s < n → f.getD (places.getD s 0) 0 = places.getD (g s) 0) (hk : ∀ s, s < n → itN g k s = s) : pwr n f k = List.range n := by
  have gl : ∀ t s, s < n → itN g t s < n := fun t => by
    induction t with
    | zero => exact fun s hs => hs
    | succ t ih => exact fun s hs => hg _ (ih s hs)
  have it : ∀ t s, s < n → itN (fun x => f.getD x 0) t (places.getD s 0) = places.getD (itN g t s) 0 := fun t => by
    induction t with
    | zero => exact fun s hs => rfl
    | succ t ih =>
      intro s hs
      show f.getD (itN (fun x => f.getD x 0) t (places.getD s 0)) 0 = places.getD (g (itN g t s)) 0
      rw [ih s hs, e _ (gl t s hs)]
  refine eff_ext (hf.pwr k).1 List.length_range fun s hs => ?_
  obtain ⟨t, ht, rfl⟩ := hp.sur hs
  rw [pwr_it hf hs, getD_range hs, it k t ht, hk t ht]
theorem affine42 : ∀ a, a < 7 → ∀ c, c < 7 → a ≠ 0 → ∀ s, s < 7 → itN (fun s => (a * s + c) % 7) 42 s = s := by decide +kernel
theorem ring12 : ∀ s, s < 12 → itN (fun s => (s + 1) % 12) 12 s = s := by decide +kernel
theorem single_small {n k : Nat} {d : Deed} (hf : Eff n d.2) (h0 : 0 < k) (hk : k ≤ 60) (hp : pwr n d.2 k = List.range n) : Small n [d] := fun l nd hl => by
  have : ∀ g, Gen n [d] g → ∃ t, g = pwr n d.2 t := fun g h => by
    induction h with
    | one => exact ⟨0, rfl⟩
    | step _ hd ih =>
      obtain ⟨t, rfl⟩ := ih
      obtain rfl := List.mem_singleton.mp hd
      exact ⟨t + 1, rfl⟩
  have h2 : ∀ m, pwr n d.2 (k * m) = List.range n := fun m => by
    induction m with
    | zero => rfl
    | succ m ih => rw [Nat.mul_succ, pwr_add hf, ih, hp, thn_one (eff_range n)]
  have := nodup_le (m := (List.range k).map fun t => pwr n d.2 t) nd fun g hg => by
    obtain ⟨t, rfl⟩ := this g (hl g hg)
    refine List.mem_map.mpr ⟨t % k, List.mem_range.mpr (Nat.mod_lt _ h0), ?_⟩
    conv => rhs; rw [← Nat.div_add_mod t k, pwr_add hf, h2, one_thn (hf.pwr _)]
  rw [List.length_map, List.length_range] at this
  omega
end B
/-! the group of a machine of permutations. -/
namespace B
open PySem L2
theorem Gen.prm {n : Nat} {ds : List Deed} (ok : ∀ d ∈ ds, Prm n d.2) {f : List Nat} (h : Gen n ds f) : Prm n f := by
  induction h with
  | one => exact prm_range n
  | step _ hd ih => exact ih.thn (ok _ hd)
theorem Gen.thn {n : Nat} {ds : List Deed} (ok : ∀ d ∈ ds, Prm n d.2) {f g : List Nat} (hf : Gen n ds f) (hg : Gen n ds g) : Gen n ds (B.thn f g) := by
  induction hg with
  | one => rw [thn_one (hf.prm ok).eff]; exact hf
  | step hg hd ih => rw [← thn_assoc (hf.prm ok).eff (hg.prm ok).eff]; exact .step ih hd
theorem Gen.deed {n : Nat} {ds : List Deed} (ok : ∀ d ∈ ds, Prm n d.2) {d : Deed} (hd : d ∈ ds) : Gen n ds d.2 := by
  have := Gen.step (n := n) (ds := ds) .one hd
  rwa [one_thn (ok d hd).eff] at this
theorem Gen.pwr {n : Nat} {ds : List Deed} (ok : ∀ d ∈ ds, Prm n d.2) {f : List Nat} (hf : Gen n ds f) : ∀ t, Gen n ds (B.pwr n f t)
  | 0 => .one
  | t + 1 => (Gen.pwr ok hf t).thn ok hf
theorem Prm.pwr {n : Nat} {f : List Nat} (h : Prm n f) : ∀ t, Prm n (B.pwr n f t)
  | 0 => prm_range n
  | t + 1 => (Prm.pwr h t).thn h
/-- thn f g = f only for the one -/
theorem Prm.cancel {n : Nat} {f g : List Nat} (hf : Prm n f) (hg : Eff n g) (e : B.thn f g = f) : g = List.range n := eff_ext hg.1 List.length_range fun s hs => by
  obtain ⟨t, ht, rfl⟩ := hf.sur hs
  rw [getD_range (hf.eff.lt ht), ← getD_thn (by rw [hf.eff.1]; exact ht), e]
/-- the order of a permutation within a small machine -/
theorem Gen.order {n : Nat} {ds : List Deed} (ok : ∀ d ∈ ds, Prm n d.2) (sm : Small n ds) {f : List Nat} (hf : Gen n ds f) : ∃ p, 1 ≤ p ∧ p ≤ 60 ∧ B.pwr n f p = List.range n := by
  obtain ⟨i, j, hi, hj, hne, e⟩ : ∃ i j, i < 61 ∧ j < 61 ∧ i ≠ j ∧ B.pwr n f i = B.pwr n f j := Classical.byContradiction fun hn => by
    have nd : ((List.range 61).map fun i => B.pwr n f i).Nodup := by
      refine List.pairwise_map.mpr (List.Pairwise.imp_of_mem (fun {a b} ha hb hab => ?_) List.nodup_range)
      exact fun e => hn ⟨a, b, List.mem_range.mp ha, List.mem_range.mp hb, hab, e⟩
    have := sm _ nd fun g hg => by
      obtain ⟨i, _, rfl⟩ := List.mem_map.mp hg
      exact hf.pwr ok i
    rw [List.length_map, List.length_range] at this
    omega
  have pf := hf.prm ok
  have key : ∀ i j, i < j → j < 61 → B.pwr n f i = B.pwr n f j → ∃ p, 1 ≤ p ∧ p ≤ 60 ∧ B.pwr n f p = List.range n := fun i j hij hj e => by
    refine ⟨j - i, by omega, by omega, ?_⟩
    have hj' : j = i + (j - i) := by omega
    rw [hj', pwr_add pf.eff] at e
    exact (pf.pwr i).cancel (pf.eff.pwr _) e.symm
  rcases Nat.lt_or_gt_of_ne hne with h1 | h1
  · exact key i j h1 hj e
  · exact key j i h1 hi e.symm
/-- .. and the one that undoes it -/
theorem Gen.inv {n : Nat} {ds : List Deed} (ok : ∀ d ∈ ds, Prm n d.2) (sm : Small n ds) {f : List Nat} (hf : Gen n ds f) : ∃ g, Gen n ds g ∧ B.thn f g = List.range n ∧ B.thn g f = List.range n := by
  obtain ⟨p, h1, _, e⟩ := hf.order ok sm
  have pf := hf.prm ok
  obtain ⟨p, rfl⟩ : ∃ q, p = q + 1 := ⟨p - 1, by omega⟩
  refine ⟨B.pwr n f p, hf.pwr ok p, ?_, e⟩
  have := pwr_comm pf.eff 1 p
  rw [pwr_one pf.eff] at this
  rw [this]; exact e
end B
/-! joins_all, unbreakable. -/
namespace B
open PySem PySem.Spec PyProof.Rows L2
section
variable {K : PySem.W.Frag} {σ : L2.St} {H H' : Hp} {ta tb te : TE} {i : Nat} {α β : Type} [Enc α] [Enc β] {D : Ends} {t : TT} {xs : List α} {ys : List β}
theorem e_catL {p : Addr} {zs : List α} (ha : Ev Ex ta σ H (Raw.mk (.ref p))) (hl : LsAt H p xs) (hb : EvL Ex tb σ H zs) (hn : xs.length + zs.length ≤ 1000000) : EvL Ex (tOp (rAddU K) ta tb) σ H (xs ++ zs) := fun H1 e Q q => by
  refine ha H1 e _ fun x H2 e2 rx => hb H2 (e.trans e2) _ fun p2 ws H3 hp2 e3 h2 r2 => ?_
  obtain rfl : x = .ref p := rx
  obtain ⟨vs, h1, r1⟩ := hl.mono (e.trans (e2.trans e3))
  refine .inr (.inr (.inl ⟨p, p2, vs, ws, rfl, rfl, h1, h2, sz (by rw [r1.length, r2.length]; exact hn), fun q' hq' => ?_⟩))
  have e4 : Ex H3 (upd H3 q' (.lst (vs ++ ws))) := Ex.new hq'
  exact q q' (vs ++ ws) _ (RlOk.back (Rl := Ex) (e2.trans e3) hq') (e2.trans (e3.trans e4)) upd_same ((upA (Rl := Ex) e4 r1).append (upA (Rl := Ex) e4 r2))
theorem k_set2LL {j k : Nat} (ha : EvL Ex ta σ H xs) (hb : ∀ H1, Ex H H1 → EvL Ex tb σ H1 ys) (kk : ∀ p q H2, H p = none → H q = none → p ≠ q → Ex H H2 → LsAt H2 p xs → LsAt H2 q ys → D.nx ((σ.set j (some (.ref p))).set k (some (.ref q))) H2) :
    tAsg (tTup (tCons ta (tCons tb tNil))) (gTup K 2 (gCons (gName j) (gCons (gName k) gNil))) D σ H := by
  refine ha H (Ex.refl _) _ fun p vs H1 hp e1 h1 r1 => ?_
  refine hb H1 e1 H1 (Ex.refl _) _ fun q ws H2 hq e2 h2 r2 => ⟨by show 2 ≤ sizeLine; decide, fun z hz => ?_⟩
  have e3 : Ex H2 (upd H2 z (.tup [.ref p, .ref q])) := Ex.new hz
  refine ⟨z, _, rfl, SqT.of upd_same, rfl, .ref p, [.ref q], rfl, .ref q, [], rfl, rfl, ?_⟩
  exact kk p q _ hp (RlOk.back (Rl := Ex) e1 hq) (fun z => by rw [z] at h1; rw [h1] at hq; cases hq) (e1.trans (e2.trans e3)) (LsAt.mono ⟨_, h1, r1⟩ (e2.trans e3)) (LsAt.mono ⟨_, h2, r2⟩ e3)
theorem popAny {j : Nat} {p : Addr} {x : α} {Q : VK} (hj : σ[j]? = some (some (.ref p))) (h : LsAt H p xs) (hx : xs[xs.length - 1]? = some x) (k : ∀ v H2, Enc.rep (tp H2) v x → LsAt H2 p xs.dropLast → ExM (· = p) H H2 → Q v H2) : tBM0 K "list" rPop (tVar j) σ H Q := by
  obtain ⟨vs, h1, r1⟩ := h
  obtain ⟨v, hv, rv⟩ := r1.get hx
  have hl := r1.length
  have t2 := tp_upd (o := .lst vs.dropLast) h1 (fun z => z)
  exact ⟨.ref p, hj, .inl ⟨rfl, vs, SqL.of h1⟩, p, vs, v, rfl, rfl, h1, by rw [hl]; exact hv, k v _ (Enc.mono t2 rv) ⟨_, upd_same, RepA.mono t2 r1.dropLast⟩ (ExM.mut (RlOk.refl _) h1 (fun z => z) rfl)⟩
end
/-! ### the law -/
structure Cong (n : Nat) (ds : List Deed) (R : Nat → Nat → Prop) : Prop where
  rfl : ∀ x, x < n → R x x
  sym : ∀ x y, R x y → R y x
  tr : ∀ x y z, R x y → R y z → R x z
  go : ∀ d ∈ ds, ∀ x y, x < n → y < n → R x y → R (d.2.getD x 0) (d.2.getD y 0)
def Joined (n : Nat) (ds : List Deed) (one other : Nat) : Prop := ∀ R, Cong n ds R → R one other → ∀ x, x < n → ∀ y, y < n → R x y
def spJoins : Sp := spN (ι := Nat × List Deed × Addr × Nat × Nat) (fun i H => i.1 ≤ 49 ∧ (∀ d ∈ i.2.1, DeedOk i.1 d) ∧ i.2.1.length ≤ 8 ∧ LsAt H i.2.2.1 i.2.1 ∧ i.2.2.2.1 < i.1 ∧ i.2.2.2.2 < i.1) (fun i => [mp i.1, mp (Raw.mk (.ref i.2.2.1)), mp i.2.2.2.1, mp i.2.2.2.2]) fun i (b : Bool) => b = true → Joined i.1 i.2.1 i.2.2.2.1 i.2.2.2.2
def cntm (n : Nat) (ms : List Nat) : Nat := ((List.range n).filter fun m => decide (m ∈ ms)).length
theorem cnt_le {n : Nat} {ms : List Nat} : cntm n ms ≤ n := by
  have := List.length_filter_le (fun m => decide (m ∈ ms)) (List.range n)
  rw [List.length_range] at this
  exact this
theorem cnt_lt {n old new : Nat} {ms : List Nat} (ho : old < n) (hm : old ∈ ms) (hn : new ∈ ms) (hne : old ≠ new) : cntm n (ms.map fun m => if m = old then new else m) + 1 ≤ cntm n ms := by
  unfold cntm
  have hno : old ∉ ms.map fun m => if m = old then new else m := fun z => by
    obtain ⟨m, _, e⟩ := List.mem_map.mp z
    split at e
    · exact hne e.symm
    · contradiction
  refine nodup_le (l := old :: (List.range n).filter fun m => decide (m ∈ ms.map fun m => if m = old then new else m)) (List.nodup_cons.mpr ⟨fun z => hno (of_decide_eq_true (List.mem_filter.mp z).2), List.nodup_range.filter _⟩) fun x hx => ?_
  rcases List.mem_cons.mp hx with rfl | hx
  · exact List.mem_filter.mpr ⟨List.mem_range.mpr ho, decide_eq_true hm⟩
  · obtain ⟨h1, h2⟩ := List.mem_filter.mp hx
    refine List.mem_filter.mpr ⟨h1, decide_eq_true ?_⟩
    obtain ⟨m, hm, e⟩ := List.mem_map.mp (of_decide_eq_true h2)
    split at e
    · rw [← e]; exact hn
    · rw [← e]; exact hm
structure JInv (n : Nat) (ds : List Deed) (one other : Nat) (ms : List Nat) (ws : List (Nat × Nat)) : Prop where
  len : ms.length = n
  lt : ∀ m ∈ ms, m < n
  wl : ∀ p ∈ ws, p.1 < n ∧ p.2 < n
  mkk : ∀ R, Cong n ds R → R one other → ∀ i j, i < n → j < n → ms.getD i 0 = ms.getD j 0 → R i j
  wr : ∀ R, Cong n ds R → R one other → ∀ p ∈ ws, R p.1 p.2
theorem JInv.go {n : Nat} {ds : List Deed} {one other : Nat} {ms : List Nat} {ws : List (Nat × Nat)} (h : JInv n ds one other ms ws) (hds : ∀ d ∈ ds, DeedOk n d) {x y : Nat} (hx : (x, y) ∈ ws) :
    JInv n ds one other (ms.map fun m => if m = ms.getD x 0 then ms.getD y 0 else m) (ws.dropLast ++ ds.map fun d => (d.2.getD x 0, d.2.getD y 0)) where
  len := by rw [List.length_map, h.len]
  lt m hm := by
    obtain ⟨m', hm', rfl⟩ := List.mem_map.mp hm
    split
    · exact h.lt _ (List.mem_of_getElem? (getD_at (by rw [h.len]; exact (h.wl _ hx).2)))
    · exact h.lt _ hm'
  wl p hp := by
    rcases List.mem_append.mp hp with hp | hp
    · exact h.wl _ ((List.dropLast_sublist _).subset hp)
    · obtain ⟨d, hd, rfl⟩ := List.mem_map.mp hp
      exact ⟨(hds d hd).im.lt (h.wl _ hx).1, (hds d hd).im.lt (h.wl _ hx).2⟩
  mkk R c ro i j hi hj e := by
    have gi : ∀ i, i < n → (ms.map fun m => if m = ms.getD x 0 then ms.getD y 0 else m).getD i 0 = if ms.getD i 0 = ms.getD x 0 then ms.getD y 0 else ms.getD i 0 := fun i hi => by
      rw [List.getD_eq_getElem?_getD, List.getElem?_map, getD_at (xs := ms) (by rw [h.len]; exact hi)]
      rfl
    rw [gi i hi, gi j hj] at e
    have hxy := h.wr R c ro _ hx
    have hxn := (h.wl _ hx).1
    have hyn := (h.wl _ hx).2
    by_cases h1 : ms.getD i 0 = ms.getD x 0
    · by_cases h2 : ms.getD j 0 = ms.getD x 0
      · exact h.mkk R c ro i j hi hj (h1.trans h2.symm)
      · rw [if_pos h1, if_neg h2] at e
        exact c.tr _ _ _ (h.mkk R c ro i x hi hxn h1) (c.tr _ _ _ hxy (h.mkk R c ro y j hyn hj e))
    · by_cases h2 : ms.getD j 0 = ms.getD x 0
      · rw [if_neg h1, if_pos h2] at e
        exact c.tr _ _ _ (h.mkk R c ro i y hi hyn e) (c.tr _ _ _ (c.sym _ _ hxy) (h.mkk R c ro x j hxn hj h2.symm))
      · rw [if_neg h1, if_neg h2] at e
        exact h.mkk R c ro i j hi hj e
  wr R c ro p hp := by
    rcases List.mem_append.mp hp with hp | hp
    · exact h.wr R c ro _ ((List.dropLast_sublist _).subset hp)
    · obtain ⟨d, hd, rfl⟩ := List.mem_map.mp hp
      exact c.go d hd x y (h.wl _ hx).1 (h.wl _ hx).2 (h.wr R c ro _ hx)
theorem JInv.drop {n : Nat} {ds : List Deed} {one other : Nat} {ms : List Nat} {ws : List (Nat × Nat)} (h : JInv n ds one other ms ws) : JInv n ds one other ms ws.dropLast := ⟨h.len, h.lt, fun p hp => h.wl p ((List.dropLast_sublist _).subset hp), h.mkk, fun R c ro p hp => h.wr R c ro p ((List.dropLast_sublist _).subset hp)⟩
section
variable {P : Program} {w : World} {K : PySem.W.Frag} {mg : Str → Option Value} {base : Heap}
theorem ok_law_joins_all (W : Wd K mg) : Fn P w K mg base 4 "_law_joins_all" p_law_joins_all spJoins := by
  refine fn_ok (k := 0) W 41 sc_law_joins_all (spN_len fun _ => rfl) (fun _ _ _ _ _ _ us hl => match us, hl with | [_, _, _, _], _ => rfl) fun f cdv A outer s H vs Q E hr h => ⟨_, w_law_joins_all W hr, ?_⟩
  obtain ⟨⟨n, ds, p, one, other⟩, ⟨h49, hds, h8, hp, h1n, h2n⟩, hr', hq⟩ := h
  obtain ⟨v0, v1, v2, v3, rfl, r0, r1, r2, r3⟩ := reps4 hr'
  obtain rfl : v0 = .int (n : Nat) := r0
  obtain rfl : v1 = .ref p := r1
  obtain rfl : v2 = .int (one : Nat) := r2
  obtain rfl : v3 = .int (other : Nat) := r3
  dsimp only at *
  show tSeq _ _ _ _ _
  refine k_seq (k_set2LL (xs := List.range n) (ys := [(one, other)]) (e_lstRg (e_var rfl rfl) (by omega)) (fun H1 e1 => e_lstH (eh_cons (e_pair (e_var rfl rfl) (e_var rfl rfl)) eh_nil) (by show 1 ≤ 1000000; decide)) fun p4 p5 H1 n4 n5 n45 e1 hl4 hl5 => ?_)
  dsimp only
  refine k_seq (k_while (Rl := Ex) (fun m σ1 H2 => Ex H H2 ∧ m ≤ 9 * n + 1 ∧ ∃ (p4 p5 : Addr) (ms : List Nat) (ws : List (Nat × Nat)) (o6 o7 o8 o9 oa ob oc : Option V), H p4 = none ∧ H p5 = none ∧ p4 ≠ p5 ∧ m = 9 * cntm n ms + ws.length ∧ σ1 = [some (.int (n : Nat)), some (.ref p), some (.int (one : Nat)), some (.int (other : Nat)), some (.ref p4), some (.ref p5), o6, o7, o8, o9, oa, ob, oc] ∧ LsAt H2 p4 ms ∧ LsAt H2 p5 ws ∧ JInv n ds one other ms ws)
    ⟨_, e1, ?_, p4, p5, _, _, _, _, _, _, _, _, _, n4, n5, n45, rfl, rfl, hl4, hl5, ?_⟩ ?_)
  · have : cntm n (List.range n) ≤ n := cnt_le
    show 9 * cntm n (List.range n) + 1 ≤ 9 * n + 1
    omega
  · refine ⟨List.length_range, fun m hm => List.mem_range.mp hm, fun p hp => ?_, fun R c ro i j hi hj e => ?_, fun R c ro p hp => ?_⟩
    · obtain rfl := List.mem_singleton.mp hp
      exact ⟨h1n, h2n⟩
    · have g : ∀ i, i < n → (List.range n).getD i 0 = i := fun i hi => by rw [List.getD_eq_getElem?_getD, List.getElem?_range hi]; rfl
      rw [g i hi, g j hj] at e
      rw [e]
      exact c.rfl j hj
    · obtain rfl := List.mem_singleton.mp hp
      exact ro
  rintro m σ1 H2 ⟨e2, hm, p4, p5, ms, ws, o6, o7, o8, o9, oa, ob, oc, n4, n5, n45, rfl, rfl, k4, k5, J⟩
  refine ⟨!decide (ws = []), et_test (e_neL (ys := []) (e_var rfl rfl) k5.ls (e_lstH eh_nil (by decide)) (fun x _ => ⟨trivial, trivial⟩) (by simp) (by decide)), fun hb H3 e3 => ?_, fun hb H3 e3 => ?_⟩
  · have k4 := k4.mono e3
    have hn0 : 0 < n := by omega
    refine k_ret (Rl := Ex) (a := (ms.map fun m => decide (m = ms.getD 0 0)).all id) (e_all (e_lcM (fun m => decide (m = ms.getD 0 0)) fr_ex (ws_ls (e_var rfl rfl) k4.ls) (by rw [J.len]; omega) fun x v H4 hx e4 y => e_op (e_var rfl y) (e_ixLs (e_var rfl rfl) (k4.mono e4).ls (eN 0) (getD_at (by rw [J.len]; exact hn0))) rv_eqN)) fun v H5 e5 r => hq v _ H5 (e2.trans (e3.trans e5)) (fun hall R c ro x hx y hy => ?_) r
    rw [List.all_map, List.all_eq_true] at hall
    have g : ∀ x, x < n → ms.getD x 0 = ms.getD 0 0 := fun x hx => of_decide_eq_true (hall _ (List.mem_of_getElem? (getD_at (by rw [J.len]; exact hx))))
    exact J.mkk R c ro x y hx hy ((g x hx).trans (g y hy).symm)
  · have hne : ws ≠ [] := fun z => by rw [z] at hb; cases hb
    have hpos : 0 < ws.length := List.length_pos_iff.mpr hne
    have k4 := k4.mono e3
    have k5 := k5.mono e3
    obtain ⟨⟨x, y⟩, hxy⟩ : ∃ q, ws[ws.length - 1]? = some q := ⟨_, List.getElem?_eq_getElem (by omega)⟩
    have hmem := List.mem_of_getElem? hxy
    obtain ⟨hxn, hyn⟩ := J.wl _ hmem
    dsimp only at hxn hyn
    refine k_seq ?_
    refine popAny rfl k5 hxy fun v H4 rv k5' e4 => ?_
    obtain ⟨q, vx, vy, rfl, hqv, rx, ry⟩ := rv
    obtain rfl : vx = .int (x : Nat) := rx
    obtain rfl : vy = .int (y : Nat) := ry
    have e04 : Ex H H4 := ExM.out (e2.trans e3) e4 fun a z => by rw [z]; exact n5
    have k4' : LsAt H4 p4 ms := (LsAt.lsM k4 (fun z => n45 z)).mono e4 |>.to
    refine ⟨q, _, rfl, SqT.of hqv, rfl, _, _, rfl, _, _, rfl, rfl, ?_⟩
    dsimp only
    refine k_seq (k_set2 (Rl := Ex) (p := (ms.getD x 0, ms.getD y 0)) (e_pair (e_ixLs (e_var rfl rfl) k4'.ls (e_var (a := x) rfl rfl) (getD_at (by rw [J.len]; exact hxn))) (e_ixLs (e_var rfl rfl) k4'.ls (e_var (a := y) rfl rfl) (getD_at (by rw [J.len]; exact hyn)))) fun v8 v9 H5 e5 r8 r9 => ?_)
    obtain rfl : v8 = .int (ms.getD x 0 : Nat) := r8
    obtain rfl : v9 = .int (ms.getD y 0 : Nat) := r9
    have k45 := k4'.mono e5
    have k55 := k5'.mono e5
    dsimp only
    have mx : ms.getD x 0 ∈ ms := List.mem_of_getElem? (getD_at (by rw [J.len]; exact hxn))
    have my : ms.getD y 0 ∈ ms := List.mem_of_getElem? (getD_at (by rw [J.len]; exact hyn))
    refine k_if (Rl := Ex) (et_test (e_op (e_var (a := ms.getD x 0) rfl rfl) (e_var (a := ms.getD y 0) rfl rfl) rv_neN)) (fun hne2 H6 e6 => ?_) fun hne2 H6 e6 => ?_
    · have hne2 : ms.getD x 0 ≠ ms.getD y 0 := by simpa using hne2
      have k46 := k45.mono e6
      refine k_seq (k_setL (Rl := Ex) (xs := ms.map fun m => if m = ms.getD x 0 then ms.getD y 0 else m) (e_lcM (fun m => if m = ms.getD x 0 then ms.getD y 0 else m) fr_ex (ws_ls (e_var rfl rfl) k46.ls) (by rw [J.len]; omega) fun z v H7 hz e7 rz => ?_) fun p4' vs4 H7 n4' e7 hl4' r4' => ?_)
      · refine e_if (b := decide (z = ms.getD x 0)) (et_test (e_op (e_var rfl rz) (e_var (a := ms.getD x 0) rfl rfl) rv_eqN)) (fun h => ?_) fun h => ?_
        · rw [if_pos (of_decide_eq_true h)]; exact e_var rfl rfl
        · rw [if_neg (of_decide_eq_false h)]; exact e_var rfl rz
      dsimp only
      have e06 := e04.trans (e5.trans e6)
      have e07 := e06.trans e7
      have k57 := k55.mono (e6.trans e7)
      have hcl := cnt_lt (n := n) (J.lt _ mx) mx my hne2
      refine k_setL (Rl := Ex) (xs := ws.dropLast ++ ds.map fun d => (d.2.getD x 0, d.2.getD y 0)) (e_catL (e_var rfl rfl) k57 (el_is (e_lc2 (K := K) (fun _ : Deed => true) (fun d : Deed => (d.2.getD x 0, d.2.getD y 0)) fr_ex (ws_ls (e_var rfl rfl) (hp.mono e07).ls) (by omega) (by decide) fun d va vb H8 hd e8 ra rb => ⟨et_yes, fun _ => e_pair (e_ixT (e_var rfl rb) (e_var (a := x) rfl rfl) ((hds d hd).im.at hxn)) (e_ixT (e_var rfl rb) (e_var (a := y) rfl rfl) ((hds d hd).im.at hyn))⟩) (by rw [List.filter_eq_self.mpr fun _ _ => rfl])) ?_) fun p5' vs5 H8 n5' e8 hl5' r5' => ?_
      · rw [List.length_dropLast, List.length_map]; omega
      refine ⟨9 * cntm n (ms.map fun m => if m = ms.getD x 0 then ms.getD y 0 else m) + (ws.dropLast ++ ds.map fun d => (d.2.getD x 0, d.2.getD y 0)).length, ?_, e07.trans e8, ?_, p4', p5', _, _, _, _, _, _, _, _, _, RlOk.back (Rl := Ex) e06 n4', RlOk.back (Rl := Ex) e07 n5', fun z => ?_, rfl, rfl, LsAt.mono ⟨_, hl4', r4'⟩ e8, ⟨_, hl5', r5'⟩, J.go hds hmem⟩
      · rw [List.length_append, List.length_dropLast, List.length_map]; omega
      · rw [List.length_append, List.length_dropLast, List.length_map]; omega
      · rw [z] at hl4'; rw [hl4'] at n5'; cases n5'
    · refine ⟨9 * cntm n ms + ws.dropLast.length, by rw [List.length_dropLast]; omega, e04.trans (e5.trans e6), by rw [List.length_dropLast]; omega, p4, p5, ms, ws.dropLast, _, _, _, _, _, _, _, n4, n5, n45, rfl, rfl, k45.mono e6, k55.mono e6, J.drop⟩
end
end B
/-! what goes over under a deed. -/
namespace B
open PySem L2
theorem mem_shared {n : Nat} {f g : List Nat} (hf : Eff n f) {s : Nat} : s ∈ shared f g ↔ s < n ∧ g.getD (f.getD s 0) 0 = f.getD (g.getD s 0) 0 := by
  unfold shared
  rw [List.mem_filter, List.mem_range, hf.1, decide_eq_true_eq]
/-- a lot goes over into a lot -/
theorem lot_over {n : Nat} {ds : List Deed} (ok : ∀ d ∈ ds, Prm n d.2) (sm : Small n ds) {h lot : List Nat} (hh : Gen n ds h) (hl : IsLot n ds lot) : ∃ lot', IsLot n ds lot' ∧ ∀ s, s < n → (h.getD s 0 ∈ lot' ↔ s ∈ lot) := by
  obtain ⟨f, g, hf, hg, rfl⟩ := hl
  obtain ⟨k, hk, e1, e2⟩ := hh.inv ok sm
  have ph := hh.prm ok
  have pk := hk.prm ok
  have pf := hf.prm ok
  have pg := hg.prm ok
  have kh : ∀ s, s < n → k.getD (h.getD s 0) 0 = s := fun s hs => by
    rw [← getD_thn (by rw [ph.eff.1]; exact hs), e1, getD_range hs]
  have cj : ∀ f, Prm n f → ∀ s, s < n → (thn k (thn f h)).getD (h.getD s 0) 0 = h.getD (f.getD s 0) 0 := fun f pf s hs => by
    have h1 := ph.eff.lt hs
    rw [getD_thn (by rw [pk.eff.1]; exact h1), kh s hs, getD_thn (by rw [pf.eff.1]; exact hs)]
  have pf' := pk.thn (pf.thn ph)
  have pg' := pk.thn (pg.thn ph)
  refine ⟨shared (thn k (thn f h)) (thn k (thn g h)), ⟨_, _, hk.thn ok (hf.thn ok hh), hk.thn ok (hg.thn ok hh), rfl⟩, fun s hs => ?_⟩
  rw [mem_shared pf'.eff, mem_shared pf.eff, cj f pf s hs, cj g pg s hs, cj g pg _ (pf.eff.lt hs), cj f pf _ (pg.eff.lt hs)]
  constructor
  · rintro ⟨_, e⟩
    exact ⟨hs, ph.inj (pg.eff.lt (pf.eff.lt hs)) (pf.eff.lt (pg.eff.lt hs)) e⟩
  · rintro ⟨_, e⟩
    exact ⟨ph.eff.lt hs, by rw [e]⟩
/-- .. and back -/
theorem lot_back {n : Nat} {ds : List Deed} (ok : ∀ d ∈ ds, Prm n d.2) (sm : Small n ds) {h lot : List Nat} (hh : Gen n ds h) (hl : IsLot n ds lot) : ∃ lot', IsLot n ds lot' ∧ ∀ s, s < n → (s ∈ lot' ↔ h.getD s 0 ∈ lot) := by
  obtain ⟨k, hk, e1, e2⟩ := hh.inv ok sm
  have ph := hh.prm ok
  obtain ⟨lot', h1, h2⟩ := lot_over ok sm hk hl
  refine ⟨lot', h1, fun s hs => ?_⟩
  have kh : k.getD (h.getD s 0) 0 = s := by
    rw [← getD_thn (by rw [ph.eff.1]; exact hs), e1, getD_range hs]
  have := h2 _ (ph.eff.lt hs)
  rwa [kh] at this
theorem al_over {n : Nat} {ds : List Deed} (ok : ∀ d ∈ ds, Prm n d.2) (sm : Small n ds) {h : List Nat} (hh : Gen n ds h) {s t : Nat} (hs : s < n) (ht : t < n) : h.getD t 0 ∈ vouch n ds [h.getD s 0] ↔ t ∈ vouch n ds [s] := by
  have ph := hh.prm ok
  rw [mem_al, mem_al]
  constructor
  · rintro ⟨_, a⟩
    refine ⟨ht, fun lot hl hsl => ?_⟩
    obtain ⟨lot', h1, h2⟩ := lot_over ok sm hh hl
    exact (h2 t ht).mp (a lot' h1 ((h2 s hs).mpr hsl))
  · rintro ⟨_, a⟩
    refine ⟨ph.eff.lt ht, fun lot hl hsl => ?_⟩
    obtain ⟨lot', h1, h2⟩ := lot_back ok sm hh hl
    exact (h2 t ht).mp (a lot' h1 ((h2 s hs).mpr hsl))
theorem mut_over {n : Nat} {ds : List Deed} (ok : ∀ d ∈ ds, Prm n d.2) (sm : Small n ds) {h : List Nat} (hh : Gen n ds h) {s t : Nat} (hs : s < n) (ht : t < n) : Mut2 n ds (h.getD s 0) (h.getD t 0) ↔ Mut2 n ds s t := by
  unfold Mut2
  rw [al_over ok sm hh hs ht, al_over ok sm hh ht hs]
theorem Mut2.eqv {n : Nat} {ds : List Deed} (ok : ∀ d ∈ ds, Prm n d.2) (sm : Small n ds) : Cong n ds (Mut2 n ds) where
  rfl x hx := ⟨al_refl hx, al_refl hx⟩
  sym x y h := ⟨h.2, h.1⟩
  tr x y z h1 h2 := ⟨al_trans h1.1 h2.1, al_trans h2.2 h1.2⟩
  go d hd x y hx hy h := (mut_over ok sm (Gen.deed ok hd) hx hy).mpr h
end B
/-! unbreakable machines. -/
namespace B
open PySem L2
theorem filter_one {s : Nat} {p : Nat → Bool} : ∀ {l : List Nat}, l.Nodup → s ∈ l → (∀ t, t ∈ l → (p t = true ↔ t = s)) → l.filter p = [s]
  | [], _, h, _ => nomatch h
  | x :: l, nd, h, hp => by
    obtain ⟨h1, h2⟩ := List.nodup_cons.mp nd
    by_cases hx : x = s
    · subst hx
      rw [List.filter_cons_of_pos ((hp x List.mem_cons_self).mpr rfl)]
      congr 1
      refine List.filter_eq_nil_iff.mpr fun t ht hpt => ?_
      have := (hp t (List.mem_cons_of_mem _ ht)).mp hpt
      exact h1 (this ▸ ht)
    · rw [List.filter_cons_of_neg fun hpx => hx ((hp x List.mem_cons_self).mp hpx)]
      refine filter_one h2 ?_ fun t ht => hp t (List.mem_cons_of_mem _ ht)
      rcases List.mem_cons.mp h with rfl | h
      · exact (hx rfl).elim
      · exact h
theorem IsLot.ltP {n : Nat} {ds : List Deed} (ok : ∀ d ∈ ds, Prm n d.2) {lot : List Nat} (h : IsLot n ds lot) : ∀ s ∈ lot, s < n := by
  obtain ⟨f, g, hf, hg, rfl⟩ := h
  exact fun s hs => ((mem_shared (hf.prm ok).eff).mp hs).1
theorem IsLot.nd {n : Nat} {ds : List Deed} {lot : List Nat} (h : IsLot n ds lot) : lot.Nodup := by
  obtain ⟨f, g, hf, hg, rfl⟩ := h
  exact List.nodup_range.filter _
theorem IsLot.fullP {n : Nat} {ds : List Deed} (ok : ∀ d ∈ ds, Prm n d.2) {lot : List Nat} (h : IsLot n ds lot) (ha : ∀ s, s < n → s ∈ lot) : lot.length = n := by
  have h1 := nodup_le (m := List.range n) h.nd fun x hx => List.mem_range.mpr (h.ltP ok x hx)
  have h2 := nodup_le (l := List.range n) (m := lot) List.nodup_range fun x hx => ha x (List.mem_range.mp hx)
  rw [List.length_range] at h1 h2
  omega
/-- honest: each state alone vouches for all -/
theorem honest_iff {n : Nat} {ds : List Deed} (ok : ∀ d ∈ ds, Prm n d.2) : Honest n ds ↔ ∀ s t, s < n → t < n → t ∈ vouch n ds [s] := by
  constructor
  · intro h s t hs ht
    refine mem_al.mpr ⟨ht, fun lot hl hsl => Classical.byContradiction fun hn => h lot hl ⟨List.length_pos_of_mem hsl, ?_⟩⟩
    have := nodup_le (l := t :: lot) (m := List.range n) (List.nodup_cons.mpr ⟨hn, hl.nd⟩) fun x hx => by
      rcases List.mem_cons.mp hx with rfl | hx
      · exact List.mem_range.mpr ht
      · exact List.mem_range.mpr (hl.ltP ok x hx)
    rw [List.length_cons, List.length_range] at this
    omega
  · rintro h lot hl ⟨h1, h2⟩
    obtain ⟨s, hs⟩ := List.exists_mem_of_length_pos h1
    have := hl.fullP ok fun t ht => (mem_al.mp (h s t (hl.ltP ok s hs) ht)).2 lot hl hs
    omega
/-- one is in the orbit of the other -/
def Orb (n : Nat) (ds : List Deed) (x y : Nat) : Prop := x < n ∧ ∃ h, Gen n ds h ∧ h.getD x 0 = y
theorem Orb.eqv {n : Nat} {ds : List Deed} (ok : ∀ d ∈ ds, Prm n d.2) (sm : Small n ds) : Cong n ds (Orb n ds) where
  rfl x hx := ⟨hx, _, .one, getD_range hx⟩
  sym x y := by
    rintro ⟨hx, h, hh, rfl⟩
    obtain ⟨k, hk, e1, _⟩ := hh.inv ok sm
    refine ⟨(hh.prm ok).eff.lt hx, k, hk, ?_⟩
    rw [← getD_thn (by rw [(hh.prm ok).eff.1]; exact hx), e1, getD_range hx]
  tr x y z := by
    rintro ⟨hx, h, hh, rfl⟩ ⟨_, k, hk, rfl⟩
    exact ⟨hx, thn h k, hh.thn ok hk, getD_thn (by rw [(hh.prm ok).eff.1]; exact hx)⟩
  go d hd x y hx hy := by
    rintro ⟨_, h, hh, rfl⟩
    obtain ⟨k, hk, e1, _⟩ := (Gen.deed ok hd).inv ok sm
    have pd := ok d hd
    have pk := hk.prm ok
    have ph := hh.prm ok
    refine ⟨pd.eff.lt hx, thn k (thn h d.2), hk.thn ok (hh.thn ok (Gen.deed ok hd)), ?_⟩
    rw [getD_thn (by rw [pk.eff.1]; exact pd.eff.lt hx), ← getD_thn (g := k) (by rw [pd.eff.1]; exact hx), e1, getD_range hx, getD_thn (by rw [ph.eff.1]; exact hx)]
/-- within one orbit, vouching goes both ways -/
theorem al_sym {n : Nat} {ds : List Deed} (ok : ∀ d ∈ ds, Prm n d.2) (sm : Small n ds) {s t : Nat} (ho : Orb n ds s t) (ht : t ∈ vouch n ds [s]) : s ∈ vouch n ds [t] := by
  obtain ⟨hs, h, hh, rfl⟩ := ho
  have ph := hh.prm ok
  obtain ⟨p, h1, _, e⟩ := hh.order ok sm
  have go : ∀ i, itN (fun x => h.getD x 0) (i + 1) s ∈ vouch n ds [h.getD s 0] := fun i => by
    induction i with
    | zero => exact al_refl (ph.eff.lt hs)
    | succ i ih =>
      refine al_trans ih ?_
      have := (al_over ok sm (hh.pwr ok (i + 1)) hs (ph.eff.lt hs)).mpr ht
      rw [pwr_it ph.eff hs, pwr_it ph.eff (ph.eff.lt hs)] at this
      have e2 : itN (fun x => h.getD x 0) (i + 1 + 1) s = itN (fun x => h.getD x 0) (i + 1) (h.getD s 0) := by
        rw [Nat.add_comm (i + 1) 1, itN_add]; rfl
      rw [e2]
      exact this
  have := go (p - 1)
  rw [Nat.sub_add_cancel h1, ← pwr_it ph.eff hs, e, getD_range hs] at this
  exact this
/-- not honest, and no grouping that the deeds keep: each state vouches for itself alone -/
theorem unbreak {n : Nat} {ds : List Deed} (ok : ∀ d ∈ ds, Prm n d.2) (sm : Small n ds) (hu : ∀ a b, a < b → b < n → Joined n ds a b) (hh : ¬ Honest n ds) {s : Nat} (hs : s < n) : vouch n ds [s] = [s] := by
  have join : ∀ R, Cong n ds R → ∀ a b, a < n → b < n → a ≠ b → R a b → ∀ x, x < n → ∀ y, y < n → R x y := fun R c a b ha hb hne r => by
    rcases Nat.lt_or_gt_of_ne hne with h | h
    · exact hu a b h hb R c r
    · exact hu b a h ha R c (c.sym _ _ r)
  have key : ∀ s t, s < n → t ∈ vouch n ds [s] → t = s := fun s t hs h => Classical.byContradiction fun hne => by
    have ht : t < n := (mem_al.mp h).1
    by_cases ho : ∃ a b, a < n ∧ b < n ∧ a ≠ b ∧ Orb n ds a b
    · obtain ⟨a, b, ha, hb, hab, o⟩ := ho
      have all := join _ (Orb.eqv ok sm) a b ha hb hab o
      have m2 : Mut2 n ds s t := ⟨h, al_sym ok sm (all s hs t ht) h⟩
      have allm := join _ (Mut2.eqv ok sm) s t hs ht (fun e => hne e.symm) m2
      exact hh ((honest_iff ok).mpr fun x y hx hy => (allm x hx y hy).1)
    · have fix : ∀ f, Gen n ds f → ∀ x, x < n → f.getD x 0 = x := fun f hf x hx => Classical.byContradiction fun hfx => ho ⟨x, f.getD x 0, hx, (hf.prm ok).eff.lt hx, fun e => hfx e.symm, hx, f, hf, rfl⟩
      refine hh ((honest_iff ok).mpr fun x y hx hy => mem_al.mpr ⟨hy, fun lot hl _ => ?_⟩)
      obtain ⟨f, g, hf, hg, rfl⟩ := hl
      exact (mem_shared (hf.prm ok).eff).mpr ⟨hy, by rw [fix f hf y hy, fix g hg y hy, fix f hf y hy]⟩
  unfold vouch
  refine filter_one List.nodup_range (List.mem_range.mpr hs) fun t ht => ⟨fun hp => ?_, fun e => ?_⟩
  · exact key s t hs (List.mem_filter.mpr ⟨ht, hp⟩)
  · rw [e]; exact (List.mem_filter.mp (al_refl (ds := ds) hs)).2
end B
/-! counts. -/
namespace B
open PySem L2
theorem full_lot {n : Nat} {ds : List Deed} : IsLot n ds (shared (List.range n) (List.range n)) := ⟨_, _, .one, .one, rfl⟩
theorem full_len {n : Nat} : (shared (List.range n) (List.range n)).length = n := by
  unfold shared
  rw [List.filter_eq_self.mpr fun s hs => by simp, List.length_range, List.length_range]
theorem IsLot.len_le {n : Nat} {ds : List Deed} (ok : ∀ d ∈ ds, Prm n d.2) {lot : List Nat} (h : IsLot n ds lot) : lot.length ≤ n := by
  have := nodup_le (m := List.range n) h.nd fun x hx => List.mem_range.mpr (h.ltP ok x hx)
  rwa [List.length_range] at this
theorem any_iff {n r : Nat} {ds : List Deed} (ok : ∀ d ∈ ds, Prm n d.2) (h : AnyEx n ds r) : r < 2 ↔ Honest n ds := by
  obtain ⟨cs, ⟨hs, hc⟩, rfl⟩ := h
  have h0 : 0 ∈ cs := (hc 0).mpr ⟨_, full_lot, by rw [full_len]; omega⟩
  match cs, hs, hc, h0 with
  | [c], hs, hc, h0 =>
    obtain rfl : 0 = c := List.mem_singleton.mp h0
    refine ⟨fun _ lot hl ⟨h1, h2⟩ => ?_, fun _ => by rw [if_neg (by decide)]; decide⟩
    have := List.mem_singleton.mp ((hc (n - lot.length)).mpr ⟨lot, hl, rfl⟩)
    omega
  | c :: c1 :: cs, hs, hc, h0 =>
    obtain ⟨p1, p2⟩ := List.pairwise_cons.mp hs
    have p3 := (List.pairwise_cons.mp p2).1
    have e0 : c = 0 := by
      rcases List.mem_cons.mp h0 with h | h
      · exact h.symm
      · have := p1 0 h; omega
    subst e0
    have hc1 : 0 < c1 := p1 c1 List.mem_cons_self
    have hmin : ∀ x, x ∈ 0 :: c1 :: cs → x = 0 ∨ c1 ≤ x := fun x hx => by
      rcases List.mem_cons.mp hx with h | h
      · exact .inl h
      · rcases List.mem_cons.mp h with h | h
        · exact .inr (Nat.le_of_eq h.symm)
        · exact .inr (Nat.le_of_lt (p3 x h))
    rw [if_pos (by rw [List.length_cons, List.length_cons]; omega)]
    show n + 1 - c1 < 2 ↔ _
    constructor
    · rintro hr lot hl ⟨h1, h2⟩
      rcases hmin _ ((hc (n - lot.length)).mpr ⟨lot, hl, rfl⟩) with h | h <;> omega
    · intro hh
      obtain ⟨lot, hl, e⟩ := (hc c1).mp (List.mem_cons_of_mem _ List.mem_cons_self)
      have := hh lot hl
      have := hl.len_le ok
      omega
theorem alone_len {n : Nat} {ds : List Deed} (ok : ∀ d ∈ ds, Prm n d.2) : (∀ s, s < n → (vouch n ds [s]).length = n) ↔ Honest n ds := by
  rw [honest_iff ok]
  constructor
  · intro h s t hs ht
    refine Classical.byContradiction fun hn => ?_
    have nd : (vouch n ds [s]).Nodup := by unfold vouch; exact List.nodup_range.filter _
    have := nodup_le (l := t :: vouch n ds [s]) (m := List.range n) (List.nodup_cons.mpr ⟨hn, nd⟩) fun x hx => by
      rcases List.mem_cons.mp hx with rfl | hx
      · exact List.mem_range.mpr ht
      · exact List.mem_range.mpr (mem_al.mp hx).1
    rw [List.length_cons, List.length_range, h s hs] at this
    omega
  · intro h s hs
    unfold vouch
    rw [List.filter_eq_self.mpr fun t ht => ?_, List.length_range]
    exact (List.mem_filter.mp (h s t hs (List.mem_range.mp ht))).2
end B
/-! machines with every permutation. -/
namespace B
open PySem L2
/-- all permutations of n places -/
def perms (n : Nat) : List (List Nat) := if n = 2 then [[0, 1], [1, 0]] else if n = 3 then [[0, 1, 2], [0, 2, 1], [1, 0, 2], [1, 2, 0], [2, 0, 1], [2, 1, 0]] else
  [[0, 1, 2, 3], [0, 1, 3, 2], [0, 2, 1, 3], [0, 2, 3, 1], [0, 3, 1, 2], [0, 3, 2, 1], [1, 0, 2, 3], [1, 0, 3, 2], [1, 2, 0, 3], [1, 2, 3, 0], [1, 3, 0, 2], [1, 3, 2, 0], [2, 0, 1, 3], [2, 0, 3, 1], [2, 1, 0, 3], [2, 1, 3, 0], [2, 3, 0, 1], [2, 3, 1, 0], [3, 0, 1, 2], [3, 0, 2, 1], [3, 1, 0, 2], [3, 1, 2, 0], [3, 2, 0, 1], [3, 2, 1, 0]]
theorem perms2 : ∀ a b : Fin 2, a ≠ b → [a.val, b.val] ∈ perms 2 := by decide +kernel
theorem perms3 : ∀ a b c : Fin 3, a ≠ b → a ≠ c → b ≠ c → [a.val, b.val, c.val] ∈ perms 3 := by decide +kernel
theorem perms4 : ∀ a b c d : Fin 4, a ≠ b → a ≠ c → a ≠ d → b ≠ c → b ≠ d → c ≠ d → [a.val, b.val, c.val, d.val] ∈ perms 4 := by decide +kernel
theorem mem_perms {n : Nat} {f : List Nat} (hn : n = 2 ∨ n = 3 ∨ n = 4) (h : Prm n f) : f ∈ perms n := by
  obtain ⟨⟨hl, hlt⟩, nd⟩ := h
  rcases hn with rfl | rfl | rfl
  · match f, hl, hlt, nd with
    | [a, b], _, hlt, nd =>
      simp only [List.nodup_cons, List.mem_cons, List.not_mem_nil, or_false, not_or] at nd
      exact perms2 ⟨a, hlt a (by simp)⟩ ⟨b, hlt b (by simp)⟩ (fun e => nd.1 (Fin.mk.inj e))
  · match f, hl, hlt, nd with
    | [a, b, c], _, hlt, nd =>
      simp only [List.nodup_cons, List.mem_cons, List.not_mem_nil, or_false, not_or] at nd
      exact perms3 ⟨a, hlt a (by simp)⟩ ⟨b, hlt b (by simp)⟩ ⟨c, hlt c (by simp)⟩ (fun e => nd.1.1 (Fin.mk.inj e)) (fun e => nd.1.2 (Fin.mk.inj e)) (fun e => nd.2.1 (Fin.mk.inj e))
  · match f, hl, hlt, nd with
    | [a, b, c, d], _, hlt, nd =>
      simp only [List.nodup_cons, List.mem_cons, List.not_mem_nil, or_false, not_or] at nd
      exact perms4 ⟨a, hlt a (by simp)⟩ ⟨b, hlt b (by simp)⟩ ⟨c, hlt c (by simp)⟩ ⟨d, hlt d (by simp)⟩ (fun e => nd.1.1 (Fin.mk.inj e)) (fun e => nd.1.2.1 (Fin.mk.inj e)) (fun e => nd.1.2.2 (Fin.mk.inj e)) (fun e => nd.2.1.1 (Fin.mk.inj e)) (fun e => nd.2.1.2 (Fin.mk.inj e)) (fun e => nd.2.2.1 (Fin.mk.inj e))
theorem any_val {n m r : Nat} {ds : List Deed} (hm : m < n) (h1 : ∀ lot, IsLot n ds lot → lot.length = n ∨ lot.length ≤ m) (h2 : ∃ lot, IsLot n ds lot ∧ lot.length = m) (h : AnyEx n ds r) : r = m + 1 := by
  obtain ⟨cs, ⟨hs, hc⟩, rfl⟩ := h
  have h0 : 0 ∈ cs := (hc 0).mpr ⟨_, full_lot, by rw [full_len]; omega⟩
  obtain ⟨lm, hl, hlm⟩ := h2
  have h3 : n - m ∈ cs := (hc _).mpr ⟨lm, hl, by rw [hlm]⟩
  match cs, hs, hc, h0, h3 with
  | [c], hs, hc, h0, h3 =>
    have := List.mem_singleton.mp h0
    have := List.mem_singleton.mp h3
    omega
  | c :: c1 :: cs, hs, hc, h0, h3 =>
    obtain ⟨p1, p2⟩ := List.pairwise_cons.mp hs
    have p3 := (List.pairwise_cons.mp p2).1
    have e0 : c = 0 := by
      rcases List.mem_cons.mp h0 with h | h
      · exact h.symm
      · have := p1 0 h; omega
    subst e0
    have hc1 : 0 < c1 := p1 c1 List.mem_cons_self
    have hle : c1 ≤ n - m := by
      rcases List.mem_cons.mp h3 with h | h
      · omega
      · rcases List.mem_cons.mp h with h | h
        · omega
        · exact Nat.le_of_lt (p3 _ h)
    obtain ⟨lot, hl', e⟩ := (hc c1).mp (List.mem_cons_of_mem _ List.mem_cons_self)
    have := h1 lot hl'
    rw [if_pos (by rw [List.length_cons, List.length_cons]; omega)]
    show n + 1 - c1 = m + 1
    omega
theorem all_gen {n : Nat} {ds : List Deed} {L : List Led} (hn : n = 2 ∨ n = 3 ∨ n = 4) (ok : ∀ d ∈ ds, Prm n d.2) (a : AllE n ds L) (hL : L.length = (perms n).length) {f : List Nat} (hf : Prm n f) : Gen n ds f := by
  have hm : f ∈ L.map (·.1) := Classical.byContradiction fun h => by
    have := nodup_le (m := perms n) (List.nodup_cons.mpr ⟨h, a.nd⟩) fun x hx => by
      rcases List.mem_cons.mp hx with rfl | hx
      · exact mem_perms hn hf
      · obtain ⟨e, he, rfl⟩ := List.mem_map.mp hx
        exact mem_perms hn ((a.gen e he).prm ok)
    rw [List.length_cons, List.length_map] at this
    omega
  obtain ⟨e, he, rfl⟩ := List.mem_map.mp hm
  exact a.gen e he
theorem lots2 : ∀ f ∈ perms 2, ∀ g ∈ perms 2, (shared f g).length = 2 := by decide +kernel
theorem lots3 : ∀ f ∈ perms 3, ∀ g ∈ perms 3, (shared f g).length = 3 ∨ (shared f g).length ≤ 0 := by decide +kernel
theorem lots4 : ∀ f ∈ perms 4, ∀ g ∈ perms 4, (shared f g).length = 4 ∨ (shared f g).length ≤ 1 := by decide +kernel
theorem any_full {n r : Nat} {ds : List Deed} {L : List Led} (hn : n = 2 ∨ n = 3 ∨ n = 4) (ok : ∀ d ∈ ds, Prm n d.2) (a : AllE n ds L) (hL : L.length = (perms n).length) (h : AnyEx n ds r) : r = n - 2 := by
  have g : ∀ f, Prm n f → Gen n ds f := fun f => all_gen hn ok a hL
  have p : ∀ f, Gen n ds f → f ∈ perms n := fun f hf => mem_perms hn (hf.prm ok)
  rcases hn with rfl | rfl | rfl
  · obtain ⟨cs, ⟨hs, hc⟩, rfl⟩ := h
    have all0 : ∀ c ∈ cs, c = 0 := fun c hc' => by
      obtain ⟨lot, ⟨f, g', hf, hg, rfl⟩, rfl⟩ := (hc c).mp hc'
      rw [lots2 f (p f hf) g' (p g' hg)]
    match cs, hs, all0 with
    | [], _, _ => rfl
    | [_], _, _ => rfl
    | x :: y :: cs, hs, all0 =>
      have h1 := all0 x (by simp)
      have h2 := all0 y (by simp)
      have := (List.pairwise_cons.mp hs).1 y (by simp)
      omega
  · refine any_val (m := 0) (by decide) (fun lot ⟨f, g', hf, hg, e⟩ => by rw [e]; exact lots3 f (p f hf) g' (p g' hg)) ⟨_, ⟨[1, 0, 2], [0, 2, 1], g _ ⟨⟨rfl, by decide⟩, by decide⟩, g _ ⟨⟨rfl, by decide⟩, by decide⟩, rfl⟩, by decide +kernel⟩ h
  · refine any_val (m := 1) (by decide) (fun lot ⟨f, g', hf, hg, e⟩ => by rw [e]; exact lots4 f (p f hf) g' (p g' hg)) ⟨_, ⟨[1, 0, 2, 3], [0, 2, 1, 3], g _ ⟨⟨rfl, by decide⟩, by decide⟩, g _ ⟨⟨rfl, by decide⟩, by decide⟩, rfl⟩, by decide +kernel⟩ h
end B
/-! undoing. -/
namespace B
open PySem L2
theorem undoN_spec {n : Nat} {f : List Nat} (hf : Prm n f) {p : Nat} (h1 : 1 ≤ p) (hp : pwr n f p = List.range n) : ∀ i, undoN n f i ≤ i ∧ (pwr n f (undoN n f i + 1) = List.range n ∨ (undoN n f i = i ∧ ∀ j, 1 ≤ j → j ≤ i → pwr n f j ≠ List.range n))
  | 0 => ⟨Nat.le_refl 0, .inr ⟨rfl, fun j h1 h2 => by omega⟩⟩
  | i + 1 => by
    obtain ⟨h2, h3⟩ := undoN_spec hf h1 hp i
    have step : pwr n f (undoN n f i + 2) = f ↔ pwr n f (undoN n f i + 1) = List.range n := by
      constructor
      · intro e
        have : thn f (pwr n f (undoN n f i + 1)) = f := by
          have := pwr_comm hf.eff 1 (undoN n f i + 1)
          rw [pwr_one hf.eff] at this
          rw [this]; exact e
        exact hf.cancel (hf.eff.pwr _) this
      · intro e
        show thn (pwr n f (undoN n f i + 1)) f = f
        rw [e, one_thn hf.eff]
    show (if _ then _ else _) ≤ _ ∧ _
    rw [show undoN n f (i + 1) = if pwr n f (undoN n f i + 2) ≠ f then undoN n f i + 1 else undoN n f i from rfl]
    rcases h3 with h3 | ⟨h3, h4⟩
    · rw [if_neg (fun z => z (step.mpr h3))]
      exact ⟨by omega, .inl h3⟩
    · by_cases e : pwr n f (undoN n f i + 1) = List.range n
      · rw [if_neg (fun z => z (step.mpr e))]
        exact ⟨by omega, .inl e⟩
      · rw [if_pos (fun z => e (step.mp z))]
        refine ⟨by omega, .inr ⟨by omega, fun j h5 h6 => ?_⟩⟩
        rcases Nat.lt_or_ge j (i + 1) with h | h
        · exact h4 j h5 (by omega)
        · have : j = undoN n f i + 1 := by omega
          rw [this]; exact e
theorem undo60 {n : Nat} {ds : List Deed} (ok : ∀ d ∈ ds, Prm n d.2) (sm : Small n ds) {f : List Nat} (hf : Gen n ds f) : undoN n f 60 ≤ 60 ∧ pwr n f (undoN n f 60 + 1) = List.range n := by
  obtain ⟨p, h1, h2, e⟩ := hf.order ok sm
  obtain ⟨h3, h4⟩ := undoN_spec (hf.prm ok) h1 e 60
  refine ⟨h3, h4.elim id fun h => (h.2 p h1 h2 e).elim⟩
end B
/-! carried rows. -/
namespace B
open PySem L2
theorem meets_conj {n : Nat} {f g h k : List Nat} (pf : Prm n f) (pg : Prm n g) (ph : Prm n h) (pk : Prm n k) (e : thn h k = List.range n) {s : Nat} (hs : s < n) : meets (thn (thn k f) h) (thn (thn k g) h) (h.getD s 0) = meets f g s := by
  have kh : ∀ s, s < n → k.getD (h.getD s 0) 0 = s := fun s hs => by
    rw [← getD_thn (by rw [ph.eff.1]; exact hs), e, getD_range hs]
  have cj : ∀ f, Prm n f → ∀ s, s < n → (thn (thn k f) h).getD (h.getD s 0) 0 = h.getD (f.getD s 0) 0 := fun f pf s hs => by
    have h1 := ph.eff.lt hs
    rw [getD_thn (by rw [(pk.thn pf).eff.1]; exact h1), getD_thn (by rw [pk.eff.1]; exact h1), kh s hs]
  unfold meets
  rw [cj f pf s hs, cj g pg s hs, cj g pg _ (pf.eff.lt hs), cj f pf _ (pg.eff.lt hs)]
  refine decide_eq_decide.mpr ⟨fun q => ph.inj (pg.eff.lt (pf.eff.lt hs)) (pf.eff.lt (pg.eff.lt hs)) q, fun q => by rw [q]⟩
end B
/-! open tests; unbreakable; rows that are dealt. -/
namespace B
open PySem PySem.Spec PyProof.Rows L2
def EvTN (Rl : Hp → Hp → Prop) (t : TT) (σ : L2.St) (H : Hp) (p : Bool → Prop) : Prop := ∀ H1, Rl H H1 → ∀ Q : Bool → Hp → Prop, (∀ b H2, p b → Rl H1 H2 → Q b H2) → t σ H1 Q
def EvHN (Rl : Hp → Hp → Prop) {α : Type} [Enc α] (ta : TA) (σ : L2.St) (H : Hp) (p : List α → Prop) : Prop := ∀ H1, Rl H H1 → ∀ Q : List V → Hp → Prop, (∀ xs vs H2, p xs → Rl H1 H2 → RepA (tp H2) vs xs → Q vs H2) → ta σ H1 Q
def EvLN (Rl : Hp → Hp → Prop) {α : Type} [Enc α] (te : TE) (σ : L2.St) (H : Hp) (p : List α → Prop) : Prop := ∀ H1, Rl H H1 → ∀ Q : VK, (∀ xs q vs H2, p xs → H1 q = none → Rl H1 H2 → H2 q = some (.lst vs) → RepA (tp H2) vs xs → Q (.ref q) H2) → te σ H1 Q
section
variable {Rl : Hp → Hp → Prop} [RlOk Rl] {K : PySem.W.Frag} {σ : L2.St} {H H' : Hp} {ta tb te : TE} {tr : TA} {i : Nat} {α β : Type} [Enc α] [Enc β] {D : Ends} {t u : TT} {s1 s2 : TS}
theorem nt_ev {b : Bool} (h : EvT Rl t σ H b) : EvTN Rl t σ H (· = b) := fun H1 e Q q => h H1 e _ fun H2 e2 => q b H2 rfl e2
theorem nt_B {p : Bool → Prop} (h : EvN Rl te σ H p) : EvTN Rl (tB te) σ H p := fun H1 e Q q => h H1 e _ fun b x H2 pb e2 r => ⟨b, r, q b H2 pb e2⟩
theorem nt_test {p : Bool → Prop} (h : EvN Rl te σ H p) : EvTN Rl (tTest te) σ H p := fun H1 e Q q => h H1 e _ fun b x H2 pb e2 r => ⟨b, r, q b H2 pb e2⟩
theorem nt_not {p : Bool → Prop} (h : EvTN Rl t σ H p) : EvTN Rl (tNot t) σ H (fun b => p (!b)) := fun H1 e Q q => h H1 e _ fun b H2 pb e2 => q (!b) H2 (by show p (!!b); rw [Bool.not_not]; exact pb) e2
theorem nt_and {p q : Bool → Prop} (h1 : EvTN Rl t σ H p) (h2 : p true → EvTN Rl u σ H q) : EvTN Rl (tAnd t u) σ H (fun b => (b = false ∧ p false) ∨ (p true ∧ q b)) := fun H1 e Q k => h1 H1 e _ fun b H2 pb e2 => by
  cases b with
  | true => rw [if_pos rfl]; exact h2 pb H2 (RlOk.trans e e2) Q fun b H3 qb e3 => k b H3 (.inr ⟨pb, qb⟩) (RlOk.trans e2 e3)
  | false => rw [if_neg (by decide)]; exact k false H2 (.inl ⟨rfl, pb⟩) e2
theorem k_nif {p : Bool → Prop} (h : EvTN Rl t σ H p) (h1 : p true → ∀ H2, Rl H H2 → s1 D σ H2) (h2 : p false → ∀ H2, Rl H H2 → s2 D σ H2) : tIfS t s1 s2 D σ H := h H (RlOk.refl H) _ fun b H2 pb e => by
  cases b with
  | true => rw [if_pos rfl]; exact h1 pb H2 e
  | false => rw [if_neg (by decide)]; exact h2 pb H2 e
theorem k_nifNset {p : α → Prop} {j : Nat} {s : Bool → Prop} (h : EvTN Rl t σ H s) (hj : j < σ.length) (h1 : s true → ∀ H2, Rl H H2 → EvN Rl te σ H2 p)
    (k : ∀ x H2, Rl H H2 → ((s false ∧ σ[j]? = some x) ∨ ∃ a v, s true ∧ x = some v ∧ p a ∧ Enc.rep (tp H2) v a) → D.nx (σ.set j x) H2) : tIfS t (tAsg te (gName j)) tNext D σ H :=
  k_nif h (fun hb H2 e => k_nset (h1 hb H2 e) fun a v H3 ha e3 r => k (some v) H3 (RlOk.trans e e3) (.inr ⟨a, v, hb, rfl, ha, r⟩))
    fun hb H2 e => by
      have hj' : σ[j]? = some σ[j] := List.getElem?_eq_getElem hj
      have := k σ[j] H2 e (.inl ⟨hb, hj'⟩)
      rw [List.set_getElem_self] at this
      exact this
theorem nh_nil : EvHN Rl tNil σ H (fun l : List α => l = []) := fun H1 _ Q q => q [] [] H1 rfl (RlOk.refl H1) trivial
theorem nh_cons {p : α → Prop} {q : List α → Prop} (ha : EvN Rl ta σ H p) (hr : EvHN Rl tr σ H q) : EvHN Rl (tCons ta tr) σ H (fun l => ∃ a xs, p a ∧ q xs ∧ l = a :: xs) := fun H1 e Q k =>
  ha H1 e _ fun a v H2 pa e2 ra => hr H2 (RlOk.trans e e2) _ fun xs vs H3 qx e3 rx => k (a :: xs) (v :: vs) H3 ⟨a, xs, pa, qx, rfl⟩ (RlOk.trans e2 e3) ⟨up e3 ra, rx⟩
theorem nl_lst {p : List α → Prop} (h : EvHN Rl tr σ H p) (hl : ∀ xs, p xs → xs.length ≤ 1000000) : EvLN Rl (tLst tr) σ H p := fun H1 e Q k => h H1 e _ fun xs vs H2 px e2 r =>
  ⟨sz (by rw [r.length]; exact hl xs px), fun q hq => k xs q vs _ px (RlOk.back e2 hq) (RlOk.trans e2 (RlOk.ex (Ex.new hq))) upd_same (upA (RlOk.ex (Rl := Rl) (Ex.new hq)) r)⟩
theorem n_callP {ι : Type} {pre : ι → Hp → Prop} {ms : ι → List MP} {post : ι → β → Prop} {E : XK} (i : ι) (h : EvA Rl tr σ H (ms i)) (hp : ∀ H1, Rl H H1 → pre i H1) : EvN Rl (tCall (spN pre ms post) [] E tr) σ H (post i) := fun H1 e Q q =>
  h H1 e _ fun vs H2 e2 r => ⟨i, hp H2 (RlOk.trans e e2), by rw [List.append_nil]; exact r, fun v b H3 e3 pb rb => q b v H3 pb (RlOk.trans e2 (RlOk.ex e3)) rb⟩
variable {d c : Addr} {j : Nat}
theorem n_of {E : XK} {p : Addr} {xs : List α} (sub : ∀ A B, Dl d c A B → Rl A B) (keep : ∀ B, Rl H B → DealAt d c B) (hj : σ[j]? = some (some (.ref d))) (ha : Ev Rl ta σ H (Raw.mk (.ref p))) (hl : Ls Rl H p xs) (h1 : p ≠ d) (h2 : p ≠ c) (h0 : 0 < xs.length) (h6 : xs.length < 1000000) :
    EvN Rl (tCall spOfD [] E (tCons (tVar j) (tCons ta tNil))) σ H (· ∈ xs) := fun H1 e Q q => ⟨.ref d, hj, ha H1 e _ fun v H2 e2 rv => by
  obtain rfl : v = .ref p := rv
  obtain ⟨vs, r, k⟩ := hl
  have hl := r.length
  refine ⟨d, c, p, vs, keep _ (RlOk.trans e e2), k H2 (RlOk.trans e e2), h1, h2, by omega, by omega, rfl, fun x H3 hx e3 => ?_⟩
  obtain ⟨a, ha, ra⟩ := (upA (RlOk.trans e (RlOk.trans e2 (sub _ _ e3))) r).memV x hx
  exact q a x H3 ha (RlOk.trans e2 (sub _ _ e3)) ra⟩
theorem n_ofL {E : XK} {p : List α → Prop} (keep : ∀ B, Rl H B → DealAt d c B) (sub : ∀ A B, Dl d c A B → Rl A B) (hj : σ[j]? = some (some (.ref d))) (ha : EvLN Rl ta σ H p) (h0 : ∀ xs, p xs → 0 < xs.length ∧ xs.length < 1000000) :
    EvN Rl (tCall spOfD [] E (tCons (tVar j) (tCons ta tNil))) σ H (fun x => ∃ xs, p xs ∧ x ∈ xs) := fun H1 e Q q => ⟨.ref d, hj, ha H1 e _ fun xs a vs H2 px hn e2 hl r => by
  have hlen := r.length
  obtain ⟨h1, h2⟩ := h0 xs px
  obtain ⟨n1, n2⟩ := (keep _ e).fresh hn
  refine ⟨d, c, a, vs, keep _ (RlOk.trans e e2), hl, n1, n2, by omega, by omega, rfl, fun x H3 hx e3 => ?_⟩
  obtain ⟨y, hy, ry⟩ := (upA (sub _ _ e3) r).memV x hx
  exact q y x H3 ⟨xs, px, hy⟩ (RlOk.trans e2 (sub _ _ e3)) ry⟩
end
section
variable {P : Program} {w : World} {K : PySem.W.Frag} {mg : Str → Option Value} {base : Heap}
def spUnbr : Sp := spN (ι := Nat × List Deed × Addr) (fun i H => i.1 ≤ 49 ∧ (∀ d ∈ i.2.1, DeedOk i.1 d) ∧ i.2.1.length ≤ 8 ∧ LsAt H i.2.2 i.2.1) (fun i => [mp i.1, mp (Raw.mk (.ref i.2.2))]) fun i (b : Bool) => b = true → ∀ a b, a < b → b < i.1 → Joined i.1 i.2.1 a b
theorem ok_law_unbreakable (W : Wd K mg) : Fn P w K mg base 8 "_law_unbreakable" p_law_unbreakable spUnbr := by
  refine fn_ok (k := 4) W 42 sc_law_unbreakable (spN_len fun _ => rfl) (fun _ _ _ _ _ _ us hl => match us, hl with | [_, _], _ => rfl) fun f cdv A outer s H vs Q E hr h => ⟨_, w_law_unbreakable spJoins W hr (ok_law_joins_all W), ?_⟩
  obtain ⟨⟨n, ds, p⟩, ⟨h49, hds, h8, hp⟩, hr', hq⟩ := h
  obtain ⟨v0, v1, rfl, r0, r1⟩ := reps2 hr'
  obtain rfl : v0 = .int (n : Nat) := r0
  obtain rfl : v1 = .ref p := r1
  dsimp only at *
  show tSeq _ _ _ _ _
  refine k_seq (k_for (Rl := Ex) (wz_rg1 (n := n) (ea_cons (e_var rfl rfl) ea_nil) (by omega)) (fun H3 i σ1 H4 => Ex H3 H4 ∧ (∃ o2 o3 : Option V, σ1 = [some (.int (n : Nat)), some (.ref p), o2, o3]) ∧ ∀ a b, a < b → b < i → Joined n ds a b)
    (fun H3 e3 => ⟨Ex.refl _, ⟨_, _, rfl⟩, fun a b _ h => absurd h (by omega)⟩) (fun _ i σ1 H4 h => h.1) (fun _ i σ1 H4 H5 ⟨a, b⟩ e => ⟨a.trans e, b⟩) ?_ ?_)
  · rintro H3 e3 i x v _ H4 hx ⟨e4, ⟨o2, o3, rfl⟩, J⟩ rfl
    obtain rfl := range_at hx
    have hxn : x < n := by have := (List.getElem?_eq_some_iff.mp hx).1; rw [List.length_range] at this; exact this
    refine tgt_name ?_
    refine k_for (Rl := Ex) (wz_rg1 (n := x) (ea_cons (e_var rfl rfl) ea_nil) (by omega)) (fun H3 i σ1 H4 => Ex H3 H4 ∧ (∃ o3 : Option V, σ1 = [some (.int (n : Nat)), some (.ref p), some (.int (x : Nat)), o3]) ∧ ∀ a, a < i → Joined n ds a x)
      (fun H3 e3 => ⟨Ex.refl _, ⟨_, rfl⟩, fun a h => absurd h (by omega)⟩) (fun _ i σ1 H4 h => h.1) (fun _ i σ1 H4 H5 ⟨a, b⟩ e => ⟨a.trans e, b⟩) ?_ ?_
    · rintro H5 e5 i' y v _ H6 hy ⟨e6, ⟨o3, rfl⟩, J2⟩ rfl
      obtain rfl := range_at hy
      have hyx : y < x := by have := (List.getElem?_eq_some_iff.mp hy).1; rw [List.length_range] at this; exact this
      refine tgt_name ?_
      refine k_nif (Rl := Ex) (nt_not (nt_B (n_callP (ι := Nat × List Deed × Addr × Nat × Nat) (post := fun i (b : Bool) => b = true → Joined i.1 i.2.1 i.2.2.2.1 i.2.2.2.2) (n, ds, p, y, x) (ea_cons (e_var rfl rfl) (ea_cons (e_var rfl rfl) (ea_cons (e_var rfl rfl) (ea_cons (e_var rfl rfl) ea_nil)))) fun H7 e7 => ⟨h49, hds, h8, hp.mono (e3.trans (e4.trans (e5.trans (e6.trans e7)))), by show y < n; omega, hxn⟩))) (fun hb H7 e7 => ?_) fun hb H7 e7 => ?_
      · exact k_ret (Rl := Ex) (a := false) (e_c fun _ => rfl) fun v H8 e8 r => hq v false H8 (e3.trans (e4.trans (e5.trans (e6.trans (e7.trans e8))))) (fun z => by cases z) r
      · refine ⟨e6.trans e7, ⟨_, rfl⟩, fun a ha => ?_⟩
        rcases Nat.lt_succ_iff_lt_or_eq.mp ha with h | rfl
        · exact J2 a h
        · exact hb rfl
    · rintro H5 e5 _ H6 ⟨e6, ⟨o3, rfl⟩, J2⟩
      rw [List.length_range] at J2
      refine ⟨e4.trans (e5.trans e6), ⟨_, _, rfl⟩, fun a b hab hb => ?_⟩
      rcases Nat.lt_succ_iff_lt_or_eq.mp hb with h | rfl
      · exact J a b hab h
      · exact J2 a hab
  · rintro H3 e3 _ H4 ⟨e4, ⟨o2, o3, rfl⟩, J⟩
    rw [List.length_range] at J
    dsimp only
    exact k_ret (Rl := Ex) (a := true) (e_c fun _ => rfl) fun v H8 e8 r => hq v true H8 (e3.trans (e4.trans e8)) (fun _ => J) r
end
end B
/-! rows that are dealt. -/
namespace B
open PySem PySem.Spec PyProof.Rows L2
def PT.nm : (k : Nat) → Str → PT k
  | 0, z => z
  | _ + 1, z => .inl z
theorem PT.nm_rep {T : TL} {v : V} {z : Str} (h : Enc.rep T v z) : ∀ k, Enc.rep T v (PT.nm k z)
  | 0 => h
  | _ + 1 => h
theorem PT.nm_ok {nms : List Str} {z : Str} (h : z ∈ nms) : ∀ k, okPart nms k (PT.nm k z)
  | 0 => h
  | _ + 1 => h
def PT.pr {k : Nat} (q : List (PT k) × Nat) : PT (k + 1) := .inr q
theorem PT.pr_rep {T : TL} {v : V} {k : Nat} {q : List (PT k) × Nat} (h : Enc.rep T v q) : Enc.rep T v (PT.pr q) := h
def spRowD (k : Nat) : Sp := fun vs H Q _ => ∃ (d c p : Addr) (names : List Str), DealAt d c H ∧ LsAt H p names ∧ p ≠ d ∧ p ≠ c ∧ 0 < names.length ∧ names.length < 1000 ∧ vs = [.ref d, .ref p, .int (k : Nat)] ∧
  ∀ (row : List (PT k)) v H2, okRow names k row → row.length ≤ 3 → Dl d c H H2 → Enc.rep (tp H2) v row → Q v H2
def spRowD' : Nat → Sp
  | 0 => fun _ _ _ _ => False
  | k + 1 => spRowD k
theorem spRowD_len {k : Nat} (vs : List V) (H : Hp) (Q : VK) (E : XK) (z : spRowD k vs H Q E) : vs.length = 3 := by obtain ⟨_, _, _, _, _, _, _, _, _, _, rfl, _⟩ := z; rfl
section
variable {P : Program} {w : World} {K : PySem.W.Frag} {mg : Str → Option Value} {base : Heap}
theorem ok_row_none (W : Wd K mg) : Fn P w K mg base 12 "_law_row" p_law_row (fun _ _ _ _ => False) :=
  fn_ok (k := 8) W 43 sc_law_row (fun _ _ _ _ z => z.elim) (fun _ _ _ _ _ _ us hl => match us, hl with | [_, _, _], _ => rfl) fun f cdv A outer s H vs Q E hr h => h.elim
theorem okRow.snoc {nms : List Str} {k : Nat} {r : List (PT k)} {p : PT k} (h : okRow nms k r) (hp : okPart nms k p) : okRow nms k (r ++ [p]) := okRow.of fun q hq => by
  rcases List.mem_append.mp hq with hq | hq
  · exact h.part q hq
  · obtain rfl := List.mem_singleton.mp hq
    exact hp
theorem okRow.nil {nms : List Str} {k : Nat} : okRow nms k ([] : List (PT k)) := okRow.of fun q hq => nomatch hq
theorem n_toPT {Rl : Hp → Hp → Prop} {te : TE} {k : Nat} {σ : L2.St} {H : Hp} {names : List Str} (h : EvN Rl te σ H (fun z : List (PT k) × Nat => okRow names k z.1 ∧ z.2 < 9223372036854775808)) : EvN Rl te σ H (fun q : PT (k + 1) => okPart names (k + 1) q) := fun H1 e Q q => h H1 e Q fun a v H2 ha e2 r => q (PT.pr a) v H2 ⟨ha.1, by have := ha.2; show a.2 < 2 ^ 63; omega⟩ e2 r
theorem e_p18 {Rl : Hp → Hp → Prop} [RlOk Rl] {σ : L2.St} {H : Hp} : Ev Rl (tOp rPowI (tC (.int 10)) (tC (.int 18))) σ H (1000000000000000000 : Nat) := e_toNat (e_powI (i := 10) (j := 18) (e_c fun _ => rfl) (e_c fun _ => rfl) ⟨by decide, by decide, by decide⟩) (by decide +kernel)
theorem e_p9 {Rl : Hp → Hp → Prop} [RlOk Rl] {σ : L2.St} {H : Hp} : Ev Rl (tOp rPowI (tC (.int 10)) (tC (.int 9))) σ H (1000000000 : Nat) := e_toNat (e_powI (i := 10) (j := 9) (e_c fun _ => rfl) (e_c fun _ => rfl) ⟨by decide, by decide, by decide⟩) (by decide +kernel)
theorem n_times {d c : Addr} {σ : L2.St} {H : Hp} (any1 : ∀ {H1 : Hp} {b : Nat} {tb : TE}, Dl d c H H1 → σ[0]? = some (some (.ref d)) → Ev (Dl d c) tb σ H1 b → 0 < b → b < 2 ^ 64 → EvN (Dl d c) (tCall spAnyD [] E0 (tCons (tVar 0) (tCons tb tNil))) σ H1 (fun r : Nat => r < b)) (h0 : σ[0]? = some (some (.ref d))) :
    EvLN (Dl d c) (tLst (tCons (tC (.int 0)) (tCons (tC (.int 1)) (tCons (tC (.int 2)) (tCons (tC (.int 3)) (tCons (tOp rSubI (tOp rPowI (tC (.int 10)) (tC (.int 18))) (tCall spAnyD [] E0 (tCons (tVar 0) (tCons (tC (.int 99)) tNil)))) (tCons (tCall spAnyD [] E0 (tCons (tVar 0) (tCons (tOp rPowI (tC (.int 10)) (tC (.int 9))) tNil))) tNil))))))) σ H (fun l : List Nat => l.length = 6 ∧ ∀ x ∈ l, x ≤ 1000000000000000000) := by
  have h : EvLN (Dl d c) (tLst (tCons (tC (.int 0)) (tCons (tC (.int 1)) (tCons (tC (.int 2)) (tCons (tC (.int 3)) (tCons (tOp rSubI (tOp rPowI (tC (.int 10)) (tC (.int 18))) (tCall spAnyD [] E0 (tCons (tVar 0) (tCons (tC (.int 99)) tNil)))) (tCons (tCall spAnyD [] E0 (tCons (tVar 0) (tCons (tOp rPowI (tC (.int 10)) (tC (.int 9))) tNil))) tNil))))))) σ H (fun l : List Nat => ∃ a b : Nat, a ≤ 1000000000000000000 ∧ b ≤ 1000000000000000000 ∧ l = [0, 1, 2, 3, a, b]) := by
    have h5 : EvN (Dl d c) (tOp rSubI (tOp rPowI (tC (.int 10)) (tC (.int 18))) (tCall spAnyD [] E0 (tCons (tVar 0) (tCons (tC (.int 99)) tNil)))) σ H (fun a : Nat => a ≤ 1000000000000000000) := n_imp (n_op (f := fun a b => a - b) (n_ev e_p18) (any1 (b := 99) (RlOk.refl _) h0 (eN 99) (by decide) (by decide)) fun a b ha hb => rv_subN (by rw [ha]; omega)) fun a ⟨x, y, hx, hy, e⟩ => by rw [e, hx]; omega
    have h6 : EvN (Dl d c) (tCall spAnyD [] E0 (tCons (tVar 0) (tCons (tOp rPowI (tC (.int 10)) (tC (.int 9))) tNil))) σ H (fun a : Nat => a ≤ 1000000000000000000) := n_imp (any1 (b := 1000000000) (RlOk.refl _) h0 e_p9 (by decide) (by decide)) fun a ha => by omega
    intro H1 e Q q
    refine nl_lst (nh_cons (n_ev (eN 0)) (nh_cons (n_ev (eN 1)) (nh_cons (n_ev (eN 2)) (nh_cons (n_ev (eN 3)) (nh_cons h5 (nh_cons h6 nh_nil)))))) (fun xs hx => ?_) H1 e Q fun xs p vs H2 hx => q xs p vs H2 ?_
    · obtain ⟨_, _, _, ⟨_, _, _, ⟨_, _, _, ⟨_, _, _, ⟨_, _, _, ⟨_, _, _, rfl, rfl⟩, rfl⟩, rfl⟩, rfl⟩, rfl⟩, rfl⟩ := hx
      show 6 ≤ 1000000
      decide
    · obtain ⟨_, _, rfl, ⟨_, _, rfl, ⟨_, _, rfl, ⟨_, _, rfl, ⟨a, _, ha, ⟨b, _, hb, rfl, rfl⟩, rfl⟩, rfl⟩, rfl⟩, rfl⟩, rfl⟩ := hx
      exact ⟨a, b, ha, hb, rfl⟩
  intro H1 e Q q
  refine h H1 e Q fun xs p vs H2 hx => q xs p vs H2 ?_
  obtain ⟨a, b, ha, hb, rfl⟩ := hx
  refine ⟨rfl, fun x hx => ?_⟩
  simp only [List.mem_cons, List.not_mem_nil, or_false] at hx
  omega
theorem row_run (W : Wd K mg) (k : Nat) (F : Fn P w K mg base (4 * k + 12) "_law_row" p_law_row (spRowD' k)) (f : Addr) (cdv : Value) (A : Around) (outer : List Env) (s : Shared) (H : Hp) (vs : List V) (Q : VK) (E : XK)
    (hr : Room (4 * k + 12 + 3) (A.deeper (envOfC "_law_row" (defScope K26.s_law_row) s.heap.objs.size f cdv))) (h : spRowD k vs H Q E) :
    ∃ t, PSs (cxOf CX0 P w K mg base n_law_row "_law_row" (defScope K26.s_law_row) f cdv A outer s H E).nox (defBody K26.s_law_row) t ∧ t { nx := fun _ H' => Q .non H', rt := Q } (start n_law_row vs) H := by
  refine ⟨_, w_law_row spAnyD spOfD (spRowD' k) W hr (F_law_any := (ok_law_any W).mono (by omega)) (F_law_of := (ok_law_of W).mono (by omega)) (F_law_row := F), ?_⟩
  obtain ⟨d, c, p, names, hD, hp, hpd, hpc, hn0, hn9, rfl, hq⟩ := h
  have any1 : ∀ {σ : L2.St} {H1 : Hp} {b : Nat} {tb : TE}, Dl d c H H1 → σ[0]? = some (some (.ref d)) → Ev (Dl d c) tb σ H1 b → 0 < b → b < 2 ^ 64 → EvN (Dl d c) (tCall spAnyD [] E0 (tCons (tVar 0) (tCons tb tNil))) σ H1 (fun r : Nat => r < b) := fun e h0 hb hb0 hb64 => n_any' (fun _ _ e => e) (fun _ e2 => (RlOk.trans e e2).2 hD) h0 hb hb0 hb64
  show tSeq _ _ _ _ _
  refine k_seq (k_set (Rl := Ex) (a := ([] : List (PT k))) e_unitT fun v3 H1 e1 r3 => ?_)
  dsimp only
  refine k_seq (k_forN (Rl := Dl d c) (p := fun n => 1 ≤ n ∧ n ≤ 3) (n_imp (n_op (f := fun a b => a + b) (n_ev (eN 1)) (any1 (b := 3) (RlOk.ex e1) rfl (eN 3) (by decide) (by decide)) fun a b ha hb => rv_addN) ?_) (fun n hn => by omega)
    (fun H3 i σ1 H4 => Dl d c H3 H4 ∧ ∃ (row : List (PT k)) (x3 : V) (o4 o5 : Option V), σ1 = [some (.ref d), some (.ref p), some (.int (k : Nat)), some x3, o4, o5] ∧ Enc.rep (tp H4) x3 row ∧ okRow names k row ∧ row.length = i ∧ i ≤ 3)
    (fun n H3 hn e3 => ⟨RlOk.refl _, [], _, _, _, rfl, up e3 r3, okRow.nil, rfl, by omega⟩) (fun _ i σ1 H4 h => h.1) (fun _ i σ1 H4 H5 ⟨a, row, x3, o4, o5, b1, b2, b3⟩ e => ⟨RlOk.trans a (RlOk.ex e), row, x3, o4, o5, b1, up (Rl := Ex) e b2, b3⟩) ?_ ?_)
  · rintro n ⟨a, b, rfl, hb, rfl⟩
    omega
  · rintro n H3 hn e3 i _ H4 hi ⟨e4, row, x3, o4, o5, rfl, rx, hrow, hlen, hi3⟩
    refine tgt_name ?_
    have e04 : Dl d c H H4 := RlOk.trans (RlOk.ex e1) (RlOk.trans e3 e4)
    dsimp only
    refine k_seq (k_nset (Rl := Dl d c) (n_of (xs := names) (fun _ _ e => e) (fun _ e => e.2 (e04.2 hD)) rfl (e_var rfl rfl) (Dl.ls (Dl.lsAt e04 hp hpd hpc) hpd hpc) hpd hpc hn0 (by omega)) fun z v H5 hz e5 rz => ?_)
    obtain rfl : v = .str z := rz
    dsimp only
    have e05 : Dl d c H H5 := RlOk.trans e04 e5
    refine k_seq (k_nifNset (Rl := Dl d c) (j := 5) (p := fun q : PT k => okPart names k q) (s := fun b => b = true → 0 < k) (H := H5)
      (t := tAnd (tTest (tOp rGtI (tVar 2) (tC (.int 0)))) (tTest (tOp (rEqU K) (tCall spAnyD [] E0 (tCons (tVar 0) (tCons (tC (.int 3)) tNil))) (tC (.int 0))))) (fun H6 e6 Q2 q2 => ?_) (by show 5 < 6; decide) (fun hk H6 e6 => ?_) fun x H6 e6 hx => ?_)
    · refine nt_and (Rl := Dl d c) (H := H5) (nt_ev (et_test (e_op (e_var (a := k) rfl rfl) (eN 0) rv_gtN))) (fun _ => nt_test (n_op (f := fun a b => decide (a = b)) (any1 (b := 3) e05 rfl (eN 3) (by decide) (by decide)) (n_ev (eN 0)) fun a b _ _ => rv_eqN)) H6 e6 Q2 fun b H7 hb e7 => q2 b H7 (fun hbt => ?_) e7
      rcases hb with ⟨rfl, _⟩ | ⟨h, _⟩
      · cases hbt
      · exact of_decide_eq_true h.symm
    · have hk := hk rfl
      obtain ⟨k, rfl⟩ : ∃ k', k = k' + 1 := ⟨k - 1, by omega⟩
      have e06 : Dl d c H H6 := RlOk.trans e05 e6
      have k6 := e06.2 hD
      refine n_toPT ?_
      refine n_pair (Rl := Dl d c) (H := H6) (α := List (PT k)) (β := Nat) (p := fun r => okRow names k r) (q := fun t => t < 9223372036854775808) ?_ ?_
      · intro H8 e8 Q3 q3
        refine ⟨.ref d, rfl, .ref p, rfl, e_subN (Rl := Dl d c) (e_var (a := k + 1) rfl rfl) (eN 1) (by omega) H8 e8 _ fun y H9 e9 ry => ?_⟩
        obtain rfl : y = .int (k : Nat) := ry
        have e09 : Dl d c H H9 := RlOk.trans e06 (RlOk.trans e8 e9)
        exact ⟨d, c, p, names, e09.2 hD, Dl.lsAt e09 hp hpd hpc, hpd, hpc, hn0, hn9, rfl, fun r v HA o1 o2 eA rr => q3 r v HA o1 (RlOk.trans e9 eA) rr⟩
      · refine n_imp (n_ofL (fun _ e => e.2 k6) (fun _ _ e => e) rfl (n_times (fun e h0 hb => any1 (RlOk.trans e06 e) h0 hb) rfl) fun xs h => by rw [h.1]; exact ⟨by decide, by decide⟩) ?_
        rintro t ⟨xs, h, ht⟩
        have := h.2 t ht
        omega
    · have hpt : ∃ (v : V) (q : PT k), x = some v ∧ Enc.rep (tp H6) v q ∧ okPart names k q := by
        rcases hx with ⟨_, h⟩ | ⟨a, v, _, rfl, ha, r⟩
        · exact ⟨.str z, PT.nm k z, (Option.some.inj h).symm, PT.nm_rep rfl k, PT.nm_ok hz k⟩
        · exact ⟨v, a, rfl, r, ha⟩
      obtain ⟨v, q, rfl, rq, oq⟩ := hpt
      dsimp only
      refine k_set (Rl := Dl d c) (a := row ++ [q]) (e_catT (e_var rfl (up (RlOk.trans e5 e6) rx)) (e_one (e_var rfl rq)) (by rw [hlen]; show i + 1 ≤ 1000000; omega)) fun v' H7 e7 r7 => ⟨RlOk.trans e4 (RlOk.trans e5 (RlOk.trans e6 e7)), row ++ [q], v', _, _, rfl, r7, hrow.snoc oq, by rw [List.length_append, hlen]; rfl, by omega⟩
  · rintro n H3 hn e3 _ H4 ⟨e4, row, x3, o4, o5, rfl, rx, hrow, hlen, hi3⟩
    have e04 : Dl d c H H4 := RlOk.trans (RlOk.ex e1) (RlOk.trans e3 e4)
    dsimp only
    exact k_ret (Rl := Dl d c) (e_var rfl rx) fun v H5 e5 r => hq row v H5 hrow (by omega) (RlOk.trans e04 e5) r
theorem ok_law_row (W : Wd K mg) : ∀ k, Fn P w K mg base (4 * k + 16) "_law_row" p_law_row (spRowD k) := by
  have step : ∀ k, Fn P w K mg base (4 * k + 12) "_law_row" p_law_row (spRowD' k) → Fn P w K mg base (4 * k + 16) "_law_row" p_law_row (spRowD k) := fun k F =>
    fn_ok (k := 4 * k + 12) W 43 sc_law_row spRowD_len (fun _ _ _ _ _ _ us hl => match us, hl with | [_, _, _], _ => rfl) fun f cdv A outer s H vs Q E hr h => row_run W k F f cdv A outer s H vs Q E hr h
  intro k
  induction k with
  | zero => exact step 0 (ok_row_none W)
  | succ k ih => exact step (k + 1) (ih.mono (by omega))
/-- rows of depth two or one -/
def spRow21 : Sp := fun vs H Q E => spRowD 2 vs H Q E ∨ spRowD 1 vs H Q E
theorem ok_law_row21 (W : Wd K mg) : Fn P w K mg base 24 "_law_row" p_law_row spRow21 :=
  fn_ok (k := 20) W 43 sc_law_row (fun vs H Q E z => z.elim (spRowD_len vs H Q E) (spRowD_len vs H Q E)) (fun _ _ _ _ _ _ us hl => match us, hl with | [_, _, _], _ => rfl) fun f cdv A outer s H vs Q E hr h =>
    h.elim (row_run W 2 (ok_law_row W 1) f cdv A outer s H vs Q E hr) (row_run W 1 (ok_law_row W 0) f cdv A outer s H vs Q E (hr.mono (by decide)))
end
end B
/-! a row seen one deeper. -/
namespace B
open PySem L2
def PT.up : (k : Nat) → PT k → PT (k + 1)
  | 0, z => .inl z
  | _ + 1, .inl z => .inl z
  | k + 1, .inr q => .inr (q.1.map (PT.up k), q.2)
theorem RepA.mapUp {T : TL} {α β : Type} [Enc α] [Enc β] {g : α → β} (h : ∀ v x, Enc.rep T v x → Enc.rep T v (g x)) : ∀ {vs : List V} {xs : List α}, RepA T vs xs → RepA T vs (xs.map g)
  | [], [], _ => trivial
  | _ :: _, _ :: _, ⟨r, s⟩ => ⟨h _ _ r, RepA.mapUp h s⟩
theorem PT.up_rep {T : TL} : ∀ (k : Nat) (v : V) (p : PT k), Enc.rep T v p → Enc.rep T v (PT.up k p)
  | 0, _, _, h => h
  | k + 1, _, .inl _, h => h
  | k + 1, v, .inr (r, t), h => by
    obtain ⟨d, x, y, rfl, hd, ⟨a, vs, rfl, ha, rr⟩, ry⟩ := h
    exact ⟨d, _, y, rfl, hd, ⟨a, vs, rfl, ha, RepA.mapUp (PT.up_rep k) rr⟩, ry⟩
theorem rowE_up {n : Nat} {im : Str → List Nat} : ∀ (k : Nat) (r : List (PT k)), rowE n im (k + 1) (r.map (PT.up k)) = rowE n im k r := fun k => by
  have part : ∀ k (p : PT k), partE n im (k + 1) (PT.up k p) = partE n im k p := fun k => by
    induction k with
    | zero => exact fun p => rfl
    | succ k ih =>
      intro p
      match p with
      | .inl z => rfl
      | .inr (r, t) =>
        show pwr n (rowE n im (k + 1) (r.map (PT.up k))) t = pwr n (rowE n im k r) t
        congr 1
        rw [rowE_eq, rowE_eq, List.foldl_map]
        congr 1
        funext acc p
        rw [ih]
  intro r
  rw [rowE_eq, rowE_eq, List.foldl_map]
  congr 1
  funext acc p
  rw [part]
theorem okPart_up {nms : List Str} : ∀ (k : Nat) (p : PT k), okPart nms k p → okPart nms (k + 1) (PT.up k p)
  | 0, _, h => h
  | _ + 1, .inl _, h => h
  | k + 1, .inr (r, t), h => ⟨okRow.of fun q hq => by
      obtain ⟨p, hp, rfl⟩ := List.mem_map.mp hq
      exact okPart_up k p (h.1.part p hp), h.2⟩
theorem okRow_up {nms : List Str} {k : Nat} {r : List (PT k)} (h : okRow nms k r) : okRow nms (k + 1) (r.map (PT.up k)) := okRow.of fun q hq => by
  obtain ⟨p, hp, rfl⟩ := List.mem_map.mp hq
  exact okPart_up k p (h.part p hp)
theorem rowE_app {n : Nat} {im : Str → List Nat} {nms : List Str} (hi : ∀ s ∈ nms, Eff n (im s)) {k : Nat} {r q : List (PT k)} (h : okRow nms k r) (hq : okRow nms k q) : rowE n im k (r ++ q) = thn (rowE n im k r) (rowE n im k q) := by
  have hr := eff_row hi k r h
  rw [rowE_eq k (r ++ q), List.foldl_append, ← rowE_eq]
  rw [rowE_eq k q]
  have : ∀ (q : List (PT k)) (acc : List Nat), Eff n acc → okRow nms k q → List.foldl (fun acc p => thn acc (partE n im k p)) (thn (rowE n im k r) acc) q = thn (rowE n im k r) (List.foldl (fun acc p => thn acc (partE n im k p)) acc q) := fun q => by
    induction q with
    | nil => exact fun _ _ _ => rfl
    | cons p q ih =>
      intro acc ha hq
      rw [List.foldl_cons, List.foldl_cons, thn_assoc hr ha]
      exact ih _ (ha.thn (eff_part hi k p (hq.part p List.mem_cons_self))) (okRow.of fun x hx => hq.part x (List.mem_cons_of_mem _ hx))
  have h2 := this q (List.range n) (eff_range n) hq
  rw [thn_one hr] at h2
  exact h2
end B
/-! lists that go over. -/
namespace B
open PySem L2
theorem vouch_inc {n : Nat} {ds : List Deed} {st : List Nat} : Inc n (vouch n ds st) := ⟨by
  unfold vouch
  exact List.Pairwise.filter _ (List.pairwise_lt_range), fun s hs => by
  unfold vouch at hs
  exact List.mem_range.mp (List.mem_filter.mp hs).1⟩
theorem within_mem {a b : List Nat} : within a b = true ↔ ∀ s ∈ a, s ∈ b := by
  unfold within
  rw [List.all_eq_true]
  exact ⟨fun h s hs => of_decide_eq_true (h s hs), fun h s hs => decide_eq_true (h s hs)⟩
/-- what states vouch for goes over -/
theorem vouch_over {n : Nat} {ds : List Deed} (ok : ∀ d ∈ ds, Prm n d.2) (sm : Small n ds) {h : List Nat} (hh : Gen n ds h) {st : List Nat} (hst : ∀ s ∈ st, s < n) {t : Nat} (ht : t < n) :
    h.getD t 0 ∈ vouch n ds (st.map fun s => h.getD s 0) ↔ t ∈ vouch n ds st := by
  have ph := hh.prm ok
  rw [mem_vouch, mem_vouch]
  constructor
  · rintro ⟨_, a⟩
    refine ⟨ht, fun lot hl hw => ?_⟩
    obtain ⟨lot', h1, h2⟩ := lot_over ok sm hh hl
    refine (h2 t ht).mp (a lot' h1 (within_mem.mpr fun y hy => ?_))
    obtain ⟨s, hs, rfl⟩ := List.mem_map.mp hy
    exact (h2 s (hst s hs)).mpr (within_mem.mp hw s hs)
  · rintro ⟨_, a⟩
    refine ⟨ph.eff.lt ht, fun lot hl hw => ?_⟩
    obtain ⟨lot', h1, h2⟩ := lot_back ok sm hh hl
    exact (h2 t ht).mp (a lot' h1 (within_mem.mpr fun s hs => (h2 s (hst s hs)).mpr (within_mem.mp hw _ (List.mem_map.mpr ⟨s, hs, rfl⟩))))
end B
/-! sorted lists that go over. -/
namespace B
open PySem L2
theorem perm_of_mem {xs ys : List Nat} (h1 : xs.Nodup) (h2 : ys.Nodup) (h : ∀ x, x ∈ xs ↔ x ∈ ys) : xs.Perm ys := (List.perm_ext_iff_of_nodup h1 h2).mpr h
theorem Inc.nd {n : Nat} {l : List Nat} (h : Inc n l) : l.Nodup := h.1.imp fun h e => by omega
theorem map_nd {n : Nat} {h l : List Nat} (ph : Prm n h) (hl : ∀ s ∈ l, s < n) (nd : l.Nodup) : (l.map fun s => h.getD s 0).Nodup :=
  List.pairwise_map.mpr (List.Pairwise.imp_of_mem (fun {a b} ha hb hab e => hab (ph.inj (hl a ha) (hl b hb) e)) nd)
/-- the images of what a state vouches for, in order -/
theorem led_perm {n : Nat} {ds : List Deed} (ok : ∀ d ∈ ds, Prm n d.2) (sm : Small n ds) {h : List Nat} (hh : Gen n ds h) {st : List Nat} (hst : ∀ s ∈ st, s < n) :
    (vouch n ds (st.map fun s => h.getD s 0)).Perm ((vouch n ds st).map fun s => h.getD s 0) := by
  have ph := hh.prm ok
  refine perm_of_mem vouch_inc.nd (map_nd ph vouch_inc.2 vouch_inc.nd) fun y => ⟨fun hy => ?_, fun hy => ?_⟩
  · obtain ⟨t, ht, rfl⟩ := ph.sur (vouch_inc.2 y hy)
    exact List.mem_map.mpr ⟨t, (vouch_over ok sm hh hst ht).mp hy, rfl⟩
  · obtain ⟨t, ht, rfl⟩ := List.mem_map.mp hy
    exact (vouch_over ok sm hh hst (vouch_inc.2 t ht)).mpr ht
end B
/-! rows are effects. -/
namespace B
open PySem L2
theorem gen_foldl {n : Nat} {ds : List Deed} (ok : ∀ d ∈ ds, Prm n d.2) {α : Type} {g : α → List Nat} : ∀ (r : List α) (acc : List Nat), Gen n ds acc → (∀ p ∈ r, Gen n ds (g p)) → Gen n ds (r.foldl (fun acc p => thn acc (g p)) acc)
  | [], acc, h, _ => h
  | p :: r, acc, h, hg => gen_foldl ok r _ (h.thn ok (hg p List.mem_cons_self)) fun q hq => hg q (List.mem_cons_of_mem _ hq)
theorem gen_im {n : Nat} {ds : List Deed} (ok : ∀ d ∈ ds, Prm n d.2) (nd : (ds.map (·.1)).Nodup) {s : Str} (hs : s ∈ ds.map (·.1)) : Gen n ds (imOf ds s) := by
  obtain ⟨d, hd, rfl⟩ := List.mem_map.mp hs
  rw [imOf_mem nd d hd]
  exact Gen.deed ok hd
theorem gen_part {n : Nat} {ds : List Deed} (ok : ∀ d ∈ ds, Prm n d.2) (nd : (ds.map (·.1)).Nodup) : ∀ (k : Nat) (p : PT k), okPart (ds.map (·.1)) k p → Gen n ds (partE n (imOf ds) k p)
  | 0, p, h => gen_im ok nd h
  | k + 1, .inl s, h => gen_im ok nd h
  | k + 1, .inr q, h => Gen.pwr ok (by
    rw [rowE_eq]
    exact gen_foldl ok _ _ .one fun p hp => gen_part ok nd k p (h.1.part p hp)) _
theorem gen_row {n : Nat} {ds : List Deed} (ok : ∀ d ∈ ds, Prm n d.2) (nd : (ds.map (·.1)).Nodup) (k : Nat) (r : List (PT k)) (h : okRow (ds.map (·.1)) k r) : Gen n ds (rowE n (imOf ds) k r) := by
  rw [rowE_eq]
  exact gen_foldl ok _ _ .one fun p hp => gen_part ok nd k p (h.part p hp)
end B
/-! what _law_right leans on. -/
namespace B
open PySem L2
/-- a machine that is dealt -/
structure Rt (n : Nat) (ds : List Deed) : Prop where
  ok : MachOk n ds
  pm : ∀ d ∈ ds, Prm n d.2
  sm : Small n ds
  n12 : n ≤ 12
/-- what each state alone vouches for -/
noncomputable def al (n : Nat) (ds : List Deed) : List (List Nat) := (List.range n).map fun s => vouch n ds [s]
theorem al_at {n : Nat} {ds : List Deed} {s : Nat} (h : s < n) : (al n ds)[s]? = some (vouch n ds [s]) := by
  unfold al
  rw [List.getElem?_map, List.getElem?_range h]; rfl
theorem al_len {n : Nat} {ds : List Deed} : (al n ds).length = n := by
  unfold al
  rw [List.length_map, List.length_range]
theorem vouch_congr {n : Nat} {ds : List Deed} {a b : List Nat} (h : ∀ x, x ∈ a ↔ x ∈ b) : vouch n ds a = vouch n ds b := by
  have hw : ∀ lot, within a lot = true ↔ within b lot = true := fun lot => by
    rw [within_mem, within_mem]
    exact ⟨fun q s hs => q s ((h s).mpr hs), fun q s hs => q s ((h s).mp hs)⟩
  have hm : ∀ s, s ∈ vouch n ds a ↔ s ∈ vouch n ds b := fun s => by
    rw [mem_vouch, mem_vouch]
    exact ⟨fun q => ⟨q.1, fun lot hl z => q.2 lot hl ((hw lot).mpr z)⟩, fun q => ⟨q.1, fun lot hl z => q.2 lot hl ((hw lot).mp z)⟩⟩
  refine List.Perm.eq_of_pairwise (le := (· < ·)) (fun x y _ _ h1 h2 => by omega) vouch_inc.1 vouch_inc.1 (perm_of_mem vouch_inc.nd vouch_inc.nd hm)
theorem Inc.le {n : Nat} {l : List Nat} (h : Inc n l) : l.Pairwise (· ≤ ·) := h.1.imp fun h => by omega
theorem Inc.short {n : Nat} {l : List Nat} (h : Inc n l) : l.length ≤ n := by
  have := nodup_le (l := l) (m := List.range n) h.nd fun x hx => List.mem_range.mpr (h.2 x hx)
  rwa [List.length_range] at this
/-- lots that nothing more is vouched for by, carried -/
theorem lots_closed {n : Nat} {ds : List Deed} (R : Rt n ds) {lots : List (List Nat)} (hl : ∀ lot, lot ∈ lots ↔ Inc n lot ∧ vouch n ds lot = lot) {lot : List Nat} (h : lot ∈ lots) {d : Deed} (hd : d ∈ ds) :
    vouch n ds (lot.map fun s => d.2.getD s 0) ∈ lots ∧ (vouch n ds (lot.map fun s => d.2.getD s 0)).Perm (lot.map fun s => d.2.getD s 0) := by
  obtain ⟨h1, h2⟩ := (hl lot).mp h
  have p := led_perm R.pm R.sm (Gen.deed R.pm hd) h1.2
  rw [h2] at p
  exact ⟨(hl _).mpr ⟨vouch_inc, vouch_congr fun x => p.mem_iff⟩, p⟩
theorem meets_shared {n : Nat} {f g : List Nat} (hf : Eff n f) : meetsAll n f g = shared f g := by
  unfold meetsAll shared
  rw [hf.1]; rfl
theorem mem_meets {n : Nat} {f g : List Nat} {s : Nat} : s ∈ meetsAll n f g ↔ s < n ∧ meets f g s = true := by
  unfold meetsAll
  rw [List.mem_filter, List.mem_range]
/-- where effects meet, they meet at all that is vouched for -/
theorem meets_vouch {n : Nat} {ds : List Deed} (R : Rt n ds) {f g : List Nat} (hf : Gen n ds f) (hg : Gen n ds g) {s t : Nat} (hs : s ∈ meetsAll n f g) (ht : t ∈ vouch n ds [s]) : t ∈ meetsAll n f g := by
  rw [meets_shared (hf.prm R.pm).eff] at hs ⊢
  exact (mem_al.mp ht).2 _ ⟨f, g, hf, hg, rfl⟩ hs
theorem al_all {n : Nat} {ds : List Deed} (R : Rt n ds) : ((al n ds).map fun l => decide (l.length = n)).all id = true ↔ Honest n ds := by
  rw [← alone_len R.pm, List.all_eq_true]
  unfold al
  constructor
  · intro h s hs
    exact of_decide_eq_true (h _ (List.mem_map.mpr ⟨_, List.mem_map.mpr ⟨s, List.mem_range.mpr hs, rfl⟩, rfl⟩))
  · intro h b hb
    obtain ⟨l, hl, rfl⟩ := List.mem_map.mp hb
    obtain ⟨s, hs, rfl⟩ := List.mem_map.mp hl
    exact decide_eq_true (h s (List.mem_range.mp hs))
theorem al_one {n : Nat} {ds : List Deed} (h : ∀ s, s < n → vouch n ds [s] = [s]) : al n ds = (List.range n).map fun s => [s] := List.map_congr_left fun s hs => h s (List.mem_range.mp hs)
/-- how many effects there are at most -/
def tab (n : Nat) : Nat := if n = 2 then 2 else if n = 3 then 6 else if n = 4 then 24 else 0
theorem tab_at13 : ∀ n : Fin 13, 2 ≤ n.val → ([0, 1, 2, 6, 24] ++ List.replicate n.val 0)[n.val]? = some (tab n.val) := by decide +kernel
theorem tab_at {n : Nat} (h2 : 2 ≤ n) (h12 : n ≤ 12) : ([0, 1, 2, 6, 24] ++ List.replicate n 0)[n]? = some (tab n) := tab_at13 ⟨n, by omega⟩ h2
theorem turns_ok {n r : Nat} {ds : List Deed} (R : Rt n ds) {L : List Led} (hL : L.length ≤ 60 → AllE n ds L) (h : AnyEx n ds r) (e : L.length = tab n) : r = n - 2 := by
  have h2 := R.ok.lo
  by_cases h4 : n ≤ 4
  · have hn : n = 2 ∨ n = 3 ∨ n = 4 := by omega
    have hp : tab n = (perms n).length := by rcases hn with rfl | rfl | rfl <;> rfl
    refine any_full hn R.pm (hL ?_) (e.trans hp) h
    rw [e]
    rcases hn with rfl | rfl | rfl <;> decide
  · have e0 : tab n = 0 := by
      unfold tab
      rw [if_neg (by omega), if_neg (by omega), if_neg (by omega)]
    rw [e0] at e
    have a := hL (by omega)
    have := (List.getElem?_eq_some_iff.mp a.h0).1
    omega
/-- rows seen deeper -/
def bk (w : List (PT 1)) (t : Nat) : List (PT 2) := [PT.pr (w, t)]
def up2 (u : List Str) : List (PT 2) := ((show List (PT 0) from u).map (PT.up 0)).map (PT.up 1)
theorem up_row {T : TL} {v : V} {k : Nat} {r : List (PT k)} (h : Enc.rep T v r) : Enc.rep T v (r.map (PT.up k)) := let ⟨a, vs, e, t, q⟩ := h; ⟨a, vs, e, t, RepA.mapUp (PT.up_rep k) q⟩
theorem up2_rep {T : TL} {v : V} {u : List Str} (h : Enc.rep T v u) : Enc.rep T v (up2 u) := by
  have h : Enc.rep T v (show List (PT 0) from u) := h
  exact up_row (up_row h)
theorem back_row {n : Nat} {ds : List Deed} (R : Rt n ds) {u : List Str} {w : List (PT 1)} {t : Nat} (hu : ∀ s ∈ u, s ∈ ds.map (·.1)) (hw : okRow (ds.map (·.1)) 1 w) (ht : t < 1000000) :
    okRow (ds.map (·.1)) 2 (bk w t ++ up2 u ++ w.map (PT.up 1)) ∧ rowE n (imOf ds) 2 (bk w t ++ up2 u ++ w.map (PT.up 1)) = thn (thn (pwr n (rowE n (imOf ds) 2 (w.map (PT.up 1))) t) (rowE n (imOf ds) 0 u)) (rowE n (imOf ds) 2 (w.map (PT.up 1))) := by
  have ow := okRow_up hw
  have ob : okRow (ds.map (·.1)) 2 (bk w t) := okRow.of fun p hp => by
    obtain rfl := List.mem_singleton.mp hp
    exact ⟨hw, by show t < 2 ^ 63; omega⟩
  have o0 : okRow (ds.map (·.1)) 0 (show List (PT 0) from u) := hu
  have ou : okRow (ds.map (·.1)) 2 (up2 u) := okRow_up (okRow_up o0)
  have obu : okRow (ds.map (·.1)) 2 (bk w t ++ up2 u) := okRow.of fun p hp => by
    rcases List.mem_append.mp hp with hp | hp
    · exact ob.part p hp
    · exact ou.part p hp
  have hi := R.ok.im
  refine ⟨okRow.of fun p hp => ?_, ?_⟩
  · rcases List.mem_append.mp hp with hp | hp
    · exact obu.part p hp
    · exact ow.part p hp
  · rw [rowE_app hi obu ow, rowE_app hi ob ou]
    have e1 : rowE n (imOf ds) 2 (up2 u) = rowE n (imOf ds) 0 u := by
      unfold up2
      rw [rowE_up, rowE_up]
    have e2 : rowE n (imOf ds) 2 (bk w t) = pwr n (rowE n (imOf ds) 2 (w.map (PT.up 1))) t := by
      rw [rowE_up]
      have : rowE n (imOf ds) 2 (bk w t) = thn (List.range n) (pwr n (rowE n (imOf ds) 1 w) t) := rfl
      rw [this, one_thn ((eff_row hi 1 w hw).pwr t)]
    rw [e1, e2]
/-- against a vouching, carried -/
theorem carried_against {n : Nat} {ds : List Deed} (R : Rt n ds) {f g h : List Nat} (hf : Gen n ds f) (hg : Gen n ds g) (hh : Gen n ds h) {s : Nat} (hs : s < n) :
    meets (thn (thn (pwr n h (undoN n h 60)) f) h) (thn (thn (pwr n h (undoN n h 60)) g) h) (h.getD s 0) = meets f g s := by
  have ph := hh.prm R.pm
  obtain ⟨_, e⟩ := undo60 R.pm R.sm hh
  have e2 : thn h (pwr n h (undoN n h 60)) = List.range n := by
    have := pwr_comm ph.eff 1 (undoN n h 60)
    rw [pwr_one ph.eff] at this
    rw [this]; exact e
  exact meets_conj (hf.prm R.pm) (hg.prm R.pm) ph (ph.pwr _) e2 hs
end B
/-! shapes; a deal out of a script. -/
namespace B
open PySem PySem.Spec PyProof.Rows L2
def shapes : List (Nat × List Str) := [(4, ["turn", "turn"]), (4, ["ring", "two"]), (5, ["ring", "mirror"]), (6, ["ring", "mirror"]), (3, ["two", "two"]), (5, ["even", "even"]), (6, ["five", "flip"]), (7, ["line", "line"]), (4, ["two", "mirror"]), (6, ["ring", "two"]), (5, ["line", "line"]), (4, ["two", "two", "two"]), (12, ["ring", "mirror"]), (4, ["two", "mirror", "two", "ring", "turn", "two"]), (6, ["turn", "mirror"]), (5, ["two", "two"]), (2, ["two"])]
def spShapes : Sp := spL (ι := Unit) (fun _ _ => True) (fun _ => []) fun _ => shapes
theorem sqL_mono {K : PySem.W.Frag} {H H' : Hp} {a : Addr} {xs : List V} (h : SqL K H a xs) (e : Ex H H') : SqL K H' a xs :=
  h.elim (fun h => .inl (h.elim (fun h => .inl (e _ _ h)) fun ⟨o, h⟩ => .inr ⟨o, e _ _ h⟩)) fun h => .inr h
def spDealD (K : PySem.W.Frag) : Sp := fun vs H Q _ => ∃ (p : Addr) (cells : List Int), SqL K H p (cells.map V.int) ∧ cells.length ≤ 63 ∧ vs = [.ref p, .int (26 : Nat)] ∧ ∀ (d c : Addr) H2, DealAt d c H2 → Ex H H2 → Q (.ref d) H2
theorem spDealD_len {K : PySem.W.Frag} (vs : List V) (H : Hp) (Q : VK) (E : XK) (z : spDealD K vs H Q E) : vs.length = 2 := by obtain ⟨_, _, _, _, rfl, _⟩ := z; rfl
theorem RepA.intsI {T : TL} : ∀ xs : List Int, RepA T (xs.map V.int) xs
  | [] => trivial
  | _ :: xs => ⟨rfl, RepA.intsI xs⟩
theorem k_dealRet {K : PySem.W.Frag} {tl tm : TE} {σ : L2.St} {H : Hp} {D : Ends} {xs : List Nat} {m : Nat} (h : EvL Ex tl σ H xs) (h2 : Ev Ex tm σ H m) (k : ∀ q6 q7 H2, q6 ≠ q7 → Ex H H2 → H2 q7 = some (.lst [.ref q6, .int (m : Nat)]) → H2 q6 = some (.lst (xs.reverse.map fun (n : Nat) => V.int n)) → D.rt (.ref q7) H2) :
    tRet (tLst (tCons (tRevL K tl) (tCons tm tNil))) D σ H := h H (Ex.refl H) _ fun p vs H1 hn e hl r => ⟨p, vs, rfl, SqL.of hl, fun q6 h6 => h2 _ (e.trans (Ex.new h6)) _ fun v H2 e2 rv => ⟨by show 2 ≤ sizeLine; decide, fun q7 h7 => by
      obtain rfl : v = .int m := rv
      have a6 : H2 q6 = some (.lst vs.reverse) := e2 _ _ upd_same
      have n67 : q6 ≠ q7 := fun z => by rw [z] at a6; rw [a6] at h7; cases h7
      exact k q6 q7 _ n67 (e.trans ((Ex.new h6).trans (e2.trans (Ex.new h7)))) upd_same (by rw [upd_ne n67, a6, RepA.ints.mp r, List.map_reverse])⟩⟩
section
variable {P : Program} {w : World} {K : PySem.W.Frag} {mg : Str → Option Value} {base : Heap}
theorem ok_law_shapes (W : Wd K mg) : Fn P w K mg base 4 "_law_shapes" p_law_shapes spShapes := by
  refine fn_ok (k := 0) W 39 sc_law_shapes (spL_len fun _ => rfl) (fun _ _ _ _ _ _ us hl => match us, hl with | [], _ => rfl) fun f cdv A outer s H vs Q E hr h => ⟨_, w_law_shapes W hr, ?_⟩
  obtain ⟨_, _, hr', hq⟩ := h
  refine k_retL (Rl := Ex) (xs := shapes) (e_lstH (eh_cons (e_pair (eN 4) (e_tupH (eh_cons (e_c fun _ => rfl) (eh_cons (e_c fun _ => rfl) eh_nil)) (by show 2 ≤ 1000000; decide))) (eh_cons (e_pair (eN 4) (e_tupH (eh_cons (e_c fun _ => rfl) (eh_cons (e_c fun _ => rfl) eh_nil)) (by show 2 ≤ 1000000; decide))) (eh_cons (e_pair (eN 5) (e_tupH (eh_cons (e_c fun _ => rfl) (eh_cons (e_c fun _ => rfl) eh_nil)) (by show 2 ≤ 1000000; decide))) (eh_cons (e_pair (eN 6) (e_tupH (eh_cons (e_c fun _ => rfl) (eh_cons (e_c fun _ => rfl) eh_nil)) (by show 2 ≤ 1000000; decide))) (eh_cons (e_pair (eN 3) (e_tupH (eh_cons (e_c fun _ => rfl) (eh_cons (e_c fun _ => rfl) eh_nil)) (by show 2 ≤ 1000000; decide))) (eh_cons (e_pair (eN 5) (e_tupH (eh_cons (e_c fun _ => rfl) (eh_cons (e_c fun _ => rfl) eh_nil)) (by show 2 ≤ 1000000; decide))) (eh_cons (e_pair (eN 6) (e_tupH (eh_cons (e_c fun _ => rfl) (eh_cons (e_c fun _ => rfl) eh_nil)) (by show 2 ≤ 1000000; decide))) (eh_cons (e_pair (eN 7) (e_tupH (eh_cons (e_c fun _ => rfl) (eh_cons (e_c fun _ => rfl) eh_nil)) (by show 2 ≤ 1000000; decide))) (eh_cons (e_pair (eN 4) (e_tupH (eh_cons (e_c fun _ => rfl) (eh_cons (e_c fun _ => rfl) eh_nil)) (by show 2 ≤ 1000000; decide))) (eh_cons (e_pair (eN 6) (e_tupH (eh_cons (e_c fun _ => rfl) (eh_cons (e_c fun _ => rfl) eh_nil)) (by show 2 ≤ 1000000; decide))) (eh_cons (e_pair (eN 5) (e_tupH (eh_cons (e_c fun _ => rfl) (eh_cons (e_c fun _ => rfl) eh_nil)) (by show 2 ≤ 1000000; decide))) (eh_cons (e_pair (eN 4) (e_tupH (eh_cons (e_c fun _ => rfl) (eh_cons (e_c fun _ => rfl) (eh_cons (e_c fun _ => rfl) eh_nil))) (by show 3 ≤ 1000000; decide))) (eh_cons (e_pair (eN 12) (e_tupH (eh_cons (e_c fun _ => rfl) (eh_cons (e_c fun _ => rfl) eh_nil)) (by show 2 ≤ 1000000; decide))) (eh_cons (e_pair (eN 4) (e_tupH (eh_cons (e_c fun _ => rfl) (eh_cons (e_c fun _ => rfl) (eh_cons (e_c fun _ => rfl) (eh_cons (e_c fun _ => rfl) (eh_cons (e_c fun _ => rfl) (eh_cons (e_c fun _ => rfl) eh_nil)))))) (by show 6 ≤ 1000000; decide))) (eh_cons (e_pair (eN 6) (e_tupH (eh_cons (e_c fun _ => rfl) (eh_cons (e_c fun _ => rfl) eh_nil)) (by show 2 ≤ 1000000; decide))) (eh_cons (e_pair (eN 5) (e_tupH (eh_cons (e_c fun _ => rfl) (eh_cons (e_c fun _ => rfl) eh_nil)) (by show 2 ≤ 1000000; decide))) (eh_cons (e_pair (eN 2) (e_tupH (eh_cons (e_c fun _ => rfl) eh_nil) (by show 1 ≤ 1000000; decide))) eh_nil))))))))))))))))) (by show 17 ≤ 1000000; decide)) fun p vs H2 hn e hl r => hq p vs H2 hn e hl r
theorem ok_law_deal (W : Wd K mg) : Fn P w K mg base 4 "_law_deal" p_law_deal (spDealD K) := by
  refine fn_ok (k := 0) W 31 sc_law_deal spDealD_len (fun _ _ _ _ _ _ us hl => match us, hl with | [_, _], _ => rfl) fun f cdv A outer s H vs Q E hr h => ⟨_, w_law_deal W hr, ?_⟩
  obtain ⟨p, cells, hp, hlen, rfl, hq⟩ := h
  obtain ⟨cs, hcs, hcl⟩ : ∃ cs : List Int, cutV (cells.map V.int) none (some 63) = cs.map V.int ∧ cs.length ≤ 63 := by
    refine ⟨(cells.drop (HT.sIx (cells.map V.int).length 0 none)).take (HT.sIx (cells.map V.int).length (cells.map V.int).length (some 63) - HT.sIx (cells.map V.int).length 0 none), ?_, ?_⟩
    · unfold cutV
      rw [List.map_take, List.map_drop]
    · rw [List.length_take, List.length_drop]; omega
  show tSeq _ _ _ _ _
  refine k_seq (k_setL (Rl := Ex) (xs := cs.map Int.natAbs) (e_lcM Int.natAbs fr_ex (ws_new (xs := cs) (fun H1 e Q2 q2 => ?_) fr_ex) (by omega) fun x v H1 hx e1 y => ?_) fun p3 vs3 H1 hn1 e1 hl1 r1 => ?_)
  · refine ⟨.ref p, rfl, 63, rfl, p, _, rfl, sqL_mono hp e, fun q' hq' => ?_⟩
    rw [hcs]
    exact q2 q' _ _ hq' (Ex.new hq') upd_same (RepA.intsI cs)
  · obtain rfl : v = .int x := y
    refine fun H2 e2 Q2 q2 => e_intI (Rl := Ex) (n := x) (H := H1) (e_var rfl rfl) H2 e2 _ fun w H3 e3 rw' => ?_
    obtain rfl : w = .int x := rw'
    refine ⟨x, rfl, q2 _ H3 e3 ?_⟩
    show V.int _ = V.int _
    congr 1
    split <;> omega
  have hL : LsAt H1 p3 (cs.map Int.natAbs) := ⟨_, hl1, r1⟩
  have hLl : (cs.map Int.natAbs).length ≤ 63 := by rw [List.length_map]; exact hcl
  generalize cs.map Int.natAbs = ns at hL hLl
  dsimp only
  refine k_seq (k_set (Rl := Ex) (a := 48611 * 26 + 1319) (e_addN (e_mulN (eN 48611) (e_var rfl rfl) (.inl (by decide))) (eN 1319)) fun v4 H2 e2 r4 => ?_)
  obtain rfl : v4 = .int ((48611 * 26 + 1319 : Nat)) := r4
  dsimp only
  have hL2 := hL.mono e2
  refine k_seq (k_for (Rl := Ex) (wz_ls (e_var rfl rfl) hL2.ls) (fun H3 i σ1 H4 => Ex H3 H4 ∧ ∃ (m : Nat) (o2 : Option V), σ1 = [some (.ref p), some (.int (26 : Nat)), o2, some (.ref p3), some (.int (m : Nat))] ∧ m < 2147483647)
    (fun H3 e3 => ⟨Ex.refl _, _, _, rfl, by decide⟩) (fun _ i σ1 H4 h => h.1) (fun _ i σ1 H4 H5 ⟨a, b⟩ e => ⟨a.trans e, b⟩) ?_ ?_)
  · rintro H3 e3 i x v _ H4 hx ⟨e4, m, o2, rfl, hm⟩ y
    refine tgt_name ?_
    refine k_set (Rl := Ex) (a := (m * 50021 + x % 2147483563 + 83) % 2147483647) (e_modN (e_int1 (e_addN (e_addN (e_mulN (e_var (a := m) rfl rfl) (eN 50021) (.inr (by decide))) (e_modN (e_var rfl y) (eN 2147483563) (by decide))) (eN 83))) (eN 2147483647) (by decide)) fun v H5 e5 r => ?_
    obtain rfl : v = .int _ := r
    exact ⟨e4.trans e5, _, _, rfl, Nat.mod_lt _ (by decide)⟩
  · rintro H3 e3 _ H4 ⟨e4, m, o2, rfl, hm⟩
    have hL4 := hL2.mono (e3.trans e4)
    dsimp only
    refine k_dealRet (xs := (ns.filter fun x => decide (1000000000000000000 ≤ x)).map fun x : Nat => x) (m := m) (e_lc1 (fun x => decide (1000000000000000000 ≤ x)) (fun x : Nat => x) fr_ex (ws_ls (e_var rfl rfl) hL4.ls) (by omega) (fun x v H1 hx e1 y => ⟨et_test (e_op (e_var rfl y) e_p18 rv_geN), fun _ => e_var rfl y⟩)) (e_var rfl rfl) fun q6 q7 H7 n67 e47 h7 h6 => ?_
    refine hq q7 q6 H7 ⟨m, _, h7, h6, hm, ?_⟩ (e1.trans (e2.trans (e3.trans (e4.trans e47))))
    rw [List.length_reverse, List.length_map]
    exact Nat.le_trans (List.length_filter_le _ _) hLl
end
end B
/-! a machine that is dealt. -/
namespace B
open PySem PySem.Spec PyProof.Rows L2
section
variable {Rl : Hp → Hp → Prop} [RlOk Rl] {K : PySem.W.Frag} {σ : L2.St} {H H' : Hp} {ta tb te : TE} {tr : TA} {i : Nat} {α β : Type} [Enc α] [Enc β] {D : Ends} {t u : TT} {s1 s2 : TS}
theorem nl_ev {xs : List α} (h : EvL Rl te σ H xs) : EvLN Rl te σ H (· = xs) := fun H1 e Q q => h H1 e _ fun p vs H2 hn e2 hl r => q xs p vs H2 rfl hn e2 hl r
theorem k_ifP {b : Bool} (P : L2.St → Hp → Prop) (h : EvT Rl t σ H b) (h1 : b = true → ∀ H2, Rl H H2 → ∀ N : L2.St → Hp → Prop, (∀ σ2 H3, P σ2 H3 → N σ2 H3) → s1 { D with nx := N } σ H2) (h2 : b = false → ∀ H2, Rl H H2 → P σ H2) (k : ∀ σ2 H2, P σ2 H2 → D.nx σ2 H2) : tIfS t s1 tNext D σ H :=
  k_if h (fun hb H2 e => h1 hb H2 e D.nx k) fun hb H2 e => k _ _ (h2 hb H2 e)
theorem k_whileN {tb : TS} (I : Nat → L2.St → Hp → Prop) (h0 : ∃ m, I m σ H) (hs : ∀ m σ1 H1, I m σ1 H1 → ∃ p : Bool → Prop, EvTN Rl t σ1 H1 p ∧ (p false → ∀ H2, Rl H1 H2 → D.nx σ1 H2) ∧
    (p true → ∀ H2, Rl H1 H2 → tb { D with nx := fun σ3 H3 => ∃ m', m' < m ∧ I m' σ3 H3, ct := fun σ3 H3 => ∃ m', m' < m ∧ I m' σ3 H3, bk := D.nx } σ1 H2)) : tWhile t tb D σ H := by
  refine ⟨I, h0, fun m σ1 H1 hI => ?_⟩
  obtain ⟨p, ht, hf, htr⟩ := hs m σ1 H1 hI
  refine ht H1 (RlOk.refl _) _ fun b H2 pb e => ?_
  cases b with
  | true => exact ⟨_, fun σ' H' h => h, htr pb H2 e⟩
  | false => exact hf pb H2 e
end
theorem n_if {Rl : Hp → Hp → Prop} [RlOk Rl] {σ : L2.St} {H : Hp} {ta tb : TE} {α : Type} [Enc α] {t : TT} {p : α → Prop} {s : Bool → Prop} (h : EvTN Rl t σ H s) (h1 : EvN Rl ta σ H p) (h2 : EvN Rl tb σ H p) : EvN Rl (tIf t ta tb) σ H p := fun H1 e Q q => h H1 e _ fun b H2 _ e2 => by
  cases b with
  | true => rw [if_pos rfl]; exact h1 H2 (RlOk.trans e e2) Q fun a v H3 pa e3 r => q a v H3 pa (RlOk.trans e2 e3) r
  | false => rw [if_neg (by decide)]; exact h2 H2 (RlOk.trans e e2) Q fun a v H3 pa e3 r => q a v H3 pa (RlOk.trans e2 e3) r
def drawnKinds : List Str := ["turn", "ring", "two", "mirror", "even", "five", "flip", "line"]
theorem dk1 : ∀ k ∈ drawnKinds, (if k = ("line" : Str) then ("turn" : Str) else k) ∈ kinds1 ∨ (if k = ("line" : Str) then ("turn" : Str) else k) ∈ kinds2 := by decide +kernel
theorem dk2 : ∀ k ∈ drawnKinds, k ≠ ("even" : Str) → k ≠ ("five" : Str) → k ≠ ("flip" : Str) → (if k = ("line" : Str) then ("turn" : Str) else k) ∈ kinds1 := by decide +kernel
/-- what the shapes are -/
structure ShapeOk (n : Nat) (ks : List Str) : Prop where
  lo : 2 ≤ n
  hi : n ≤ 12
  len : 1 ≤ ks.length ∧ ks.length ≤ 6
  kind : ∀ k ∈ ks, k ∈ drawnKinds
  six : ∀ k ∈ ks, k = "five" ∨ k = "flip" → n = 6
  ln : ∀ k ∈ ks, k = "line" → n = 5 ∨ n = 7
  one : n ≤ 6 ∨ (n = 7 ∧ ks[0]? = some ("line" : Str)) ∨ (n = 12 ∧ ks[0]? = some ("ring" : Str))
theorem shapes_ok : ∀ q ∈ shapes, ShapeOk q.1 q.2 := by
  have h : ∀ q ∈ shapes, 2 ≤ q.1 ∧ q.1 ≤ 12 ∧ (1 ≤ q.2.length ∧ q.2.length ≤ 6) ∧ (∀ k ∈ q.2, k ∈ drawnKinds) ∧ (∀ k ∈ q.2, k = ("five" : Str) ∨ k = ("flip" : Str) → q.1 = 6) ∧ (∀ k ∈ q.2, k = ("line" : Str) → q.1 = 5 ∨ q.1 = 7) ∧ (q.1 ≤ 6 ∨ (q.1 = 7 ∧ q.2[0]? = some ("line" : Str)) ∨ (q.1 = 12 ∧ q.2[0]? = some ("ring" : Str))) := by decide +kernel
  exact fun q hq => let ⟨a, b, c, d, e, g, f⟩ := h q hq; ⟨a, b, c, d, e, g, f⟩
/-- the images of one kind, before they are carried over -/
structure KindOk (n : Nat) (k : Str) (f : List Nat) : Prop where
  prm : Prm n f
  ring : k = "ring" → f = (List.range n).map fun s => (s + 1) % n
  line : k = "line" → n = 7 → ∃ a c, a < 7 ∧ c < 7 ∧ a ≠ 0 ∧ f = (List.range n).map fun s => (a * s + c) % n
theorem line5' : ∀ a c s t : Fin 5, a.val = 0 ∨ (a.val * s.val + c.val) % 5 ≠ (a.val * t.val + c.val) % 5 ∨ s.val = t.val := by decide +kernel
theorem line5 : ∀ a, a < 5 → ∀ c, c < 5 → a ≠ 0 → ∀ s, s < 5 → ∀ t, t < 5 → (a * s + c) % 5 = (a * t + c) % 5 → s = t := fun a ha c hc h0 s hs t ht e => by
  rcases line5' ⟨a, ha⟩ ⟨c, hc⟩ ⟨s, hs⟩ ⟨t, ht⟩ with h | h | h
  · exact (h0 h).elim
  · exact (h e).elim
  · exact h
theorem line7' : ∀ a c s t : Fin 7, a.val = 0 ∨ (a.val * s.val + c.val) % 7 ≠ (a.val * t.val + c.val) % 7 ∨ s.val = t.val := by decide +kernel
theorem line7 : ∀ a, a < 7 → ∀ c, c < 7 → a ≠ 0 → ∀ s, s < 7 → ∀ t, t < 7 → (a * s + c) % 7 = (a * t + c) % 7 → s = t := fun a ha c hc h0 s hs t ht e => by
  rcases line7' ⟨a, ha⟩ ⟨c, hc⟩ ⟨s, hs⟩ ⟨t, ht⟩ with h | h | h
  · exact (h0 h).elim
  · exact (h e).elim
  · exact h
theorem line_prm {n a c : Nat} (h : n = 5 ∨ n = 7) (ha : a < n) (hc : c < n) (h0 : a ≠ 0) : Prm n ((List.range n).map fun s => (a * s + c) % n) where
  eff := ⟨by rw [List.length_map, List.length_range], fun x hx => by
    obtain ⟨s, _, rfl⟩ := List.mem_map.mp hx
    exact Nat.mod_lt _ (by omega)⟩
  nd := nodup_map_range fun s t hs ht e => by
    rcases h with rfl | rfl
    · exact line5 a ha c hc h0 s hs t ht e
    · exact line7 a ha c hc h0 s hs t ht e
theorem DlM.ofM {S : Addr → Prop} {d c p : Addr} {H H' : Hp} (e : ExM (· = p) H H') (hS : S p) (h1 : p ≠ d) (h2 : p ≠ c) : DlM S d c H H' := ⟨e.mono fun a z => .inr (z ▸ hS), fun ⟨m, cells, k1, k2, k3⟩ => ⟨m, cells, e.1 d _ k1 (.inl fun z => h1 z.symm), e.1 c _ k2 (.inl fun z => h2 z.symm), k3⟩⟩
/-- carried over by places -/
def Moved (n : Nat) (places f mv : List Nat) : Prop := mv.length = n ∧ (∀ x ∈ mv, x < n) ∧ ∀ s, s < n → mv.getD (places.getD s 0) 0 = places.getD (f.getD s 0) 0
theorem Moved.prm {n : Nat} {places f mv : List Nat} (h : Moved n places f mv) (hp : Prm n places) (hf : Prm n f) : Prm n mv := .of ⟨h.1, h.2.1⟩ fun s t hs ht e => by
  obtain ⟨s', h1, rfl⟩ := hp.sur hs
  obtain ⟨t', h2, rfl⟩ := hp.sur ht
  rw [h.2.2 s' h1, h.2.2 t' h2] at e
  rw [hf.inj h1 h2 (hp.inj (hf.eff.lt h1) (hf.eff.lt h2) e)]
theorem getD_map_range {n s : Nat} {g : Nat → Nat} (h : s < n) : ((List.range n).map g).getD s 0 = g s := by
  rw [List.getD_eq_getElem?_getD, List.getElem?_map, List.getElem?_range h]; rfl
theorem first_small {n : Nat} {ks : List Str} (sh : ShapeOk n ks) {places f : List Nat} {d : Deed} {k : Str} (hk : ks[0]? = some k) (hp : Prm n places) (hf : KindOk n k f) (hm : Moved n places f d.2) : Small n [d] := by
  have pm := hm.prm hp hf.prm
  rcases sh.one with h | ⟨rfl, h⟩ | ⟨rfl, h⟩
  · exact single_small pm.eff (by decide) (by decide) (pm.sixty h)
  · rw [hk] at h
    obtain rfl := Option.some.inj h
    obtain ⟨a, c, ha, hc, h0, rfl⟩ := hf.line rfl rfl
    refine single_small pm.eff (by decide) (by decide) (carried (k := 42) (places := places) (g := fun s => (a * s + c) % 7) pm.eff hp (fun s _ => Nat.mod_lt _ (by decide)) (fun s hs => ?_) (affine42 a ha c hc h0))
    rw [hm.2.2 s hs, getD_map_range hs]
  · rw [hk] at h
    obtain rfl := Option.some.inj h
    have e := hf.ring rfl
    subst e
    refine single_small pm.eff (by decide) (by decide) (carried (k := 12) (places := places) (g := fun s => (s + 1) % 12) pm.eff hp (fun s _ => Nat.mod_lt _ (by decide)) (fun s hs => ?_) ring12)
    rw [hm.2.2 s hs, getD_map_range hs]
/-- the deeds so far -/
structure DrawOk (n : Nat) (ds : List Deed) : Prop where
  ok : ∀ d ∈ ds, DeedOk n d ∧ Prm n d.2
  nd : (ds.map (·.1)).Nodup
  one : ∀ d, ds[0]? = some d → Small n [d]
theorem DrawOk.nil {n : Nat} : DrawOk n [] := ⟨fun _ h => (nomatch h), List.nodup_nil, fun _ h => (nomatch h)⟩
theorem DrawOk.snoc {n : Nat} {ds : List Deed} {d : Deed} (h : DrawOk n ds) (h1 : DeedOk n d) (h2 : Prm n d.2) (h3 : d.1 ∉ ds.map (·.1)) (h4 : ds = [] → Small n [d]) : DrawOk n (ds ++ [d]) where
  ok x hx := by
    rcases List.mem_append.mp hx with hx | hx
    · exact h.ok x hx
    · obtain rfl := List.mem_singleton.mp hx; exact ⟨h1, h2⟩
  nd := by
    rw [List.map_append]
    exact List.nodup_append.mpr ⟨h.nd, by simp, fun a ha b hb => by
      obtain rfl : b = d.1 := List.mem_singleton.mp hb
      exact fun e => h3 (e ▸ ha)⟩
  one x hx := by
    cases ds with
    | nil => obtain rfl : d = x := Option.some.inj hx; exact h4 rfl
    | cons y ys => exact h.one x hx
theorem DrawOk.drop {n : Nat} {ds : List Deed} (h : DrawOk n ds) : DrawOk n ds.dropLast where
  ok x hx := h.ok x ((List.dropLast_sublist _).subset hx)
  nd := List.Sublist.nodup ((List.dropLast_sublist _).map _) h.nd
  one x hx := h.one x (by
    match ds, hx with
    | [a, b], hx => exact hx
    | a :: b :: c :: ds, hx => exact hx)
theorem DrawOk.mach {n : Nat} {ds : List Deed} (h : DrawOk n ds) (h2 : 2 ≤ n) (h12 : n ≤ 12) (h1 : 1 ≤ ds.length) (h8 : ds.length ≤ 8) : MachOk n ds := ⟨h2, by omega, fun d hd => (h.ok d hd).1, h.nd, h1, h8⟩
def spDrawn : Sp := fun vs H Q _ => ∃ (d c : Addr), DealAt d c H ∧ vs = [.ref d] ∧ ∀ (n : Nat) (ds : List Deed) (p : Addr) v H2, MachOk n ds → n ≤ 12 → (∀ d ∈ ds, Prm n d.2) → Small n ds → LsAt H2 p ds → p ≠ d → p ≠ c → Dl d c H H2 → Enc.rep (tp H2) v (n, Raw.mk (.ref p)) → Q v H2
theorem spDrawn_len (vs : List V) (H : Hp) (Q : VK) (E : XK) (z : spDrawn vs H Q E) : vs.length = 1 := by obtain ⟨_, _, _, rfl, _⟩ := z; rfl
end B
/-! a machine that is dealt. -/
namespace B
open PySem PySem.Spec PyProof.Rows L2
section
variable {P : Program} {w : World} {K : PySem.W.Frag} {mg : Str → Option Value} {base : Heap}
theorem ixN_nat' {n j : Nat} (hj : j < n) : ixN n (j : Int) = some j := by
  unfold ixN
  rw [if_pos (by omega), if_pos (by omega)]; simp
theorem ok_law_drawn (W : Wd K mg) : Fn P w K mg base 16 "_law_drawn" p_law_drawn spDrawn := by
  refine fn_ok (k := 12) W 40 sc_law_drawn spDrawn_len (fun _ _ _ _ _ _ us hl => match us, hl with | [_], _ => rfl) fun f cdv A outer s H vs Q E hr h => ⟨_, w_law_drawn spEffs spNameD spAnyD spThen spTurn spImages spOfD spShapes W hr (F_law_effects := (ok_law_effects W).mono (by decide)) (F_law_name := (ok_law_name W).mono (by decide)) (F_law_any := (ok_law_any W).mono (by decide)) (F_law_then := (ok_law_then W).mono (by decide)) (F_law_turn := (ok_law_turn W).mono (by decide)) (F_law_images := (ok_law_images W).mono (by decide)) (F_law_of := (ok_law_of W).mono (by decide)) (F_law_shapes := (ok_law_shapes W).mono (by decide)), ?_⟩
  obtain ⟨d, c, hD, rfl, hq⟩ := h
  show tSeq _ _ _ _ _
  refine k_seq (k_nset2 (Rl := Dl d c) (p := fun q : Nat × List Str => q ∈ shapes) (n_imp (n_ofL (p := (· = shapes)) (fun _ e => e.2 hD) (fun _ _ e => e) rfl (nl_ev fun H1 e Q2 q2 => ⟨(), trivial, trivial, fun p ws H2 hn e2 hl r => q2 p ws H2 hn (RlOk.ex e2) hl r⟩) (fun xs h => by rw [h]; exact ⟨by decide, by decide⟩)) fun a ⟨xs, h1, h2⟩ => h1 ▸ h2) fun nk x1 x2 H1 hnk e1 r1 r2 => ?_)
  obtain ⟨n, ks⟩ := nk
  obtain rfl : x1 = .int (n : Nat) := r1
  have sh : ShapeOk n ks := shapes_ok _ hnk
  have hlo := sh.lo
  have hhi := sh.hi
  have r2 : Enc.rep (tp H1) x2 ks := r2
  dsimp only
  refine k_seq ?_
  refine ⟨.ref d, rfl, .int (n : Nat), rfl, d, c, n, e1.2 hD, by omega, rfl, fun places v3 H2 hpl hpn hpm e2 r3 => ⟨by show 0 ≤ sizeLine; exact Nat.zero_le _, fun p4 h4 => ⟨v3, .ref p4, rfl, ?_⟩⟩⟩
  have hP : Prm n places := ⟨⟨hpl, hpm⟩, hpn⟩
  have e02 : Dl d c H H2 := RlOk.trans e1 e2
  obtain ⟨n4d, n4c⟩ := (e02.2 hD).fresh h4
  have h4H : H p4 = none := RlOk.back e02 h4
  have e23 : Ex H2 (upd H2 p4 (.lst [])) := Ex.new h4
  have e03 : Dl d c H (upd H2 p4 (.lst [])) := RlOk.trans e02 (RlOk.ex e23)
  have l4 : LsAt (upd H2 p4 (.lst [])) p4 ([] : List Deed) := ⟨[], upd_same, trivial⟩
  have r3' := up (Rl := Ex) e23 r3
  have r2' : Enc.rep (tp (upd H2 p4 (.lst []))) x2 ks := up (RlOk.trans e2 (RlOk.ex (Rl := Dl d c) e23)) r2
  generalize upd H2 p4 (.lst []) = H3 at e23 e03 l4 r3' r2'
  let S : Addr → Prop := fun a => a = p4
  dsimp only
  refine k_seq (k_for (Rl := DlM S d c) (wz_tup (xs := ks) (e_var rfl r2')) (fun H4 i σ1 H5 => DlM S d c H4 H5 ∧ ∃ (ds : List Deed) (o5 o6 o7 o8 o9 oa ob : Option V), σ1 = [some (.ref d), some (.int (n : Nat)), some x2, some v3, some (.ref p4), o5, o6, o7, o8, o9, oa, ob] ∧ LsAt H5 p4 ds ∧ ds.length = i ∧ DrawOk n ds)
    (fun H4 e4 => ⟨RlOk.refl _, [], _, _, _, _, _, _, _, rfl, l4.mono e4, rfl, DrawOk.nil⟩) (fun _ i σ1 H4 h => h.1) (fun _ i σ1 H4 H5 ⟨a, ds, o5, o6, o7, o8, o9, oa, ob, b, k1, k2⟩ e => ⟨RlOk.trans a (RlOk.ex e), ds, o5, o6, o7, o8, o9, oa, ob, b, k1.mono e, k2⟩) ?_ ?_)
  · rintro H4 e4 i k v _ H5 hk ⟨e5, ds, o5, o6, o7, o8, o9, oa, ob, rfl, k4, hlen, dok⟩ y
    obtain rfl : v = .str k := y
    have hkm := List.mem_of_getElem? hk
    have hkk := sh.kind k hkm
    refine tgt_name ?_
    have eM : DlM S d c H3 H5 := RlOk.trans (RlOk.ex e4) e5
    have e05 : Dl d c H H5 := DlM.out e03 eM fun a z => z ▸ h4H
    have hD5 := e05.2 hD
    have r35 : Enc.rep (tp H5) v3 places := up (RlOk.trans (RlOk.ex (Rl := DlM S d c) e4) e5) r3'
    have k1in : (if k = "line" then ("turn" : Str) else k) ∈ kinds1 ∨ (if k = "line" then ("turn" : Str) else k) ∈ kinds2 := by
      exact dk1 k hkk
    refine k_seq (k_nset (Rl := Dl d c) (p := ImOk n (if k = "line" then ("turn" : Str) else k)) (fun H6 e6 Q2 q2 => ⟨.ref d, rfl, .int (n : Nat), rfl, e_if (Rl := Dl d c) (H := H5) (a := if k = "line" then ("turn" : Str) else k) (b := decide (k = "line")) (et_test (e_op (e_var (a := k) rfl rfl) (e_c (a := ("line" : Str)) fun _ => rfl) rv_eqS)) (fun h => by rw [if_pos (of_decide_eq_true h)]; exact e_c fun _ => rfl) (fun h => by rw [if_neg (of_decide_eq_false h)]; exact e_var rfl rfl) H6 e6 _ fun v H7 e7 r7 => by
      obtain rfl : v = .str _ := r7
      exact ⟨d, c, n, _, (RlOk.trans e6 e7).2 hD5, hlo, by omega, k1in, rfl, fun f v H8 ok e8 r8 => q2 f v H8 ok (RlOk.trans e7 e8) r8⟩⟩) fun f0 v6 H6 im0 e6 r6 => ?_)
    dsimp only
    let St : (List Nat → Prop) → L2.St → Hp → Prop := fun q σ H' => ∃ (f : List Nat) (v6 : V) (o7 o8 : Option V), σ = [some (.ref d), some (.int (n : Nat)), some x2, some v3, some (.ref p4), some (.str k), some v6, o7, o8, o9, oa, ob] ∧ Enc.rep (tp H') v6 f ∧ Dl d c H5 H' ∧ q f
    refine k_seq (k_ifP (Rl := Ex) (St fun f => Eff n f ∧ (k ≠ "five" → k ≠ "flip" → Prm n f) ∧ (k = "ring" → f = (List.range n).map fun s => (s + 1) % n)) (et_test (e_op (e_var (a := k) rfl rfl) (e_c (a := ("even" : Str)) fun _ => rfl) rv_eqS)) (fun hb H7 e7 N hN => ?_) (fun hb H7 e7 => ?_) ?_)
    · have hk' : k = "even" := of_decide_eq_true hb
      have e57 : Dl d c H5 H7 := RlOk.trans e6 (RlOk.ex e7)
      refine k_seq (k_nset (Rl := Dl d c) (p := Prm n) (fun H8 e8 Q2 q2 => ⟨.ref d, rfl, .int (n : Nat), rfl, d, c, n, (RlOk.trans e57 e8).2 hD5, by omega, rfl, fun f v H9 g1 g2 g3 e9 r => q2 f v H9 ⟨⟨g1, g3⟩, g2⟩ e9 r⟩) fun f1 v6 H8 pf1 e8 r8 => ?_)
      dsimp only
      refine k_set (Rl := Ex) (a := thn f1 f1) (e_call (ι := List Nat × List Nat) (res := fun i : List Nat × List Nat => thn i.1 i.2) (f1, f1) (ea_cons (e_var rfl r8) (ea_cons (e_var rfl r8) ea_nil)) fun _ _ => ⟨by show f1.length ≤ _; rw [pf1.eff.1]; omega, fun s hs => by show s < f1.length; rw [pf1.eff.1]; exact pf1.eff.2 s hs⟩) fun v H9 e9 r9 => hN _ _ ⟨thn f1 f1, v, _, _, rfl, r9, RlOk.trans e57 (RlOk.trans e8 (RlOk.ex e9)), (pf1.thn pf1).eff, fun _ _ => pf1.thn pf1, fun z => absurd (hk'.symm.trans z) (by decide +kernel)⟩
    · have hk' : k ≠ "even" := of_decide_eq_false hb
      exact ⟨f0, v6, _, _, rfl, up (Rl := Ex) e7 r6, RlOk.trans e6 (RlOk.ex e7), im0.eff, fun g1 g2 => ⟨im0.eff, im0.nd (dk2 k hkk hk' g1 g2)⟩, fun z => im0.ring (by rw [z]; decide +kernel)⟩
    rintro _ H7 ⟨f1, v6, o7, o8, rfl, r6, e57, q1⟩
    dsimp only
    refine k_seq (k_ifP (Rl := Ex) (St fun f => Eff n f ∧ (k ≠ "flip" → Prm n f) ∧ (k = "ring" → f = (List.range n).map fun s => (s + 1) % n)) (et_test (e_op (e_var (a := k) rfl rfl) (e_c (a := ("five" : Str)) fun _ => rfl) rv_eqS)) (fun hb H8 e8 N hN => ?_) (fun hb H8 e8 => ?_) ?_)
    · have hk' : k = "five" := of_decide_eq_true hb
      obtain rfl : n = 6 := sh.six k hkm (.inl hk')
      refine k_set (Rl := Ex) (a := [1, 2, 3, 4, 0, 5]) (e_tupH (eh_cons (eN 1) (eh_cons (eN 2) (eh_cons (eN 3) (eh_cons (eN 4) (eh_cons (eN 0) (eh_cons (eN 5) eh_nil)))))) (by decide)) fun v H9 e9 r9 => hN _ _ ⟨_, v, _, _, rfl, r9, RlOk.trans e57 (RlOk.ex (e8.trans e9)), ⟨rfl, by decide⟩, fun _ => ⟨⟨rfl, by decide⟩, by decide⟩, fun z => absurd (hk'.symm.trans z) (by decide +kernel)⟩
    · have hk' : k ≠ "five" := of_decide_eq_false hb
      exact ⟨f1, v6, _, _, rfl, up (Rl := Ex) e8 r6, RlOk.trans e57 (RlOk.ex e8), q1.1, q1.2.1 hk', q1.2.2⟩
    rintro _ H8 ⟨f2, v6, o7, o8, rfl, r6, e58, q2⟩
    dsimp only
    refine k_seq (k_ifP (Rl := Ex) (St fun f => Prm n f ∧ (k = "ring" → f = (List.range n).map fun s => (s + 1) % n)) (et_test (e_op (e_var (a := k) rfl rfl) (e_c (a := ("flip" : Str)) fun _ => rfl) rv_eqS)) (fun hb H9 e9 N hN => ?_) (fun hb H9 e9 => ?_) ?_)
    · have hk' : k = "flip" := of_decide_eq_true hb
      obtain rfl : n = 6 := sh.six k hkm (.inr hk')
      have e59 : Dl d c H5 H9 := RlOk.trans e58 (RlOk.ex e9)
      refine k_nset (Rl := Dl d c) (p := fun f => Prm 6 f) (n_if (nt_test (n_op (f := fun a b => decide (a = b)) (n_any' (b := 3) (fun _ _ e => e) (fun _ e => (RlOk.trans e59 e).2 hD5) rfl (eN 3) (by decide) (by decide)) (n_ev (eN 0)) fun a b _ _ => rv_eqN)) (n_imp (n_ev (e_tupH (eh_cons (eN 4) (eh_cons (eN 2) (eh_cons (eN 1) (eh_cons (eN 3) (eh_cons (eN 0) (eh_cons (eN 5) eh_nil)))))) (by decide))) fun a ha => ha ▸ ⟨⟨rfl, by decide⟩, by decide⟩) (n_imp (n_ev (e_tupH (eh_cons (eN 5) (eh_cons (eN 4) (eh_cons (eN 2) (eh_cons (eN 3) (eh_cons (eN 1) (eh_cons (eN 0) eh_nil)))))) (by decide))) fun a ha => ha ▸ ⟨⟨rfl, by decide⟩, by decide⟩)) fun f v HA pf eA rA => hN _ _ ⟨f, v, _, _, rfl, rA, RlOk.trans e59 eA, pf, fun z => absurd (hk'.symm.trans z) (by decide +kernel)⟩
    · have hk' : k ≠ "flip" := of_decide_eq_false hb
      exact ⟨f2, v6, _, _, rfl, up (Rl := Ex) e9 r6, RlOk.trans e58 (RlOk.ex e9), q2.2.1 hk', q2.2.2⟩
    rintro _ H9 ⟨f3, v6, o7, o8, rfl, r6, e59, q3⟩
    dsimp only
    refine k_seq (k_ifP (Rl := Ex) (St (KindOk n k)) (et_test (e_op (e_var (a := k) rfl rfl) (e_c (a := ("line" : Str)) fun _ => rfl) rv_eqS)) (fun hb HA eA N hN => ?_) (fun hb HA eA => ?_) ?_)
    · have hk' : k = "line" := of_decide_eq_true hb
      have hln := sh.ln k hkm hk'
      have e5A : Dl d c H5 HA := RlOk.trans e59 (RlOk.ex eA)
      refine k_seq (k_nset (Rl := Dl d c) (p := fun a => 1 ≤ a ∧ a < n) (n_imp (n_op (f := fun a b => a + b) (n_ev (eN 1)) (n_any' (b := n - 1) (fun _ _ e => e) (fun _ e => (RlOk.trans e5A e).2 hD5) rfl (e_subN (e_var (a := n) rfl rfl) (eN 1) (by omega)) (by omega) (by omega)) fun a b _ _ => rv_addN) (by
        rintro r ⟨a, b, rfl, hb, rfl⟩
        omega)) fun a va HB ha eB rB => ?_)
      obtain rfl : va = .int (a : Nat) := rB
      have e5B : Dl d c H5 HB := RlOk.trans e5A eB
      have r6B : Enc.rep (tp HB) v6 f3 := up (RlOk.trans (RlOk.ex (Rl := Dl d c) eA) eB) r6
      have hc0 : f3.getD 0 0 < n := q3.1.eff.lt (by omega)
      dsimp only
      refine k_set (Rl := Ex) (a := (List.range n).map fun s => (a * s + f3.getD 0 0) % n) (e_tupleNew (e_lcM (fun s => (a * s + f3.getD 0 0) % n) fr_ex (ws_rg1 (n := n) (ea_cons (e_var rfl rfl) ea_nil) (by omega)) (by rw [List.length_range]; omega) fun x v H1 hx e1 y => ?_)) fun v HC eC rC => hN _ _ ⟨_, v, _, _, rfl, rC, RlOk.trans e5B (RlOk.ex eC), line_prm hln ha.2 hc0 (by omega), fun z => absurd (hk'.symm.trans z) (by decide +kernel), fun _ h7 => ⟨a, f3.getD 0 0, by omega, by omega, by omega, rfl⟩⟩
      obtain rfl : v = .int (x : Nat) := y
      exact e_modN (e_int1 (e_addN (e_mulN (e_var (a := a) rfl rfl) (e_var (a := x) rfl rfl) (.inl (by omega))) (e_ixT (e_var rfl (up (Rl := Ex) e1 r6B)) (eN 0) (q3.1.eff.at (by omega))))) (e_var (a := n) rfl rfl) (by omega)
    · have hk' : k ≠ "line" := of_decide_eq_false hb
      exact ⟨f3, v6, _, _, rfl, up (Rl := Ex) eA r6, RlOk.trans e59 (RlOk.ex eA), q3.1, q3.2, fun z => (hk' z).elim⟩
    rintro _ HA ⟨f4, v6, o7, o8, rfl, r6, e5A, q4⟩
    have e0A : Dl d c H HA := RlOk.trans e05 e5A
    have r3A : Enc.rep (tp HA) v3 places := up e5A r35
    have hnn : n ≤ 1000000 := by omega
    dsimp only
    refine k_seq (k_setL (Rl := Ex) (xs := List.replicate n 0) (e_rep1 (eN 0) (e_var rfl rfl) hnn fr_ex) fun p9 vs9 HB n9 eB hl9 r9 => ?_)
    have l9 : LsAt HB p9 (List.replicate n 0) := ⟨_, hl9, r9⟩
    dsimp only
    refine k_seq (k_for (Rl := ExM (· = p9)) (wz_rg1 (n := n) (ea_cons (e_var rfl rfl) ea_nil) hnn) (fun HC i σ1 HD => ExM (· = p9) HC HD ∧ ∃ (mv : List Nat) (o8 : Option V), σ1 = [some (.ref d), some (.int (n : Nat)), some x2, some v3, some (.ref p4), some (.str k), some v6, o7, o8, some (.ref p9), oa, ob] ∧ LsAt HD p9 mv ∧ mv.length = n ∧ (∀ x ∈ mv, x < n) ∧ ∀ j, j < i → mv.getD (places.getD j 0) 0 = places.getD (f4.getD j 0) 0)
      (fun HC eC => ⟨RlOk.refl _, _, _, rfl, l9.mono eC, List.length_replicate, fun x hx => by rw [List.eq_of_mem_replicate hx]; omega, fun j hj => absurd hj (by omega)⟩) (fun _ i σ1 H4 h => h.1) (fun _ i σ1 H4 H5 ⟨a, mv, o8, b, k1, k2⟩ e => ⟨RlOk.trans a (RlOk.ex e), mv, o8, b, k1.mono e, k2⟩) ?_ ?_)
    · rintro HC eC j y v _ HD hy ⟨eD, mv, o8, rfl, km, mlen, mlt, mj⟩ rfl
      obtain rfl := range_at hy
      have hyn : y < n := by have := (List.getElem?_eq_some_iff.mp hy).1; rw [List.length_range] at this; exact this
      refine tgt_name ?_
      have eAD : ExM (· = p9) HA HD := RlOk.trans (RlOk.ex (eB.trans eC)) eD
      have r3D : Enc.rep (tp HD) v3 places := up eAD r3A
      have r6D : Enc.rep (tp HD) v6 f4 := up eAD r6
      refine e_ixT (Rl := Ex) (K := K) (H := HD) (i := f4.getD y 0) (x := places.getD (f4.getD y 0) 0) (e_var rfl r3D) (e_ixT (e_var rfl r6D) (e_var (a := y) rfl rfl) (q4.prm.eff.at hyn)) (hP.eff.at (q4.prm.eff.lt hyn)) HD (Ex.refl _) _ fun x HE eE rE => ?_
      refine ⟨.ref p9, rfl, ?_⟩
      refine e_ixT (Rl := Ex) (K := K) (H := HE) (i := y) (x := places.getD y 0) (e_var rfl (up (Rl := Ex) eE r3D)) (e_var (a := y) rfl rfl) (hP.eff.at hyn) HE (Ex.refl _) _ fun z HF eF rF => ?_
      obtain rfl : z = .int (places.getD y 0 : Nat) := rF
      obtain rfl : x = .int (places.getD (f4.getD y 0) 0 : Nat) := rE
      obtain ⟨ws, w1, w2⟩ := km.mono (eE.trans eF)
      have hwl := w2.length
      have hpy : places.getD y 0 < n := hP.eff.lt hyn
      refine ⟨p9, ws, _, places.getD y 0, rfl, rfl, w1, ixN_nat' (by omega), ?_⟩
      have wint := RepA.ints.mp w2
      refine ⟨RlOk.trans eD (ExM.mut (RlOk.ex (eE.trans eF)) w1 (fun z => z) rfl), mv.set (places.getD y 0) (places.getD (f4.getD y 0) 0), _, rfl, ⟨_, upd_same, RepA.ints.mpr (by rw [wint, List.map_set])⟩, by rw [List.length_set, mlen], fun x hx => ?_, fun j hj => ?_⟩
      · rcases List.mem_or_eq_of_mem_set hx with h | rfl
        · exact mlt x h
        · exact hP.eff.lt (q4.prm.eff.lt hyn)
      · rw [List.getD_eq_getElem?_getD]
        by_cases hjy : j = y
        · subst hjy
          rw [List.getElem?_set_self (by omega)]; rfl
        · have hjn : j < n := by omega
          rw [List.getElem?_set_ne (fun e => hjy (hP.inj hyn hjn e).symm), ← List.getD_eq_getElem?_getD]
          exact mj j (by omega)
    rintro HC eC _ HD ⟨eD, mv, o8, rfl, km, mlen, mlt, mj⟩
    rw [List.length_range] at mj
    have mvd : Moved n places f4 mv := ⟨mlen, mlt, mj⟩
    have exAD : Ex HA HD := ExM.out (eB.trans eC) eD fun a z => z ▸ n9
    have e0D : Dl d c H HD := RlOk.trans e0A (RlOk.ex exAD)
    have hDD := e0D.2 hD
    have e5D : Dl d c H5 HD := RlOk.trans e5A (RlOk.ex exAD)
    have k4D : LsAt HD p4 ds := Dl.lsAt e5D k4 n4d n4c
    obtain ⟨us, u1, u2⟩ := k4D
    have k4D : LsAt HD p4 ds := ⟨us, u1, u2⟩
    have hds6 : ds.length < 6 := by
      have := (List.getElem?_eq_some_iff.mp hk).1
      have := sh.len.2
      omega
    obtain ⟨n9d, n9c⟩ := (e0A.2 hD).fresh n9
    dsimp only
    refine ⟨.ref p4, rfl, .inl ⟨rfl, us, SqL.of u1⟩, ?_⟩
    refine n_pair (Rl := Dl d c) (H := HD) (α := Str) (β := List Nat) (p := fun z => NameOk z ∧ z ∉ ds.map (·.1)) (q := fun g => g = mv) (fun H1 e Q2 q2 => ?_) (n_ev (e_tupleLs (e_var rfl rfl) (Dl.ls km n9d n9c))) HD (RlOk.refl _) _ fun nm v HE hnm eE rE => ?_
    · refine ⟨.ref d, rfl, ?_⟩
      refine (el_is (xs' := ds.map (·.1)) (e_lc2 (Rl := Dl d c) (K := K) (H := HD) (fun _ : Deed => true) (fun q : Deed => q.1) (Dl.fr hDD) (ws_ls (e_var rfl rfl) (Dl.ls k4D n4d n4c)) (by omega) (by decide) fun q va vb H8 hq8 e8 ra rb => ⟨et_yes, fun _ => e_var rfl ra⟩) (by rw [List.filter_eq_self.mpr fun _ _ => rfl])) H1 e _ fun p ws H2 hn e2 hl r => ?_
      obtain ⟨pd, pc⟩ := (e.2 hDD).fresh hn
      exact ⟨d, c, p, ds.map (·.1), (RlOk.trans e e2).2 hDD, ⟨ws, hl, r⟩, pd, pc, by rw [List.length_map]; omega, rfl, fun z H3 zok znot e3 => q2 z _ H3 ⟨zok, znot⟩ (RlOk.trans e2 e3) rfl⟩
    · obtain ⟨⟨nok, nnot⟩, hmv⟩ := hnm
      obtain ⟨us', u1', u2'⟩ := Dl.lsAt eE k4D n4d n4c
      refine ⟨p4, us', v, rfl, rfl, u1', by have := u2'.length; exact szl (by omega), ?_⟩
      have t7 := tp_upd (o := .lst (us' ++ [v])) u1' (fun z => z)
      have mprm : Prm n nm.2 := by rw [hmv]; exact mvd.prm hP q4.prm
      refine ⟨RlOk.trans e5 (RlOk.trans (Dl.m e5D) (RlOk.trans (Dl.m eE) (DlM.mut (RlOk.refl _) u1' (fun z => z) rfl n4d n4c))), ds ++ [nm], _, _, _, _, _, _, _, rfl, ⟨_, upd_same, RepA.snoc (RepA.mono t7 u2') (Enc.mono t7 rE)⟩, by rw [List.length_append, hlen]; rfl, dok.snoc ⟨nok, mprm.eff⟩ mprm nnot fun hnil => ?_⟩
      have hi0 : i = 0 := by rw [← hlen, hnil]; rfl
      subst hi0
      exact first_small sh hk hP q4 (by rw [hmv]; exact mvd)
  · rintro H4 e4 _ H5 ⟨e5, ds, o5, o6, o7, o8, o9, oa, ob, rfl, k4, hlen, dok⟩
    have hlen1 : 1 ≤ ds.length ∧ ds.length ≤ 6 := by rw [hlen]; exact sh.len
    dsimp only
    have e05M : DlM S d c H3 H5 := RlOk.trans (RlOk.ex e4) e5
    refine k_seq (k_whileN (Rl := Ex) (fun m σ1 H6 => DlM S d c H3 H6 ∧ ∃ (ds : List Deed), m = ds.length ∧ σ1 = [some (.ref d), some (.int (n : Nat)), some x2, some v3, some (.ref p4), o5, o6, o7, o8, o9, oa, ob] ∧ LsAt H6 p4 ds ∧ 1 ≤ ds.length ∧ ds.length ≤ 6 ∧ DrawOk n ds) ⟨_, e05M, ds, rfl, rfl, k4, hlen1.1, hlen1.2, dok⟩ ?_)
    rintro m _ H6 ⟨e6, ds, rfl, rfl, k4, h1, h6, dok⟩
    have mok : MachOk n ds := dok.mach hlo hhi h1 (by omega)
    refine ⟨fun b => (b = true → 1 < ds.length) ∧ (b = false → Small n ds), ?_, fun hp H7 e7 => ?_, fun hp H7 e7 => ?_⟩
    · intro H7 e7 Q2 q2
      refine nt_and (Rl := Ex) (H := H6) (nt_ev (et_test (e_op (e_lenLs (e_var rfl rfl) k4.ls) (eN 1) rv_gtN))) (q := fun b => b = false → Small n ds) (fun hb => ?_) H7 e7 Q2 fun b H8 hb e8 => q2 b H8 ⟨fun hbt => ?_, fun hbf => ?_⟩ e8
      · intro H8 e8 Q3 q3
        refine ⟨.int (n : Nat), rfl, .ref p4, rfl, (n, ds, p4, 60), ⟨mok, rfl, k4.mono e8⟩, ⟨rfl, rfl, rfl, trivial⟩, fun p7 ws L H9 hn9 e9 hL hl9 r9 => ?_⟩
        refine .inl ⟨p7, ws, rfl, .inl (SqL.of hl9), ?_⟩
        refine rv_gtN (Rl := Ex) (a := ws.length) (b := 60) (H := H9) _ _ H9 (Ex.refl _) rfl rfl _ fun v HA eA rA => ?_
        obtain rfl : v = .bl (decide (60 < ws.length)) := rA
        have hwl := r9.length
        refine ⟨_, rfl, q3 _ HA (fun hbf => ?_) (e9.trans eA)⟩
        have : ¬ 60 < ws.length := of_decide_eq_false hbf
        exact (hL (by omega)).small (by omega)
      · rcases hb with ⟨rfl, _⟩ | ⟨h, _⟩
        · cases hbt
        · exact of_decide_eq_true h.symm
      · rcases hb with ⟨_, h⟩ | ⟨_, h⟩
        · have : ¬ 1 < ds.length := of_decide_eq_false h.symm
          match ds, dok, h1, this with
          | [d0], dok, _, _ => exact dok.one d0 rfl
          | d0 :: d1 :: ds, _, _, this => exact (this (by rw [List.length_cons, List.length_cons]; omega)).elim
        · exact h hbf
    · have k7 := k4.mono e7
      dsimp only
      have e07 : Dl d c H H7 := RlOk.trans (DlM.out e03 e6 fun a z => z ▸ h4H) (RlOk.ex e7)
      refine k_ret (Rl := Ex) (a := (n, Raw.mk (.ref p4))) (e_pair (e_var rfl rfl) (e_var rfl rfl)) fun v H8 e8 r8 => hq n ds p4 v H8 mok hhi (fun d hd => (dok.ok d hd).2) (hp.2 rfl) (k7.mono e8) n4d n4c (RlOk.trans e07 (RlOk.ex e8)) r8
    · have k7 := k4.mono e7
      have hlt := hp.1 rfl
      obtain ⟨x, hx⟩ : ∃ x, ds[ds.length - 1]? = some x := ⟨_, List.getElem?_eq_getElem (by omega)⟩
      refine popAny (j := 4) rfl k7 hx fun v H8 rv k8 e8 => ?_
      refine ⟨ds.dropLast.length, by rw [List.length_dropLast]; omega, RlOk.trans e6 (RlOk.trans (RlOk.ex e7) (DlM.ofM e8 rfl n4d n4c)), ds.dropLast, rfl, rfl, k8, by rw [List.length_dropLast]; omega, by rw [List.length_dropLast]; omega, dok.drop⟩
end
end B
/-! sorted, list(..) of what is told. -/
namespace B
open PySem PySem.Spec PyProof.Rows L2
section
variable {K : PySem.W.Frag} {σ : L2.St} {H : Hp} {te : TE} {xs ys : List Nat} {α : Type} [Enc α] {zs : List α}
theorem e_sortedN (h : EvL Ex te σ H xs) (hp : ys.Perm xs) (hs : ys.Pairwise (· ≤ ·)) : EvL Ex (tCB (rSortedI K) (tCons te tNil)) σ H ys := fun H1 e Q q => h H1 e _ fun p vs H2 hn e2 hl r => by
  have hv := RepA.ints.mp r
  subst hv
  refine ⟨p, xs.map fun (n : Nat) => (n : Int), rfl, SqL.of (by rw [List.map_map]; exact hl), fun ns' a h1 h2 ha => ?_⟩
  have e3 : ns' = ys.map fun (n : Nat) => (n : Int) := by
    refine List.Perm.eq_of_pairwise (le := (· ≤ ·)) (fun a b _ _ h1 h2 => Int.le_antisymm h1 h2) h2 (List.pairwise_map.mpr (hs.imp fun h => by omega)) (h1.trans (hp.map _).symm)
  rw [e3, List.map_map]
  exact q a _ _ (RlOk.back (Rl := Ex) e2 ha) (e2.trans (Ex.new ha)) upd_same (RepA.ints.mpr rfl)
theorem e_listT (h : Ev Ex te σ H zs) : EvL Ex (tCB (rListOf K) (tCons te tNil)) σ H zs := fun H1 e Q q => h H1 e _ fun v H2 e2 r => by
  obtain ⟨a, vs, rfl, ha, rr⟩ := r
  refine ⟨a, vs, rfl, .inr (SqT.of ha), fun l hl => ?_⟩
  exact q l vs _ (RlOk.back (Rl := Ex) e2 hl) (e2.trans (Ex.new hl)) upd_same (upA (Rl := Ex) (Ex.new hl) rr)
end
end B
/-! _law_right: the first two loops. -/
namespace B
open PySem PySem.Spec PyProof.Rows L2
section
variable {Rl : Hp → Hp → Prop} [RlOk Rl] {K : PySem.W.Frag} {σ : L2.St} {H H' : Hp} {ta tb te : TE} {D : Ends}
/-- x not in a tuple of data -/
theorem rv_ninT {α : Type} [DecidableEq α] [EncD α] {a : α} {xs : List α} (ha : EncD.ok a) (hx : ∀ x ∈ xs, EncD.ok x) (hd : EncD.dep α < 64) : RV Rl (rNinU K) (mp a) (mp xs) H (mp (!decide (a ∈ xs))) := rv_right (rv_right (rv_left fun x y H1 _ hx1 hy Q q =>
  ⟨EncD.py a, xs.map EncD.py, EncD.dp (toSq hx1), EncD.dp (x := xs) (toSq hy), shp ha (by omega), shp (x := xs) hx (by show EncD.dep α + 1 ≤ 64; omega), q _ H1 (RlOk.refl H1) (by
    show V.bl (!_) = V.bl (!_)
    congr 2
    rw [List.any_map, Bool.eq_iff_iff, List.any_eq_true, decide_eq_true_eq]
    constructor
    · rintro ⟨z, hz, e⟩
      have e : PyData.eqv (EncD.py z) (EncD.py a) = true := e
      rw [EncD.eqv, decide_eq_true_eq] at e
      exact e ▸ hz
    · intro h
      exact ⟨a, h, by show PyData.eqv (EncD.py a) (EncD.py a) = true; rw [EncD.eqv, decide_eq_true rfl]⟩)⟩))
theorem ninF {α : Type} [DecidableEq α] {a : α} {xs : List α} (h : a ∈ xs) : (!decide (a ∈ xs)) = false := by rw [decide_eq_true h]; rfl
theorem MachAt.dl {d c p : Addr} {n : Nat} {ds : List Deed} (h : MachAt K H p n ds) (hD : DealAt d c H) (e : Dl d c H H') : MachAt K H' p n ds := ((h.msM hD.lst).mono e.1).at
end
section
variable {K : PySem.W.Frag} {σ : L2.St} {H : Hp} {D : Ends}
/-- the states that go with s -/
noncomputable def same (n : Nat) (ds : List Deed) (s : Nat) : List Nat := (List.range n).filter fun o => decide (o ∈ vouch n ds [s]) && decide (s ∈ vouch n ds [o])
theorem mem_same {n : Nat} {ds : List Deed} {s o : Nat} : o ∈ same n ds s ↔ o < n ∧ Mut2 n ds s o := by
  unfold same
  rw [List.mem_filter, List.mem_range, Bool.and_eq_true, decide_eq_true_eq, decide_eq_true_eq]
  exact Iff.rfl
theorem same_group {n : Nat} {ds : List Deed} {g : List Nat} (hg : GroupOk n ds g) {s : Nat} (hs : s < n) : ((List.range n).filter fun o => decide (g.getD o 0 = g.getD s 0)) = same n ds s := by
  unfold same
  refine List.filter_congr fun o ho => ?_
  have ho := List.mem_range.mp ho
  rw [← Bool.decide_and]
  refine decide_eq_decide.mpr ((hg.2 o s ho hs).trans ?_)
  exact ⟨fun h => ⟨h.2, h.1⟩, fun h => ⟨h.2, h.1⟩⟩
theorem same_len {n : Nat} {ds : List Deed} {s : Nat} : (same n ds s).length ≤ n := by
  have := List.length_filter_le (fun o => decide (o ∈ vouch n ds [s]) && decide (s ∈ vouch n ds [o])) (List.range n)
  rwa [List.length_range] at this
def tLr1i (K : PySem.W.Frag) : TS := (tFor (iList K (tVar 2)) (gTup K 2 (gCons (gName 3) (gCons (gName 4) gNil))) (tSeq (tAsg (tCB (rSortedI K) (tCons (tLc (iTup K (tOp (rIxU K) (tVar 9) (tVar 8))) (gName 10) tYes (tOp (rIxU K) (tVar 4) (tVar 10)) [10]) tNil)) (gName 12))
  (tIfS (tOr (tTest (tOp (rNeU K) (tVar 12) (tCB (rListOf K) (tCons (tOp (rIxU K) (tVar 9) (tOp (rIxU K) (tVar 4) (tVar 8))) tNil)))) (tB (tCB (rAny K) (tCons (tLc (iList K (tVar 11)) (gName 10) tYes (tOp (rNeU K) (tOp (rIxU K) (tVar 7) (tOp (rIxU K) (tVar 4) (tVar 10))) (tOp (rIxU K) (tVar 7) (tOp (rIxU K) (tVar 4) (tVar 8)))) [10]) tNil)))) (tRet (tC (.bl false))) tNext)))
def tLr1 (K : PySem.W.Frag) : TS := (tFor (iRng1 (tCons (tVar 1) tNil)) (gName 8) (tSeq (tAsg (tLc (iRng1 (tCons (tVar 1) tNil)) (gName 10) (tAnd (tTest (tOp (rInU K) (tVar 10) (tOp (rIxU K) (tVar 9) (tVar 8)))) (tTest (tOp (rInU K) (tVar 8) (tOp (rIxU K) (tVar 9) (tVar 10))))) (tVar 10) [10]) (gName 11))
  (tSeq (tIfS (tOr (tTest (tOp (rNinU K) (tVar 8) (tOp (rIxU K) (tVar 9) (tVar 8)))) (tTest (tOp (rNeU K) (tVar 11) (tLc (iRng1 (tCons (tVar 1) tNil)) (gName 10) (tTest (tOp (rEqU K) (tOp (rIxU K) (tVar 7) (tVar 10)) (tOp (rIxU K) (tVar 7) (tVar 8)))) (tVar 10) [10])))) (tRet (tC (.bl false))) tNext)
  (tLr1i K))))
def tLr2 (K : PySem.W.Frag) : TS := (tFor (iTup K (tVar 13)) (gName 14) (tFor (iList K (tVar 2)) (gTup K 2 (gCons (gName 3) (gCons (gName 4) gNil))) (tIfS (tTest (tOp (rNinU K) (tThen (tCB (rSortedI K) (tCons (tLc (iTup K (tVar 14)) (gName 8) tYes (tOp (rIxU K) (tVar 4) (tVar 8)) [8]) tNil)) (kTup K)) (tVar 13))) (tRet (tC (.bl false))) tNext)))
variable {n s : Nat} {ds : List Deed} {g : List Nat} {p p9 p11 : Addr} {v7 v13 : V} {a0 a5 a6 a7 a9 a10 a11 a12 o3 o4 o8 o10 o11 o12 o14 : Option V} {rest : L2.St} {lots : List (List Nat)}
theorem lr1i (R : Rt n ds) (hs : s < n) (hp : LsAt H p ds) (h9 : LsAt H p9 (al n ds)) (r7 : Enc.rep (tp H) v7 g) (hg : GroupOk n ds g) (h11 : LsAt H p11 (same n ds s))
    (hσ : σ = a0 :: some (.int (n : Nat)) :: some (.ref p) :: o3 :: o4 :: a5 :: a6 :: some v7 :: some (.int (s : Nat)) :: some (.ref p9) :: o10 :: some (.ref p11) :: o12 :: rest)
    (k : ∀ H2 o3 o4 o12, Ex H H2 → D.nx (a0 :: some (.int (n : Nat)) :: some (.ref p) :: o3 :: o4 :: a5 :: a6 :: some v7 :: some (.int (s : Nat)) :: some (.ref p9) :: o10 :: some (.ref p11) :: o12 :: rest) H2) : tLr1i K D σ H := by
  subst hσ
  have h49 := R.ok.hi
  have n8 := R.ok.most
  refine k_for (Rl := Ex) (wz_ls (xs := ds) (e_var rfl rfl) hp.ls) (fun H3 i σ1 H4 => Ex H3 H4 ∧ ∃ o3 o4 o12, σ1 = a0 :: some (.int (n : Nat)) :: some (.ref p) :: o3 :: o4 :: a5 :: a6 :: some v7 :: some (.int (s : Nat)) :: some (.ref p9) :: o10 :: some (.ref p11) :: o12 :: rest)
    (fun H3 e3 => ⟨Ex.refl _, _, _, _, rfl⟩) (fun _ i σ1 H4 h => h.1) (fun _ i σ1 H4 H5 ⟨a, b⟩ e => ⟨a.trans e, b⟩) ?_ ?_
  · rintro H3 e3 i x v _ H4 hx ⟨e4, o3, o4, o12, rfl⟩ y
    have hm : x ∈ ds := List.mem_of_getElem? hx
    have pm : Prm n x.2 := R.pm x hm
    have hh : Gen n ds x.2 := Gen.deed R.pm hm
    have hled := led_perm R.pm R.sm hh (st := [s]) (fun t ht => by obtain rfl := List.mem_singleton.mp ht; exact hs)
    have e04 := e3.trans e4
    have hxs : x.2.getD s 0 < n := pm.eff.lt hs
    refine tgt_pair y fun v3 v4 r3 r4 => ?_
    have r4 : Enc.rep (tp H4) v4 x.2 := r4
    have h94 := h9.mono e04
    refine k_seq (k_setL (Rl := Ex) (xs := vouch n ds [x.2.getD s 0]) (e_sortedN (xs := (vouch n ds [s]).map fun o => x.2.getD o 0) (e_lcM (fun o => x.2.getD o 0) fr_ex (ws_tup (xs := vouch n ds [s]) (e_ixLs (e_var rfl rfl) h94.ls (e_var (a := s) rfl rfl) (al_at hs))) (by have := vouch_inc (n := n) (ds := ds) (st := [s]) |>.short; omega) fun o vo H5 ho e5 yo => e_ixT (e_var rfl (up (Rl := Ex) e5 r4)) (e_var rfl yo) (pm.eff.at (mem_al.mp ho).1)) hled vouch_inc.le) fun p12 vs H5 hn5 e5 hl5 r5 => ?_)
    have l12 : LsAt H5 p12 (vouch n ds [x.2.getD s 0]) := ⟨vs, hl5, r5⟩
    have r45 := up (Rl := Ex) e5 r4
    have h95 := h94.mono e5
    have r75 := up (Rl := Ex) (e04.trans e5) r7
    have h115 := h11.mono (e04.trans e5)
    dsimp only
    refine k_ifN (Rl := Ex) (et_orF (et_is (et_test (e_neL (xs := vouch n ds [x.2.getD s 0]) (ys := vouch n ds [x.2.getD s 0]) (e_var rfl rfl) l12.ls (e_listT (e_ixLs (e_var rfl rfl) h95.ls (e_ixT (e_var rfl r45) (e_var (a := s) rfl rfl) (pm.eff.at hs)) (al_at hxs))) (fun _ _ => trivial) (fun _ _ => trivial) (by decide))) (by rw [decide_eq_true rfl]; rfl))
      (et_is (et_B (e_any (bs := (same n ds s).map fun o => !decide (g.getD (x.2.getD o 0) 0 = g.getD (x.2.getD s 0) 0)) (e_lcM (fun o => !decide (g.getD (x.2.getD o 0) 0 = g.getD (x.2.getD s 0) 0)) fr_ex (ws_ls (e_var rfl rfl) h115.ls) (by have := same_len (n := n) (ds := ds) (s := s); omega) fun o vo H6 ho e6 yo => ?_))) ?_)) fun H6 e6 => ⟨e4.trans (e5.trans e6), _, _, _, rfl⟩
    · have ho := (mem_same.mp ho).1
      exact e_op (e_ixT (e_var rfl (up (Rl := Ex) e6 r75)) (e_ixT (e_var rfl (up (Rl := Ex) e6 r45)) (e_var rfl yo) (pm.eff.at ho)) (getD_at (by have := pm.eff.lt ho; have := hg.1; omega))) (e_ixT (e_var rfl (up (Rl := Ex) e6 r75)) (e_ixT (e_var rfl (up (Rl := Ex) e6 r45)) (e_var (a := s) rfl rfl) (pm.eff.at hs)) (getD_at (by have := hg.1; omega))) rv_neN
    · rw [List.any_map, List.any_eq_false]
      intro o ho
      obtain ⟨h1, h2⟩ := mem_same.mp ho
      have : g.getD (x.2.getD o 0) 0 = g.getD (x.2.getD s 0) 0 := (hg.2 _ _ (pm.eff.lt h1) hxs).mpr ((mut_over R.pm R.sm hh h1 hs).mpr h2.symm)
      show ¬ (!decide _) = true
      rw [decide_eq_true this]
      decide
  · rintro H3 e3 _ H4 ⟨e4, o3, o4, o12, rfl⟩
    exact k _ _ _ _ (e3.trans e4)
theorem lr1 (R : Rt n ds) (hp : LsAt H p ds) (h9 : LsAt H p9 (al n ds)) (r7 : Enc.rep (tp H) v7 g) (hg : GroupOk n ds g)
    (hσ : σ = a0 :: some (.int (n : Nat)) :: some (.ref p) :: o3 :: o4 :: a5 :: a6 :: some v7 :: o8 :: some (.ref p9) :: o10 :: o11 :: o12 :: rest)
    (k : ∀ H2 o3 o4 o8 o11 o12, Ex H H2 → D.nx (a0 :: some (.int (n : Nat)) :: some (.ref p) :: o3 :: o4 :: a5 :: a6 :: some v7 :: o8 :: some (.ref p9) :: o10 :: o11 :: o12 :: rest) H2) : tLr1 K D σ H := by
  subst hσ
  have h49 := R.ok.hi
  have hn : n ≤ 1000000 := by omega
  refine k_for (Rl := Ex) (wz_rg1 (n := n) (ea_cons (e_var rfl rfl) ea_nil) hn) (fun H3 i σ1 H4 => Ex H3 H4 ∧ ∃ o3 o4 o8 o11 o12, σ1 = a0 :: some (.int (n : Nat)) :: some (.ref p) :: o3 :: o4 :: a5 :: a6 :: some v7 :: o8 :: some (.ref p9) :: o10 :: o11 :: o12 :: rest)
    (fun H3 e3 => ⟨Ex.refl _, _, _, _, _, _, rfl⟩) (fun _ i σ1 H4 h => h.1) (fun _ i σ1 H4 H5 ⟨a, b⟩ e => ⟨a.trans e, b⟩) ?_ ?_
  · rintro H3 e3 i s v _ H4 hx ⟨e4, o3, o4, o8, o11, o12, rfl⟩ rfl
    have hs : s < n := List.mem_range.mp (List.mem_of_getElem? hx)
    have e04 := e3.trans e4
    have h94 := h9.mono e04
    have r74 := up (Rl := Ex) e04 r7
    refine tgt_name ?_
    refine k_seq (k_setL (Rl := Ex) (xs := same n ds s) (e_lcF (fun o => decide (o ∈ vouch n ds [s]) && decide (s ∈ vouch n ds [o])) fr_ex (ws_rg1 (n := n) (ea_cons (e_var rfl rfl) ea_nil) hn) (by rw [List.length_range]; exact hn) (by show 10 < _; simp only [List.set_cons_succ, List.set_cons_zero, List.length_cons]; omega) (fun _ _ _ h => h) fun o vo H5 ho e5 yo => ?_) fun p11 vs H5 hn5 e5 hl5 r5 => ?_)
    · have ho := List.mem_range.mp ho
      have h95 := h94.mono e5
      exact et_and (et_test (e_op (e_var (a := o) rfl yo) (e_ixLs (e_var rfl rfl) h95.ls (e_var (a := s) rfl rfl) (al_at hs)) rv_inN)) fun _ => et_test (e_op (e_var (a := s) rfl rfl) (e_ixLs (e_var rfl rfl) h95.ls (e_var (a := o) rfl yo) (al_at ho)) rv_inN)
    have l11 : LsAt H5 p11 (same n ds s) := ⟨vs, hl5, r5⟩
    have h95 := h94.mono e5
    have r75 := up (Rl := Ex) e5 r74
    dsimp only
    refine k_seq (k_ifN (Rl := Ex) (et_orF (et_is (et_test (e_op (e_var (a := s) rfl rfl) (e_ixLs (e_var rfl rfl) h95.ls (e_var (a := s) rfl rfl) (al_at hs)) rv_ninN)) (by rw [decide_eq_true (al_refl hs)]; rfl))
      (et_is (et_test (e_neL (xs := same n ds s) (ys := (List.range n).filter fun o => decide (g.getD o 0 = g.getD s 0)) (e_var rfl rfl) l11.ls (e_lcF (fun o => decide (g.getD o 0 = g.getD s 0)) fr_ex (ws_rg1 (n := n) (ea_cons (e_var rfl rfl) ea_nil) hn) (by rw [List.length_range]; exact hn) (by show 10 < _; simp only [List.set_cons_succ, List.set_cons_zero, List.length_cons]; omega) (fun _ _ _ h => h) fun o vo H6 ho e6 yo => ?_) (fun _ _ => trivial) (fun _ _ => trivial) (by decide))) (by rw [same_group hg hs, decide_eq_true rfl]; rfl))) fun H6 e6 => ?_)
    · have ho := List.mem_range.mp ho
      exact et_test (e_op (e_ixT (e_var rfl (up (Rl := Ex) e6 r75)) (e_var (a := o) rfl yo) (getD_at (by have := hg.1; omega))) (e_ixT (e_var rfl (up (Rl := Ex) e6 r75)) (e_var (a := s) rfl rfl) (getD_at (by have := hg.1; omega))) rv_eqN)
    have e06 := e04.trans (e5.trans e6)
    dsimp only
    exact lr1i R hs (hp.mono e06) (h95.mono e6) (up (Rl := Ex) e6 r75) hg (l11.mono e6) rfl fun H2 o3 o4 o12 e => ⟨e4.trans (e5.trans (e6.trans e)), _, _, _, _, _, rfl⟩
  · rintro H3 e3 _ H4 ⟨e4, o3, o4, o8, o11, o12, rfl⟩
    exact k _ _ _ _ _ _ (e3.trans e4)
theorem lr2 (R : Rt n ds) (hp : LsAt H p ds) (r13 : Enc.rep (tp H) v13 lots) (hl : lots = [] ∨ ∀ lot, lot ∈ lots ↔ Inc n lot ∧ vouch n ds lot = lot)
    (hσ : σ = a0 :: some (.int (n : Nat)) :: some (.ref p) :: o3 :: o4 :: a5 :: a6 :: a7 :: o8 :: a9 :: a10 :: a11 :: a12 :: some v13 :: o14 :: rest)
    (k : ∀ H2 o3 o4 o14, Ex H H2 → D.nx (a0 :: some (.int (n : Nat)) :: some (.ref p) :: o3 :: o4 :: a5 :: a6 :: a7 :: o8 :: a9 :: a10 :: a11 :: a12 :: some v13 :: o14 :: rest) H2) : tLr2 K D σ H := by
  subst hσ
  have h49 := R.ok.hi
  have hn : n ≤ 1000000 := by omega
  refine k_for (Rl := Ex) (wz_tup (xs := lots) (e_var rfl r13)) (fun H3 i σ1 H4 => Ex H3 H4 ∧ ∃ o3 o4 o14, σ1 = a0 :: some (.int (n : Nat)) :: some (.ref p) :: o3 :: o4 :: a5 :: a6 :: a7 :: o8 :: a9 :: a10 :: a11 :: a12 :: some v13 :: o14 :: rest)
    (fun H3 e3 => ⟨Ex.refl _, _, _, _, rfl⟩) (fun _ i σ1 H4 h => h.1) (fun _ i σ1 H4 H5 ⟨a, b⟩ e => ⟨a.trans e, b⟩) ?_ ?_
  · rintro H3 e3 i lot v _ H4 hx ⟨e4, o3, o4, o14, rfl⟩ y
    have hm : lot ∈ lots := List.mem_of_getElem? hx
    have hl : ∀ lot, lot ∈ lots ↔ Inc n lot ∧ vouch n ds lot = lot := hl.resolve_left fun z => by rw [z] at hm; cases hm
    have hinc := ((hl lot).mp hm).1
    have e04 := e3.trans e4
    refine tgt_name ?_
    refine k_for (Rl := Ex) (wz_ls (xs := ds) (e_var rfl rfl) (hp.mono e04).ls) (fun H5 i σ1 H6 => Ex H5 H6 ∧ ∃ o3 o4, σ1 = a0 :: some (.int (n : Nat)) :: some (.ref p) :: o3 :: o4 :: a5 :: a6 :: a7 :: o8 :: a9 :: a10 :: a11 :: a12 :: some v13 :: some v :: rest)
      (fun H5 e5 => ⟨Ex.refl _, _, _, rfl⟩) (fun _ i σ1 H4 h => h.1) (fun _ i σ1 H4 H5 ⟨a, b⟩ e => ⟨a.trans e, b⟩) ?_ ?_
    · rintro H5 e5 i' x v' _ H6 hx' ⟨e6, o3, o4, rfl⟩ y'
      have hd : x ∈ ds := List.mem_of_getElem? hx'
      have pm := R.pm x hd
      obtain ⟨c1, c2⟩ := lots_closed R hl hm hd
      have y6 : Enc.rep (tp H6) v lot := up (Rl := Ex) (e5.trans e6) y
      have r136 := up (Rl := Ex) (e04.trans (e5.trans e6)) r13
      refine tgt_pair y' fun v3 v4 r3 r4 => ?_
      refine k_ifN (Rl := Ex) (et_is (et_test (e_op (a := vouch n ds (lot.map fun s => x.2.getD s 0)) (e_tupleNew (e_sortedN (xs := lot.map fun o => x.2.getD o 0) (e_lcM (fun o => x.2.getD o 0) fr_ex (ws_tup (xs := lot) (e_var rfl y6)) (by have := hinc.short; omega) fun o vo H7 ho e7 yo => e_ixT (e_var rfl (up (Rl := Ex) e7 r4)) (e_var rfl yo) (pm.eff.at (hinc.2 o ho))) c2 vouch_inc.le)) (e_var rfl r136) (rv_ninT (fun _ _ => trivial) (fun _ _ _ _ => trivial) (by decide)))) (ninF c1)) fun H7 e7 => ⟨e6.trans e7, _, _, rfl⟩
    · rintro H5 e5 _ H6 ⟨e6, o3, o4, rfl⟩
      exact ⟨e4.trans (e5.trans e6), _, _, _, rfl⟩
  · rintro H3 e3 _ H4 ⟨e4, o3, o4, o14, rfl⟩
    exact k _ _ _ _ (e3.trans e4)
end
end B
/-! _law_right: the drawn runs. -/
namespace B
open PySem PySem.Spec PyProof.Rows L2
section
variable {K : PySem.W.Frag} {σ : L2.St} {H H' : Hp} {D : Ends} {ta tb te : TE} {α : Type} [Enc α]
/-- a, b, c = .., .., .. by a tuple -/
theorem k_tup3 {i j l : Nat} {tr : TA} {a b c : α} (h : EvH Ex tr σ H [a, b, c]) (k : ∀ u v w H2, Ex H H2 → Enc.rep (tp H2) u a → Enc.rep (tp H2) v b → Enc.rep (tp H2) w c → D.nx (((σ.set i (some u)).set j (some v)).set l (some w)) H2) :
    tAsg (tTup tr) (gTup K 3 (gCons (gName i) (gCons (gName j) (gCons (gName l) gNil)))) D σ H := by
  refine h H (Ex.refl _) _ fun vs H2 e r => ?_
  match vs, r with
  | [x, y, z], ⟨rx, ry, rz, _⟩ =>
    refine ⟨by show 3 ≤ sizeLine; decide, fun q hq => ?_⟩
    have e2 : Ex H2 (upd H2 q (.tup [x, y, z])) := Ex.new hq
    exact ⟨q, _, rfl, SqT.of upd_same, rfl, x, [y, z], rfl, y, [z], rfl, z, [], rfl, rfl, k x y z _ (e.trans e2) (up (Rl := Ex) e2 rx) (up (Rl := Ex) e2 ry) (up (Rl := Ex) e2 rz)⟩
theorem e_vouch {p : Addr} {n j : Nat} {ds : List Deed} {st : List Nat} (hj : σ[j]? = some (some (.ref p))) (ok : MachOk n ds) (sm : Small n ds) (hM : MachAt K H p n ds) (h : Ev Ex te σ H st) (hst : st.length ≤ 1000000) :
    Ev Ex (tCall (spVouch K) [.int 400] E0 (tCons (tVar j) (tCons te tNil))) σ H (vouch n ds st) := fun H1 e Q q =>
  ⟨.ref p, hj, h H1 e _ fun v H2 e2 r => ⟨(n, ds, p, 400), st, ⟨ok, sm, by show 61 ≤ 400; decide, hM.mono (e.trans e2)⟩, hst, ⟨rfl, r, rfl, trivial⟩, fun v H3 e3 r3 => q v H3 (e2.trans e3) r3⟩⟩
theorem n_m400 {β : Type} [Enc β] {pre : Nat × List Deed × Addr × Nat → Hp → Prop} {post : Nat × List Deed × Addr × Nat → β → Prop} {p : Addr} {n j : Nat} {ds : List Deed} (hj : σ[j]? = some (some (.ref p))) (hp : ∀ H1, Ex H H1 → pre (n, ds, p, 400) H1) :
    EvN Ex (tCall (spN pre msM post) [.int 400] E0 (tCons (tVar j) tNil)) σ H (post (n, ds, p, 400)) := fun H1 e Q q =>
  ⟨.ref p, hj, (n, ds, p, 400), hp H1 e, ⟨rfl, rfl, trivial⟩, fun v b H2 e2 pb rb => q b v H2 pb e2 rb⟩
theorem e_le2 {p : Addr} {n : Nat} {ds : List Deed} {r : List (PT 2)} (ok : MachOk n ds) (hr : okRow (ds.map (·.1)) 2 r) (h1 : σ[1]? = some (some (.int (n : Nat)))) (h2 : σ[2]? = some (some (.ref p))) (hp : LsAt H p ds) (h : Ev Ex te σ H r) :
    Ev Ex (tCall (spLE 2) [] E0 (tCons (tVar 1) (tCons (tVar 2) (tCons te tNil)))) σ H (rowE n (imOf ds) 2 r) :=
  e_call (ι := Nat × List Deed × Addr × List (PT 2)) (res := fun i => rowE i.1 (imOf i.2.1) 2 i.2.2.2) (n, ds, p, r) (ea_cons (e_var (a := n) h1 rfl) (ea_cons (e_var h2 rfl) (ea_cons h ea_nil))) fun H1 e => ⟨ok, by show 2 ≤ 8; decide, hr, hp.mono e⟩
theorem e_meets {n s : Nat} {f g : List Nat} (hf : Eff n f) (hg : Eff n g) (hs : s < n) (ha : Ev Ex ta σ H f) (hb : Ev Ex tb σ H g) (h : Ev Ex te σ H s) : Ev Ex (tCall spMeets [] E0 (tCons ta (tCons tb (tCons te tNil)))) σ H (meets f g s) :=
  e_call (ι := Nat × List Nat × List Nat × Nat) (res := fun i => meets i.2.1 i.2.2.1 i.2.2.2) (n, f, g, s) (ea_cons ha (ea_cons hb (ea_cons h ea_nil))) fun _ _ => ⟨hf, hg, hs⟩
theorem k_ifNN {t : TT} {s1 : TS} (h : EvT Ex t σ H false) (h2 : ∀ H2, Ex H H2 → D.nx σ H2) : tIfS t s1 tNext D σ H := k_ifN h h2
end
/-- what stands while rows are drawn -/
structure Rs (K : PySem.W.Frag) (d c p p5 p6 p9 : Addr) (n : Nat) (ds : List Deed) (H : Hp) : Prop where
  D : DealAt d c H
  lp : LsAt H p ds
  l5 : LsAt H p5 (ds.map (·.1))
  l6 : MachAt K H p6 n ds
  l9 : LsAt H p9 (al n ds)
  pd : p ≠ d
  pc : p ≠ c
  p5d : p5 ≠ d
  p5c : p5 ≠ c
  p9d : p9 ≠ d
  p9c : p9 ≠ c
theorem Rs.mono {K : PySem.W.Frag} {d c p p5 p6 p9 : Addr} {n : Nat} {ds : List Deed} {H H' : Hp} (S : Rs K d c p p5 p6 p9 n ds H) (e : Dl d c H H') : Rs K d c p p5 p6 p9 n ds H' :=
  ⟨e.2 S.D, Dl.lsAt e S.lp S.pd S.pc, Dl.lsAt e S.l5 S.p5d S.p5c, S.l6.dl S.D e, Dl.lsAt e S.l9 S.p9d S.p9c, S.pd, S.pc, S.p5d, S.p5c, S.p9d, S.p9c⟩
theorem Rs.ex {K : PySem.W.Frag} {d c p p5 p6 p9 : Addr} {n : Nat} {ds : List Deed} {H H' : Hp} (S : Rs K d c p p5 p6 p9 n ds H) (e : Ex H H') : Rs K d c p p5 p6 p9 n ds H' := S.mono (RlOk.ex e)
section
variable {K : PySem.W.Frag} {σ : L2.St} {H : Hp} {D : Ends}
def tLr3i (K : PySem.W.Frag) : TS := (tFor (iList K (tVar 23)) (gName 8) (tIfS (tB (tCB (rAny K) (tCons (tLc (iTup K (tOp (rIxU K) (tVar 9) (tVar 8))) (gName 24) tYes (tOp (rNinU K) (tVar 24) (tVar 23)) [24]) tNil))) (tRet (tC (.bl false))) tNext))
def tLr3j (K : PySem.W.Frag) : TS := (tIfS (tTest (tOp rIsNotNone (tVar 24) (tC .non))) (tSeq (tAsg (tVar 24) (gTup K 2 (gCons (gName 18) (gCons (gName 19) gNil))))
  (tSeq (tAsg (tTup (tCons (tTup (tCons (tVar 20) (tCons (tCall spUndo [] E0 (tCons (tVar 1) (tCons (tVar 22) tNil))) tNil))) tNil)) (gName 27))
  (tSeq (tAsg (tTup (tCons (tCall (spLE 2) [] E0 (tCons (tVar 1) (tCons (tVar 2) (tCons (tOp (rAddU K) (tOp (rAddU K) (tVar 27) (tVar 18)) (tVar 20)) tNil)))) (tCons (tCall (spLE 2) [] E0 (tCons (tVar 1) (tCons (tVar 2) (tCons (tOp (rAddU K) (tOp (rAddU K) (tVar 27) (tVar 19)) (tVar 20)) tNil)))) tNil))) (gTup K 2 (gCons (gName 21) (gCons (gName 10) gNil))))
  (tIfS (tOr (tNot (tB (tCall spMeets [] E0 (tCons (tVar 21) (tCons (tVar 10) (tCons (tOp (rIxU K) (tVar 22) (tVar 25)) tNil)))))) (tB (tCall spMeets [] E0 (tCons (tVar 21) (tCons (tVar 10) (tCons (tOp (rIxU K) (tVar 22) (tVar 26)) tNil)))))) (tRet (tC (.bl false))) tNext)))) tNext)
def tLr3b (K : PySem.W.Frag) : TS := (tSeq (tPar3 18 19 20 (tCons (tCall spRow21 [] E0 (tCons (tVar 0) (tCons (tVar 5) (tCons (tC (.int 2)) tNil)))) (tCons (tCall spRow21 [] E0 (tCons (tVar 0) (tCons (tVar 5) (tCons (tC (.int 2)) tNil)))) (tCons (tCall spRow21 [] E0 (tCons (tVar 0) (tCons (tVar 5) (tCons (tC (.int 1)) tNil)))) tNil))))
  (tSeq (tAsg (tTup (tCons (tCall (spLE 2) [] E0 (tCons (tVar 1) (tCons (tVar 2) (tCons (tVar 18) tNil)))) (tCons (tCall (spLE 2) [] E0 (tCons (tVar 1) (tCons (tVar 2) (tCons (tVar 19) tNil)))) (tCons (tCall (spLE 2) [] E0 (tCons (tVar 1) (tCons (tVar 2) (tCons (tVar 20) tNil)))) tNil)))) (gTup K 3 (gCons (gName 21) (gCons (gName 10) (gCons (gName 22) gNil)))))
  (tSeq (tAsg (tLc (iRng1 (tCons (tVar 1) tNil)) (gName 8) (tB (tCall spMeets [] E0 (tCons (tVar 21) (tCons (tVar 10) (tCons (tVar 8) tNil))))) (tVar 8) [8]) (gName 23))
  (tSeq (tIfS (tTest (tOp (rNeU K) (tCall (spExch K 2) [] E0 (tCons (tVar 6) (tCons (tVar 18) (tCons (tVar 19) tNil)))) (tThen (tVar 23) (kTup K)))) (tRet (tC (.bl false))) tNext)
  (tSeq (tLr3i K)
  (tSeq (tPar 25 26 (tCons (tCall spAnyD [] E0 (tCons (tVar 0) (tCons (tVar 1) tNil))) (tCons (tCall spAnyD [] E0 (tCons (tVar 0) (tCons (tVar 1) tNil))) tNil)))
  (tSeq (tAsg (tCall (spAgainst K) [.int 400] E0 (tCons (tVar 6) (tCons (tTup (tCons (tVar 25) tNil)) (tCons (tVar 26) tNil)))) (gName 24))
  (tSeq (tIfS (tTest (tOp (rNeU K) (tOp rIsNone (tVar 24) (tC .non)) (tOp (rInU K) (tVar 26) (tOp (rIxU K) (tVar 9) (tVar 25))))) (tRet (tC (.bl false))) tNext)
  (tLr3j K)))))))))
variable {n s t : Nat} {ds : List Deed} {d c p p5 p6 p9 p23 : Addr} {f g h : List Nat} {w : List (PT 1)} {v20 v22 v24 : V} {a3 a4 a7 a11 a12 a13 a14 a15 a16 o8 o10 o17 o18 o19 o20 o21 o22 o23 o24 o25 o26 o27 : Option V}
theorem lr3i (R : Rt n ds) (hf : Gen n ds f) (hg : Gen n ds g) (h9 : LsAt H p9 (al n ds)) (h23 : LsAt H p23 (meetsAll n f g)) (h9σ : σ[9]? = some (some (.ref p9))) (h23σ : σ[23]? = some (some (.ref p23))) (hl : σ.length = 28)
    (k : ∀ H2 o8, Ex H H2 → D.nx (σ.set 8 o8) H2) : tLr3i K D σ H := by
  have h49 := R.ok.hi
  have n9 : ∀ {o : Option V}, (σ.set 8 o)[9]? = some (some (.ref p9)) := fun {o} => by rw [List.getElem?_set_ne (by decide)]; exact h9σ
  have n23 : ∀ {o : Option V}, (σ.set 8 o)[23]? = some (some (.ref p23)) := fun {o} => by rw [List.getElem?_set_ne (by decide)]; exact h23σ
  have h8σ : ∀ (o : Option V), (σ.set 8 o)[8]? = some o := fun o => by rw [List.getElem?_set_self (by omega)]
  have hml : (meetsAll n f g).length ≤ n := by
    have := List.length_filter_le (meets f g) (List.range n)
    rwa [List.length_range] at this
  obtain ⟨o0, ho0⟩ : ∃ o, σ[8]? = some o := ⟨σ[8], List.getElem?_eq_getElem (by omega)⟩
  refine k_for (Rl := Ex) (wz_ls (xs := meetsAll n f g) (e_var h23σ rfl) h23.ls) (fun H3 i σ1 H4 => Ex H3 H4 ∧ ∃ o8, σ1 = σ.set 8 o8)
    (fun H3 e3 => ⟨Ex.refl _, o0, (set_same ho0).symm⟩) (fun _ i σ1 H4 h => h.1) (fun _ i σ1 H4 H5 ⟨a, b⟩ e => ⟨a.trans e, b⟩) ?_ ?_
  · rintro H3 e3 i x v _ H4 hx ⟨e4, o8, rfl⟩ y
    obtain rfl : v = .int (x : Nat) := y
    have hm : x ∈ meetsAll n f g := List.mem_of_getElem? hx
    have hxn := (mem_meets.mp hm).1
    have e04 := e3.trans e4
    refine tgt_name ?_
    rw [List.set_set]
    have h94 := h9.mono e04
    have h234 := h23.mono e04
    refine k_ifN (Rl := Ex) (et_is (et_B (e_any (bs := (vouch n ds [x]).map fun o => !decide (o ∈ meetsAll n f g)) (e_lcM (fun o => !decide (o ∈ meetsAll n f g)) fr_ex (ws_tup (xs := vouch n ds [x]) (e_ixLs (e_var n9 rfl) h94.ls (e_var (a := x) (h8σ _) rfl) (al_at hxn))) (by have := vouch_inc (n := n) (ds := ds) (st := [x]) |>.short; omega) fun o vo H5 ho e5 yo => ?_))) ?_) fun H5 e5 => ⟨e4.trans e5, _, rfl⟩
    · refine e_ninLsN (e_var (a := o) (v := vo) ?_ yo) (e_var ?_ rfl) (h234.mono e5).ls
      · rw [List.getElem?_set_self (by simp only [List.length_set]; omega)]
      · rw [List.getElem?_set_ne (by decide), List.getElem?_set_ne (by decide)]; exact n23
    · rw [List.any_map, List.any_eq_false]
      intro o ho
      show ¬ (!decide _) = true
      rw [decide_eq_true (meets_vouch R hf hg hm ho)]
      decide
  · rintro H3 e3 _ H4 ⟨e4, o8, rfl⟩
    exact k _ _ (e3.trans e4)
/-- None, or rows, and what that says -/
theorem against_told {v : V} (R : Rt n ds) (hs : s < n) (ht : t < n) (h : Against n ds [s] t H v) : decide (v = .non) = decide (t ∈ vouch n ds [s]) ∧ (v ≠ .non → ∃ r1 r2 : List Str, Enc.rep (tp H) v (r1, r2) ∧ (∀ s ∈ r1, s ∈ ds.map (·.1)) ∧ (∀ s ∈ r2, s ∈ ds.map (·.1)) ∧ r1.length ≤ 60 ∧ r2.length ≤ 60 ∧ t ∉ shared (rowE n (imOf ds) 0 r1) (rowE n (imOf ds) 0 r2) ∧ s ∈ shared (rowE n (imOf ds) 0 r1) (rowE n (imOf ds) 0 r2)) := by
  rcases h with ⟨rfl, h⟩ | ⟨r1, r2, hr, o1, o2, l1, l2, h1, h2⟩
  · exact ⟨by rw [decide_eq_true rfl, decide_eq_true (mem_al.mpr ⟨ht, fun lot hl hsl => h lot hl (within_one.mpr hsl)⟩)], fun z => absurd rfl z⟩
  · have h2 := within_one.mp h2
    have hne : v ≠ .non := by
      obtain ⟨_, _, _, rfl, _⟩ := hr
      exact fun z => by cases z
    refine ⟨?_, fun _ => ⟨r1, r2, hr, o1, o2, l1, l2, h1, h2⟩⟩
    rw [decide_eq_false hne]
    exact (decide_eq_false fun z => h1 ((mem_al.mp z).2 _ ⟨_, _, gen_row R.pm R.ok.nd 0 r1 o1, gen_row R.pm R.ok.nd 0 r2 o2, rfl⟩ h2)).symm
theorem bk_rep {T : TL} {v : V} {k : Nat} (r : Enc.rep T v [(w, k)]) : Enc.rep T v (bk w k) := by
  obtain ⟨a, vs, e, t, r⟩ := r
  match vs, r with
  | [x], ⟨r, _⟩ => exact ⟨a, [x], e, t, PT.pr_rep r, trivial⟩
end
end B
/-! _law_right: what is told, carried. -/
namespace B
open PySem PySem.Spec PyProof.Rows L2
section
variable {K : PySem.W.Frag} {σ : L2.St} {H : Hp} {D : Ends}
variable {n s t : Nat} {ds : List Deed} {d c p p5 p6 p9 p23 : Addr} {f g h : List Nat} {w : List (PT 1)} {v20 v22 v24 : V} {a3 a4 a7 a11 a12 a13 a14 a15 a16 o8 o10 o17 o18 o19 o20 o21 o22 o23 o24 o25 o26 o27 : Option V}
theorem Against.mono {H' : Hp} {st : List Nat} {v : V} (h : Against n ds st t H v) (e : Ex H H') : Against n ds st t H' v := by
  rcases h with h | ⟨r1, r2, hr, h⟩
  · exact .inl h
  · exact .inr ⟨r1, r2, up (Rl := Ex) e hr, h⟩
theorem lr3j (R : Rt n ds) (hs : s < n) (ht : t < n) (S : Rs K d c p p5 p6 p9 n ds H) (hA : Against n ds [s] t H v24) (hw : okRow (ds.map (·.1)) 1 w) (hwl : w.length ≤ 3) (hh : h = rowE n (imOf ds) 2 (w.map (PT.up 1))) (r20 : Enc.rep (tp H) v20 w) (r22 : Enc.rep (tp H) v22 h)
    (hσ : σ = [some (.ref d), some (.int (n : Nat)), some (.ref p), a3, a4, some (.ref p5), some (.ref p6), a7, o8, some (.ref p9), o10, a11, a12, a13, a14, a15, a16, o17, o18, o19, some v20, o21, some v22, o23, some v24, some (.int (s : Nat)), some (.int (t : Nat)), o27])
    (k : ∀ H2 o10 o18 o19 o21 o27, Ex H H2 → D.nx [some (.ref d), some (.int (n : Nat)), some (.ref p), a3, a4, some (.ref p5), some (.ref p6), a7, o8, some (.ref p9), o10, a11, a12, a13, a14, a15, a16, o17, o18, o19, some v20, o21, some v22, o23, some v24, some (.int (s : Nat)), some (.int (t : Nat)), o27] H2) : tLr3j K D σ H := by
  subst hσ
  have hwu := okRow_up hw
  have hgh : Gen n ds h := hh ▸ gen_row R.pm R.ok.nd 2 _ hwu
  have eh := (hgh.prm R.pm).eff
  have h49 := R.ok.hi
  refine k_if (Rl := Ex) (b := !decide (v24 = .non)) (fun H1 e Q q => ⟨v24, rfl, rfl, _, rfl, q H1 (Ex.refl _)⟩) (fun hb H1 e1 => ?_) fun hb H1 e1 => k _ _ _ _ _ _ e1
  have hne : v24 ≠ .non := fun z => by rw [decide_eq_true z] at hb; cases hb
  obtain ⟨r1, r2, hr, o1, o2, l1, l2, h1, h2⟩ := (against_told R hs ht hA).2 hne
  have hf : Gen n ds (rowE n (imOf ds) 0 r1) := gen_row R.pm R.ok.nd 0 r1 o1
  have hg : Gen n ds (rowE n (imOf ds) 0 r2) := gen_row R.pm R.ok.nd 0 r2 o2
  have ef := (hf.prm R.pm).eff
  have eg := (hg.prm R.pm).eff
  obtain ⟨hu60, _⟩ := undo60 R.pm R.sm hgh
  have cs := carried_against R hf hg hgh hs
  have ct := carried_against R hf hg hgh ht
  obtain ⟨U, hU⟩ : ∃ U, U = undoN n h 60 := ⟨_, rfl⟩
  rw [← hU] at hu60 cs ct
  show tSeq _ _ _ _ _
  refine k_seq (k_set2 (Rl := Ex) (p := (r1, r2)) (e_var rfl (up (Rl := Ex) e1 hr)) fun x18 x19 H2 e2 q18 q19 => ?_)
  have q18 : Enc.rep (tp H2) x18 r1 := q18
  have q19 : Enc.rep (tp H2) x19 r2 := q19
  have e02 := e1.trans e2
  dsimp only
  refine k_seq (k_set (Rl := Ex) (a := [(w, U)]) (e_one (e_pair (e_var rfl (up (Rl := Ex) e02 r20)) (e_is (e_call (ι := Nat × List Nat) (res := fun i => undoN i.1 i.2 60) (n, h) (ea_cons (e_var (a := n) rfl rfl) (ea_cons (e_var rfl (up (Rl := Ex) e02 r22)) ea_nil)) fun _ _ => ⟨by show n ≤ 1000000; omega, eh⟩) hU.symm))) fun x27 H3 e3 q27 => ?_)
  have q27 : Enc.rep (tp H3) x27 (bk w (U)) := bk_rep q27
  have e03 := e02.trans e3
  have S3 := S.ex e03
  have row1 := back_row R (u := r1) (w := w) (t := U) o1 hw (by omega)
  have row2 := back_row R (u := r2) (w := w) (t := U) o2 hw (by omega)
  rw [← hh] at row1 row2
  obtain ⟨A1, hA1⟩ : ∃ A, A = thn (thn (pwr n h U) (rowE n (imOf ds) 0 r1)) h := ⟨_, rfl⟩
  obtain ⟨A2, hA2⟩ : ∃ A, A = thn (thn (pwr n h U) (rowE n (imOf ds) 0 r2)) h := ⟨_, rfl⟩
  have e1' : Eff n A1 := hA1 ▸ ((eh.pwr _).thn ef).thn eh
  have e2' : Eff n A2 := hA2 ▸ ((eh.pwr _).thn eg).thn eh
  rw [← hA1] at row1
  rw [← hA2] at row2
  rw [← hA1, ← hA2] at cs ct
  have lu2 : ∀ u : List Str, (up2 u).length = u.length := fun u => by unfold up2; rw [List.length_map, List.length_map]; rfl
  have q20 := up_row (up (Rl := Ex) e03 r20)
  have cat : ∀ (u : List Str) (x : V) (j : Nat) {σ2 : L2.St} (_ : σ2[j]? = some (some x)) (_ : σ2[27]? = some (some x27)) (_ : σ2[20]? = some (some v20)), u.length ≤ 60 → Enc.rep (tp H3) x u → Ev Ex (tOp (rAddU K) (tOp (rAddU K) (tVar 27) (tVar j)) (tVar 20)) σ2 H3 (bk w (U) ++ up2 u ++ w.map (PT.up 1)) := fun u x j σ2 hj h27 h20 hl hx =>
    e_catT (e_catT (e_var h27 q27) (e_var hj (up2_rep hx)) (by rw [lu2]; show 1 + u.length ≤ 1000000; omega)) (e_var h20 q20) (by rw [List.length_append, lu2, List.length_map]; show 1 + u.length + w.length ≤ 1000000; omega)
  dsimp only
  refine k_seq (k_set2 (Rl := Ex) (p := (A1, A2)) (e_pair (e_is (e_le2 R.ok row1.1 rfl rfl S3.lp (cat r1 x18 18 rfl rfl rfl l1 (up (Rl := Ex) e3 q18))) row1.2) (e_is (e_le2 R.ok row2.1 rfl rfl S3.lp (cat r2 x19 19 rfl rfl rfl l2 (up (Rl := Ex) e3 q19))) row2.2)) fun x21 x10 H4 e4 q21 q10 => ?_)
  have q21 : Enc.rep (tp H4) x21 A1 := q21
  have q10 : Enc.rep (tp H4) x10 A2 := q10
  have q22 := up (Rl := Ex) (e03.trans e4) r22
  have m1 : meets (rowE n (imOf ds) 0 r1) (rowE n (imOf ds) 0 r2) s = true := by
    rw [← meets_shared ef] at h2
    exact (mem_meets.mp h2).2
  have m2 : meets (rowE n (imOf ds) 0 r1) (rowE n (imOf ds) 0 r2) t = false := by
    rw [← meets_shared ef] at h1
    exact Bool.eq_false_iff.mpr fun z => h1 (mem_meets.mpr ⟨ht, z⟩)
  dsimp only
  refine k_ifN (Rl := Ex) (et_orF (et_notF (et_is (et_B (e_meets e1' e2' (eh.lt hs) (e_var rfl q21) (e_var rfl q10) (e_ixT (e_var rfl q22) (e_var (a := s) rfl rfl) (eh.at hs)))) (cs.trans m1))) (et_is (et_B (e_meets e1' e2' (eh.lt ht) (e_var rfl q21) (e_var rfl q10) (e_ixT (e_var rfl q22) (e_var (a := t) rfl rfl) (eh.at ht)))) (ct.trans m2))) fun H5 e5 => ?_
  exact k _ _ _ _ _ _ (e03.trans (e4.trans e5))
end
end B
/-! _law_right: one round of drawn runs. -/
namespace B
open PySem PySem.Spec PyProof.Rows L2
section
variable {K : PySem.W.Frag} {σ : L2.St} {H : Hp} {D : Ends}
variable {n s t : Nat} {ds : List Deed} {d c p p5 p6 p9 p23 : Addr} {f g h : List Nat} {a3 a4 a7 a11 a12 a13 a14 a15 a16 o8 o10 o17 o18 o19 o20 o21 o22 o23 o24 o25 o26 o27 : Option V}
/-- where a round starts, and where it ends -/
def St28 (n : Nat) (d p p5 p6 p9 : Addr) (a3 a4 a7 a11 a12 a13 a14 a15 a16 : Option V) (σ : L2.St) : Prop := ∃ o8 o10 o17 o18 o19 o20 o21 o22 o23 o24 o25 o26 o27 : Option V,
  σ = [some (.ref d), some (.int (n : Nat)), some (.ref p), a3, a4, some (.ref p5), some (.ref p6), a7, o8, some (.ref p9), o10, a11, a12, a13, a14, a15, a16, o17, o18, o19, o20, o21, o22, o23, o24, o25, o26, o27]
theorem lr3b (R : Rt n ds) (S : Rs K d c p p5 p6 p9 n ds H) (hσ : St28 n d p p5 p6 p9 a3 a4 a7 a11 a12 a13 a14 a15 a16 σ)
    (k : ∀ σ2 H2, Dl d c H H2 → St28 n d p p5 p6 p9 a3 a4 a7 a11 a12 a13 a14 a15 a16 σ2 → D.nx σ2 H2) : tLr3b K D σ H := by
  obtain ⟨o8, o10, o17, o18, o19, o20, o21, o22, o23, o24, o25, o26, o27, rfl⟩ := hσ
  have h49 := R.ok.hi
  have hn : n ≤ 1000000 := by omega
  have hnm : 0 < (ds.map (·.1)).length ∧ (ds.map (·.1)).length < 1000 := by
    rw [List.length_map]
    have := R.ok.one
    have := R.ok.most
    omega
  show tSeq _ _ _ _ _
  refine k_seq (k_par3' ?_)
  refine ⟨.ref d, rfl, .ref p5, rfl, .inl ⟨d, c, p5, ds.map (·.1), S.D, S.l5, S.p5d, S.p5c, hnm.1, hnm.2, rfl, fun u x18 H1 ou lu e1 r18 => ?_⟩⟩
  have S1 := S.mono e1
  refine ⟨.ref d, rfl, .ref p5, rfl, .inl ⟨d, c, p5, ds.map (·.1), S1.D, S1.l5, S.p5d, S.p5c, hnm.1, hnm.2, rfl, fun v x19 H2 ov lv e2 r19 => ?_⟩⟩
  have S2 := S1.mono e2
  refine ⟨.ref d, rfl, .ref p5, rfl, .inr ⟨d, c, p5, ds.map (·.1), S2.D, S2.l5, S.p5d, S.p5c, hnm.1, hnm.2, rfl, fun w x20 H3 ow lw e3 r20 => ?_⟩⟩
  have S3 := S2.mono e3
  have e03 : Dl d c H H3 := RlOk.trans e1 (RlOk.trans e2 e3)
  have q18 : Enc.rep (tp H3) x18 u := up (RlOk.trans e2 e3) r18
  have q19 : Enc.rep (tp H3) x19 v := up e3 r19
  refine ⟨x18, x19, x20, rfl, ?_⟩
  dsimp only
  obtain ⟨f, hf0⟩ : ∃ f, f = rowE n (imOf ds) 2 u := ⟨_, rfl⟩
  obtain ⟨g, hg0⟩ : ∃ g, g = rowE n (imOf ds) 2 v := ⟨_, rfl⟩
  obtain ⟨h, hh0⟩ : ∃ h, h = rowE n (imOf ds) 2 (w.map (PT.up 1)) := ⟨_, rfl⟩
  have hf : Gen n ds f := hf0 ▸ gen_row R.pm R.ok.nd 2 u ou
  have hg : Gen n ds g := hg0 ▸ gen_row R.pm R.ok.nd 2 v ov
  have hh : Gen n ds h := hh0 ▸ gen_row R.pm R.ok.nd 2 _ (okRow_up ow)
  have ef := (hf.prm R.pm).eff
  have eg := (hg.prm R.pm).eff
  refine k_seq (k_tup3 (a := f) (b := g) (c := h) (eh_cons (e_is (e_le2 R.ok ou rfl rfl S3.lp (e_var rfl q18)) hf0.symm) (eh_cons (e_is (e_le2 R.ok ov rfl rfl S3.lp (e_var rfl q19)) hg0.symm) (eh_cons (e_is (e_le2 R.ok (okRow_up ow) rfl rfl S3.lp (e_var rfl (up_row r20))) hh0.symm) eh_nil))) fun x21 x10 x22 H4 e4 r21 r10 r22 => ?_)
  have S4 := S3.ex e4
  dsimp only
  refine k_seq (k_setL (Rl := Ex) (xs := meetsAll n f g) (e_lcF (meets f g) fr_ex (ws_rg1 (n := n) (ea_cons (e_var rfl rfl) ea_nil) hn) (by rw [List.length_range]; exact hn) (by show 8 < 28; decide) (fun _ _ _ h => h) fun o vo H5 ho e5 yo => et_B (e_meets ef eg (List.mem_range.mp ho) (e_var rfl (up (Rl := Ex) e5 r21)) (e_var rfl (up (Rl := Ex) e5 r10)) (e_var (a := o) rfl yo))) fun p23 vs H5 hn5 e5 hl5 r5 => ?_)
  have S5 := S4.ex e5
  have l23 : LsAt H5 p23 (meetsAll n f g) := ⟨vs, hl5, r5⟩
  have e35 := e4.trans e5
  dsimp only
  refine k_seq (k_ifN (Rl := Ex) (et_is (et_test (e_op (a := meetsAll n f g) (b := meetsAll n f g) (e_is (e_call (ι := Nat × List Deed × Addr × List (PT 2) × List (PT 2)) (res := fun i => meetsAll i.1 (rowE i.1 (imOf i.2.1) 2 i.2.2.2.1) (rowE i.1 (imOf i.2.1) 2 i.2.2.2.2)) (n, ds, p6, u, v) (ea_cons (e_var rfl rfl) (ea_cons (e_var rfl (up (Rl := Ex) e35 q18)) (ea_cons (e_var rfl (up (Rl := Ex) e35 q19)) ea_nil))) fun H6 e6 => ⟨R.ok, by show 2 ≤ 8; decide, ou, ov, (S5.ex e6).l6⟩) (by rw [hf0, hg0])) (e_tupleLs (e_var rfl rfl) l23.ls) (rv_neD (fun _ _ => trivial) (fun _ _ => trivial) (by decide)))) (by rw [decide_eq_true rfl]; rfl)) fun H6 e6 => ?_)
  have S6 := S5.ex e6
  dsimp only
  refine k_seq (lr3i R hf hg S6.l9 (l23.mono e6) rfl rfl rfl fun H7 o8 e7 => ?_)
  have S7 := S6.ex e7
  have e37 : Ex H3 H7 := e35.trans (e6.trans e7)
  dsimp only
  refine k_seq (k_par' ?_)
  refine ⟨.ref d, rfl, .int (n : Nat), rfl, d, c, n, S7.D, by have := R.ok.lo; omega, by omega, rfl, fun s H8 hs e8 => ?_⟩
  have S8 := S7.mono e8
  refine ⟨.ref d, rfl, .int (n : Nat), rfl, d, c, n, S8.D, by have := R.ok.lo; omega, by omega, rfl, fun t H9 ht e9 => ?_⟩
  have S9 := S8.mono e9
  refine ⟨_, _, rfl, ?_⟩
  have e09 : Dl d c H H9 := RlOk.trans e03 (RlOk.trans (RlOk.ex e37) (RlOk.trans e8 e9))
  have e49 : Dl d c H4 H9 := RlOk.trans (RlOk.ex (e5.trans (e6.trans e7))) (RlOk.trans e8 e9)
  have q22 : Enc.rep (tp H9) x22 h := up e49 r22
  have q20 : Enc.rep (tp H9) x20 w := up (RlOk.trans (RlOk.ex e4) e49) r20
  dsimp only
  refine k_seq (k_setQ ?_)
  refine ⟨.ref p6, rfl, e_one (e_var (a := s) rfl rfl) H9 (Ex.refl _) _ fun vst HA eA rA => ?_⟩
  refine ⟨.int (t : Nat), rfl, (n, ds, p6, 400), [s], t, ⟨R.ok, R.sm, by show 61 ≤ 400; decide, (S9.ex eA).l6⟩, by show 1 ≤ 1000000; decide, ⟨rfl, rA, rfl, rfl, trivial⟩, fun x24 HB eB hA => ?_⟩
  have hA : Against n ds [s] t HB x24 := hA
  have eAB := eA.trans eB
  have SB := S9.ex eAB
  have tl := against_told R hs ht hA
  dsimp only
  refine k_seq (k_ifN (Rl := Ex) (et_is (et_test (e_op (a := decide (x24 = .non)) (b := decide (t ∈ vouch n ds [s])) (fun H1 e Q q => ⟨x24, rfl, rfl, q _ H1 (Ex.refl _) rfl⟩) (e_op (e_var (a := t) rfl rfl) (e_ixLs (e_var rfl rfl) SB.l9.ls (e_var (a := s) rfl rfl) (al_at hs)) rv_inN) rv_neB)) (by rw [tl.1, decide_eq_true rfl]; rfl)) fun HC eC => ?_)
  dsimp only
  refine lr3j (s := s) (t := t) (w := w) R hs ht (SB.ex eC) (hA.mono eC) ow lw hh0 (up (Rl := Ex) (eAB.trans eC) q20) (up (Rl := Ex) (eAB.trans eC) q22) rfl fun H2 o10 o18 o19 o21 o27 e => ?_
  exact k _ _ (RlOk.trans e09 (RlOk.ex (eAB.trans (eC.trans e)))) ⟨_, _, _, _, _, _, _, _, _, _, _, _, _, rfl⟩
end
end B
namespace B
open PySem PySem.Spec PyProof.Rows L2
def n_law_right : List Str := ["_law_deal_here", "_law_n", "_law_deeds", "_law_name_here", "_law_images_here", "_law_names", "_law_machine", "_law_grouping", "_law_state", "_law_alone", "_law_other", "_law_same", "_law_led", "_law_lots", "_law_lot", "_law_honest", "_law_turns", "_law_turn_here", "_law_u", "_law_v", "_law_w", "_law_one", "_law_road", "_law_meets_here", "_law_told", "_law_s", "_law_t", "_law_back"]
def p_law_right : List Str := ["_law_deal_here", "_law_n", "_law_deeds"]
theorem sc_law_right : FnScope n_law_right p_law_right (defScope K26.s_law_right) := ⟨rfl, rfl, rfl, by decide +kernel, rfl, by decide +kernel, by decide +kernel⟩
def t_law_right (K : PySem.W.Frag) (sp_law_meets sp_law_effect sp_law_undoing sp_against_vouching sp_law_any sp_exchange_states sp_law_row sp_any_examples sp_law_effects sp_law_unbreakable sp_is_honest sp_vouched_lots sp_vouched_states sp_vouch_grouping sp_init : Sp) : TS := (tSeq (tAsg (tLc (iList K (tVar 2)) (gTup K 2 (gCons (gName 3) (gCons (gName 4) gNil))) tYes (tVar 3) [3, 4]) (gName 5))
  (tSeq (tAsg (tMake (He.ga K "Machine") sp_init [] E0 (tCons (tVar 2) tNil)) (gName 6))
  (tSeq (tAsg (tCall sp_vouch_grouping [.int 400] E0 (tCons (tVar 6) tNil)) (gName 7))
  (tSeq (tAsg (tLc (iRng1 (tCons (tVar 1) tNil)) (gName 8) tYes (tCall sp_vouched_states [.int 400] E0 (tCons (tVar 6) (tCons (tTup (tCons (tVar 8) tNil)) tNil))) [8]) (gName 9))
  (tSeq (tFor (iRng1 (tCons (tVar 1) tNil)) (gName 8) (tSeq (tAsg (tLc (iRng1 (tCons (tVar 1) tNil)) (gName 10) (tAnd (tTest (tOp (rInU K) (tVar 10) (tOp (rIxU K) (tVar 9) (tVar 8)))) (tTest (tOp (rInU K) (tVar 8) (tOp (rIxU K) (tVar 9) (tVar 10))))) (tVar 10) [10]) (gName 11))
  (tSeq (tIfS (tOr (tTest (tOp (rNinU K) (tVar 8) (tOp (rIxU K) (tVar 9) (tVar 8)))) (tTest (tOp (rNeU K) (tVar 11) (tLc (iRng1 (tCons (tVar 1) tNil)) (gName 10) (tTest (tOp (rEqU K) (tOp (rIxU K) (tVar 7) (tVar 10)) (tOp (rIxU K) (tVar 7) (tVar 8)))) (tVar 10) [10])))) (tRet (tC (.bl false))) tNext)
  (tFor (iList K (tVar 2)) (gTup K 2 (gCons (gName 3) (gCons (gName 4) gNil))) (tSeq (tAsg (tCB (rSortedI K) (tCons (tLc (iTup K (tOp (rIxU K) (tVar 9) (tVar 8))) (gName 10) tYes (tOp (rIxU K) (tVar 4) (tVar 10)) [10]) tNil)) (gName 12))
  (tIfS (tOr (tTest (tOp (rNeU K) (tVar 12) (tCB (rListOf K) (tCons (tOp (rIxU K) (tVar 9) (tOp (rIxU K) (tVar 4) (tVar 8))) tNil)))) (tB (tCB (rAny K) (tCons (tLc (iList K (tVar 11)) (gName 10) tYes (tOp (rNeU K) (tOp (rIxU K) (tVar 7) (tOp (rIxU K) (tVar 4) (tVar 10))) (tOp (rIxU K) (tVar 7) (tOp (rIxU K) (tVar 4) (tVar 8)))) [10]) tNil)))) (tRet (tC (.bl false))) tNext))))))
  (tSeq (tAsg (tIf (tTest (tOp rLtI (tVar 1) (tC (.int 6)))) (tCall sp_vouched_lots [.int 400] E0 (tCons (tVar 6) tNil)) (tTup tNil)) (gName 13))
  (tSeq (tFor (iTup K (tVar 13)) (gName 14) (tFor (iList K (tVar 2)) (gTup K 2 (gCons (gName 3) (gCons (gName 4) gNil))) (tIfS (tTest (tOp (rNinU K) (tThen (tCB (rSortedI K) (tCons (tLc (iTup K (tVar 14)) (gName 8) tYes (tOp (rIxU K) (tVar 4) (tVar 8)) [8]) tNil)) (kTup K)) (tVar 13))) (tRet (tC (.bl false))) tNext)))
  (tSeq (tAsg (tCall sp_is_honest [.int 400] E0 (tCons (tVar 6) tNil)) (gName 15))
  (tSeq (tIfS (tOr (tTest (tOp (rNeU K) (tVar 15) (tCB (rAll K) (tCons (tLc (iList K (tVar 9)) (gName 14) tYes (tOp (rEqU K) (tCB (rLenU K) (tCons (tVar 14) tNil)) (tVar 1)) [14]) tNil)))) (tTest (tOp (rNeU K) (tVar 15) (tOp rLtI (tCall sp_any_examples [.int 400] E0 (tCons (tVar 6) tNil)) (tC (.int 2)))))) (tRet (tC (.bl false))) tNext)
  (tSeq (tIfS (tAnd (tTest (tOp rGtI (tVar 1) (tC (.int 2)))) (tAnd (tNot (tB (tVar 15))) (tAnd (tTest (tOp (rNeU K) (tVar 9) (tLc (iRng1 (tCons (tVar 1) tNil)) (gName 8) tYes (tTup (tCons (tVar 8) tNil)) [8]))) (tB (tCall sp_law_unbreakable [] E0 (tCons (tVar 1) (tCons (tVar 2) tNil))))))) (tRet (tC (.bl false))) tNext)
  (tSeq (tAsg (tCB (rLenU K) (tCons (tCall sp_law_effects [] E0 (tCons (tVar 1) (tCons (tVar 2) (tCons (tC (.int 60)) tNil)))) tNil)) (gName 16))
  (tSeq (tIfS (tAnd (tTest (tOp (rEqU K) (tVar 16) (tOp (rIxU K) (tOp (rAddU K) (tLst (tCons (tC (.int 0)) (tCons (tC (.int 1)) (tCons (tC (.int 2)) (tCons (tC (.int 6)) (tCons (tC (.int 24)) tNil)))))) (tOp rMulU (tLst (tCons (tC (.int 0)) tNil)) (tVar 1))) (tVar 1)))) (tTest (tOp (rNeU K) (tCall sp_any_examples [.int 400] E0 (tCons (tVar 6) tNil)) (tOp rSubI (tVar 1) (tC (.int 2)))))) (tRet (tC (.bl false))) tNext)
  (tSeq (tFor (iRng1 (tCons (tC (.int 3)) tNil)) (gName 17) (tSeq (tPar3 18 19 20 (tCons (tCall sp_law_row [] E0 (tCons (tVar 0) (tCons (tVar 5) (tCons (tC (.int 2)) tNil)))) (tCons (tCall sp_law_row [] E0 (tCons (tVar 0) (tCons (tVar 5) (tCons (tC (.int 2)) tNil)))) (tCons (tCall sp_law_row [] E0 (tCons (tVar 0) (tCons (tVar 5) (tCons (tC (.int 1)) tNil)))) tNil))))
  (tSeq (tAsg (tTup (tCons (tCall sp_law_effect [] E0 (tCons (tVar 1) (tCons (tVar 2) (tCons (tVar 18) tNil)))) (tCons (tCall sp_law_effect [] E0 (tCons (tVar 1) (tCons (tVar 2) (tCons (tVar 19) tNil)))) (tCons (tCall sp_law_effect [] E0 (tCons (tVar 1) (tCons (tVar 2) (tCons (tVar 20) tNil)))) tNil)))) (gTup K 3 (gCons (gName 21) (gCons (gName 10) (gCons (gName 22) gNil)))))
  (tSeq (tAsg (tLc (iRng1 (tCons (tVar 1) tNil)) (gName 8) (tB (tCall sp_law_meets [] E0 (tCons (tVar 21) (tCons (tVar 10) (tCons (tVar 8) tNil))))) (tVar 8) [8]) (gName 23))
  (tSeq (tIfS (tTest (tOp (rNeU K) (tCall sp_exchange_states [] E0 (tCons (tVar 6) (tCons (tVar 18) (tCons (tVar 19) tNil)))) (tThen (tVar 23) (kTup K)))) (tRet (tC (.bl false))) tNext)
  (tSeq (tFor (iList K (tVar 23)) (gName 8) (tIfS (tB (tCB (rAny K) (tCons (tLc (iTup K (tOp (rIxU K) (tVar 9) (tVar 8))) (gName 24) tYes (tOp (rNinU K) (tVar 24) (tVar 23)) [24]) tNil))) (tRet (tC (.bl false))) tNext))
  (tSeq (tPar 25 26 (tCons (tCall sp_law_any [] E0 (tCons (tVar 0) (tCons (tVar 1) tNil))) (tCons (tCall sp_law_any [] E0 (tCons (tVar 0) (tCons (tVar 1) tNil))) tNil)))
  (tSeq (tAsg (tCall sp_against_vouching [.int 400] E0 (tCons (tVar 6) (tCons (tTup (tCons (tVar 25) tNil)) (tCons (tVar 26) tNil)))) (gName 24))
  (tSeq (tIfS (tTest (tOp (rNeU K) (tOp rIsNone (tVar 24) (tC .non)) (tOp (rInU K) (tVar 26) (tOp (rIxU K) (tVar 9) (tVar 25))))) (tRet (tC (.bl false))) tNext)
  (tIfS (tTest (tOp rIsNotNone (tVar 24) (tC .non))) (tSeq (tAsg (tVar 24) (gTup K 2 (gCons (gName 18) (gCons (gName 19) gNil))))
  (tSeq (tAsg (tTup (tCons (tTup (tCons (tVar 20) (tCons (tCall sp_law_undoing [] E0 (tCons (tVar 1) (tCons (tVar 22) tNil))) tNil))) tNil)) (gName 27))
  (tSeq (tAsg (tTup (tCons (tCall sp_law_effect [] E0 (tCons (tVar 1) (tCons (tVar 2) (tCons (tOp (rAddU K) (tOp (rAddU K) (tVar 27) (tVar 18)) (tVar 20)) tNil)))) (tCons (tCall sp_law_effect [] E0 (tCons (tVar 1) (tCons (tVar 2) (tCons (tOp (rAddU K) (tOp (rAddU K) (tVar 27) (tVar 19)) (tVar 20)) tNil)))) tNil))) (gTup K 2 (gCons (gName 21) (gCons (gName 10) gNil))))
  (tIfS (tOr (tNot (tB (tCall sp_law_meets [] E0 (tCons (tVar 21) (tCons (tVar 10) (tCons (tOp (rIxU K) (tVar 22) (tVar 25)) tNil)))))) (tB (tCall sp_law_meets [] E0 (tCons (tVar 21) (tCons (tVar 10) (tCons (tOp (rIxU K) (tVar 22) (tVar 26)) tNil)))))) (tRet (tC (.bl false))) tNext)))) tNext))))))))))
  (tRet (tC (.bl true))))))))))))))))
theorem w_law_right {P : Program} {w : World} {K : PySem.W.Frag} {mg : Str → Option Value} {base : Heap} {f : Addr} {cdv : Value} {A : Around} {outer : List Env} {s : Shared} {H : Hp} {E : XK} {k : Nat} (sp_law_meets sp_law_effect sp_law_undoing sp_against_vouching sp_law_any sp_exchange_states sp_law_row sp_any_examples sp_law_effects sp_law_unbreakable sp_is_honest sp_vouched_lots sp_vouched_states sp_vouch_grouping sp_init : Sp) (W : Wd K mg)
    (hr : Room (k + 3) (A.deeper (envOfC "_law_right" (defScope K26.s_law_right) s.heap.objs.size f cdv))) (F_law_meets : Fn P w K mg base k "_law_meets" p_law_meets sp_law_meets) (F_law_effect : Fn P w K mg base k "_law_effect" p_law_effect sp_law_effect) (F_law_undoing : Fn P w K mg base k "_law_undoing" p_law_undoing sp_law_undoing) (F_against_vouching : FnK P w K mg base k "against_vouching" p_against_vouching 3 ["most"] [.int 400] sp_against_vouching) (F_law_any : Fn P w K mg base k "_law_any" p_law_any sp_law_any) (F_exchange_states : Fn P w K mg base k "exchange_states" p_exchange_states sp_exchange_states) (F_law_row : Fn P w K mg base k "_law_row" p_law_row sp_law_row) (F_any_examples : FnK P w K mg base k "any_examples" p_any_examples 1 ["most"] [.int 400] sp_any_examples) (F_law_effects : Fn P w K mg base k "_law_effects" p_law_effects sp_law_effects) (F_law_unbreakable : Fn P w K mg base k "_law_unbreakable" p_law_unbreakable sp_law_unbreakable) (F_is_honest : FnK P w K mg base k "is_honest" p_is_honest 1 ["most"] [.int 400] sp_is_honest) (F_vouched_lots : FnK P w K mg base k "vouched_lots" p_vouched_lots 1 ["most"] [.int 400] sp_vouched_lots) (F_vouched_states : FnK P w K mg base k "vouched_states" p_vouched_states 2 ["most"] [.int 400] sp_vouched_states) (F_vouch_grouping : FnK P w K mg base k "vouch_grouping" p_vouch_grouping 1 ["most"] [.int 400] sp_vouch_grouping) {fdi : FuncData} (MK : Mk K (He.ga K "Machine") (He.ma K (He.ga K "Machine") "__init__")) (F_init : FnOk P w K mg base CX0 k (He.ma K (He.ga K "Machine") "__init__") fdi p_init sp_init) (FB : Binds K fdi p_init []) :
    PSs (cxOf CX0 P w K mg base n_law_right "_law_right" (defScope K26.s_law_right) f cdv A outer s H E).nox (defBody K26.s_law_right) (t_law_right K sp_law_meets sp_law_effect sp_law_undoing sp_against_vouching sp_law_any sp_exchange_states sp_law_row sp_any_examples sp_law_effects sp_law_unbreakable sp_is_honest sp_vouched_lots sp_vouched_states sp_vouch_grouping sp_init) := by
  have hr0 := hr.mono (Nat.le_add_right k 3)
  have hr1 : Room (k + 1) _ := hr.mono (by omega)
  have hu := huS hr
  have hu1 := huS1 hr
  exact (pss_cons (ps_setLc (i := 5) (own := [("_law_name_here", 3), ("_law_images_here", 4)]) rfl sc_law_right.nd rfl rfl (sw_true rfl rfl rfl (by decide +kernel)) (pi_list (pv 2)) (blkOk_by (N := n_law_right) (sc := defScope K26.s_law_right) (by decide +kernel)) (fun _ _ _ _ _ => (pg_tup rfl (pgs_cons (pg_name (i := 3) sc_law_right.nd rfl (by first | exact Or.inl rfl | exact Or.inr rfl)) (pgs_cons (pg_name (i := 4) sc_law_right.nd rfl (by first | exact Or.inl rfl | exact Or.inr rfl)) pgs_nil)))) (fun _ _ _ _ _ => pts_nil) (fun _ _ _ _ _ => (pv 3)))
    (pss_cons (ps_set (i := 6) sc_law_right.nd rfl (Or.inr rfl) (pe_make MK F_init hr1 rfl (W.glo 49) FB .nil pass0 (pa_cons (pv 2) pa_nil)))
    (pss_cons (ps_set (i := 7) sc_law_right.nd rfl (Or.inr rfl) (pe_fd F_vouch_grouping (Nat.le_refl _) hr0 rfl (W.glo 29) (pa_cons (pv 6) pa_nil)))
    (pss_cons (ps_set (i := 9) sc_law_right.nd rfl (Or.inr rfl) (pe_lc (own := [("_law_state", 8)]) rfl sc_law_right.nd (pi_range1 rfl (W.free 61) (pa_cons (pv 1) pa_nil)) (blkOk_by (N := n_law_right) (sc := defScope K26.s_law_right) (by decide +kernel)) (fun _ _ _ _ _ => (pg_name (i := 8) sc_law_right.nd rfl (by first | exact Or.inl rfl | exact Or.inr rfl))) (fun _ _ _ _ _ => pts_nil) (fun _ _ _ _ _ => (pe_fd F_vouched_states (Nat.le_refl _) hr0 rfl (W.glo 26) (pa_cons (pv 6) (pa_cons (pe_tup (pa_cons (pv 8) pa_nil)) pa_nil))))))
    (pss_cons (ps_for PassesOwn.never rfl (pi_range1 rfl (W.free 61) (pa_cons (pv 1) pa_nil)) (pg_name (i := 8) sc_law_right.nd rfl (Or.inr rfl)) (pss_cons (ps_setLc (i := 11) (own := [("_law_other", 10)]) rfl sc_law_right.nd rfl rfl (sw_true rfl rfl rfl (by decide +kernel)) (pi_range1 rfl (W.free 61) (pa_cons (pv 1) pa_nil)) (blkOk_by (N := n_law_right) (sc := defScope K26.s_law_right) (by decide +kernel)) (fun _ _ _ _ _ => (pg_name (i := 10) sc_law_right.nd rfl (by first | exact Or.inl rfl | exact Or.inr rfl))) (fun _ _ _ _ _ => (pts_one (PW.pt (pw_and (pt_cmpR (op_inU hu) (pv 10) (pe_ix (ix_U hu) (pv 9) (pv 8) fun _ _ => rfl) rfl) (pw_and1 (pt_cmpR (op_inU hu) (pv 8) (pe_ix (ix_U hu) (pv 9) (pv 10) fun _ _ => rfl) rfl)))))) (fun _ _ _ _ _ => (pv 10)))
    (pss_cons (ps_if (PW.pt (pw_or (pt_cmpR (op_ninU hu) (pv 8) (pe_ix (ix_U hu) (pv 9) (pv 8) fun _ _ => rfl) rfl) (pw_or1 (pt_cmpR (op_neU hu) (pv 11) (pe_lc (own := [("_law_other", 10)]) rfl sc_law_right.nd (pi_range1 rfl (W.free 61) (pa_cons (pv 1) pa_nil)) (blkOk_by (N := n_law_right) (sc := defScope K26.s_law_right) (by decide +kernel)) (fun _ _ _ _ _ => (pg_name (i := 10) sc_law_right.nd rfl (by first | exact Or.inl rfl | exact Or.inr rfl))) (fun _ _ _ _ _ => (pts_one (pt_cmpR (op_eqU hu) (pe_ix (ix_U hu) (pv 7) (pv 10) fun _ _ => rfl) (pe_ix (ix_U hu) (pv 7) (pv 8) fun _ _ => rfl) (nomark _)))) (fun _ _ _ _ _ => (pv 10))) (nomark _))))) (pss_one (ps_ret pe_bl)) pss_nil)
    (pss_one (ps_for PassesOwn.never rfl (pi_list (pv 2)) (pg_tup rfl (pgs_cons (pg_name (i := 3) sc_law_right.nd rfl (Or.inl rfl)) (pgs_cons (pg_name (i := 4) sc_law_right.nd rfl (Or.inr rfl)) pgs_nil))) (pss_cons (ps_set (i := 12) sc_law_right.nd rfl (Or.inl rfl) (pe_callB cr_sortedI rfl (W.free 62) boot_sorted (pa_cons (pe_lc (own := [("_law_other", 10)]) rfl sc_law_right.nd (pi_tup (pe_ix (ix_U hu) (pv 9) (pv 8) fun _ _ => rfl)) (blkOk_by (N := n_law_right) (sc := defScope K26.s_law_right) (by decide +kernel)) (fun _ _ _ _ _ => (pg_name (i := 10) sc_law_right.nd rfl (by first | exact Or.inl rfl | exact Or.inr rfl))) (fun _ _ _ _ _ => pts_nil) (fun _ _ _ _ _ => (pe_ix (ix_U hu) (pv 4) (pv 10) fun _ _ => rfl))) pa_nil)))
    (pss_one (ps_if (PW.pt (pw_or (pt_cmpR (op_neU hu) (pv 12) (pe_callTy call_list_of rfl (W.free 54) boot_list (pa_cons (pe_ix (ix_U hu) (pv 9) (pe_ix (ix_U hu) (pv 4) (pv 8) fun _ _ => rfl) fun _ _ => rfl) pa_nil)) (nomark _)) (pw_or1 (pt_val (pe_callB (cr_any rfl) rfl (W.free 58) boot_any (pa_cons (pe_lc (own := [("_law_other", 10)]) rfl sc_law_right.nd (pi_list (pv 11)) (blkOk_by (N := n_law_right) (sc := defScope K26.s_law_right) (by decide +kernel)) (fun _ _ _ _ _ => (pg_name (i := 10) sc_law_right.nd rfl (by first | exact Or.inl rfl | exact Or.inr rfl))) (fun _ _ _ _ _ => pts_nil) (fun _ _ _ _ _ => (pe_cmpR (op_neU hu) (pe_ix (ix_U hu) (pv 7) (pe_ix (ix_U hu) (pv 4) (pv 10) fun _ _ => rfl) fun _ _ => rfl) (pe_ix (ix_U hu) (pv 7) (pe_ix (ix_U hu) (pv 4) (pv 8) fun _ _ => rfl) fun _ _ => rfl) (nomark _)))) pa_nil)))))) (pss_one (ps_ret pe_bl)) pss_nil))))))))
    (pss_cons (ps_set (i := 13) sc_law_right.nd rfl (Or.inl rfl) (pe_ifExp (pt_cmpR op_ltI (pv 1) pe_int (nomark _)) (pe_fd F_vouched_lots (Nat.le_refl _) hr0 rfl (W.glo 28) (pa_cons (pv 6) pa_nil)) (pe_tup pa_nil)))
    (pss_cons (ps_for PassesOwn.never rfl (pi_tup (pv 13)) (pg_name (i := 14) sc_law_right.nd rfl (Or.inl rfl)) (pss_one (ps_for PassesOwn.never rfl (pi_list (pv 2)) (pg_tup rfl (pgs_cons (pg_name (i := 3) sc_law_right.nd rfl (Or.inl rfl)) (pgs_cons (pg_name (i := 4) sc_law_right.nd rfl (Or.inr rfl)) pgs_nil))) (pss_one (ps_if (pt_cmpR (op_ninU hu) (pe_tupleOf rfl (W.free 55) (pe_callB cr_sortedI rfl (W.free 62) boot_sorted (pa_cons (pe_lc (own := [("_law_state", 8)]) rfl sc_law_right.nd (pi_tup (pv 14)) (blkOk_by (N := n_law_right) (sc := defScope K26.s_law_right) (by decide +kernel)) (fun _ _ _ _ _ => (pg_name (i := 8) sc_law_right.nd rfl (by first | exact Or.inl rfl | exact Or.inr rfl))) (fun _ _ _ _ _ => pts_nil) (fun _ _ _ _ _ => (pe_ix (ix_U hu) (pv 4) (pv 8) fun _ _ => rfl))) pa_nil))) (pv 13) rfl) (pss_one (ps_ret pe_bl)) pss_nil)))))
    (pss_cons (ps_set (i := 15) sc_law_right.nd rfl (Or.inl rfl) (pe_fd F_is_honest (Nat.le_refl _) hr0 rfl (W.glo 24) (pa_cons (pv 6) pa_nil)))
    (pss_cons (ps_if (PW.pt (pw_or (pt_cmpR (op_neU hu) (pv 15) (pe_callB (cr_all rfl) rfl (W.free 57) boot_all (pa_cons (pe_lc (own := [("_law_lot", 14)]) rfl sc_law_right.nd (pi_list (pv 9)) (blkOk_by (N := n_law_right) (sc := defScope K26.s_law_right) (by decide +kernel)) (fun _ _ _ _ _ => (pg_name (i := 14) sc_law_right.nd rfl (by first | exact Or.inl rfl | exact Or.inr rfl))) (fun _ _ _ _ _ => pts_nil) (fun _ _ _ _ _ => (pe_cmpR (op_eqU hu) (pe_callB call_lenU rfl (W.free 56) boot_len (pa_cons (pv 14) pa_nil)) (pv 1) (nomark _)))) pa_nil)) (nomark _)) (pw_or1 (pt_cmpR (op_neU hu) (pv 15) (pe_cmpR op_ltI (pe_fd F_any_examples (Nat.le_refl _) hr0 rfl (W.glo 30) (pa_cons (pv 6) pa_nil)) pe_int (nomark _)) (nomark _))))) (pss_one (ps_ret pe_bl)) pss_nil)
    (pss_cons (ps_if (PW.pt (pw_and (pt_cmpR op_gtI (pv 1) pe_int (nomark _)) (pw_and (pt_not (pt_val (pv 15))) (pw_and (pt_cmpR (op_neU hu) (pv 9) (pe_lc (own := [("_law_state", 8)]) rfl sc_law_right.nd (pi_range1 rfl (W.free 61) (pa_cons (pv 1) pa_nil)) (blkOk_by (N := n_law_right) (sc := defScope K26.s_law_right) (by decide +kernel)) (fun _ _ _ _ _ => (pg_name (i := 8) sc_law_right.nd rfl (by first | exact Or.inl rfl | exact Or.inr rfl))) (fun _ _ _ _ _ => pts_nil) (fun _ _ _ _ _ => (pe_tup (pa_cons (pv 8) pa_nil)))) (nomark _)) (pw_and1 (pt_val (pe_f F_law_unbreakable (Nat.le_refl _) hr0 rfl (W.glo 42) (pa_cons (pv 1) (pa_cons (pv 2) pa_nil))))))))) (pss_one (ps_ret pe_bl)) pss_nil)
    (pss_cons (ps_set (i := 16) sc_law_right.nd rfl (Or.inl rfl) (pe_callB call_lenU rfl (W.free 56) boot_len (pa_cons (pe_f F_law_effects (Nat.le_refl _) hr0 rfl (W.glo 38) (pa_cons (pv 1) (pa_cons (pv 2) (pa_cons pe_int pa_nil)))) pa_nil)))
    (pss_cons (ps_if (PW.pt (pw_and (pt_cmpR (op_eqU hu) (pv 16) (pe_ix (ix_U hu) (pe_op op_addU (pe_lst (pa_cons pe_int (pa_cons pe_int (pa_cons pe_int (pa_cons pe_int (pa_cons pe_int pa_nil)))))) (pe_op op_mulU (pe_lst (pa_cons pe_int pa_nil)) (pv 1))) (pv 1) fun _ _ => rfl) (nomark _)) (pw_and1 (pt_cmpR (op_neU hu) (pe_fd F_any_examples (Nat.le_refl _) hr0 rfl (W.glo 30) (pa_cons (pv 6) pa_nil)) (pe_op op_subI (pv 1) pe_int) (nomark _))))) (pss_one (ps_ret pe_bl)) pss_nil)
    (pss_cons (ps_for PassesOwn.never rfl (pi_range1 rfl (W.free 61) (pa_cons pe_int pa_nil)) (pg_name (i := 17) sc_law_right.nd rfl (Or.inl rfl)) (pss_cons (ps_par3 (i := 18) (j := 19) (l := 20) rfl sc_law_right.nd rfl rfl rfl (by decide) (by decide) (by decide) rfl rfl rfl (pa_cons (pe_f F_law_row (Nat.le_refl _) hr0 rfl (W.glo 43) (pa_cons (pv 0) (pa_cons (pv 5) (pa_cons pe_int pa_nil)))) (pa_cons (pe_f F_law_row (Nat.le_refl _) hr0 rfl (W.glo 43) (pa_cons (pv 0) (pa_cons (pv 5) (pa_cons pe_int pa_nil)))) (pa_cons (pe_f F_law_row (Nat.le_refl _) hr0 rfl (W.glo 43) (pa_cons (pv 0) (pa_cons (pv 5) (pa_cons pe_int pa_nil)))) pa_nil))) rfl)
    (pss_cons (ps_asg (pe_tup (pa_cons (pe_f F_law_effect (Nat.le_refl _) hr0 rfl (W.glo 44) (pa_cons (pv 1) (pa_cons (pv 2) (pa_cons (pv 18) pa_nil)))) (pa_cons (pe_f F_law_effect (Nat.le_refl _) hr0 rfl (W.glo 44) (pa_cons (pv 1) (pa_cons (pv 2) (pa_cons (pv 19) pa_nil)))) (pa_cons (pe_f F_law_effect (Nat.le_refl _) hr0 rfl (W.glo 44) (pa_cons (pv 1) (pa_cons (pv 2) (pa_cons (pv 20) pa_nil)))) pa_nil)))) (pg_tup rfl (pgs_cons (pg_name (i := 21) sc_law_right.nd rfl (Or.inr rfl)) (pgs_cons (pg_name (i := 10) sc_law_right.nd rfl (Or.inr rfl)) (pgs_cons (pg_name (i := 22) sc_law_right.nd rfl (Or.inl rfl)) pgs_nil)))))
    (pss_cons (ps_set (i := 23) sc_law_right.nd rfl (Or.inr rfl) (pe_lc (own := [("_law_state", 8)]) rfl sc_law_right.nd (pi_range1 rfl (W.free 61) (pa_cons (pv 1) pa_nil)) (blkOk_by (N := n_law_right) (sc := defScope K26.s_law_right) (by decide +kernel)) (fun _ _ _ _ _ => (pg_name (i := 8) sc_law_right.nd rfl (by first | exact Or.inl rfl | exact Or.inr rfl))) (fun _ _ _ _ _ => (pts_one (pt_val (pe_f F_law_meets (Nat.le_refl _) hr0 rfl (W.glo 46) (pa_cons (pv 21) (pa_cons (pv 10) (pa_cons (pv 8) pa_nil))))))) (fun _ _ _ _ _ => (pv 8))))
    (pss_cons (ps_if (pt_cmpR (op_neU hu) (pe_f F_exchange_states (Nat.le_refl _) hr0 rfl (W.glo 12) (pa_cons (pv 6) (pa_cons (pv 18) (pa_cons (pv 19) pa_nil)))) (pe_tupleOf rfl (W.free 55) (pv 23)) (nomark _)) (pss_one (ps_ret pe_bl)) pss_nil)
    (pss_cons (ps_for PassesOwn.never rfl (pi_list (pv 23)) (pg_name (i := 8) sc_law_right.nd rfl (Or.inr rfl)) (pss_one (ps_if (pt_val (pe_callB (cr_any rfl) rfl (W.free 58) boot_any (pa_cons (pe_lc (own := [("_law_told", 24)]) rfl sc_law_right.nd (pi_tup (pe_ix (ix_U hu) (pv 9) (pv 8) fun _ _ => rfl)) (blkOk_by (N := n_law_right) (sc := defScope K26.s_law_right) (by decide +kernel)) (fun _ _ _ _ _ => (pg_name (i := 24) sc_law_right.nd rfl (by first | exact Or.inl rfl | exact Or.inr rfl))) (fun _ _ _ _ _ => pts_nil) (fun _ _ _ _ _ => (pe_cmpR (op_ninU hu) (pv 24) (pv 23) rfl))) pa_nil))) (pss_one (ps_ret pe_bl)) pss_nil)))
    (pss_cons (ps_par (i := 25) (j := 26) rfl sc_law_right.nd rfl rfl (by decide) rfl rfl (pa_cons (pe_f F_law_any (Nat.le_refl _) hr0 rfl (W.glo 32) (pa_cons (pv 0) (pa_cons (pv 1) pa_nil))) (pa_cons (pe_f F_law_any (Nat.le_refl _) hr0 rfl (W.glo 32) (pa_cons (pv 0) (pa_cons (pv 1) pa_nil))) pa_nil)) rfl)
    (pss_cons (ps_set (i := 24) sc_law_right.nd rfl (Or.inl rfl) (pe_fd F_against_vouching (Nat.le_refl _) hr0 rfl (W.glo 27) (pa_cons (pv 6) (pa_cons (pe_tup (pa_cons (pv 25) pa_nil)) (pa_cons (pv 26) pa_nil)))))
    (pss_cons (ps_if (pt_cmpR (op_neU hu) (pe_cmpR op_isNone (pv 24) pe_non (nomark _)) (pe_cmpR (op_inU hu) (pv 26) (pe_ix (ix_U hu) (pv 9) (pv 25) fun _ _ => rfl) rfl) (nomark _)) (pss_one (ps_ret pe_bl)) pss_nil)
    (pss_one (ps_if (pt_cmpR op_isNotNone (pv 24) pe_non (nomark _)) (pss_cons (ps_asg (pv 24) (pg_tup rfl (pgs_cons (pg_name (i := 18) sc_law_right.nd rfl (Or.inl rfl)) (pgs_cons (pg_name (i := 19) sc_law_right.nd rfl (Or.inl rfl)) pgs_nil))))
    (pss_cons (ps_set (i := 27) sc_law_right.nd rfl (Or.inl rfl) (pe_tup (pa_cons (pe_tup (pa_cons (pv 20) (pa_cons (pe_f F_law_undoing (Nat.le_refl _) hr0 rfl (W.glo 45) (pa_cons (pv 1) (pa_cons (pv 22) pa_nil))) pa_nil))) pa_nil)))
    (pss_cons (ps_asg (pe_tup (pa_cons (pe_f F_law_effect (Nat.le_refl _) hr0 rfl (W.glo 44) (pa_cons (pv 1) (pa_cons (pv 2) (pa_cons (pe_op op_addU (pe_op op_addU (pv 27) (pv 18)) (pv 20)) pa_nil)))) (pa_cons (pe_f F_law_effect (Nat.le_refl _) hr0 rfl (W.glo 44) (pa_cons (pv 1) (pa_cons (pv 2) (pa_cons (pe_op op_addU (pe_op op_addU (pv 27) (pv 19)) (pv 20)) pa_nil)))) pa_nil))) (pg_tup rfl (pgs_cons (pg_name (i := 21) sc_law_right.nd rfl (Or.inr rfl)) (pgs_cons (pg_name (i := 10) sc_law_right.nd rfl (Or.inr rfl)) pgs_nil))))
    (pss_one (ps_if (PW.pt (pw_or (pt_not (pt_val (pe_f F_law_meets (Nat.le_refl _) hr0 rfl (W.glo 46) (pa_cons (pv 21) (pa_cons (pv 10) (pa_cons (pe_ix (ix_U hu) (pv 22) (pv 25) fun _ _ => rfl) pa_nil)))))) (pw_or1 (pt_val (pe_f F_law_meets (Nat.le_refl _) hr0 rfl (W.glo 46) (pa_cons (pv 21) (pa_cons (pv 10) (pa_cons (pe_ix (ix_U hu) (pv 22) (pv 26) fun _ _ => rfl) pa_nil)))))))) (pss_one (ps_ret pe_bl)) pss_nil))))) pss_nil)))))))))))
    (pss_one (ps_ret pe_bl)))))))))))))))
def n_law : List Str := ["_law_script", "_law_deal_here", "_law_n", "_law_deeds", "_law_names", "_law_images_here", "_law_turned", "_law_name_here", "_law_led"]
def p_law : List Str := ["_law_script"]
theorem sc_law : FnScope n_law p_law (defScope K26.s_law) := ⟨rfl, rfl, rfl, by decide +kernel, rfl, by decide +kernel, by decide +kernel⟩
def t_law (K : PySem.W.Frag) (sp_law_right sp_law_then sp_law_drawn sp_law_deal : Sp) : TS := (tSeq (tAsg (tCall sp_law_deal [] E0 (tCons (tVar 0) (tCons (tC (.int 26)) tNil))) (gName 1))
  (tSeq (tAsg (tCall sp_law_drawn [] E0 (tCons (tVar 1) tNil)) (gTup K 2 (gCons (gName 2) (gCons (gName 3) gNil))))
  (tSeq (tPar 4 5 (tCons (tLc (iList K (tVar 3)) (gTup K 2 (gCons (gName 7) (gCons (gName 8) gNil))) tYes (tVar 7) [7, 8]) (tCons (tLc (iList K (tVar 3)) (gTup K 2 (gCons (gName 7) (gCons (gName 8) gNil))) tYes (tVar 8) [7, 8]) tNil)))
  (tSeq (tAsg (tOp (rAddU K) (tSl (rSlL K) (tVar 5) (tPart (tC (.int 1))) tNoPart) (tLst (tCons (tCall sp_law_then [] E0 (tCons (tOp (rIxU K) (tVar 5) (tC (.int 0))) (tCons (tOp (rIxU K) (tVar 5) (tUn rNegI (tC (.int 1)))) tNil))) tNil))) (gName 6))
  (tRet (tAndV (tCall sp_law_right [] E0 (tCons (tVar 1) (tCons (tVar 2) (tCons (tVar 3) tNil)))) (tCall sp_law_right [] E0 (tCons (tVar 1) (tCons (tVar 2) (tCons (tLc (iZip K (tCons (tVar 4) (tCons (tVar 6) tNil))) (gTup K 2 (gCons (gName 7) (gCons (gName 8) gNil))) tYes (tTup (tCons (tVar 7) (tCons (tVar 8) tNil))) [7, 8]) tNil))))))))))
theorem w_law {P : Program} {w : World} {K : PySem.W.Frag} {mg : Str → Option Value} {base : Heap} {f : Addr} {cdv : Value} {A : Around} {outer : List Env} {s : Shared} {H : Hp} {E : XK} {k : Nat} (sp_law_right sp_law_then sp_law_drawn sp_law_deal : Sp) (W : Wd K mg)
    (hr : Room (k + 3) (A.deeper (envOfC "law" (defScope K26.s_law) s.heap.objs.size f cdv))) (F_law_right : Fn P w K mg base k "_law_right" p_law_right sp_law_right) (F_law_then : Fn P w K mg base k "_law_then" p_law_then sp_law_then) (F_law_drawn : Fn P w K mg base k "_law_drawn" p_law_drawn sp_law_drawn) (F_law_deal : Fn P w K mg base k "_law_deal" p_law_deal sp_law_deal) :
    PSs (cxOf CX0 P w K mg base n_law "law" (defScope K26.s_law) f cdv A outer s H E).nox (defBody K26.s_law) (t_law K sp_law_right sp_law_then sp_law_drawn sp_law_deal) := by
  have hr0 := hr.mono (Nat.le_add_right k 3)
  have hr1 : Room (k + 1) _ := hr.mono (by omega)
  have hu := huS hr
  have hu1 := huS1 hr
  exact (pss_cons (ps_set (i := 1) sc_law.nd rfl (Or.inl rfl) (pe_f F_law_deal (Nat.le_refl _) hr0 rfl (W.glo 31) (pa_cons (pv 0) (pa_cons pe_int pa_nil))))
    (pss_cons (ps_asg (pe_f F_law_drawn (Nat.le_refl _) hr0 rfl (W.glo 40) (pa_cons (pv 1) pa_nil)) (pg_tup rfl (pgs_cons (pg_name (i := 2) sc_law.nd rfl (Or.inl rfl)) (pgs_cons (pg_name (i := 3) sc_law.nd rfl (Or.inl rfl)) pgs_nil))))
    (pss_cons (ps_par (i := 4) (j := 5) rfl sc_law.nd rfl rfl (by decide) rfl rfl (pa_cons (pe_lc (own := [("_law_name_here", 7), ("_law_led", 8)]) rfl sc_law.nd (pi_list (pv 3)) (blkOk_by (N := n_law) (sc := defScope K26.s_law) (by decide +kernel)) (fun _ _ _ _ _ => (pg_tup rfl (pgs_cons (pg_name (i := 7) sc_law.nd rfl (by first | exact Or.inl rfl | exact Or.inr rfl)) (pgs_cons (pg_name (i := 8) sc_law.nd rfl (by first | exact Or.inl rfl | exact Or.inr rfl)) pgs_nil)))) (fun _ _ _ _ _ => pts_nil) (fun _ _ _ _ _ => (pv 7))) (pa_cons (pe_lc (own := [("_law_name_here", 7), ("_law_led", 8)]) rfl sc_law.nd (pi_list (pv 3)) (blkOk_by (N := n_law) (sc := defScope K26.s_law) (by decide +kernel)) (fun _ _ _ _ _ => (pg_tup rfl (pgs_cons (pg_name (i := 7) sc_law.nd rfl (by first | exact Or.inl rfl | exact Or.inr rfl)) (pgs_cons (pg_name (i := 8) sc_law.nd rfl (by first | exact Or.inl rfl | exact Or.inr rfl)) pgs_nil)))) (fun _ _ _ _ _ => pts_nil) (fun _ _ _ _ _ => (pv 8))) pa_nil)) rfl)
    (pss_cons (ps_set (i := 6) sc_law.nd rfl (Or.inl rfl) (pe_op op_addU (pe_slice sl_list (pv 5) (po_some pe_int) po_none) (pe_lst (pa_cons (pe_f F_law_then (Nat.le_refl _) hr0 rfl (W.glo 37) (pa_cons (pe_ix (ix_U hu) (pv 5) pe_int fun _ _ => rfl) (pa_cons (pe_ix (ix_U hu) (pv 5) (pe_un un_neg pe_int) fun _ _ => rfl) pa_nil))) pa_nil))))
    (pss_one (ps_ret (pe_and (pe_f F_law_right (Nat.le_refl _) hr0 rfl (W.glo 47) (pa_cons (pv 1) (pa_cons (pv 2) (pa_cons (pv 3) pa_nil)))) (pe_one (pe_f F_law_right (Nat.le_refl _) hr0 rfl (W.glo 47) (pa_cons (pv 1) (pa_cons (pv 2) (pa_cons (pe_lc (own := [("_law_name_here", 7), ("_law_led", 8)]) rfl sc_law.nd (pi_zip rfl (W.free 63) (pa_cons (pv 4) (pa_cons (pv 6) pa_nil))) (blkOk_by (N := n_law) (sc := defScope K26.s_law) (by decide +kernel)) (fun _ _ _ _ _ => (pg_tup rfl (pgs_cons (pg_name (i := 7) sc_law.nd rfl (by first | exact Or.inl rfl | exact Or.inr rfl)) (pgs_cons (pg_name (i := 8) sc_law.nd rfl (by first | exact Or.inl rfl | exact Or.inr rfl)) pgs_nil)))) (fun _ _ _ _ _ => pts_nil) (fun _ _ _ _ _ => (pe_tup (pa_cons (pv 7) (pa_cons (pv 8) pa_nil))))) pa_nil))))))))))))
end B
/-! _law_right. -/
namespace B
open PySem PySem.Spec PyProof.Rows L2
section
variable {Rl : Hp → Hp → Prop} [RlOk Rl] {K : PySem.W.Frag} {σ : L2.St} {H H' : Hp} {ta tb te : TE} {t : TT} {α : Type} [Enc α] {D : Ends}
theorem n_ifB {p : α → Prop} {b : Bool} (h : EvT Rl t σ H b) (h1 : b = true → EvN Rl ta σ H p) (h2 : b = false → EvN Rl tb σ H p) : EvN Rl (tIf t ta tb) σ H p := fun H1 e Q q => h H1 e _ fun H2 e2 => by
  cases b with
  | true => rw [if_pos rfl]; exact h1 rfl H2 (RlOk.trans e e2) Q fun a v H3 pa e3 r => q a v H3 pa (RlOk.trans e2 e3) r
  | false => rw [if_neg (by decide)]; exact h2 rfl H2 (RlOk.trans e e2) Q fun a v H3 pa e3 r => q a v H3 pa (RlOk.trans e2 e3) r
theorem et_ofN {p : Bool → Prop} {b : Bool} (h : EvTN Rl t σ H p) (hp : ∀ c, p c → c = b) : EvT Rl t σ H b := fun H1 e Q q => h H1 e Q fun c H2 pc e2 => by
  rw [hp c pc]
  exact q H2 e2
theorem e_catNew {xs ys : List α} (ha : EvL Ex ta σ H xs) (hb : EvL Ex tb σ H ys) (hn : xs.length + ys.length ≤ 1000000) : EvL Ex (tOp (rAddU K) ta tb) σ H (xs ++ ys) := fun H1 e Q q => by
  refine ha H1 e _ fun p1 vs H2 hp1 e2 h1 r1 => hb H2 (e.trans e2) _ fun p2 ws H3 hp2 e3 h2 r2 => ?_
  have r1 := upA (Rl := Ex) e3 r1
  refine .inr (.inr (.inl ⟨p1, p2, vs, ws, rfl, rfl, e3 _ _ h1, h2, sz (by rw [r1.length, r2.length]; exact hn), fun q' hq' => ?_⟩))
  have e4 : Ex H3 (upd H3 q' (.lst (vs ++ ws))) := Ex.new hq'
  exact q q' (vs ++ ws) _ (RlOk.back (Rl := Ex) (e2.trans e3) hq') (e2.trans (e3.trans e4)) upd_same ((upA (Rl := Ex) e4 r1).append (upA (Rl := Ex) e4 r2))
theorem k_mach {p : Addr} {n : Nat} {ds : List Deed} (hj : σ[2]? = some (some (.ref p))) (ok : MachOk n ds) (hp : LsAt H p ds) (k : ∀ x H2, Ex H H2 → MachAt K H2 x n ds → D.nx (σ.set 6 (some (.ref x))) H2) :
    tAsg (tMake (He.ga K "Machine") (spMach K) [] E0 (tCons (tVar 2) tNil)) (gName 6) D σ H :=
  ⟨.ref p, hj, fun x dx hx hdx hne => by
    have e1 : Ex H (upd H dx (.own x)) := Ex.new hdx
    have e2 : Ex H (upd (upd H dx (.own x)) x (.ins (mC K) dx [])) := e1.trans (Ex.new (by rw [upd_ne (Ne.symm hne)]; exact hx))
    exact ⟨x, dx, p, n, ds, rfl, upd_same, ok, hp.mono e2, fun H2 e3 hM => ⟨rfl, k x H2 (ExM.out e2 e3 fun a z => z ▸ hx) hM⟩⟩⟩
end
def spRight : Sp := fun vs H Q _ => ∃ (d c p : Addr) (n : Nat) (ds : List Deed), Rt n ds ∧ DealAt d c H ∧ LsAt H p ds ∧ p ≠ d ∧ p ≠ c ∧ vs = [.ref d, .int (n : Nat), .ref p] ∧ ∀ H2, Dl d c H H2 → Q (.bl true) H2
theorem spRight_len (vs : List V) (H : Hp) (Q : VK) (E : XK) (z : spRight vs H Q E) : vs.length = 3 := by obtain ⟨_, _, _, _, _, _, _, _, _, _, rfl, _⟩ := z; rfl
section
variable {P : Program} {w : World} {K : PySem.W.Frag} {mg : Str → Option Value} {base : Heap}
theorem ok_law_right (W : Wd K mg) : Fn P w K mg base 36 "_law_right" p_law_right spRight := by
  obtain ⟨fdi, FI, MK, FB⟩ := ok_init (P := P) (w := w) (base := base) W
  refine fn_ok (k := 32) W 47 sc_law_right spRight_len (fun _ _ _ _ _ _ us hl => match us, hl with | [_, _, _], _ => rfl) fun f cdv A outer s H vs Q E hr h => ⟨_, w_law_right spMeets (spLE 2) spUndo (spAgainst K) spAnyD (spExch K 2) spRow21 (spAny K) spEffs spUnbr (spHonest K) (spVLots K) (spVouch K) (spGroup K) (spMach K) W hr
    (F_law_meets := (ok_law_meets W).mono (by decide)) (F_law_effect := (ok_law_effect W 2).mono (by decide)) (F_law_undoing := (ok_law_undoing W).mono (by decide)) (F_against_vouching := (ok_against_vouching W).mono (by decide)) (F_law_any := (ok_law_any W).mono (by decide)) (F_exchange_states := ok_exchange_states W 2) (F_law_row := (ok_law_row21 W).mono (by decide)) (F_any_examples := (ok_any_examples W).mono (by decide)) (F_law_effects := (ok_law_effects W).mono (by decide)) (F_law_unbreakable := (ok_law_unbreakable W).mono (by decide)) (F_is_honest := (ok_is_honest W).mono (by decide)) (F_vouched_lots := (ok_vouched_lots W).mono (by decide)) (F_vouched_states := (ok_vouched_states W).mono (by decide)) (F_vouch_grouping := (ok_vouch_grouping W).mono (by decide)) (MK := MK) (F_init := FI.mono (by decide)) (FB := FB), ?_⟩
  obtain ⟨d, c, p, n, ds, R, hD, hp, hpd, hpc, rfl, hq⟩ := h
  have h2 := R.ok.lo
  have h12 := R.n12
  have hn : n ≤ 1000000 := by omega
  have h8 := R.ok.most
  show tSeq _ _ _ _ _
  refine k_seq (k_setL (Rl := Ex) (xs := ds.map (·.1)) (el_is (e_lc2 (fun _ : Deed => true) (fun q : Deed => q.1) fr_ex (ws_ls (e_var rfl rfl) hp.ls) (by omega) (by decide) fun q va vb H8 hq8 e8 ra rb => ⟨et_yes, fun _ => e_var rfl ra⟩) (by rw [List.filter_eq_self.mpr fun _ _ => rfl])) fun p5 vs5 H1 hn5 e1 hl5 r5 => ?_)
  have l5 : LsAt H1 p5 (ds.map (·.1)) := ⟨vs5, hl5, r5⟩
  dsimp only
  refine k_seq (k_mach rfl R.ok (hp.mono e1) fun p6 H2 e2 hM => ?_)
  have e02 := e1.trans e2
  dsimp only
  refine k_seq (k_nset (Rl := Ex) (n_m400 (pre := preM K) (post := fun i (r : List Nat) => GroupOk i.1 i.2.1 r) (n := n) (ds := ds) (p := p6) rfl fun H3 e => ⟨R.ok, R.sm, by show 61 ≤ 400; decide, hM.mono e⟩) fun g v7 H3 hg e3 r7 => ?_)
  have hg : GroupOk n ds g := hg
  have hM3 := hM.mono e3
  have e03 := e02.trans e3
  dsimp only
  refine k_seq (k_setL (Rl := Ex) (xs := al n ds) (e_lcM (fun s => vouch n ds [s]) fr_ex (ws_rg1 (n := n) (ea_cons (e_var rfl rfl) ea_nil) hn) (by rw [List.length_range]; exact hn) fun o vo H4 ho e4 yo => e_vouch rfl R.ok R.sm (hM3.mono e4) (e_one (e_var (a := o) rfl yo)) (by show 1 ≤ 1000000; decide)) fun p9 vs9 H4 hn9 e4 hl9 r9 => ?_)
  have l9 : LsAt H4 p9 (al n ds) := ⟨vs9, hl9, r9⟩
  have e04 := e03.trans e4
  dsimp only
  refine k_seq (lr1 R (hp.mono e04) l9 (up (Rl := Ex) e4 r7) hg rfl fun H5 o3 o4 o8 o11 o12 e5 => ?_)
  have e05 := e04.trans e5
  have hM5 := hM3.mono (e4.trans e5)
  dsimp only
  refine k_seq (k_nset (Rl := Ex) (p := fun r : List (List Nat) => r = [] ∨ ∀ lot, lot ∈ r ↔ Inc n lot ∧ vouch n ds lot = lot) (n_ifB (b := decide (n < 6)) (et_test (e_op (e_var (a := n) rfl rfl) (eN 6) rv_ltN)) (fun hb => n_imp (n_m400 (pre := fun i H => preM K i H ∧ i.1 ≤ 5) (post := fun i (r : List (List Nat)) => r.length ≤ 100000 ∧ ∀ lot, lot ∈ r ↔ Inc i.1 lot ∧ vouch i.1 i.2.1 lot = lot) (n := n) (ds := ds) (p := p6) rfl fun H6 e => ⟨⟨R.ok, R.sm, by show 61 ≤ 400; decide, hM5.mono e⟩, by have := of_decide_eq_true hb; show n ≤ 5; omega⟩) fun r h => .inr h.2) fun _ => n_imp (n_ev (e_unitT (α := List Nat))) fun r h => .inl h) fun lots v13 H6 hlots e6 r13 => ?_)
  have e06 := e05.trans e6
  dsimp only
  refine k_seq (lr2 R (hp.mono e06) r13 hlots rfl fun H7 o3 o4 o14 e7 => ?_)
  have e07 := e06.trans e7
  have hM7 := hM5.mono (e6.trans e7)
  dsimp only
  refine k_seq (k_nset (Rl := Ex) (n_m400 (pre := preM K) (post := fun i (b : Bool) => b = true ↔ Honest i.1 i.2.1) (n := n) (ds := ds) (p := p6) rfl fun H8 e => ⟨R.ok, R.sm, by show 61 ≤ 400; decide, hM7.mono e⟩) fun b v15 H8 hb e8 r15 => ?_)
  have hb : b = true ↔ Honest n ds := hb
  obtain rfl : v15 = .bl b := r15
  have e08 := e07.trans e8
  have hM8 := hM7.mono e8
  have l98 := l9.mono (e5.trans (e6.trans (e7.trans e8)))
  have any8 : ∀ {σ : L2.St} {H9 : Hp}, Ex H8 H9 → σ[6]? = some (some (.ref p6)) → EvN Ex (tCall (spAny K) [.int 400] E0 (tCons (tVar 6) tNil)) σ H9 (fun r : Nat => AnyEx n ds r) := fun e hj => n_m400 (pre := preM K) (post := fun i (r : Nat) => AnyEx i.1 i.2.1 r) (n := n) (ds := ds) (p := p6) hj fun H10 e2 => ⟨R.ok, R.sm, by show 61 ≤ 400; decide, hM8.mono (e.trans e2)⟩
  dsimp only
  refine k_seq (k_ifN (Rl := Ex) (et_orF (et_is (et_test (e_op (e_var (a := b) rfl rfl) (e_all (bs := (al n ds).map fun l => decide (l.length = n)) (e_lcM (fun l : List Nat => decide (l.length = n)) fr_ex (ws_ls (e_var rfl rfl) l98.ls) (by rw [al_len]; exact hn) fun l vl H9 hl e9 yl => e_op (e_lenT (e_var rfl yl)) (e_var (a := n) rfl rfl) rv_eqN)) rv_neB)) ?_) (et_ofN (nt_test (n_op (f := fun a b => !decide (a = b)) (n_ev (e_var (a := b) rfl rfl)) (n_op (f := fun a b => decide (a < b)) (any8 (Ex.refl _) rfl) (n_ev (eN 2)) fun _ _ _ _ => rv_ltN) fun _ _ _ _ => rv_neB)) ?_)) fun H9 e9 => ?_)
  · have : b = ((al n ds).map fun l => decide (l.length = n)).all id := Bool.eq_iff_iff.mpr (hb.trans (al_all R).symm)
    rw [decide_eq_true this]; rfl
  · rintro _ ⟨x1, x2, h1, ⟨r, x3, hr, rfl, h4⟩, rfl⟩
    rw [h1, h4]
    have : b = decide (r < 2) := Bool.eq_iff_iff.mpr (hb.trans ((any_iff R.pm hr).symm.trans decide_eq_true_iff.symm))
    rw [decide_eq_true this]; rfl
  have l99 := l98.mono e9
  have hp9 := hp.mono (e08.trans e9)
  dsimp only
  refine k_seq (k_ifN (Rl := Ex) (et_ofN (nt_and (nt_ev (et_test (e_op (e_var (a := n) rfl rfl) (eN 2) rv_gtN))) fun h3 => nt_and (nt_ev (et_not (et_B (e_var (a := b) rfl rfl)))) fun h4 => nt_and (nt_ev (et_test (e_neL (xs := al n ds) (ys := (List.range n).map fun s => [s]) (e_var rfl rfl) l99.ls (e_lcM (fun s => [s]) fr_ex (ws_rg1 (n := n) (ea_cons (e_var rfl rfl) ea_nil) hn) (by rw [List.length_range]; exact hn) fun o vo H10 ho e10 yo => e_one (e_var (a := o) rfl yo)) (fun _ _ _ _ => trivial) (fun _ _ _ _ => trivial) (by decide)))) fun h5 => nt_B (n_callP (ι := Nat × List Deed × Addr) (post := fun i (b : Bool) => b = true → ∀ a b, a < b → b < i.1 → Joined i.1 i.2.1 a b) (n, ds, p) (ea_cons (e_var rfl rfl) (ea_cons (e_var rfl rfl) ea_nil)) fun H10 e10 => ⟨R.ok.hi, R.ok.ok, R.ok.most, hp9.mono e10⟩)) ?_) fun H10 e10 => ?_)
  · rintro x (⟨rfl, _⟩ | ⟨h3, ⟨rfl, _⟩ | ⟨h4, ⟨rfl, _⟩ | ⟨h5, h6⟩⟩⟩)
    · rfl
    · rfl
    · rfl
    · refine Bool.eq_false_iff.mpr fun hx => ?_
      have hh : ¬ Honest n ds := fun z => by rw [hb.mpr z] at h4; cases h4
      have := al_one fun s hs => unbreak R.pm R.sm (h6 hx) hh hs
      rw [decide_eq_true this] at h5
      cases h5
  have e0A := e08.trans (e9.trans e10)
  dsimp only
  refine k_seq (k_setQ ?_)
  refine ⟨.int (n : Nat), rfl, .ref p, rfl, (n, ds, p, 60), ⟨R.ok, rfl, hp.mono e0A⟩, ⟨rfl, rfl, rfl, trivial⟩, fun pE ws L HB hnB eB hL hlB rB => .inl ⟨pE, ws, rfl, .inl (SqL.of hlB), ?_⟩⟩
  have hwl := rB.length
  rw [hwl]
  have hL : L.length ≤ 60 → AllE n ds L := hL
  have e8B := e9.trans (e10.trans eB)
  have e0B := e08.trans e8B
  dsimp only
  refine k_seq (k_ifN (Rl := Ex) (et_ofN (nt_and (nt_ev (et_test (e_op (a := L.length) (b := tab n) (e_var rfl rfl) (e_ixNew (xs := [0, 1, 2, 6, 24] ++ List.replicate n 0) (i := n) (e_catNew (e_lstH (eh_cons (eN 0) (eh_cons (eN 1) (eh_cons (eN 2) (eh_cons (eN 6) (eh_cons (eN 24) eh_nil))))) (by show 5 ≤ 1000000; decide)) (e_rep1 (eN 0) (e_var (a := n) rfl rfl) hn fr_ex) (by rw [List.length_replicate]; show 5 + n ≤ 1000000; omega)) (e_var rfl rfl) (tab_at h2 h12) fr_ex) rv_eqN))) fun h3 => nt_test (n_op (f := fun a b => !decide (a = b)) (any8 e8B rfl) (n_ev (e_subN (e_var (a := n) rfl rfl) (eN 2) h2)) fun _ _ _ _ => rv_neN)) ?_) fun HC eC => ?_)
  · rintro x (⟨rfl, _⟩ | ⟨h3, r, _, hr, rfl, rfl⟩)
    · rfl
    · rw [decide_eq_true (turns_ok R hL hr (of_decide_eq_true h3.symm))]; rfl
  have e0C := e0B.trans eC
  have d0C : Dl d c H HC := RlOk.ex e0C
  obtain ⟨n5d, n5c⟩ := hD.fresh hn5
  obtain ⟨n9d, n9c⟩ := hD.fresh (RlOk.back (Rl := Ex) e03 hn9)
  have S : Rs K d c p p5 p6 p9 n ds HC := ⟨d0C.2 hD, hp.mono e0C, l5.mono (e2.trans (e3.trans (e4.trans (e5.trans (e6.trans (e7.trans (e8.trans (e8B.trans eC)))))))), hM8.mono (e8B.trans eC), l98.mono (e8B.trans eC), hpd, hpc, n5d, n5c, n9d, n9c⟩
  dsimp only
  refine k_seq (k_for (Rl := Dl d c) (wz_rg1 (n := 3) (ea_cons (eN 3) ea_nil) (by decide)) (fun H3 i σ1 H4 => Dl d c H3 H4 ∧ St28 n d p p5 p6 p9 o3 o4 (some v7) o11 o12 (some v13) o14 (some (.bl b)) (some (.int ((L.length : Nat) : Int))) σ1)
    (fun H3 e3 => ⟨RlOk.refl _, _, _, _, _, _, _, _, _, _, _, _, _, _, rfl⟩) (fun _ i σ1 H4 h => h.1) (fun _ i σ1 H4 H5 ⟨a, b⟩ e => ⟨RlOk.trans a (RlOk.ex e), b⟩) ?_ ?_)
  · rintro HD eD i x v _ HE hx ⟨eE, o8, o10, o17, o18, o19, o20, o21, o22, o23, o24, o25, o26, o27, rfl⟩ rfl
    refine tgt_name ?_
    exact lr3b R (S.mono (RlOk.trans (RlOk.ex eD) eE)) ⟨_, _, _, _, _, _, _, _, _, _, _, _, _, rfl⟩ fun σ2 H2 e h => ⟨RlOk.trans eE e, h⟩
  · rintro HD eD _ HE ⟨eE, o8, o10, o17, o18, o19, o20, o21, o22, o23, o24, o25, o26, o27, rfl⟩
    exact hq HE (RlOk.trans d0C (RlOk.trans (RlOk.ex eD) eE))
end
end B
/-! the turned machine. -/
namespace B
open PySem L2
/-- the images one on, the last one the first and then the last -/
def turned (fs : List (List Nat)) : List (List Nat) := fs.drop 1 ++ [thn (fs.getD 0 []) (fs.getD (fs.length - 1) [])]
def turnDs (ds : List Deed) : List Deed := (ds.map (·.1)).zip (turned (ds.map (·.2)))
theorem turned_len {fs : List (List Nat)} (h : 0 < fs.length) : (turned fs).length = fs.length := by
  unfold turned
  rw [List.length_append, List.length_drop]
  show fs.length - 1 + 1 = _
  omega
theorem getD_atL {fs : List (List Nat)} {i : Nat} (h : i < fs.length) : fs[i]? = some (fs.getD i []) := by
  rw [List.getD_eq_getElem?_getD, List.getElem?_eq_getElem h]; rfl
theorem turned_gen {n : Nat} {ds : List Deed} (R : Rt n ds) : ∀ f ∈ turned (ds.map (·.2)), Gen n ds f := by
  have h1 := R.ok.one
  have hg : ∀ f ∈ ds.map (·.2), Gen n ds f := fun f hf => by
    obtain ⟨d, hd, rfl⟩ := List.mem_map.mp hf
    exact Gen.deed R.pm hd
  intro f hf
  unfold turned at hf
  rcases List.mem_append.mp hf with hf | hf
  · exact hg f (List.mem_of_mem_drop hf)
  · obtain rfl := List.mem_singleton.mp hf
    exact (hg _ (List.mem_of_getElem? (getD_atL (by rw [List.length_map]; omega)))).thn R.pm (hg _ (List.mem_of_getElem? (getD_atL (by rw [List.length_map]; omega))))
theorem turnDs_fst {n : Nat} {ds : List Deed} (R : Rt n ds) : (turnDs ds).map (·.1) = ds.map (·.1) := by
  unfold turnDs
  have h1 := R.ok.one
  exact List.map_fst_zip (by rw [turned_len (by rw [List.length_map]; omega), List.length_map, List.length_map]; exact Nat.le_refl _)
theorem turnDs_len {n : Nat} {ds : List Deed} (R : Rt n ds) : (turnDs ds).length = ds.length := by
  have := congrArg List.length (turnDs_fst R)
  rwa [List.length_map, List.length_map] at this
theorem turn_rt {n : Nat} {ds : List Deed} (R : Rt n ds) : Rt n (turnDs ds) := by
  have hg : ∀ d ∈ turnDs ds, d.1 ∈ ds.map (·.1) ∧ Gen n ds d.2 := fun d hd => by
    have hd : (d.1, d.2) ∈ (ds.map (·.1)).zip (turned (ds.map (·.2))) := hd
    obtain ⟨h1, h2⟩ := List.of_mem_zip hd
    exact ⟨h1, turned_gen R _ h2⟩
  have sub : ∀ f, Gen n (turnDs ds) f → Gen n ds f := fun f hf => by
    induction hf with
    | one => exact .one
    | step _ hd ih => exact ih.thn R.pm (hg _ hd).2
  refine ⟨⟨R.ok.lo, R.ok.hi, fun d hd => ⟨R.ok.nm _ (hg d hd).1, ((hg d hd).2.prm R.pm).eff⟩, by rw [turnDs_fst R]; exact R.ok.nd, by rw [turnDs_len R]; exact R.ok.one, by rw [turnDs_len R]; exact R.ok.most⟩, fun d hd => (hg d hd).2.prm R.pm, fun l nd hl => R.sm l nd fun f hf => sub f (hl f hf), R.n12⟩
end B
/-! law. -/
namespace B
open PySem PySem.Spec PyProof.Rows L2
theorem cut_one (xs : List V) : cutV xs (some 1) none = xs.drop 1 := by
  cases xs with
  | nil => rfl
  | cons x xs =>
    unfold cutV
    have e1 : HT.sIx (x :: xs).length 0 (some 1) = 1 := by
      unfold HT.sIx
      simp
    have e2 : HT.sIx (x :: xs).length (x :: xs).length none = (x :: xs).length := rfl
    rw [e1, e2, List.take_of_length_le]
    rw [List.length_drop]
    exact Nat.le_refl _
theorem RepA.drop1 {T : TL} {α : Type} [Enc α] : ∀ {vs : List V} {xs : List α}, RepA T vs xs → RepA T (vs.drop 1) (xs.drop 1)
  | [], [], _ => trivial
  | _ :: _, _ :: _, ⟨_, s⟩ => s
  | [], _ :: _, z => z.elim
  | _ :: _, [], z => z.elim
def spLaw (K : PySem.W.Frag) : Sp := fun vs H Q _ => ∃ (p : Addr) (cells : List Int), SqL K H p (cells.map V.int) ∧ cells.length ≤ 63 ∧ vs = [.ref p] ∧ ∀ H2, Q (.bl true) H2
theorem spLaw_len {K : PySem.W.Frag} (vs : List V) (H : Hp) (Q : VK) (E : XK) (z : spLaw K vs H Q E) : vs.length = 1 := by obtain ⟨_, _, _, _, rfl, _⟩ := z; rfl
section
variable {P : Program} {w : World} {K : PySem.W.Frag} {mg : Str → Option Value} {base : Heap}
theorem law_run (W : Wd K mg) (f : Addr) (cdv : Value) (A : Around) (outer : List Env) (s : Shared) (H : Hp) (vs : List V) (Q : VK) (E : XK) (hr : Room (36 + 3) (A.deeper (envOfC "law" (defScope K26.s_law) s.heap.objs.size f cdv))) (h : spLaw K vs H Q E) :
    ∃ t, PSs (cxOf CX0 P w K mg base n_law "law" (defScope K26.s_law) f cdv A outer s H E).nox (defBody K26.s_law) t ∧ t { nx := fun _ H' => Q .non H', rt := Q } (start n_law vs) H := by
  refine ⟨_, w_law spRight spThen spDrawn (spDealD K) W hr (F_law_right := ok_law_right W) (F_law_then := (ok_law_then W).mono (by decide)) (F_law_drawn := (ok_law_drawn W).mono (by decide)) (F_law_deal := (ok_law_deal W).mono (by decide)), ?_⟩
  obtain ⟨p0, cells, hS, h63, rfl, hq⟩ := h
  show tSeq _ _ _ _ _
  refine k_seq ?_
  refine ⟨.ref p0, rfl, p0, cells, hS, h63, rfl, fun d c H1 hD e1 => ?_⟩
  dsimp only
  refine k_seq ?_
  refine ⟨.ref d, rfl, d, c, hD, rfl, fun n ds p v H2 ok n12 pm sm lp pd pc e2 r => ?_⟩
  have R : Rt n ds := ⟨ok, pm, sm, n12⟩
  obtain ⟨a, x, y, rfl, ha, rx, ry⟩ := r
  obtain rfl : x = .int (n : Nat) := rx
  obtain rfl : y = .ref p := ry
  refine ⟨a, [.int (n : Nat), .ref p], rfl, SqT.of ha, rfl, _, [.ref p], rfl, _, [], rfl, rfl, ?_⟩
  have hD2 := e2.2 hD
  have h8 := ok.most
  have h1 := ok.one
  have hn : n ≤ 1000000 := by omega
  dsimp only
  refine k_seq (k_par' ?_)
  refine el_is (xs' := ds.map (·.1)) (e_lc2 (Rl := Ex) (K := K) (H := H2) (fun _ : Deed => true) (fun q : Deed => q.1) fr_ex (ws_ls (e_var rfl rfl) lp.ls) (by omega) (by decide) fun q va vb H8 hq8 e8 ra rb => ⟨et_yes, fun _ => e_var rfl ra⟩) (by rw [List.filter_eq_self.mpr fun _ _ => rfl]) H2 (Ex.refl _) _ fun p4 vs4 H3 hn4 e3 hl4 r4 => ?_
  have lp3 := lp.mono e3
  refine el_is (xs' := ds.map (·.2)) (e_lc2 (Rl := Ex) (K := K) (H := H3) (fun _ : Deed => true) (fun q : Deed => q.2) fr_ex (ws_ls (e_var rfl rfl) lp3.ls) (by omega) (by decide) fun q va vb H8 hq8 e8 ra rb => ⟨et_yes, fun _ => e_var rfl rb⟩) (by rw [List.filter_eq_self.mpr fun _ _ => rfl]) H3 (Ex.refl _) _ fun p5 vs5 H4 hn5 e4 hl5 r5 => ?_
  refine ⟨.ref p4, .ref p5, rfl, ?_⟩
  have l4 : LsAt H4 p4 (ds.map (·.1)) := LsAt.mono ⟨vs4, hl4, r4⟩ e4
  have l5 : LsAt H4 p5 (ds.map (·.2)) := ⟨vs5, hl5, r5⟩
  have im : ∀ i, i < ds.length → Eff n ((ds.map (·.2)).getD i []) := fun i hi => by
    have hm := List.mem_of_getElem? (getD_atL (fs := ds.map (·.2)) (i := i) (by rw [List.length_map]; exact hi))
    obtain ⟨q, hq, e⟩ := List.mem_map.mp hm
    rw [← e]
    exact (pm q hq).eff
  dsimp only
  refine k_seq (k_setL (Rl := Ex) (xs := turned (ds.map (·.2))) (e_catNew (xs := (ds.map (·.2)).drop 1) (ys := [thn ((ds.map (·.2)).getD 0 []) ((ds.map (·.2)).getD ((ds.map (·.2)).length - 1) [])]) (fun H5 e Q1 q1 => ?_) (e_lstH (eh_cons (e_thn hn (im 0 (by omega)) (im _ (by rw [List.length_map]; omega)) (e_ixLs (e_var rfl rfl) l5.ls (eN 0) (getD_atL (by rw [List.length_map]; omega))) (e_ixLsLast (e_var rfl rfl) l5.ls e_neg1 (getD_atL (by rw [List.length_map]; omega)))) eh_nil) (by show 1 ≤ 1000000; decide)) (by rw [List.length_drop, List.length_map]; show ds.length - 1 + 1 ≤ 1000000; omega)) fun p6 vs6 H5 hn6 e5 hl6 r6 => ?_)
  · obtain ⟨vs, g1, g2⟩ := l5.mono e
    refine ⟨.ref p5, rfl, 1, rfl, p5, vs, rfl, SqL.of g1, fun q' hq' => ?_⟩
    rw [cut_one]
    exact q1 q' _ _ hq' (Ex.new hq') upd_same (upA (Rl := Ex) (Ex.new hq') g2.drop1)
  have l6 : LsAt H5 p6 (turned (ds.map (·.2))) := ⟨vs6, hl6, r6⟩
  have e25 : Ex H2 H5 := e3.trans (e4.trans e5)
  have hD5 : DealAt d c H5 := (RlOk.ex (Rl := Dl d c) e25).2 hD2
  obtain ⟨n4d, n4c⟩ := hD2.fresh hn4
  obtain ⟨n6d, n6c⟩ := hD2.fresh (RlOk.back (Rl := Ex) (e3.trans e4) hn6)
  dsimp only
  show tAndV _ _ _ _ _
  refine ⟨.ref d, rfl, .int (n : Nat), rfl, .ref p, rfl, d, c, p, n, ds, R, hD5, lp.mono e25, pd, pc, rfl, fun H6 e6 => ⟨true, rfl, ?_⟩⟩
  rw [if_pos rfl]
  have hD6 := e6.2 hD5
  have l46 := Dl.lsAt e6 (l4.mono e5) n4d n4c
  have l66 := Dl.lsAt e6 l6 n6d n6c
  have hz : ((ds.map (·.1)).zip (turned (ds.map (·.2)))).length ≤ 1000000 := by
    have := turnDs_len R
    unfold turnDs at this
    omega
  refine ⟨.ref d, rfl, .int (n : Nat), rfl, ?_⟩
  refine el_is (xs' := turnDs ds) (e_lc2 (Rl := Ex) (K := K) (H := H6) (β := Deed) (fun _ : Deed => true) (fun q : Deed => (q.1, q.2)) fr_ex (ws_zip (e_var rfl rfl) (e_var rfl rfl) l46.ls l66.ls) hz (by decide) fun q va vb H8 hq8 e8 ra rb => ⟨et_yes, fun _ => e_pair (e_var rfl ra) (e_var rfl rb)⟩) (by rw [List.filter_eq_self.mpr fun _ _ => rfl]; exact List.map_id _) H6 (Ex.refl _) _ fun p9 vs9 H7 hn9 e7 hl9 r9 => ?_
  obtain ⟨n9d, n9c⟩ := hD6.fresh hn9
  exact ⟨d, c, p9, n, turnDs ds, turn_rt R, (RlOk.ex (Rl := Dl d c) e7).2 hD6, ⟨vs9, hl9, r9⟩, n9d, n9c, rfl, fun H8 _ => hq H8⟩
end
/-- law, over each base -/
theorem law_facts {P : Program} {w : World} {K : PySem.W.Frag} {h : Heap} {mg : Str → Option Value} {f : Addr} (X : K.In h) (G : h.Ns mainGlobals mg) (hfa : mg ("law" : Str) = some (.ref f)) (c : He.SaysD K26.fa K26.fn K) :
    ∃ fd : FuncData, (∀ (s : Shared) (v : Value), BindsTo s fd ⟨[v], []⟩ [("_law_script", v)]) ∧ ∀ base : Heap, K.In base → base.Ns mainGlobals mg → FnOk P w K mg base CX0 40 f fd ["_law_script"] (spLaw K) := by
  have W : Wd K mg := ⟨⟨h, X, G⟩, c⟩
  obtain ⟨fd, F⟩ := c.def_ 48 (d := K26.d_law) rfl
  have F : FunD K "law" "law" (defArgs K26.s_law) (defBody K26.s_law) (defScope K26.s_law) [] [] (He.ga K "law") fd := F
  have e := hfa.symm.trans (W.glo 48 (x := "law"))
  cases e
  have b := FunD.bindsA (ps := p_law) F fun _ _ _ _ _ _ us hl => match us, hl with | [_], _ => rfl
  exact ⟨fd, fun s v => b s [v] rfl, fun base _ _ => F.ok sc_law spLaw_len fun cdv A outer s H vs Q E hr hsp => let ⟨t, a, b⟩ := law_run W (He.ga K "law") cdv A outer s H vs Q E hr hsp; ⟨t, a.nox, b⟩⟩
end B
open PySem PySem.W PySem.Calls PyProof.Rows
theorem PySem.Challenge.cw_eitheronce_k26_whole_one_example_for_all_holds : PySem.Challenge.rw_eitheronce_k26_whole_one_example_for_all.Holds := by
  w_on; o_law
  refine HandSHeadRun.head_any (r := K26.R) (q := view K26.R.prog [71]) (H := K26.hk) (ob := K26.ob) (M := 20000) (loose := K26.loose) (d := HandSHeadRun.topDef K26.R.prog 71) (kwd := []) K26.ob_eq
    (by kernel_rfl) (fun s => by kernel_rfl) K26.run (by kernel_rfl) (by kernel_rfl) (by kernel_rfl) (by rfl) (by first | assumption | decide +kernel) (by decide +kernel) ⟨rfl, rfl, rfl, rfl, rfl, by decide +kernel⟩ ?hw ?hc
  case hw => w_witness2
  case hc =>
    refine L2.walk_ofE (l := PySem.Challenge.rw_eitheronce_k26_whole_one_example_for_all) (n := 63) (k := 40) (x := "_law_script") (CX := L2.CX0) rfl (by decide) (by kernel_rfl) ⟨rfl, by decide, by decide⟩ ?F (fun _ _ _ _ z => z)
    intro w mg fa h Y G hmg0
    obtain ⟨K, KX, c⟩ := Y
    have hmg : mg ("law" : PySem.Str) = some (.ref fa) := by
      have e : (HandSHeadRun.topDef K26.R.prog 71).name = ("law" : PySem.Str) := by kernel_rfl
      rw [← e]
      exact hmg0
    obtain ⟨fd, hb, hF⟩ := B.law_facts (P := (PySem.Challenge.rw_eitheronce_k26_whole_one_example_for_all).prog) (w := w) KX G hmg c
    exact ⟨K, fd, B.spLaw K, KX, hb, fun H a ns hl _ hS => ⟨a, ns, hS, hl, rfl, fun _ => rfl⟩, hF⟩
