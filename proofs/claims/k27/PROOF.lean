import PyProof.Rows.All
import Wide.All
import OpenK.AllK
import Wide.FinOn
import PySem.Challenge.RW_keyturns_k27_whole_shown_at_the_last_mom
import KE.KStateDown
import Lean
import HandS.Base
import HandS.Call
import HandS.Ends
import HandS.Words
import HandS.WordsExc
import HandS.Defaults
import HandS.Head0
import HandS.Head1
import HandS.Head2
import HandS.HeadEnd
import HandS.HeadHook1
import HandS.HeadHook2
import HandS.ForMost
import KE.KDictKeyed
import KE.KeyNested
import HandS.Style
import HandS.Walk
import HandS.Deep
import HandS.IsInst
import HandS.SetFor
import HandS.TupSets
import HandS.Strs
import HandS.SortRule
import HandS.SortInts
import KE.KDictDisplayH
import HandS.Conv
import HandS.Codes
import KE.KDictWalk
import KE.GoesMore
set_option Elab.async false
namespace VI
open PySem L2
def top (i : Nat) : Stmt := PySem.Challenge.pw_keyturns_k27_whole_shown_at_the_last_mom.main.body.getD i (.Pass ⟨0, 0, 0, 0⟩)
end VI
set_option Elab.async false
set_option linter.all false
set_option maxRecDepth 100000
set_option maxHeartbeats 0
namespace VI
open PySem PySem.Spec L2
open PyProof.Rows hiding St
def fn0 : List He.DefD := [
  ⟨("frozen", none), "frozen", "frozen", defArgs (top 2), defBody (top 2), defScope (top 2), [], []⟩,
  ⟨("is_whole", none), "is_whole", "is_whole", defArgs (top 3), defBody (top 3), defScope (top 3), [], []⟩,
  ⟨("is_number", none), "is_number", "is_number", defArgs (top 4), defBody (top 4), defScope (top 4), [], []⟩,
  ⟨("are_enough", none), "are_enough", "are_enough", defArgs (top 6), defBody (top 6), defScope (top 6), [], []⟩,
  ⟨("keys_believed", none), "keys_believed", "keys_believed", defArgs (top 7), defBody (top 7), defScope (top 7), [], []⟩,
  ⟨("rest_believed", none), "rest_believed", "rest_believed", defArgs (top 8), defBody (top 8), defScope (top 8), [], []⟩,
  ⟨("zone_of", none), "zone_of", "zone_of", defArgs (top 12), defBody (top 12), defScope (top 12), [], []⟩,
  ⟨("begin_of", none), "begin_of", "begin_of", defArgs (top 13), defBody (top 13), defScope (top 13), [], []⟩,
  ⟨("end_of", none), "end_of", "end_of", defArgs (top 14), defBody (top 14), defScope (top 14), [], []⟩,
  ⟨("may_tell", none), "may_tell", "may_tell", defArgs (top 15), defBody (top 15), defScope (top 15), [], []⟩,
  ⟨("joined", none), "joined", "joined", defArgs (top 20), defBody (top 20), defScope (top 20), [], []⟩,
  ⟨("behind", none), "behind", "behind", defArgs (top 21), defBody (top 21), defScope (top 21), [], []⟩,
  ⟨("step_between", none), "step_between", "step_between", defArgs (top 22), defBody (top 22), defScope (top 22), [], []⟩,
  ⟨("Copies", some "__init__"), "__init__", "Copies.__init__", defArgs (inClass (top 23) 0), defBody (inClass (top 23) 0), defScope (inClass (top 23) 0), [], []⟩,
  ⟨("Copies", some "site"), "site", "Copies.site", defArgs (inClass (top 23) 1), defBody (inClass (top 23) 1), defScope (inClass (top 23) 1), [], []⟩,
  ⟨("Copies", some "rule"), "rule", "Copies.rule", defArgs (inClass (top 23) 2), defBody (inClass (top 23) 2), defScope (inClass (top 23) 2), [], []⟩,
  ⟨("Copies", some "told"), "told", "Copies.told", defArgs (inClass (top 23) 3), defBody (inClass (top 23) 3), defScope (inClass (top 23) 3), [], []⟩,
  ⟨("Copies", some "numbers"), "numbers", "Copies.numbers", defArgs (inClass (top 23) 4), defBody (inClass (top 23) 4), defScope (inClass (top 23) 4), [], []⟩,
  ⟨("Copies", some "window"), "window", "Copies.window", defArgs (inClass (top 23) 5), defBody (inClass (top 23) 5), defScope (inClass (top 23) 5), [], []⟩,
  ⟨("Copies", some "trusts"), "trusts", "Copies.trusts", defArgs (inClass (top 23) 6), defBody (inClass (top 23) 6), defScope (inClass (top 23) 6), [], []⟩,
  ⟨("Copies", some "keys"), "keys", "Copies.keys", defArgs (inClass (top 23) 7), defBody (inClass (top 23) 7), defScope (inClass (top 23) 7), [], []⟩,
  ⟨("Copies", some "rests"), "rests", "Copies.rests", defArgs (inClass (top 23) 8), defBody (inClass (top 23) 8), defScope (inClass (top 23) 8), [], []⟩,
  ⟨("Copies", some "with_trust"), "with_trust", "Copies.with_trust", defArgs (inClass (top 23) 9), defBody (inClass (top 23) 9), defScope (inClass (top 23) 9), [], []⟩,
  ⟨("Copies", some "all_keys"), "all_keys", "Copies.all_keys", defArgs (inClass (top 23) 10), defBody (inClass (top 23) 10), defScope (inClass (top 23) 10), [], []⟩,
  ⟨("Copies", some "believes"), "believes", "Copies.believes", defArgs (inClass (top 23) 11), defBody (inClass (top 23) 11), defScope (inClass (top 23) 11), [], []⟩,
  ⟨("Copies", some "with_keys"), "with_keys", "Copies.with_keys", defArgs (inClass (top 23) 12), defBody (inClass (top 23) 12), defScope (inClass (top 23) 12), [], []⟩,
  ⟨("Copies", some "all_rests"), "all_rests", "Copies.all_rests", defArgs (inClass (top 23) 13), defBody (inClass (top 23) 13), defScope (inClass (top 23) 13), [], []⟩,
  ⟨("Copies", some "trusts_behind"), "trusts_behind", "Copies.trusts_behind", defArgs (inClass (top 23) 14), defBody (inClass (top 23) 14), defScope (inClass (top 23) 14), [], []⟩,
  ⟨("Path", some "__init__"), "__init__", "Path.__init__", defArgs (inClass (top 26) 0), defBody (inClass (top 26) 0), defScope (inClass (top 26) 0), [], []⟩,
  ⟨("Path", some "place"), "place", "Path.place", defArgs (inClass (top 26) 1), defBody (inClass (top 26) 1), defScope (inClass (top 26) 1), [], []⟩]
def fn1 : List He.DefD := [
  ⟨("Path", some "site"), "site", "Path.site", defArgs (inClass (top 26) 2), defBody (inClass (top 26) 2), defScope (inClass (top 26) 2), [], []⟩,
  ⟨("Path", some "newest"), "newest", "Path.newest", defArgs (inClass (top 26) 3), defBody (inClass (top 26) 3), defScope (inClass (top 26) 3), [], []⟩,
  ⟨("Path", some "last_life"), "last_life", "Path.last_life", defArgs (inClass (top 26) 4), defBody (inClass (top 26) 4), defScope (inClass (top 26) 4), [], []⟩,
  ⟨("Path", some "goes_on"), "goes_on", "Path.goes_on", defArgs (inClass (top 26) 5), defBody (inClass (top 26) 5), defScope (inClass (top 26) 5), [], []⟩,
  ⟨("Path", some "is_held"), "is_held", "Path.is_held", defArgs (inClass (top 26) 6), defBody (inClass (top 26) 6), defScope (inClass (top 26) 6), [], []⟩,
  ⟨("Path", some "believes"), "believes", "Path.believes", defArgs (inClass (top 26) 7), defBody (inClass (top 26) 7), defScope (inClass (top 26) 7), [], []⟩,
  ⟨("Path", some "one_server_tells"), "one_server_tells", "Path.one_server_tells", defArgs (inClass (top 26) 8), defBody (inClass (top 26) 8), defScope (inClass (top 26) 8), [], []⟩,
  ⟨("Path", some "fits"), "fits", "Path.fits", defArgs (inClass (top 26) 9), defBody (inClass (top 26) 9), defScope (inClass (top 26) 9), [], []⟩,
  ⟨("Path", some "takes"), "takes", "Path.takes", defArgs (inClass (top 26) 10), defBody (inClass (top 26) 10), defScope (inClass (top 26) 10), [], []⟩,
  ⟨("is_path", none), "is_path", "is_path", defArgs (top 27), defBody (top 27), defScope (top 27), [], []⟩,
  ⟨("path_of", none), "path_of", "path_of", defArgs (top 28), defBody (top 28), defScope (top 28), [], []⟩,
  ⟨("has_one_way", none), "has_one_way", "has_one_way", defArgs (top 32), defBody (top 32), defScope (top 32), [], []⟩,
  ⟨("is_enough", none), "is_enough", "is_enough", defArgs (top 33), defBody (top 33), defScope (top 33), [], []⟩,
  ⟨("is_enough_in", none), "is_enough_in", "is_enough_in", defArgs (top 34), defBody (top 34), defScope (top 34), [], []⟩,
  ⟨("last_held", none), "last_held", "last_held", defArgs (top 35), defBody (top 35), defScope (top 35), [], []⟩,
  ⟨("last_made", none), "last_made", "last_made", defArgs (top 36), defBody (top 36), defScope (top 36), [], []⟩,
  ⟨("last_genuine", none), "last_genuine", "last_genuine", defArgs (top 37), defBody (top 37), defScope (top 37), [], []⟩,
  ⟨("last_trust", none), "last_trust", "last_trust", defArgs (top 38), defBody (top 38), defScope (top 38), [], []⟩,
  ⟨("trust_behind", none), "trust_behind", "trust_behind", defArgs (top 39), defBody (top 39), defScope (top 39), [], []⟩,
  ⟨("shows_genuine", none), "shows_genuine", "shows_genuine", defArgs (top 40), defBody (top 40), defScope (top 40), [], []⟩,
  ⟨("shows_made", none), "shows_made", "shows_made", defArgs (top 41), defBody (top 41), defScope (top 41), [], []⟩,
  ⟨("shows_trust", none), "shows_trust", "shows_trust", defArgs (top 42), defBody (top 42), defScope (top 42), [], []⟩,
  ⟨("_law_box", none), "_law_box", "_law_box", defArgs (top 44), defBody (top 44), defScope (top 44), [], []⟩,
  ⟨("_law_take", none), "_law_take", "_law_take", defArgs (top 45), defBody (top 45), defScope (top 45), [], []⟩,
  ⟨("_law_pick", none), "_law_pick", "_law_pick", defArgs (top 46), defBody (top 46), defScope (top 46), [], []⟩,
  ⟨("_law_told", none), "_law_told", "_law_told", defArgs (top 47), defBody (top 47), defScope (top 47), [], []⟩,
  ⟨("_law_covers", none), "_law_covers", "_law_covers", defArgs (top 48), defBody (top 48), defScope (top 48), [], []⟩,
  ⟨("_law_keys_ok", none), "_law_keys_ok", "_law_keys_ok", defArgs (top 49), defBody (top 49), defScope (top 49), [], []⟩,
  ⟨("_law_rest_ok", none), "_law_rest_ok", "_law_rest_ok", defArgs (top 50), defBody (top 50), defScope (top 50), [], []⟩,
  ⟨("_law_one_server", none), "_law_one_server", "_law_one_server", defArgs (top 51), defBody (top 51), defScope (top 51), [], []⟩]
def fn2 : List He.DefD := [
  ⟨("_law_most", none), "_law_most", "_law_most", defArgs (top 52), defBody (top 52), defScope (top 52), [], []⟩,
  ⟨("_law_holds", none), "_law_holds", "_law_holds", defArgs (top 53), defBody (top 53), defScope (top 53), [], []⟩,
  ⟨("_law_got", none), "_law_got", "_law_got", defArgs (top 54), defBody (top 54), defScope (top 54), [], []⟩,
  ⟨("_law_rest_can", none), "_law_rest_can", "_law_rest_can", defArgs (top 55), defBody (top 55), defScope (top 55), [], []⟩,
  ⟨("_law_trusts", none), "_law_trusts", "_law_trusts", defArgs (top 56), defBody (top 56), defScope (top 56), [], []⟩,
  ⟨("_law_one_way", none), "_law_one_way", "_law_one_way", defArgs (top 57), defBody (top 57), defScope (top 57), [], []⟩,
  ⟨("_law_made_by", none), "_law_made_by", "_law_made_by", defArgs (top 58), defBody (top 58), defScope (top 58), [], []⟩,
  ⟨("_law_uses", none), "_law_uses", "_law_uses", defArgs (top 59), defBody (top 59), defScope (top 59), [], []⟩,
  ⟨("_law_way", none), "_law_way", "_law_way", defArgs (top 60), defBody (top 60), defScope (top 60), [], []⟩,
  ⟨("_law_row", none), "_law_row", "_law_row", defArgs (top 61), defBody (top 61), defScope (top 61), [], []⟩,
  ⟨("_law_begin_of", none), "_law_begin_of", "_law_begin_of", defArgs (top 62), defBody (top 62), defScope (top 62), [], []⟩,
  ⟨("_law_without", none), "_law_without", "_law_without", defArgs (top 63), defBody (top 63), defScope (top 63), [], []⟩,
  ⟨("_law_changed", none), "_law_changed", "_law_changed", defArgs (top 64), defBody (top 64), defScope (top 64), [], []⟩,
  ⟨("_law_zone", none), "_law_zone", "_law_zone", defArgs (top 65), defBody (top 65), defScope (top 65), [], []⟩,
  ⟨("_law_world", none), "_law_world", "_law_world", defArgs (top 66), defBody (top 66), defScope (top 66), [], []⟩,
  ⟨("_law_world_of", none), "_law_world_of", "_law_world_of", defArgs (top 67), defBody (top 67), defScope (top 67), [], []⟩,
  ⟨("_law_ways", none), "_law_ways", "_law_ways", defArgs (top 68), defBody (top 68), defScope (top 68), [], []⟩,
  ⟨("_law_made_ways", none), "_law_made_ways", "_law_made_ways", defArgs (top 69), defBody (top 69), defScope (top 69), [], []⟩,
  ⟨("_law_keys_of", none), "_law_keys_of", "_law_keys_of", defArgs (top 70), defBody (top 70), defScope (top 70), [], []⟩,
  ⟨("_law_shown", none), "_law_shown", "_law_shown", defArgs (top 71), defBody (top 71), defScope (top 71), [], []⟩,
  ⟨("_law_right", none), "_law_right", "_law_right", defArgs (top 72), defBody (top 72), defScope (top 72), [], []⟩,
  ⟨("law", none), "law", "law", defArgs (top 73), defBody (top 73), defScope (top 73), [], []⟩]
def fn : List He.DefD := fn0 ++ fn1 ++ fn2
def fa0 : List He.Fa := [.glo "frozen", .glo "is_whole", .glo "is_number", .glo "are_enough", .glo "keys_believed", .glo "rest_believed", .glo "zone_of", .glo "begin_of", .glo "end_of", .glo "may_tell", .glo "joined", .glo "behind", .glo "step_between", .glo "is_path", .glo "path_of", .glo "has_one_way", .glo "is_enough", .glo "is_enough_in", .glo "last_held", .glo "last_made", .glo "last_genuine", .glo "last_trust", .glo "trust_behind", .glo "shows_genuine", .glo "shows_made", .glo "shows_trust", .glo "_law_box", .glo "_law_take", .glo "_law_pick", .glo "_law_told"]
def fa1 : List He.Fa := [.glo "_law_covers", .glo "_law_keys_ok", .glo "_law_rest_ok", .glo "_law_one_server", .glo "_law_most", .glo "_law_holds", .glo "_law_got", .glo "_law_rest_can", .glo "_law_trusts", .glo "_law_one_way", .glo "_law_made_by", .glo "_law_uses", .glo "_law_way", .glo "_law_row", .glo "_law_begin_of", .glo "_law_without", .glo "_law_changed", .glo "_law_zone", .glo "_law_world", .glo "_law_world_of", .glo "_law_ways", .glo "_law_made_ways", .glo "_law_keys_of", .glo "_law_shown", .glo "_law_right", .glo "law", .free "isinstance", .free "list", .free "tuple", .free "int"]
def fa2 : List He.Fa := [.free "bool", .free "str", .free "len", .free "all", .free "any", .free "sorted", .free "max", .free "min", .free "range", .free "set", .free "sum", .free "abs", .free "enumerate", .str "ANY" "any", .str "KEYS" "keys", .str "REST" "rest", .int "EVER" (1000000000), .int "QUADRUPLE" (4), .int "NEVER" (-1), .int "TRIPLE" (3), .glo "Copies", .cls "Copies", .mkr "Copies", .meth "Copies" "site", .meth "Copies" "rule", .meth "Copies" "told", .meth "Copies" "numbers", .meth "Copies" "window", .meth "Copies" "trusts", .meth "Copies" "keys"]
def fa3 : List He.Fa := [.meth "Copies" "rests", .meth "Copies" "with_trust", .meth "Copies" "all_keys", .meth "Copies" "believes", .meth "Copies" "with_keys", .meth "Copies" "all_rests", .meth "Copies" "trusts_behind", .noat "Copies" "own_answers", .noat "Copies" "own_keys", .noat "Copies" "own_rests", .noat "Copies" "own_rule", .noat "Copies" "own_trust", .noat "Copies" "own_trusts", .noat "Copies" "own_zones", .glo "Path", .cls "Path", .mkr "Path", .meth "Path" "place", .meth "Path" "site", .meth "Path" "newest", .meth "Path" "last_life", .meth "Path" "goes_on", .meth "Path" "is_held", .meth "Path" "believes", .meth "Path" "one_server_tells", .meth "Path" "fits", .meth "Path" "takes", .noat "Path" "own_answers", .noat "Path" "own_keys", .noat "Path" "own_rests"]
def fa4 : List He.Fa := [.noat "Path" "own_rule", .noat "Path" "own_trust", .noat "Path" "own_trusts", .noat "Path" "own_zones"]
def fa : List He.Fa := fa0 ++ fa1 ++ fa2 ++ fa3 ++ fa4
abbrev RowK : PySem.W.OpenRow := PySem.W.OpenLaw.row PySem.Challenge.rw_keyturns_k27_whole_shown_at_the_last_mom
abbrev hk : PySem.W.Hook := He.hookD 4 fa fn
def obH (s : PySem.W.SharedT) : He.AlD := He.obsDG 4 fa fn (HandSHeadRun.getT s)
theorem obH_eq (s : PySem.W.SharedT) : obH s = hk.obs s.abs := He.obsDG_eq (HandSHeadRun.getT_eq s)
def lo0 : List Str := ["ANY", "frozen", "is_whole", "is_number", "are_enough", "keys_believed", "rest_believed", "NoZone", "zone_of", "begin_of", "end_of", "may_tell", "KEYS", "REST", "EVER", "joined", "behind", "step_between", "Copies", "QUADRUPLE", "Path", "is_path", "path_of", "NEVER", "TRIPLE", "has_one_way", "is_enough", "is_enough_in", "last_held", "last_made"]
def lo1 : List Str := ["last_genuine", "last_trust", "trust_behind", "shows_genuine", "shows_made", "shows_trust", "_law_box", "_law_take", "_law_pick", "_law_told", "_law_covers", "_law_keys_ok", "_law_rest_ok", "_law_one_server", "_law_most", "_law_holds", "_law_got", "_law_rest_can", "_law_trusts", "_law_one_way", "_law_made_by", "_law_uses", "_law_way", "_law_row", "_law_begin_of", "_law_without", "_law_changed", "_law_zone", "_law_world", "_law_world_of"]
def lo2 : List Str := ["_law_ways", "_law_made_ways", "_law_keys_of", "_law_shown", "_law_right"]
def loose : List Str := lo0 ++ lo1 ++ lo2
theorem run (w : World) : HandSHeadRun.RunEq RowK (PySem.W.view RowK.prog [73]) hk obH 4000 loose w := by
  intro os
  kernel_rfl
end VI
set_option Elab.async false
set_option linter.all false
set_option maxRecDepth 100000
/-! V1: the value-level interpreter: codes, trees, the evaluator. -/
namespace VI
open PySem
abbrev D := PyData
/-- what an expression gives: a tree; the cell i; the own thing of slot i; the own list of cell i's field n -/
inductive W where
  | d (x : D) | c (i : Nat) | o (i : Nat) | f (i : Nat) (n : Str)
inductive Sl where
  | d (x : D) | c (i : Nat) | own (x : D)
inductive Cell where
  | own (x : D)
  | ins (cl : Nat) (fs : List (Str × Bool × D))
abbrev Env := List (Option Sl)
abbrev Sto := List Cell
def bnd {α β : Type} (x : Option (α × Sto)) (k : α → Sto → Option β) : Option β := match x with
  | some (a, S) => k a S
  | none => none
@[simp] theorem bnd_some {α β : Type} (a : α) (S : Sto) (k : α → Sto → Option β) : bnd (some (a, S)) k = k a S := rfl
@[simp] theorem bnd_none {α β : Type} (k : α → Sto → Option β) : bnd none k = none := rfl
def ob {α β : Type} (x : Option α) (k : α → Option β) : Option β := match x with
  | some a => k a
  | none => none
@[simp] theorem ob_some {α β : Type} (a : α) (k : α → Option β) : ob (some a) k = k a := rfl
@[simp] theorem ob_none {α β : Type} (k : α → Option β) : ob none k = none := rfl
/-- if b then x -/
def gd {α : Type} (b : Bool) (x : Option α) : Option α := match b with
  | true => x
  | false => none
@[simp] theorem gd_true {α : Type} (x : Option α) : gd true x = x := rfl
@[simp] theorem gd_false {α : Type} (x : Option α) : gd false x = none := rfl

/-! ### keys of dicts -/
mutual
def keyN : D → Option NestedKey
  | .none => some .none
  | .int i => some (.num i)
  | .str x => some (.text x)
  | .tuple xs => (keyNs xs).map NestedKey.tup
  | _ => none
def keyNs : List D → Option (List NestedKey)
  | [] => some []
  | x :: xs => match keyN x, keyNs xs with
    | some k, some ks => some (k :: ks)
    | _, _ => none
end
abbrev KT := Sum L2.Key NestedKey
def kOf : D → Option KT
  | .int i => some (.inl (.inl i))
  | .str x => some (.inl (.inr x))
  | .tuple xs => (keyNs xs).bind fun ks => gd (decide ((NestedKey.tup ks).depth ≤ 8)) (some (.inr (.tup ks)))
  | _ => none
def sameK : KT → KT → Bool
  | .inl _, .inl _ => true
  | .inr _, .inr _ => true
  | _, _ => false
/-- all keys of the kind of k -/
def homog (kvs : List (D × D)) (k : KT) : Bool := kvs.all fun p => match kOf p.1 with
  | some q => sameK q k
  | none => false
def dFind (kvs : List (D × D)) (k : D) : Option D := (kvs.find? fun p => decide (kOf p.1 = kOf k)).map (·.2)
def dHas (kvs : List (D × D)) (k : D) : Bool := kvs.any fun p => decide (kOf p.1 = kOf k)
def dGet (kvs : List (D × D)) (k : D) : Option D := ob (kOf k) fun q => gd (homog kvs q) (dFind kvs k)
def dGetD (kvs : List (D × D)) (k x : D) : Option D := ob (kOf k) fun q => gd (homog kvs q) (some ((dFind kvs k).getD x))
def dPutL (kvs : List (D × D)) (k v : D) : List (D × D) := if dHas kvs k = true then kvs.map fun p => if kOf p.1 = kOf k then (p.1, v) else p else kvs ++ [(k, v)]
def dPut (kvs : List (D × D)) (k v : D) : Option (List (D × D)) := ob (kOf k) fun q => gd (homog kvs q && decide (kvs.length < sizeLine)) (some (dPutL kvs k v))

/-! ### operations -/
inductive Bo where
  | add | sub | mul | fdiv | mod | pow
inductive Co where
  | eq | ne | lt | le | gt | ge | isin | notin | isb
inductive B1 where
  | len | all | any | sum | max | tuple | list | abs | int | sorted
inductive B2 where
  | max | min
inductive Ty where
  | list | tuple | int | bool | str
def inPow64 (i : Int) : Bool := decide (-(2 ^ 64) < i) && decide (i < 2 ^ 64)
def binD : Bo → D → D → Option D
  | .add, .int i, .int j => some (.int (i + j))
  | .add, .list xs, .list ys => gd (decide (xs.length + ys.length ≤ sizeLine)) (some (.list (xs ++ ys)))
  | .add, .tuple xs, .tuple ys => gd (!xs.isEmpty && decide (xs.length + ys.length ≤ sizeLine)) (some (.tuple (xs ++ ys)))
  | .sub, .int i, .int j => some (.int (i - j))
  | .mul, .int i, .int j => gd (inPow64 i || inPow64 j) (some (.int (i * j)))
  | .fdiv, .int i, .int j => gd (decide (0 < j) && decide (j < 1073741824)) (some (.int (i / j)))
  | .mod, .int i, .int j => gd (decide (0 < j)) (some (.int (i % j)))
  | .pow, .int i, .int j => gd (decide (0 ≤ j) && decide (j ≤ 1000000) && decide (i.natAbs < 2 ^ 64)) (some (.int (i ^ j.toNat)))
  | _, _, _ => none
def cmpD : Co → D → D → Option Bool
  | .eq, x, y => gd (SeqAt.shaped x && SeqAt.shaped y) (some (PyData.eqv x y))
  | .ne, x, y => gd (SeqAt.shaped x && SeqAt.shaped y) (some (!PyData.eqv x y))
  | .lt, .int i, .int j => some (decide (i < j))
  | .le, .int i, .int j => some (decide (i ≤ j))
  | .gt, .int i, .int j => some (decide (j < i))
  | .ge, .int i, .int j => some (decide (j ≤ i))
  | .isin, x, .list ys => gd (SeqAt.shaped x && SeqAt.shaped (.list ys)) (some (ys.any fun z => PyData.eqv z x))
  | .isin, x, .tuple ys => gd (SeqAt.shaped x && SeqAt.shaped (.tuple ys)) (some (ys.any fun z => PyData.eqv z x))
  | .notin, x, .list ys => gd (SeqAt.shaped x && SeqAt.shaped (.list ys)) (some (!ys.any fun z => PyData.eqv z x))
  | .notin, x, .tuple ys => gd (SeqAt.shaped x && SeqAt.shaped (.tuple ys)) (some (!ys.any fun z => PyData.eqv z x))
  | .isb, .bool a, .bool b => some (decide (a = b))
  | _, _, _ => none
def ixD : D → D → Option D
  | .list xs, .int i => L2.atI xs i
  | .tuple xs, .int i => L2.atI xs i
  | .dict kvs, k => dGet kvs k
  | _, _ => none
def cutD (xs : List D) (lo hi : Option Int) : List D := (xs.drop (HT.sIx xs.length 0 lo)).take (HT.sIx xs.length xs.length hi - HT.sIx xs.length 0 lo)
def slD : D → Option Int → Option Int → Option D
  | .list xs, lo, hi => some (.list (cutD xs lo hi))
  | .tuple xs, lo, hi => gd (decide (¬ (HT.sIx xs.length 0 lo = 0 ∧ HT.sIx xs.length xs.length hi = xs.length))) (some (.tuple (cutD xs lo hi)))
  | _, _, _ => none
def revD : D → Option D
  | .list xs => some (.list xs.reverse)
  | _ => none
def asInts : List D → Option (List Int)
  | [] => some []
  | .int i :: r => (asInts r).map (i :: ·)
  | _ :: _ => none
def asBools : List D → Option (List Bool)
  | [] => some []
  | .bool b :: r => (asBools r).map (b :: ·)
  | _ :: _ => none
def asPair : D → Option (Int × Int)
  | .tuple [.int i, .int j] => some (i, j)
  | _ => none
def asPairs : List D → Option (List (Int × Int))
  | [] => some []
  | x :: r => ob (asPair x) fun p => (asPairs r).map (p :: ·)
def enI (i : Int) : D := .int i
def enP (p : Int × Int) : D := .tuple [.int p.1, .int p.2]
def maxI : Int → List Int → Int
  | m, [] => m
  | m, x :: r => maxI (if m < x then x else m) r
/-- a before b, or alike -/
def leP (a b : Int × Int) : Bool := decide (a.1 < b.1) || (decide (a.1 = b.1) && decide (a.2 ≤ b.2))
def srtP (xs : List (Int × Int)) : List (Int × Int) := xs.mergeSort leP
def ddp {α : Type} [DecidableEq α] : List α → List α
  | [] => []
  | x :: r => if x ∈ ddp r then ddp r else x :: ddp r
def leI (a b : Int) : Bool := decide (a ≤ b)
def srtI (xs : List Int) : List Int := xs.mergeSort leI
def b1D : B1 → D → Option D
  | .len, .list xs => some (.int xs.length)
  | .len, .tuple xs => some (.int xs.length)
  | .all, .list xs => (asBools xs).map fun bs => .bool (bs.all id)
  | .any, .list xs => (asBools xs).map fun bs => .bool (bs.any id)
  | .sum, .list xs => (asInts xs).map fun ns => .int ns.sum
  | .max, .list xs => (asInts xs).bind fun ns => match ns with
    | [] => none
    | n :: r => some (.int (maxI n r))
  | .tuple, .list xs => some (.tuple xs)
  | .tuple, .tuple xs => some (.tuple xs)
  | .list, .list xs => some (.list xs)
  | .list, .tuple xs => some (.list xs)
  | .abs, .int i => some (.int (if i < 0 then -i else i))
  | .int, .int i => some (.int i)
  | .int, .bool b => some (.int (if b then 1 else 0))
  | .sorted, .list xs => (asPairs xs).map fun ps => .list ((srtP ps).map enP)
  | _, _ => none
def b2D : B2 → D → D → Option D
  | .max, .int i, .int j => some (.int (if j > i then j else i))
  | .min, .int i, .int j => some (.int (if j < i then j else i))
  | _, _, _ => none
/-- sorted(set(xs)): ints, or pairs of ints from 0 to 63 -/
def srtD : D → Option D
  | .list xs => match asInts xs with
    | some ns => gd (decide ((srtI (ddp ns)).length < 64) && decide (ns.length ≤ 1000)) (some (.list ((srtI (ddp ns)).map enI)))
    | none => (asPairs xs).bind fun ps => gd (decide (ps.length < 64) && ps.all fun p => decide (0 ≤ p.1) && decide (p.1 < 64) && decide (0 ≤ p.2) && decide (p.2 < 64)) (some (.list ((srtP (ddp ps)).map enP)))
  | _ => none
def isTy : Ty → D → Bool
  | .list, .list _ => true
  | .tuple, .tuple _ => true
  | .int, .int _ => true
  | .int, .bool _ => true
  | .bool, .bool _ => true
  | .str, .str _ => true
  | _, _ => false
def notDict : D → Bool
  | .dict _ => false
  | _ => true
/-- a dict's pairs put in one by one -/
def dAll : List (D × D) → List (D × D) → Option (List (D × D))
  | acc, [] => some acc
  | acc, (k, v) :: r => ob (dPut acc k v) fun a => dAll a r

/-! ### codes -/
inductive Tg where
  | nm (i : Nat)
  | tp (ts : List Tg)
mutual
inductive C where
  | var (i : Nat)
  | cst (d : D)
  | glo (x : Str) (d : D)
  | neg (e : C)
  | not (e : C)
  | isN (e : C)
  | notN (e : C)
  | bin (op : Bo) (a b : C)
  | cmp (op : Co) (a b : C)
  | chain (a : C) (op : Co) (b : C) (op' : Co) (c : C)
  | chain3 (a : C) (op : Co) (b : C) (op' : Co) (c : C) (op'' : Co) (d : C)
  | and (es : List C)
  | or (es : List C)
  | ifx (t a b : C)
  | ix (a b : C)
  | sl (a : C) (lo hi : Option Int)
  | rev (a : C)
  | tup (es : List C)
  | lst (es : List C)
  | dct0
  | dctN (k v : C)
  | dctS (ks : List Str) (vs : List C)
  | isi (e : C) (ts : List Ty)
  | isi1 (e : C) (t : Ty)
  | b1 (f : B1) (e : C)
  | b2 (f : B2) (a b : C)
  | srt (e : C)
  | lrng (e : C)
  | get (d k x : C)
  | fc (f : Nat) (es : List C)
  | mc (f : Nat) (m : Str) (o : C) (es : List C)
  | mk (f : Nat) (es : List C)
  | at (e : C) (n : Str)
  | comp (e : C) (tg : Tg) (it : It) (t : Option C)
  | box (es : List C)
inductive It where
  | seq (e : C) | rng (e : C) | enum (e : C) | keys (e : C) | items (e : C)
end
/-- where an assignment goes -/
inductive Ta where
  | nm (i : Nat)
  | own (i : Nat)
  | fld (o : C) (n : Str)
  | fldO (o : C) (n : Str)
  | ix (i : Nat) (k : C)
inductive Sc where
  | asg (t : Ta) (e : C)
  | par (ts : List Ta) (es : List C)
  | tupA (ts : List Ta) (es : List C)
  | unp (ts : List Ta) (e : C)
  | expr (e : C)
  | app (i : Nat) (e : C)
  | appF (o : C) (n : Str) (e : C)
  | ext (i : Nat) (e : C)
  | ifs (t : C) (a b : List Sc)
  | for_ (tg : Tg) (it : It) (body : List Sc)
  | ret (e : C)
  | frz (i : Nat)
  | never

/-! ### the evaluator -/
def slW (i : Nat) : Sl → W
  | .d x => .d x
  | .c j => .c j
  | .own _ => .o i
def ownOf : Option (Option Sl) → Option D
  | some (some (.own x)) => some x
  | _ => none
def fldOf (S : Sto) (i : Nat) (n : Str) : Option (Nat × Bool × D) := match S[i]? with
  | some (.ins cl fs) => (fs.lookup n).map fun p => (cl, p.1, p.2)
  | _ => none
/-- read what w stands for -/
def rd (w : W) (env : Env) (S : Sto) : Option D := match w with
  | .d x => some x
  | .o i => ownOf env[i]?
  | .f i n => match fldOf S i n with
    | some (_, true, x) => some x
    | _ => none
  | .c i => match S[i]? with
    | some (.own x) => some x
    | _ => none
def pu : W → Option D
  | .d x => some x
  | _ => none
/-- what may be handed to a def -/
def argW : W → Option W
  | .d x => some (.d x)
  | .c i => some (.c i)
  | _ => none
mutual
def tgSlots : Tg → List Nat
  | .nm i => [i]
  | .tp ts => tgsSlots ts
def tgsSlots : List Tg → List Nat
  | [] => []
  | t :: ts => tgSlots t ++ tgsSlots ts
end
mutual
def bindTg : Tg → D → Env → Option Env
  | .nm i, x, env => some (env.set i (some (.d x)))
  | .tp ts, .tuple xs, env => bindTgs ts xs env
  | .tp _, _, _ => none
def bindTgs : List Tg → List D → Env → Option Env
  | [], [], env => some env
  | t :: ts, x :: xs, env => ob (bindTg t x env) fun env' => bindTgs ts xs env'
  | _, _, _ => none
end
def wipeE (env : Env) : List Nat → Env
  | [] => env
  | v :: vs => (wipeE env vs).set v none
def boolOf : D → Option Bool
  | .bool b => some b
  | _ => none
def itemsOf : Nat → D → Option (List D)
  | 0, .list xs => some xs
  | 0, .tuple xs => some xs
  | 1, .int n => gd (decide (n ≤ 16777216) && decide (-(2 ^ 62) ≤ n)) (some ((List.range n.toNat).map fun (i : Nat) => PyData.int (i : Int)))
  | 2, .tuple xs => some (xs.zipIdx.map fun p => .tuple [.int (p.2 : Int), p.1])
  | 3, .dict kvs => some (kvs.map (·.1))
  | 4, .dict kvs => some (kvs.map fun p => .tuple [p.1, p.2])
  | _, _ => none
/-- the turns of a comprehension -/
def compLoop (tg : Tg) (t : Env → Sto → Option (Bool × Sto)) (e : Env → Sto → Option (W × Sto)) (env : Env) : List D → Sto → Option (List D × Sto)
  | [], S => some ([], S)
  | x :: xs, S => ob (bindTg tg x env) fun env' => bnd (t env' S) fun b S1 => match b with
    | true => bnd (e env' S1) fun w S2 => ob (pu w) fun y => bnd (compLoop tg t e env xs S2) fun ys S3 => some (y :: ys, S3)
    | false => compLoop tg t e env xs S1
section
variable (call : Nat → List W → Sto → Option (W × Sto)) (clsOf : Nat → Nat)
mutual
def evE : C → Env → Sto → Option (W × Sto)
  | .var i, env, S => match env[i]? with
    | some (some sl) => some (slW i sl, S)
    | _ => none
  | .cst x, _, S => some (.d x, S)
  | .glo _ x, _, S => some (.d x, S)
  | .neg e, env, S => bnd (evE e env S) fun w S1 => ob (pu w) fun x => match x with
    | .int i => some (.d (.int (-i)), S1)
    | _ => none
  | .not e, env, S => bnd (evE e env S) fun w S1 => ob (pu w) fun x => ob (boolOf x) fun b => some (.d (.bool (!b)), S1)
  | .isN e, env, S => bnd (evE e env S) fun w S1 => match w with
    | .d .none => some (.d (.bool true), S1)
    | .d _ => some (.d (.bool false), S1)
    | .c _ => some (.d (.bool false), S1)
    | _ => none
  | .notN e, env, S => bnd (evE e env S) fun w S1 => match w with
    | .d .none => some (.d (.bool false), S1)
    | .d _ => some (.d (.bool true), S1)
    | .c _ => some (.d (.bool true), S1)
    | _ => none
  | .bin op a b, env, S => bnd (evE a env S) fun u S1 => bnd (evE b env S1) fun v S2 => ob (rd u env S2) fun x => ob (pu v) fun y => ob (binD op x y) fun z => some (.d z, S2)
  | .cmp op a b, env, S => bnd (evE a env S) fun u S1 => bnd (evE b env S1) fun v S2 => ob (pu u) fun x => ob (pu v) fun y => ob (cmpD op x y) fun z => some (.d (.bool z), S2)
  | .chain a op b op' c, env, S => bnd (evE a env S) fun u S1 => bnd (evE b env S1) fun v S2 => ob (pu u) fun x => ob (pu v) fun y => ob (cmpD op x y) fun z => match z with
    | true => bnd (evE c env S2) fun w S3 => ob (pu w) fun q => ob (cmpD op' y q) fun z' => some (.d (.bool z'), S3)
    | false => some (.d (.bool false), S2)
  | .chain3 a op b op' c op'' d, env, S => bnd (evE a env S) fun u S1 => bnd (evE b env S1) fun v S2 => ob (pu u) fun x => ob (pu v) fun y => ob (cmpD op x y) fun z => match z with
    | true => bnd (evE c env S2) fun w S3 => ob (pu w) fun q => ob (cmpD op' y q) fun z' => match z' with
      | true => bnd (evE d env S3) fun w' S4 => ob (pu w') fun q' => ob (cmpD op'' q q') fun z'' => some (.d (.bool z''), S4)
      | false => some (.d (.bool false), S3)
    | false => some (.d (.bool false), S2)
  | .and es, env, S => evAnd es env S
  | .or es, env, S => evOr es env S
  | .ifx t a b, env, S => bnd (evE t env S) fun w S1 => ob (pu w) fun x => ob (boolOf x) fun k => match k with
    | true => evE a env S1
    | false => evE b env S1
  | .ix a b, env, S => bnd (evE a env S) fun u S1 => bnd (evE b env S1) fun v S2 => ob (rd u env S2) fun x => ob (pu v) fun y => ob (ixD x y) fun z => some (.d z, S2)
  | .sl a lo hi, env, S => bnd (evE a env S) fun u S1 => ob (pu u) fun x => ob (slD x lo hi) fun z => some (.d z, S1)
  | .rev a, env, S => bnd (evE a env S) fun u S1 => ob (pu u) fun x => ob (revD x) fun z => some (.d z, S1)
  | .tup es, env, S => bnd (evEs es env S) fun xs S1 => some (.d (.tuple xs), S1)
  | .lst es, env, S => bnd (evEs es env S) fun xs S1 => some (.d (.list xs), S1)
  | .dct0, _, S => some (.d (.dict []), S)
  | .dctN k v, env, S => bnd (evE k env S) fun u S1 => bnd (evE v env S1) fun w S2 => ob (pu u) fun x => ob (pu w) fun y => match kOf x with
    | some (.inr _) => some (.d (.dict [(x, y)]), S2)
    | _ => none
  | .dctS ks vs, env, S => bnd (evEs vs env S) fun xs S1 => gd (decide (xs.length = ks.length)) (some (.d (.dict ((ks.map fun k => PyData.str k).zip xs)), S1))
  | .isi e ts, env, S => bnd (evE e env S) fun u S1 => ob (pu u) fun x => gd (notDict x) (some (.d (.bool (ts.any fun t => isTy t x)), S1))
  | .isi1 e t, env, S => bnd (evE e env S) fun u S1 => ob (pu u) fun x => gd (notDict x) (some (.d (.bool (isTy t x)), S1))
  | .b1 f e, env, S => bnd (evE e env S) fun u S1 => ob (rd u env S1) fun x => ob (b1D f x) fun z => some (.d z, S1)
  | .b2 f a b, env, S => bnd (evE a env S) fun u S1 => bnd (evE b env S1) fun v S2 => ob (pu u) fun x => ob (pu v) fun y => ob (b2D f x y) fun z => some (.d z, S2)
  | .srt e, env, S => bnd (evE e env S) fun u S1 => ob (pu u) fun x => ob (srtD x) fun z => some (.d z, S1)
  | .lrng e, env, S => bnd (evE e env S) fun u S1 => ob (pu u) fun x => ob (itemsOf 1 x) fun z => some (.d (.list z), S1)
  | .get d k x, env, S => bnd (evE d env S) fun u S1 => ob (rd u env S1) fun d0 => gd (!notDict d0) <| bnd (evE k env S1) fun v S2 => bnd (evE x env S2) fun w S3 => ob (rd u env S3) fun dd => ob (pu v) fun kk => ob (pu w) fun xx => match dd with
    | .dict kvs => ob (dGetD kvs kk xx) fun z => some (.d z, S3)
    | _ => none
  | .fc f es, env, S => bnd (evWs es env S) fun ws S1 => call f ws S1
  | .mc f m o es, env, S => bnd (evE o env S) fun u S1 => match u with
    | .c i => match S1[i]? with
      | some (.ins cl fs) => gd (decide (cl = clsOf f) && (fs.lookup m).isNone) (bnd (evWs es env S1) fun ws S2 => call f (.c i :: ws) S2)
      | _ => none
    | _ => none
  | .mk f es, env, S => bnd (evWs es env S) fun ws S1 => bnd (call f (.c S1.length :: ws) (S1 ++ [.ins (clsOf f) []])) fun u S2 => match u with
    | .d .none => some (.c S1.length, S2)
    | _ => none
  | .at e n, env, S => bnd (evE e env S) fun u S1 => match u with
    | .c i => match fldOf S1 i n with
      | some (_, true, _) => some (.f i n, S1)
      | some (_, false, x) => some (.d x, S1)
      | none => none
    | _ => none
  | .comp e tg it t, env, S => bnd (evIt it env S) fun xs S1 => bnd (compLoop tg (fun env' S' => evT t env' S') (fun env' S' => evE e env' S') (wipeE env (tgSlots tg)) xs S1) fun ys S2 => some (.d (.list ys), S2)
  | .box es, env, S => bnd (evEs es env S) fun xs S1 => some (.c S1.length, S1 ++ [.own (.list xs)])
/-- all of them trees -/
def evEs : List C → Env → Sto → Option (List D × Sto)
  | [], _, S => some ([], S)
  | e :: es, env, S => bnd (evE e env S) fun w S1 => ob (pu w) fun x => bnd (evEs es env S1) fun xs S2 => some (x :: xs, S2)
/-- trees and cells -/
def evWs : List C → Env → Sto → Option (List W × Sto)
  | [], _, S => some ([], S)
  | e :: es, env, S => bnd (evE e env S) fun w S1 => ob (argW w) fun w' => bnd (evWs es env S1) fun ws S2 => some (w' :: ws, S2)
def evAnd : List C → Env → Sto → Option (W × Sto)
  | [], _, _ => none
  | [e], env, S => bnd (evE e env S) fun w S1 => ob (pu w) fun x => some (.d x, S1)
  | e :: e' :: es, env, S => bnd (evE e env S) fun w S1 => ob (pu w) fun x => ob (boolOf x) fun b => match b with
    | true => evAnd (e' :: es) env S1
    | false => some (.d (.bool false), S1)
def evOr : List C → Env → Sto → Option (W × Sto)
  | [], _, _ => none
  | [e], env, S => bnd (evE e env S) fun w S1 => ob (pu w) fun x => some (.d x, S1)
  | e :: e' :: es, env, S => bnd (evE e env S) fun w S1 => ob (pu w) fun x => ob (boolOf x) fun b => match b with
    | true => some (.d (.bool true), S1)
    | false => evOr (e' :: es) env S1
def evT : Option C → Env → Sto → Option (Bool × Sto)
  | none, _, S => some (true, S)
  | some t, env, S => bnd (evE t env S) fun w S1 => ob (pu w) fun x => ob (boolOf x) fun b => some (b, S1)
def evIt : It → Env → Sto → Option (List D × Sto)
  | .seq e, env, S => bnd (evE e env S) fun w S1 => ob (pu w) fun x => ob (itemsOf 0 x) fun xs => some (xs, S1)
  | .rng e, env, S => bnd (evE e env S) fun w S1 => ob (pu w) fun x => ob (itemsOf 1 x) fun xs => some (xs, S1)
  | .enum e, env, S => bnd (evE e env S) fun w S1 => ob (pu w) fun x => ob (itemsOf 2 x) fun xs => some (xs, S1)
  | .keys e, env, S => bnd (evE e env S) fun w S1 => ob (pu w) fun x => ob (itemsOf 3 x) fun xs => some (xs, S1)
  | .items e, env, S => bnd (evE e env S) fun w S1 => ob (pu w) fun x => ob (itemsOf 4 x) fun xs => some (xs, S1)
end
end

/-! ### statements -/
inductive Out where
  | nx (env : Env)
  | rt (w : W)
def slOf : W → Option Sl
  | .d x => some (.d x)
  | .c i => some (.c i)
  | _ => none
def isFresh : D → Bool
  | .list _ => true
  | .dict [] => true
  | _ => false
def notOwn (fs : List (Str × Bool × D)) (n : Str) : Bool := match fs.lookup n with
  | some (true, _) => false
  | _ => true
def setFld (n : Str) (o : Bool) (x : D) : List (Str × Bool × D) → List (Str × Bool × D)
  | [] => [(n, o, x)]
  | (m, q) :: r => if m = n then (m, o, x) :: r else (m, q) :: setFld n o x r
/-- what a right side gives to a target of this kind -/
def rhsOf (t : Ta) (w : W) : Option Sl := match t with
  | .own _ => (match w with
    | .d x => gd (isFresh x) (some (.own x))
    | _ => none)
  | _ => slOf w
def putOwn (x k v : D) : Option D := match x, k with
  | .list xs, .int i => ob (L2.ixN xs.length i) fun j => some (.list (xs.set j v))
  | .dict kvs, k => ob (dPut kvs k v) fun kvs' => some (.dict kvs')
  | _, _ => none
def appD (x y : D) : Option D := match x with
  | .list xs => gd (decide (xs.length < sizeLine)) (some (.list (xs ++ [y])))
  | _ => none
def extD (x y : D) : Option D := match x, y with
  | .list xs, .list ys => gd (decide (xs.length + ys.length ≤ sizeLine)) (some (.list (xs ++ ys)))
  | _, _ => none
def taSlot : Ta → Option Nat
  | .nm i => some i
  | .own i => some i
  | _ => none
def setAll (env : Env) : List Ta → List Sl → Option Env
  | [], [] => some env
  | t :: ts, x :: xs => ob (taSlot t) fun i => setAll (env.set i (some x)) ts xs
  | _, _ => none
def forLoop (tg : Tg) (body : Env → Sto → Option (Out × Sto)) : List D → Env → Sto → Option (Out × Sto)
  | [], env, S => some (.nx env, S)
  | x :: xs, env, S => ob (bindTg tg x env) fun env1 => bnd (body env1 S) fun o S1 => match o with
    | .nx env2 => forLoop tg body xs env2 S1
    | .rt w => some (.rt w, S1)
section
variable (call : Nat → List W → Sto → Option (W × Sto)) (clsOf : Nat → Nat)
def evRs : List Ta → List C → Env → Sto → Option (List Sl × Sto)
  | [], [], _, S => some ([], S)
  | t :: ts, e :: es, env, S => bnd (evE call clsOf e env S) fun w S1 => ob (rhsOf t w) fun x => bnd (evRs ts es env S1) fun xs S2 => some (x :: xs, S2)
  | _, _, _, _ => none
def evTas : List Ta → List D → Env → Sto → Option (Env × Sto)
  | [], [], env, S => some (env, S)
  | .nm i :: ts, x :: xs, env, S => evTas ts xs (env.set i (some (.d x))) S
  | .fld o n :: ts, x :: xs, env, S => bnd (evE call clsOf o env S) fun u S1 => match u with
    | .c j => (match S1[j]? with
      | some (.ins cl fs) => gd (decide (fs.length < 1000) && notOwn fs n) (evTas ts xs env (S1.set j (.ins cl (setFld n false x fs))))
      | _ => none)
    | _ => none
  | _, _, _, _ => none
mutual
def evS : Sc → Env → Sto → Option (Out × Sto)
  | .asg (.ix i k) e, env, S => bnd (evE call clsOf e env S) fun w S1 => ob (pu w) fun v => bnd (evE call clsOf k env S1) fun u S2 => ob (pu u) fun kk => match env[i]? with
    | some (some (.own x)) => ob (putOwn x kk v) fun y => some (.nx (env.set i (some (.own y))), S2)
    | some (some (.c j)) => (match S2[j]? with
      | some (.own (.list xs)) => ob (putOwn (.list xs) kk v) fun y => some (.nx env, S2.set j (.own y))
      | _ => none)
    | _ => none
  | .asg (.fld o n) e, env, S => bnd (evE call clsOf e env S) fun w S1 => ob (pu w) fun v => bnd (evE call clsOf o env S1) fun u S2 => match u with
    | .c j => (match S2[j]? with
      | some (.ins cl fs) => gd (decide (fs.length < 1000) && notOwn fs n) (some (.nx env, S2.set j (.ins cl (setFld n false v fs))))
      | _ => none)
    | _ => none
  | .asg (.fldO o n) e, env, S => bnd (evE call clsOf e env S) fun w S1 => ob (pu w) fun v => bnd (evE call clsOf o env S1) fun u S2 => match u with
    | .c j => (match S2[j]?, v with
      | some (.ins cl fs), .list xs => gd (decide (fs.length < 1000) && (fs.lookup n).isNone) (some (.nx env, S2.set j (.ins cl (setFld n true (.list xs) fs))))
      | _, _ => none)
    | _ => none
  | .asg (.nm i) e, env, S => bnd (evE call clsOf e env S) fun w S1 => ob (rhsOf (.nm i) w) fun x => some (.nx (env.set i (some x)), S1)
  | .asg (.own i) e, env, S => bnd (evE call clsOf e env S) fun w S1 => ob (rhsOf (.own i) w) fun x => some (.nx (env.set i (some x)), S1)
  | .par ts es, env, S => bnd (evRs call clsOf ts es env S) fun xs S1 => ob (setAll env ts xs) fun env' => some (.nx env', S1)
  | .tupA ts es, env, S => bnd (evRs call clsOf ts es env S) fun xs S1 => ob (setAll env ts xs) fun env' => some (.nx env', S1)
  | .unp ts e, env, S => bnd (evE call clsOf e env S) fun w S1 => ob (pu w) fun x => match x with
    | .tuple xs => bnd (evTas call clsOf ts xs env S1) fun env' S2 => some (.nx env', S2)
    | _ => none
  | .expr e, env, S => bnd (evE call clsOf e env S) fun _ S1 => some (.nx env, S1)
  | .app i e, env, S => ob (ownOf env[i]?) fun x => bnd (evE call clsOf e env S) fun w S1 => ob (pu w) fun y => ob (appD x y) fun z => some (.nx (env.set i (some (.own z))), S1)
  | .appF o n e, env, S => bnd (evE call clsOf o env S) fun u S1 => match u with
    | .c j => (match fldOf S1 j n with
      | some (_, true, .list _) => bnd (evE call clsOf e env S1) fun w S2 => ob (pu w) fun y => (match S2[j]? with
        | some (.ins cl fs) => (match fs.lookup n with
          | some (true, x) => ob (appD x y) fun z => some (.nx env, S2.set j (.ins cl (setFld n true z fs)))
          | _ => none)
        | _ => none)
      | _ => none)
    | _ => none
  | .ext i e, env, S => ob (ownOf env[i]?) fun x => bnd (evE call clsOf e env S) fun w S1 => ob (pu w) fun y => ob (extD x y) fun z => some (.nx (env.set i (some (.own z))), S1)
  | .ifs t a b, env, S => bnd (evE call clsOf t env S) fun w S1 => ob (pu w) fun x => ob (boolOf x) fun k => match k with
    | true => evB a env S1
    | false => evB b env S1
  | .for_ tg it body, env, S => bnd (evIt call clsOf it env S) fun xs S1 => forLoop tg (fun env' S' => evB body env' S') xs env S1
  | .ret e, env, S => bnd (evE call clsOf e env S) fun w S1 => match w with
    | .d x => some (.rt (.d x), S1)
    | .c i => some (.rt (.c i), S1)
    | .o i => ob (ownOf env[i]?) fun x => some (.rt (.d x), S1)
    | .f _ _ => none
  | .frz i, env, S => ob (ownOf env[i]?) fun x => some (.nx (env.set i (some (.d x))), S)
  | .never, _, _ => none
def evB : List Sc → Env → Sto → Option (Out × Sto)
  | [], env, S => some (.nx env, S)
  | s :: r, env, S => bnd (evS s env S) fun o S1 => match o with
    | .nx env' => evB r env' S1
    | .rt w => some (.rt w, S1)
end
end
/-! ### defs -/
structure FI where
  n : Nat
  np : Nat
  cl : Nat
  body : List Sc
def envOf (n : Nat) (ws : List W) : Option Env := match ws with
  | [] => some (List.replicate n none)
  | w :: r => ob (slOf w) fun x => (envOf (n - 1) r).map (some x :: ·)
def fin (n : Nat) (w : W) (S : Sto) : W × Sto := match w with
  | .c i => (.c i, S)
  | .f i m => (.f i m, S)
  | w => (w, S.take n)
def runF (call : Nat → List W → Sto → Option (W × Sto)) (clsOf : Nat → Nat) (fi : FI) (ws : List W) (S : Sto) : Option (W × Sto) :=
  gd (decide (ws.length = fi.np)) (ob (envOf fi.n ws) fun env => bnd (evB call clsOf fi.body env S) fun o S1 => match o with
    | .nx _ => some (fin S.length (.d .none) S1)
    | .rt w => some (fin S.length w S1))
def sem (fns : List FI) : Nat → Nat → List W → Sto → Option (W × Sto)
  | 0, _, _, _ => none
  | k + 1, f, ws, S => match fns[f]? with
    | some fi => runF (sem fns k) (fun g => match fns[g]? with | some gi => gi.cl | none => 0) fi ws S
    | none => none
end VI
set_option linter.all false
set_option maxRecDepth 100000
namespace VI
open PySem
def nm_frozen : List Str := ["thing", "part"]
def cd_frozen : List Sc := [(.ifs (.isi (.var 0) [.list, .tuple]) [(.ret (.b1 .tuple (.comp (.fc 0 [(.var 1)]) (.nm 1) (.seq (.var 0)) none)))] []), (.ret (.var 0))]
def nm_is_whole : List Str := ["thing"]
def cd_is_whole : List Sc := [(.ret (.and [(.isi1 (.var 0) .int), (.not (.isi1 (.var 0) .bool))]))]
def nm_is_number : List Str := ["thing"]
def cd_is_number : List Sc := [(.ret (.and [(.fc 1 [(.var 0)]), (.cmp .ge (.var 0) (.cst (.int 0)))]))]
def nm_are_enough : List Str := ["ways", "trust", "rule", "key"]
def cd_are_enough : List Sc := [(.ifs (.cmp .eq (.var 2) (.glo "ANY" (.str "any"))) [(.ret (.cmp .gt (.b1 .len (.var 0)) (.cst (.int 0))))] []), (.ret (.b1 .all (.comp (.cmp .isin (.ix (.var 3) (.cst (.int 1))) (.var 0)) (.nm 3) (.seq (.var 1)) none)))]
def nm_keys_believed : List Str := ["version", "trust", "rule", "some", "ways", "keys", "heads", "rest", "marks", "gone", "key"]
def cd_keys_believed : List Sc := [(.unp [(.nm 5), (.nm 6), (.nm 7), (.nm 8), (.nm 9)] (.fc 0 [(.var 0)])), (.asg (.nm 3) (.fc 0 [(.var 1)])), (.asg (.nm 4) (.comp (.ix (.var 10) (.cst (.int 1))) (.nm 10) (.seq (.var 3)) (some (.and [(.cmp .isin (.var 10) (.var 5)), (.cmp .isin (.ix (.var 10) (.cst (.int 0))) (.var 6)), (.cmp .notin (.ix (.var 10) (.cst (.int 0))) (.var 9))])))), (.ret (.fc 3 [(.var 4), (.var 3), (.var 2)]))]
def nm_rest_believed : List Str := ["version", "keyed", "trust", "rule", "ways", "marks", "keys", "gone", "key"]
def cd_rest_believed : List Sc := [(.tupA [(.nm 5), (.nm 6), (.nm 7)] [(.ix (.fc 0 [(.var 0)]) (.cst (.int 3))), (.ix (.fc 0 [(.var 1)]) (.cst (.int 0))), (.ix (.fc 0 [(.var 1)]) (.cst (.int 4)))]), (.asg (.nm 4) (.comp (.ix (.var 8) (.cst (.int 1))) (.nm 8) (.seq (.var 6)) (some (.and [(.cmp .isin (.ix (.var 8) (.cst (.int 0))) (.var 5)), (.cmp .notin (.ix (.var 8) (.cst (.int 0))) (.var 7))])))), (.ret (.fc 3 [(.var 4), (.fc 0 [(.var 2)]), (.var 3)]))]
def nm_zone_of : List Str := ["world", "number"]
def cd_zone_of : List Sc := [(.ifs (.not (.chain (.cst (.int 0)) .le (.var 1) .lt (.b1 .len (.ix (.var 0) (.cst (.int 0)))))) [.never] []), (.ret (.fc 0 [(.ix (.ix (.var 0) (.cst (.int 0))) (.var 1))]))]
def nm_begin_of : List Str := ["zone", "version"]
def cd_begin_of : List Sc := [(.ret (.ix (.ix (.ix (.var 0) (.cst (.int 0))) (.var 1)) (.cst (.int 0))))]
def nm_end_of : List Str := ["zone", "version", "line", "lag"]
def cd_end_of : List Sc := [(.par [(.nm 2), (.nm 3)] [(.ix (.var 0) (.cst (.int 0))), (.ix (.var 0) (.cst (.int 3)))]), (.ret (.ifx (.cmp .lt (.bin .add (.var 1) (.cst (.int 1))) (.b1 .len (.var 2))) (.bin .add (.ix (.ix (.var 2) (.bin .add (.var 1) (.cst (.int 1)))) (.cst (.int 0))) (.var 3)) (.cst .none)))]
def nm_may_tell : List Str := ["zone", "version", "time", "end"]
def cd_may_tell : List Sc := [(.ifs (.or [(.not (.chain (.cst (.int 0)) .le (.var 1) .lt (.b1 .len (.ix (.var 0) (.cst (.int 0)))))), (.cmp .lt (.var 2) (.fc 7 [(.var 0), (.var 1)]))]) [(.ret (.cst (.bool false)))] []), (.asg (.nm 3) (.fc 8 [(.var 0), (.var 1)])), (.ret (.or [(.isN (.var 3)), (.cmp .lt (.var 2) (.var 3))]))]
def nm_joined : List Str := ["stretches", "found", "first", "last"]
def cd_joined : List Sc := [(.asg (.own 1) (.lst [])), (.for_ (.tp [(.nm 2), (.nm 3)]) (.seq (.b1 .sorted (.var 0))) [(.ifs (.and [(.cmp .gt (.b1 .len (.var 1)) (.cst (.int 0))), (.cmp .le (.var 2) (.bin .add (.ix (.ix (.var 1) (.neg (.cst (.int 1)))) (.cst (.int 1))) (.cst (.int 1))))]) [(.asg (.ix 1 (.neg (.cst (.int 1)))) (.tup [(.ix (.ix (.var 1) (.neg (.cst (.int 1)))) (.cst (.int 0))), (.b2 .max (.ix (.ix (.var 1) (.neg (.cst (.int 1)))) (.cst (.int 1))) (.var 3))]))] [(.app 1 (.tup [(.var 2), (.var 3)]))])]), (.ret (.var 1))]
def nm_behind : List Str := ["stretches", "life", "step", "window", "found", "first", "last"]
def cd_behind : List Sc := [(.ifs (.cmp .ge (.var 2) (.var 1)) [(.ret (.lst []))] []), (.asg (.nm 4) (.comp (.tup [(.b2 .max (.ix (.var 3) (.cst (.int 0))) (.bin .add (.var 5) (.var 2))), (.b2 .min (.ix (.var 3) (.cst (.int 1))) (.bin .sub (.bin .add (.var 6) (.var 1)) (.cst (.int 1))))]) (.tp [(.nm 5), (.nm 6)]) (.seq (.var 0)) none)), (.ret (.comp (.tup [(.var 5), (.var 6)]) (.tp [(.nm 5), (.nm 6)]) (.seq (.var 4)) (some (.cmp .le (.var 5) (.var 6)))))]
def nm_step_between : List Str := ["is_one_server", "early", "late"]
def cd_step_between : List Sc := [(.ifs (.or [(.not (.var 0)), (.cmp .eq (.var 1) (.var 2))]) [(.ret (.cst (.int 0)))] []), (.ret (.ifx (.cmp .lt (.var 1) (.var 2)) (.cst (.int 1)) (.cst .none)))]
def nm_Copies_init : List Str := ["self", "world", "place", "anchors"]
def cd_Copies_init : List Sc := [(.unp [(.fld (.var 0) "own_zones"), (.nm 3), (.fld (.var 0) "own_rule")] (.fc 0 [(.var 1)])), (.asg (.fldO (.var 0) "own_trusts") (.lst [(.dctN (.var 3) (.cst .none))])), (.asg (.fldO (.var 0) "own_keys") (.lst [])), (.asg (.fldO (.var 0) "own_rests") (.lst [])), (.for_ (.nm 2) (.rng (.b1 .len (.at (.var 0) "own_zones"))) [(.appF (.var 0) "own_keys" (.mc 23 "all_keys" (.var 0) [(.var 2)])), (.appF (.var 0) "own_rests" (.mc 26 "all_rests" (.var 0) [(.var 2)])), (.appF (.var 0) "own_trusts" (.mc 27 "trusts_behind" (.var 0) [(.var 2)]))])]
def nm_Copies_site : List Str := ["self", "place"]
def cd_Copies_site : List Sc := [(.ret (.ix (.at (.var 0) "own_zones") (.var 1)))]
def nm_Copies_rule : List Str := ["self"]
def cd_Copies_rule : List Sc := [(.ret (.at (.var 0) "own_rule"))]
def nm_Copies_told : List Str := ["self", "place", "number"]
def cd_Copies_told : List Sc := [(.ret (.ix (.ix (.ix (.ix (.at (.var 0) "own_zones") (.var 1)) (.cst (.int 0))) (.var 2)) (.cst (.int 1))))]
def nm_Copies_numbers : List Str := ["self", "place"]
def cd_Copies_numbers : List Sc := [(.ret (.lrng (.b1 .len (.ix (.ix (.at (.var 0) "own_zones") (.var 1)) (.cst (.int 0))))))]
def nm_Copies_window : List Str := ["self", "place", "number", "end"]
def cd_Copies_window : List Sc := [(.asg (.nm 3) (.fc 8 [(.ix (.at (.var 0) "own_zones") (.var 1)), (.var 2)])), (.ret (.tup [(.fc 7 [(.ix (.at (.var 0) "own_zones") (.var 1)), (.var 2)]), (.ifx (.isN (.var 3)) (.glo "EVER" (.int 1000000000)) (.bin .sub (.var 3) (.cst (.int 1))))]))]
def nm_Copies_trusts : List Str := ["self", "place"]
def cd_Copies_trusts : List Sc := [(.ret (.ix (.at (.var 0) "own_trusts") (.var 1)))]
def nm_Copies_keys : List Str := ["self", "place"]
def cd_Copies_keys : List Sc := [(.ret (.ix (.at (.var 0) "own_keys") (.var 1)))]
def nm_Copies_rests : List Str := ["self", "place"]
def cd_Copies_rests : List Sc := [(.ret (.ix (.at (.var 0) "own_rests") (.var 1)))]
def nm_Copies_with_trust : List Str := ["self", "place", "trust", "window", "got"]
def cd_Copies_with_trust : List Sc := [(.asg (.nm 4) (.ix (.ix (.at (.var 0) "own_trusts") (.var 1)) (.var 2))), (.ret (.ifx (.isN (.var 4)) (.lst [(.var 3)]) (.fc 11 [(.var 4), (.ix (.ix (.at (.var 0) "own_zones") (.bin .sub (.var 1) (.cst (.int 1)))) (.cst (.int 5))), (.cst (.int 0)), (.var 3)])))]
def nm_Copies_all_keys : List Str := ["self", "place", "found", "number", "trust", "times"]
def cd_Copies_all_keys : List Sc := [(.asg (.own 2) .dct0), (.for_ (.nm 3) (.seq (.mc 17 "numbers" (.var 0) [(.var 1)])) [(.for_ (.nm 4) (.keys (.ix (.at (.var 0) "own_trusts") (.var 1))) [(.ifs (.fc 4 [(.mc 16 "told" (.var 0) [(.var 1), (.var 3)]), (.var 4), (.at (.var 0) "own_rule")]) [(.asg (.nm 5) (.fc 10 [(.mc 22 "with_trust" (.var 0) [(.var 1), (.var 4), (.mc 18 "window" (.var 0) [(.var 1), (.var 3)])])])), (.ifs (.cmp .gt (.b1 .len (.var 5)) (.cst (.int 0))) [(.asg (.ix 2 (.tup [(.var 3), (.var 4)])) (.var 5))] [])] [])])]), (.ret (.var 2))]
def nm_Copies_believes : List Str := ["self", "place", "pair", "number", "early", "trust"]
def cd_Copies_believes : List Sc := [(.unp [(.nm 4), (.nm 5)] (.var 2)), (.ret (.fc 5 [(.mc 16 "told" (.var 0) [(.var 1), (.var 3)]), (.mc 16 "told" (.var 0) [(.var 1), (.var 4)]), (.var 5), (.at (.var 0) "own_rule")]))]
def nm_Copies_with_keys : List Str := ["self", "place", "pair", "number", "is_one_server", "step"]
def cd_Copies_with_keys : List Sc := [(.asg (.nm 5) (.fc 12 [(.var 4), (.ix (.var 2) (.cst (.int 0))), (.var 3)])), (.ifs (.isN (.var 5)) [(.ret (.lst []))] []), (.ret (.fc 11 [(.ix (.ix (.at (.var 0) "own_keys") (.var 1)) (.var 2)), (.ix (.ix (.at (.var 0) "own_zones") (.var 1)) (.cst (.int 4))), (.var 5), (.mc 18 "window" (.var 0) [(.var 1), (.var 3)])]))]
def nm_Copies_all_rests : List Str := ["self", "place", "found", "number", "times", "pair"]
def cd_Copies_all_rests : List Sc := [(.asg (.own 2) .dct0), (.for_ (.nm 3) (.seq (.ifx (.cmp .lt (.bin .add (.var 1) (.cst (.int 1))) (.b1 .len (.at (.var 0) "own_zones"))) (.mc 17 "numbers" (.var 0) [(.var 1)]) (.lst []))) [(.asg (.own 4) (.lst [])), (.for_ (.nm 5) (.keys (.ix (.at (.var 0) "own_keys") (.var 1))) [(.ifs (.mc 24 "believes" (.var 0) [(.var 1), (.var 5), (.var 3)]) [(.ext 4 (.mc 25 "with_keys" (.var 0) [(.var 1), (.var 5), (.var 3), (.cmp .eq (.ix (.ix (.at (.var 0) "own_zones") (.var 1)) (.cst (.int 1))) (.cst (.int 1)))]))] [])]), (.frz 4), (.ifs (.cmp .gt (.b1 .len (.var 4)) (.cst (.int 0))) [(.asg (.ix 2 (.var 3)) (.fc 10 [(.var 4)]))] [])]), (.ret (.var 2))]
def nm_Copies_trusts_behind : List Str := ["self", "place", "found", "number", "times", "trust"]
def cd_Copies_trusts_behind : List Sc := [(.asg (.own 2) .dct0), (.for_ (.tp [(.nm 3), (.nm 4)]) (.items (.ix (.at (.var 0) "own_rests") (.var 1))) [(.asg (.nm 5) (.ix (.mc 16 "told" (.var 0) [(.var 1), (.var 3)]) (.cst (.int 2)))), (.ifs (.cmp .ne (.var 5) (.tup [])) [(.asg (.ix 2 (.var 5)) (.fc 10 [(.bin .add (.get (.var 2) (.var 5) (.lst [])) (.var 4))]))] [])]), (.ret (.var 2))]
def nm_Path_init : List Str := ["self", "world"]
def cd_Path_init : List Sc := [(.unp [(.fld (.var 0) "own_zones"), (.fld (.var 0) "own_trust"), (.fld (.var 0) "own_rule")] (.fc 0 [(.var 1)])), (.asg (.fldO (.var 0) "own_answers") (.lst []))]
def nm_Path_place : List Str := ["self"]
def cd_Path_place : List Sc := [(.ret (.tup [(.bin .fdiv (.b1 .len (.at (.var 0) "own_answers")) (.cst (.int 2))), (.ix (.tup [(.glo "KEYS" (.str "keys")), (.glo "REST" (.str "rest"))]) (.bin .mod (.b1 .len (.at (.var 0) "own_answers")) (.cst (.int 2))))]))]
def nm_Path_site : List Str := ["self"]
def cd_Path_site : List Sc := [(.ret (.ix (.at (.var 0) "own_zones") (.ix (.mc 29 "place" (.var 0) []) (.cst (.int 0)))))]
def nm_Path_newest : List Str := ["self"]
def cd_Path_newest : List Sc := [(.ret (.ix (.at (.var 0) "own_answers") (.neg (.cst (.int 1)))))]
def nm_Path_last_life : List Str := ["self", "place", "part"]
def cd_Path_last_life : List Sc := [(.unp [(.nm 1), (.nm 2)] (.mc 29 "place" (.var 0) [])), (.ret (.ifx (.cmp .eq (.var 2) (.glo "REST" (.str "rest"))) (.ix (.ix (.at (.var 0) "own_zones") (.var 1)) (.cst (.int 4))) (.ix (.ix (.at (.var 0) "own_zones") (.bin .sub (.var 1) (.cst (.int 1)))) (.cst (.int 5)))))]
def nm_Path_goes_on : List Str := ["self"]
def cd_Path_goes_on : List Sc := [(.ret (.and [(.cmp .lt (.ix (.mc 29 "place" (.var 0) []) (.cst (.int 0))) (.b1 .len (.at (.var 0) "own_zones"))), (.cmp .ne (.at (.var 0) "own_trust") (.tup []))]))]
def nm_Path_is_held : List Str := ["self", "time"]
def cd_Path_is_held : List Sc := [(.ifs (.cmp .eq (.b1 .len (.at (.var 0) "own_answers")) (.cst (.int 0))) [(.ret (.cst (.bool true)))] []), (.ret (.chain (.ix (.mc 31 "newest" (.var 0) []) (.cst (.int 0))) .le (.var 1) .le (.bin .sub (.bin .add (.ix (.mc 31 "newest" (.var 0) []) (.cst (.int 0))) (.mc 32 "last_life" (.var 0) [])) (.cst (.int 1)))))]
def nm_Path_believes : List Str := ["self", "number", "line"]
def cd_Path_believes : List Sc := [(.asg (.nm 2) (.ix (.mc 30 "site" (.var 0) []) (.cst (.int 0)))), (.ifs (.cmp .eq (.ix (.mc 29 "place" (.var 0) []) (.cst (.int 1))) (.glo "KEYS" (.str "keys"))) [(.ret (.fc 4 [(.ix (.ix (.var 2) (.var 1)) (.cst (.int 1))), (.at (.var 0) "own_trust"), (.at (.var 0) "own_rule")]))] []), (.ret (.fc 5 [(.ix (.ix (.var 2) (.var 1)) (.cst (.int 1))), (.ix (.ix (.var 2) (.ix (.mc 31 "newest" (.var 0) []) (.cst (.int 1)))) (.cst (.int 1))), (.at (.var 0) "own_trust"), (.at (.var 0) "own_rule")]))]
def nm_Path_one_server_tells : List Str := ["self", "time", "number", "step"]
def cd_Path_one_server_tells : List Sc := [(.asg (.nm 3) (.fc 12 [(.cst (.bool true)), (.ix (.mc 31 "newest" (.var 0) []) (.cst (.int 1))), (.var 2)])), (.ret (.and [(.notN (.var 3)), (.cmp .ge (.var 1) (.bin .add (.ix (.mc 31 "newest" (.var 0) []) (.cst (.int 0))) (.var 3))), (.or [(.cmp .eq (.var 3) (.cst (.int 1))), (.cmp .eq (.var 2) (.ix (.mc 31 "newest" (.var 0) []) (.cst (.int 1))))])]))]
def nm_Path_fits : List Str := ["self", "thing"]
def cd_Path_fits : List Sc := [(.ifs (.or [(.not (.mc 33 "goes_on" (.var 0) [])), (.not (.isi1 (.var 1) .tuple)), (.cmp .ne (.b1 .len (.var 1)) (.glo "QUADRUPLE" (.int 4)))]) [(.ret (.cst (.bool false)))] []), (.ifs (.or [(.not (.fc 2 [(.ix (.var 1) (.cst (.int 0)))])), (.not (.fc 2 [(.ix (.var 1) (.cst (.int 1)))])), (.not (.isi1 (.ix (.var 1) (.cst (.int 2))) .str))]) [(.ret (.cst (.bool false)))] []), (.ret (.and [(.cmp .eq (.sl (.var 1) (some (1)) (some (3))) (.mc 29 "place" (.var 0) [])), (.mc 34 "is_held" (.var 0) [(.ix (.var 1) (.cst (.int 0)))])]))]
def nm_Path_takes : List Str := ["self", "thing", "time", "number"]
def cd_Path_takes : List Sc := [(.ifs (.or [(.not (.mc 37 "fits" (.var 0) [(.var 1)])), (.not (.fc 2 [(.ix (.var 1) (.cst (.int 3)))])), (.not (.fc 9 [(.mc 30 "site" (.var 0) []), (.ix (.var 1) (.cst (.int 3))), (.ix (.var 1) (.cst (.int 0)))]))]) [(.ret (.cst (.bool false)))] []), (.par [(.nm 2), (.nm 3)] [(.ix (.var 1) (.cst (.int 0))), (.ix (.var 1) (.cst (.int 3)))]), (.ifs (.and [(.cmp .eq (.ix (.mc 29 "place" (.var 0) []) (.cst (.int 1))) (.glo "REST" (.str "rest"))), (.cmp .eq (.ix (.mc 30 "site" (.var 0) []) (.cst (.int 1))) (.cst (.int 1))), (.not (.mc 36 "one_server_tells" (.var 0) [(.var 2), (.var 3)]))]) [(.ret (.cst (.bool false)))] []), (.ifs (.not (.mc 35 "believes" (.var 0) [(.var 3)])) [(.ret (.cst (.bool false)))] []), (.ifs (.cmp .eq (.ix (.mc 29 "place" (.var 0) []) (.cst (.int 1))) (.glo "REST" (.str "rest"))) [(.asg (.fld (.var 0) "own_trust") (.ix (.ix (.ix (.ix (.mc 30 "site" (.var 0) []) (.cst (.int 0))) (.var 3)) (.cst (.int 1))) (.cst (.int 2))))] []), (.appF (.var 0) "own_answers" (.tup [(.var 2), (.var 3)])), (.ret (.cst (.bool true)))]
def nm_is_path : List Str := ["world", "thing", "zone", "part", "path"]
def cd_is_path : List Sc := [(.asg (.nm 4) (.fc 40 [(.var 0), (.var 1)])), (.ret (.and [(.notN (.var 4)), (.cmp .gt (.b1 .len (.var 1)) (.cst (.int 0))), (.cmp .eq (.sl (.ix (.var 1) (.neg (.cst (.int 1)))) (some (1)) (some (3))) (.tup [(.var 2), (.var 3)]))]))]
def nm_path_of : List Str := ["world", "thing", "path", "answer"]
def cd_path_of : List Sc := [(.asg (.nm 2) (.mk 28 [(.var 0)])), (.ifs (.or [(.not (.isi1 (.var 1) .tuple)), (.not (.b1 .all (.comp (.mc 38 "takes" (.var 2) [(.var 3)]) (.nm 3) (.seq (.var 1)) none)))]) [(.ret (.cst .none))] []), (.ret (.var 2))]
def nm_has_one_way : List Str := ["key", "trust", "rule", "other"]
def cd_has_one_way : List Sc := [(.ret (.or [(.cmp .eq (.var 2) (.glo "ANY" (.str "any"))), (.b1 .all (.comp (.cmp .eq (.ix (.var 3) (.cst (.int 1))) (.ix (.var 0) (.cst (.int 1)))) (.nm 3) (.seq (.var 1)) none))]))]
def nm_is_enough : List Str := ["key", "trust", "rule"]
def cd_is_enough : List Sc := [(.ret (.and [(.cmp .isin (.var 0) (.var 1)), (.fc 41 [(.var 0), (.var 1), (.var 2)])]))]
def nm_is_enough_in : List Str := ["key", "version", "trust", "rule"]
def cd_is_enough_in : List Sc := [(.ret (.and [(.cmp .isin (.var 0) (.ix (.var 1) (.cst (.int 0)))), (.cmp .notin (.ix (.var 0) (.cst (.int 0))) (.ix (.var 1) (.cst (.int 4)))), (.fc 41 [(.var 0), (.var 2), (.var 3)])]))]
def nm_last_held : List Str := ["times", "life", "first", "last"]
def cd_last_held : List Sc := [(.ret (.bin .sub (.bin .add (.b1 .max (.comp (.var 3) (.tp [(.nm 2), (.nm 3)]) (.seq (.var 0)) none)) (.var 1)) (.cst (.int 1))))]
def nm_last_made : List Str := ["copies", "zone", "key", "found", "trust", "times", "last"]
def cd_last_made : List Sc := [(.asg (.own 3) (.lst [(.glo "NEVER" (.int (-1)))])), (.for_ (.tp [(.nm 4), (.nm 5)]) (.items (.mc 19 "trusts" (.var 0) [(.var 1)])) [(.ifs (.fc 42 [(.var 2), (.var 4), (.mc 15 "rule" (.var 0) [])]) [(.asg (.nm 6) (.ifx (.isN (.var 5)) (.glo "EVER" (.int 1000000000)) (.fc 44 [(.var 5), (.ix (.mc 14 "site" (.var 0) [(.bin .sub (.var 1) (.cst (.int 1)))]) (.cst (.int 5)))]))), (.app 3 (.bin .sub (.bin .add (.var 6) (.ix (.mc 14 "site" (.var 0) [(.var 1)]) (.cst (.int 4)))) (.cst (.int 1))))] [])]), (.ret (.b1 .max (.var 3)))]
def nm_last_genuine : List Str := ["copies", "zone", "key", "found", "times", "number", "trust"]
def cd_last_genuine : List Sc := [(.asg (.own 3) (.lst [(.glo "NEVER" (.int (-1)))])), (.for_ (.tp [(.tp [(.nm 5), (.nm 6)]), (.nm 4)]) (.items (.mc 20 "keys" (.var 0) [(.var 1)])) [(.ifs (.fc 43 [(.var 2), (.mc 16 "told" (.var 0) [(.var 1), (.var 5)]), (.var 6), (.mc 15 "rule" (.var 0) [])]) [(.app 3 (.fc 44 [(.var 4), (.ix (.mc 14 "site" (.var 0) [(.var 1)]) (.cst (.int 4)))]))] [])]), (.ret (.b1 .max (.var 3)))]
def nm_last_trust : List Str := ["world", "zone", "key", "found", "copies"]
def cd_last_trust : List Sc := [(.expr (.fc 6 [(.var 0), (.var 1)])), (.par [(.nm 4), (.nm 2)] [(.mk 13 [(.var 0)]), (.fc 0 [(.var 2)])]), (.asg (.nm 3) (.b2 .max (.fc 45 [(.var 4), (.var 1), (.var 2)]) (.fc 46 [(.var 4), (.var 1), (.var 2)]))), (.ret (.ifx (.cmp .ge (.var 3) (.glo "EVER" (.int 1000000000))) (.cst .none) (.var 3)))]
def nm_trust_behind : List Str := ["world", "zone", "answers"]
def cd_trust_behind : List Sc := [(.ret (.ifx (.cmp .eq (.var 1) (.cst (.int 0))) (.ix (.var 0) (.cst (.int 1))) (.ix (.ix (.ix (.ix (.ix (.ix (.var 0) (.cst (.int 0))) (.bin .sub (.var 1) (.cst (.int 1)))) (.cst (.int 0))) (.ix (.ix (.var 2) (.bin .sub (.bin .mul (.cst (.int 2)) (.var 1)) (.cst (.int 1)))) (.cst (.int 3)))) (.cst (.int 1))) (.cst (.int 2)))))]
def nm_shows_genuine : List Str := ["world", "zone", "key", "answers", "time", "fits", "got", "version"]
def cd_shows_genuine : List Sc := [(.ifs (.not (.fc 39 [(.var 0), (.var 3), (.var 1), (.glo "KEYS" (.str "keys"))])) [(.ret (.cst (.bool false)))] []), (.par [(.nm 6), (.nm 7)] [(.ix (.ix (.var 3) (.neg (.cst (.int 1)))) (.cst (.int 0))), (.ix (.ix (.ix (.ix (.ix (.var 0) (.cst (.int 0))) (.var 1)) (.cst (.int 0))) (.ix (.ix (.var 3) (.neg (.cst (.int 1)))) (.cst (.int 3)))) (.cst (.int 1)))]), (.asg (.nm 5) (.fc 43 [(.var 2), (.var 7), (.fc 48 [(.var 0), (.var 1), (.var 3)]), (.ix (.var 0) (.cst (.int 2)))])), (.ret (.and [(.var 5), (.chain (.var 6) .le (.var 4) .lt (.bin .add (.var 6) (.ix (.ix (.ix (.var 0) (.cst (.int 0))) (.var 1)) (.cst (.int 4)))))]))]
def nm_shows_made : List Str := ["world", "zone", "key", "answers", "made", "fits"]
def cd_shows_made : List Sc := [(.ifs (.cmp .eq (.var 1) (.cst (.int 0))) [(.ret (.and [(.cmp .eq (.var 3) (.tup [])), (.fc 42 [(.var 2), (.ix (.var 0) (.cst (.int 1))), (.ix (.var 0) (.cst (.int 2)))])]))] []), (.ifs (.not (.fc 39 [(.var 0), (.var 3), (.bin .sub (.var 1) (.cst (.int 1))), (.glo "REST" (.str "rest"))])) [(.ret (.cst (.bool false)))] []), (.asg (.nm 5) (.fc 42 [(.var 2), (.fc 48 [(.var 0), (.var 1), (.var 3)]), (.ix (.var 0) (.cst (.int 2)))])), (.ret (.and [(.var 5), (.chain (.ix (.ix (.var 3) (.neg (.cst (.int 1)))) (.cst (.int 0))) .le (.var 4) .lt (.bin .add (.ix (.ix (.var 3) (.neg (.cst (.int 1)))) (.cst (.int 0))) (.ix (.ix (.ix (.var 0) (.cst (.int 0))) (.bin .sub (.var 1) (.cst (.int 1)))) (.cst (.int 5)))))]))]
def nm_shows_trust : List Str := ["world", "zone", "key", "thing", "answers", "made", "time"]
def cd_shows_trust : List Sc := [(.expr (.fc 6 [(.var 0), (.var 1)])), (.par [(.nm 0), (.nm 2)] [(.fc 0 [(.var 0)]), (.fc 0 [(.var 2)])]), (.ifs (.or [(.not (.isi1 (.var 3) .tuple)), (.cmp .ne (.b1 .len (.var 3)) (.glo "TRIPLE" (.int 3))), (.not (.isi1 (.ix (.var 3) (.cst (.int 0))) .tuple))]) [(.ret (.cst (.bool false)))] []), (.unp [(.nm 4), (.nm 5), (.nm 6)] (.var 3)), (.ifs (.or [(.not (.fc 2 [(.var 6)])), (.and [(.notN (.var 5)), (.not (.fc 2 [(.var 5)]))])]) [(.ret (.cst (.bool false)))] []), (.ifs (.isN (.var 5)) [(.ret (.fc 49 [(.var 0), (.var 1), (.var 2), (.var 4), (.var 6)]))] []), (.ret (.and [(.chain3 (.cst (.int 0)) .le (.var 5) .le (.var 6) .lt (.bin .add (.var 5) (.ix (.ix (.ix (.var 0) (.cst (.int 0))) (.var 1)) (.cst (.int 4))))), (.fc 50 [(.var 0), (.var 1), (.var 2), (.var 4), (.var 5)])]))]
def nm__law_box : List Str := ["_law_script", "_law_k", "_law_cell"]
def cd__law_box : List Sc := [(.asg (.nm 2) (.ifx (.cmp .lt (.var 1) (.b1 .len (.var 0))) (.ix (.var 0) (.var 1)) (.cst (.int 0)))), (.ret (.box [(.bin .mul (.b1 .abs (.var 2)) (.b1 .int (.cmp .ge (.b1 .abs (.var 2)) (.bin .pow (.cst (.int 10)) (.cst (.int 18)))))), (.bin .add (.bin .add (.bin .mod (.b1 .int (.var 2)) (.cst (.int 2147483629))) (.bin .mul (.cst (.int 7919)) (.var 1))) (.cst (.int 73))), (.cst (.int 0))]))]
def nm__law_take : List Str := ["_law_box_here", "_law_below", "_law_once", "_law_twice", "_law_found"]
def cd__law_take : List Sc := [(.ifs (.cmp .gt (.ix (.var 0) (.cst (.int 0))) (.cst (.int 0))) [(.asg (.nm 4) (.bin .mod (.b1 .int (.ix (.var 0) (.cst (.int 0)))) (.var 1))), (.asg (.ix 0 (.cst (.int 0))) (.bin .fdiv (.ix (.var 0) (.cst (.int 0))) (.var 1))), (.ret (.var 4))] []), (.asg (.ix 0 (.cst (.int 2))) (.bin .add (.ix (.var 0) (.cst (.int 2))) (.cst (.int 1)))), (.asg (.nm 2) (.bin .mod (.b1 .int (.bin .pow (.bin .add (.ix (.var 0) (.cst (.int 1))) (.bin .mul (.cst (.int 48271)) (.ix (.var 0) (.cst (.int 2))))) (.cst (.int 5)))) (.cst (.int 2147483647)))), (.asg (.nm 3) (.bin .mod (.b1 .int (.bin .add (.bin .mul (.var 2) (.bin .add (.bin .mod (.b1 .int (.var 2)) (.cst (.int 30011))) (.cst (.int 7)))) (.bin .mul (.ix (.var 0) (.cst (.int 2))) (.cst (.int 7919))))) (.cst (.int 2147483629)))), (.ret (.bin .mod (.b1 .int (.bin .fdiv (.var 3) (.cst (.int 64)))) (.var 1)))]
def nm__law_pick : List Str := ["_law_box_here", "_law_some"]
def cd__law_pick : List Sc := [(.ret (.ix (.var 1) (.fc 53 [(.var 0), (.b1 .len (.var 1))])))]
def nm__law_told : List Str := ["_law_zone_so", "_law_number", "_law_at", "_law_line"]
def cd__law_told : List Sc := [(.asg (.nm 3) (.ix (.var 0) (.cst (.int 0)))), (.ifs (.cmp .lt (.var 2) (.ix (.ix (.var 3) (.var 1)) (.cst (.int 0)))) [(.ret (.cst (.bool false)))] []), (.ret (.or [(.cmp .eq (.bin .add (.var 1) (.cst (.int 1))) (.b1 .len (.var 3))), (.cmp .lt (.var 2) (.bin .add (.ix (.ix (.var 3) (.bin .add (.var 1) (.cst (.int 1)))) (.cst (.int 0))) (.ix (.var 0) (.cst (.int 3)))))]))]
def nm__law_covers : List Str := ["_law_ways_here", "_law_trust_so", "_law_rule_so", "_law_key"]
def cd__law_covers : List Sc := [(.ifs (.cmp .eq (.var 2) (.cst (.str "any"))) [(.ret (.cmp .ne (.var 0) (.lst [])))] []), (.ret (.b1 .all (.comp (.cmp .isin (.ix (.var 3) (.cst (.int 1))) (.var 0)) (.nm 3) (.seq (.var 1)) none)))]
def nm__law_keys_ok : List Str := ["_law_told_so", "_law_trust_so", "_law_rule_so", "_law_ways_here", "_law_keys_so", "_law_heads", "_law_rest", "_law_marks", "_law_gone", "_law_key"]
def cd__law_keys_ok : List Sc := [(.unp [(.nm 4), (.nm 5), (.nm 6), (.nm 7), (.nm 8)] (.var 0)), (.asg (.nm 3) (.comp (.ix (.var 9) (.cst (.int 1))) (.nm 9) (.seq (.var 1)) (some (.and [(.cmp .isin (.var 9) (.var 4)), (.cmp .isin (.ix (.var 9) (.cst (.int 0))) (.var 5)), (.cmp .notin (.ix (.var 9) (.cst (.int 0))) (.var 8))])))), (.ret (.fc 56 [(.var 3), (.var 1), (.var 2)]))]
def nm__law_rest_ok : List Str := ["_law_told_so", "_law_mine", "_law_trust_so", "_law_rule_so", "_law_ways_here", "_law_key"]
def cd__law_rest_ok : List Sc := [(.asg (.nm 4) (.comp (.ix (.var 5) (.cst (.int 1))) (.nm 5) (.seq (.ix (.var 1) (.cst (.int 0)))) (some (.and [(.cmp .notin (.ix (.var 5) (.cst (.int 0))) (.ix (.var 1) (.cst (.int 4)))), (.cmp .isin (.ix (.var 5) (.cst (.int 0))) (.ix (.var 0) (.cst (.int 3))))])))), (.ret (.fc 56 [(.var 4), (.var 2), (.var 3)]))]
def nm__law_one_server : List Str := ["_law_early", "_law_late"]
def cd__law_one_server : List Sc := [(.ret (.ifx (.cmp .eq (.ix (.var 0) (.cst (.int 0))) (.ix (.var 1) (.cst (.int 0)))) (.cmp .eq (.ix (.var 0) (.cst (.int 1))) (.ix (.var 1) (.cst (.int 1)))) (.cmp .le (.ix (.var 0) (.cst (.int 1))) (.ix (.var 1) (.cst (.int 1))))))]
def nm__law_most : List Str := ["_law_world_so", "_law_found", "_law_line", "_law_servers_so", "_law_tries_so", "_law_lag_so", "_law_one", "_law_other", "_law_row_here"]
def cd__law_most : List Sc := [(.asg (.nm 1) (.cst (.int 2))), (.for_ (.tp [(.nm 2), (.nm 3), (.nm 4), (.nm 5), (.nm 6), (.nm 7)]) (.seq (.ix (.var 0) (.cst (.int 0)))) [(.asg (.nm 1) (.b2 .max (.var 1) (.bin .add (.ix (.ix (.var 2) (.neg (.cst (.int 1)))) (.cst (.int 0))) (.var 5))))]), (.ret (.bin .add (.bin .add (.var 1) (.b1 .sum (.comp (.bin .add (.bin .add (.ix (.var 8) (.cst (.int 4))) (.ix (.var 8) (.cst (.int 5)))) (.cst (.int 1))) (.nm 8) (.seq (.ix (.var 0) (.cst (.int 0)))) none))) (.cst (.int 2))))]
def nm__law_holds : List Str := ["_law_times", "_law_life", "_law_at", "_law_early"]
def cd__law_holds : List Sc := [(.ret (.or [(.isN (.var 0)), (.b1 .any (.comp (.chain (.var 3) .le (.var 2) .lt (.bin .add (.var 3) (.var 1))) (.nm 3) (.seq (.var 0)) none))]))]
def nm__law_got : List Str := ["_law_world_so", "_law_found", "_law_trusts_here", "_law_life", "_law_most_here", "_law_place", "_law_zone_so", "_law_number", "_law_keys_so", "_law_rest_so", "_law_some", "_law_trust_so", "_law_times", "_law_at"]
def cd__law_got : List Sc := [(.tupA [(.own 1), (.nm 2), (.nm 3), (.nm 4)] [(.lst []), (.dctN (.ix (.var 0) (.cst (.int 1))) (.cst .none)), (.cst (.int 1)), (.fc 60 [(.var 0)])]), (.for_ (.tp [(.nm 5), (.nm 6)]) (.enum (.ix (.var 0) (.cst (.int 0)))) [(.tupA [(.own 8), (.own 9)] [.dct0, .dct0]), (.for_ (.nm 7) (.rng (.b1 .len (.ix (.var 6) (.cst (.int 0))))) [(.asg (.nm 10) (.comp (.var 13) (.nm 13) (.rng (.var 4)) (some (.fc 55 [(.var 6), (.var 7), (.var 13)])))), (.for_ (.nm 11) (.keys (.var 2)) [(.ifs (.fc 57 [(.ix (.ix (.ix (.var 6) (.cst (.int 0))) (.var 7)) (.cst (.int 1))), (.var 11), (.ix (.var 0) (.cst (.int 2)))]) [(.asg (.nm 12) (.comp (.var 13) (.nm 13) (.seq (.var 10)) (some (.fc 61 [(.ix (.var 2) (.var 11)), (.var 3), (.var 13)])))), (.ifs (.cmp .ne (.var 12) (.lst [])) [(.asg (.ix 8 (.tup [(.var 7), (.var 11)])) (.var 12))] [])] [])])]), (.frz 8), (.for_ (.nm 7) (.rng (.b1 .len (.ix (.var 6) (.cst (.int 0))))) [(.asg (.nm 12) (.comp (.var 13) (.nm 13) (.rng (.var 4)) (some (.fc 55 [(.var 6), (.var 7), (.var 13)])))), (.asg (.nm 12) (.comp (.var 13) (.nm 13) (.seq (.var 12)) (some (.fc 63 [(.var 0), (.var 6), (.var 8), (.var 7), (.var 13)])))), (.ifs (.and [(.cmp .ne (.var 12) (.lst [])), (.cmp .lt (.bin .add (.var 5) (.cst (.int 1))) (.b1 .len (.ix (.var 0) (.cst (.int 0)))))]) [(.asg (.ix 9 (.var 7)) (.var 12))] [])]), (.frz 9), (.app 1 (.dctS ["trusts", "life", "keys", "rest"] [(.var 2), (.var 3), (.var 8), (.var 9)])), (.tupA [(.nm 2), (.nm 3)] [(.fc 64 [(.var 6), (.var 9)]), (.ix (.var 6) (.cst (.int 5)))])]), (.ret (.var 1))]
def nm__law_rest_can : List Str := ["_law_world_so", "_law_zone_so", "_law_keys_so", "_law_number", "_law_at", "_law_line", "_law_early", "_law_trust_so", "_law_then", "_law_fits"]
def cd__law_rest_can : List Sc := [(.asg (.nm 5) (.ix (.var 1) (.cst (.int 0)))), (.for_ (.tp [(.nm 6), (.nm 7)]) (.keys (.var 2)) [(.ifs (.fc 58 [(.ix (.ix (.var 5) (.var 3)) (.cst (.int 1))), (.ix (.ix (.var 5) (.var 6)) (.cst (.int 1))), (.var 7), (.ix (.var 0) (.cst (.int 2)))]) [(.for_ (.nm 8) (.seq (.ix (.var 2) (.tup [(.var 6), (.var 7)]))) [(.asg (.nm 9) (.or [(.cmp .gt (.ix (.var 1) (.cst (.int 1))) (.cst (.int 1))), (.fc 59 [(.tup [(.var 8), (.var 6)]), (.tup [(.var 4), (.var 3)])])])), (.ifs (.and [(.chain (.var 8) .le (.var 4) .lt (.bin .add (.var 8) (.ix (.var 1) (.cst (.int 4))))), (.var 9)]) [(.ret (.cst (.bool true)))] [])])] [])]), (.ret (.cst (.bool false)))]
def nm__law_trusts : List Str := ["_law_zone_so", "_law_rest_so", "_law_found", "_law_number", "_law_trust_so"]
def cd__law_trusts : List Sc := [(.asg (.own 2) .dct0), (.for_ (.nm 3) (.keys (.var 1)) [(.asg (.nm 4) (.ix (.ix (.ix (.ix (.var 0) (.cst (.int 0))) (.var 3)) (.cst (.int 1))) (.cst (.int 2)))), (.ifs (.cmp .ne (.var 4) (.tup [])) [(.asg (.ix 2 (.var 4)) (.srt (.bin .add (.get (.var 2) (.var 4) (.lst [])) (.ix (.var 1) (.var 3)))))] [])]), (.ret (.var 2))]
def nm__law_one_way : List Str := ["_law_key_so", "_law_trust_so", "_law_rule_so", "_law_own"]
def cd__law_one_way : List Sc := [(.ret (.or [(.cmp .eq (.var 2) (.cst (.str "any"))), (.cmp .eq (.comp (.var 3) (.nm 3) (.seq (.var 1)) (some (.cmp .ne (.ix (.var 3) (.cst (.int 1))) (.ix (.var 0) (.cst (.int 1)))))) (.lst []))]))]
def nm__law_made_by : List Str := ["_law_key_so", "_law_trust_so", "_law_rule_so"]
def cd__law_made_by : List Sc := [(.ret (.and [(.cmp .isin (.var 0) (.var 1)), (.fc 65 [(.var 0), (.var 1), (.var 2)])]))]
def nm__law_uses : List Str := ["_law_key_so", "_law_told_so", "_law_trust_so", "_law_rule_so"]
def cd__law_uses : List Sc := [(.ret (.and [(.cmp .isin (.var 0) (.ix (.var 1) (.cst (.int 0)))), (.cmp .notin (.ix (.var 0) (.cst (.int 0))) (.ix (.var 1) (.cst (.int 4)))), (.fc 65 [(.var 0), (.var 2), (.var 3)])]))]
def nm__law_way : List Str := ["_law_world_so", "_law_got_here", "_law_place", "_law_part", "_law_pair", "_law_moment", "_law_zone_so", "_law_mine", "_law_ahead", "_law_early", "_law_trust_so", "_law_then", "_law_fits", "_law_front"]
def cd__law_way : List Sc := [(.par [(.nm 6), (.nm 7)] [(.ix (.ix (.var 0) (.cst (.int 0))) (.var 2)), (.ix (.var 1) (.var 2))]), (.ifs (.and [(.cmp .eq (.var 3) (.cst (.str "keys"))), (.cmp .eq (.var 2) (.cst (.int 0)))]) [(.ret (.ifx (.cmp .isin (.var 5) (.get (.ix (.var 7) (.cst (.str "keys"))) (.var 4) (.lst []))) (.tup [(.tup [(.var 5), (.cst (.int 0)), (.cst (.str "keys")), (.ix (.var 4) (.cst (.int 0)))])]) (.cst .none)))] []), (.ifs (.cmp .eq (.var 3) (.cst (.str "keys"))) [(.ifs (.cmp .notin (.var 5) (.get (.ix (.var 7) (.cst (.str "keys"))) (.var 4) (.lst []))) [(.ret (.cst .none))] []), (.asg (.nm 8) (.ix (.ix (.var 1) (.bin .sub (.var 2) (.cst (.int 1)))) (.cst (.str "rest")))), (.for_ (.nm 9) (.keys (.var 8)) [(.ifs (.cmp .eq (.ix (.ix (.ix (.ix (.ix (.ix (.var 0) (.cst (.int 0))) (.bin .sub (.var 2) (.cst (.int 1)))) (.cst (.int 0))) (.var 9)) (.cst (.int 1))) (.cst (.int 2))) (.ix (.var 4) (.cst (.int 1)))) [(.for_ (.nm 11) (.seq (.rev (.ix (.var 8) (.var 9)))) [(.ifs (.chain (.var 11) .le (.var 5) .lt (.bin .add (.var 11) (.ix (.ix (.ix (.var 0) (.cst (.int 0))) (.bin .sub (.var 2) (.cst (.int 1)))) (.cst (.int 5))))) [(.asg (.nm 13) (.fc 68 [(.var 0), (.var 1), (.bin .sub (.var 2) (.cst (.int 1))), (.cst (.str "rest")), (.var 9), (.var 11)])), (.ret (.bin .add (.var 13) (.tup [(.tup [(.var 5), (.var 2), (.cst (.str "keys")), (.ix (.var 4) (.cst (.int 0)))])])))] [])])] [])]), (.ret (.cst .none))] []), (.for_ (.tp [(.nm 9), (.nm 10)]) (.keys (.ix (.var 7) (.cst (.str "keys")))) [(.ifs (.fc 58 [(.ix (.ix (.ix (.var 6) (.cst (.int 0))) (.var 4)) (.cst (.int 1))), (.ix (.ix (.ix (.var 6) (.cst (.int 0))) (.var 9)) (.cst (.int 1))), (.var 10), (.ix (.var 0) (.cst (.int 2)))]) [(.for_ (.nm 11) (.seq (.rev (.ix (.ix (.var 7) (.cst (.str "keys"))) (.tup [(.var 9), (.var 10)])))) [(.asg (.nm 12) (.or [(.cmp .gt (.ix (.var 6) (.cst (.int 1))) (.cst (.int 1))), (.fc 59 [(.tup [(.var 11), (.var 9)]), (.tup [(.var 5), (.var 4)])])])), (.ifs (.and [(.chain (.var 11) .le (.var 5) .lt (.bin .add (.var 11) (.ix (.var 6) (.cst (.int 4))))), (.var 12)]) [(.asg (.nm 13) (.fc 68 [(.var 0), (.var 1), (.var 2), (.cst (.str "keys")), (.tup [(.var 9), (.var 10)]), (.var 11)])), (.ret (.bin .add (.var 13) (.tup [(.tup [(.var 5), (.var 2), (.cst (.str "rest")), (.var 4)])])))] [])])] [])]), (.ret (.cst .none))]
def nm__law_row : List Str := ["_law_some"]
def cd__law_row : List Sc := [(.ret (.b1 .tuple (.srt (.var 0))))]
def nm__law_begin_of : List Str := ["_law_box_here", "_law_trust_so", "_law_is_last", "_law_keys_so", "_law_heads", "_law_marks", "_law_below", "_law_key"]
def cd__law_begin_of : List Sc := [(.asg (.own 3) (.b1 .list (.var 1))), (.ifs (.cmp .eq (.fc 53 [(.var 0), (.cst (.int 2))]) (.cst (.int 0))) [(.app 3 (.tup [(.cst (.int 9)), (.fc 53 [(.var 0), (.cst (.int 2))])]))] []), (.asg (.nm 4) (.comp (.ix (.var 7) (.cst (.int 0))) (.nm 7) (.seq (.var 1)) none)), (.frz 3), (.asg (.nm 5) (.bin .add (.comp (.ix (.var 7) (.cst (.int 0))) (.nm 7) (.seq (.var 3)) (some (.cmp .gt (.fc 53 [(.var 0), (.cst (.int 3))]) (.cst (.int 0))))) (.var 4))), (.asg (.nm 6) (.fc 54 [(.var 0), (.lst [(.tup [(.tup [(.cst (.int 1)), (.cst (.int 0))])]), (.tup [(.tup [(.cst (.int 1)), (.cst (.int 0))])]), (.tup [(.tup [(.cst (.int 1)), (.cst (.int 0))]), (.tup [(.cst (.int 2)), (.cst (.int 1))])])])])), (.asg (.nm 6) (.ifx (.var 2) (.cst .none) (.var 6))), (.ret (.tup [(.fc 69 [(.var 3)]), (.fc 69 [(.var 4)]), (.var 6), (.fc 69 [(.var 5)]), (.tup [])]))]
def nm__law_without : List Str := ["_law_some", "_law_number", "_law_own"]
def cd__law_without : List Sc := [(.ret (.b1 .tuple (.comp (.var 2) (.nm 2) (.seq (.var 0)) (some (.cmp .ne (.var 2) (.var 1))))))]
def nm__law_changed : List Str := ["_law_box_here", "_law_told_so", "_law_own", "_law_left", "_law_keys_so", "_law_heads", "_law_below", "_law_marks", "_law_gone", "_law_number", "_law_way_here", "_law_put", "_law_key"]
def cd__law_changed : List Sc := [(.unp [(.nm 4), (.nm 5), (.nm 6), (.nm 7), (.nm 8)] (.var 1)), (.tupA [(.nm 9), (.nm 10)] [(.bin .add (.cst (.int 1)) (.fc 53 [(.var 0), (.cst (.int 5))])), (.fc 53 [(.var 0), (.cst (.int 12))])]), (.asg (.nm 2) (.comp (.var 12) (.nm 12) (.seq (.var 4)) (some (.cmp .eq (.ix (.var 12) (.cst (.int 0))) (.var 9))))), (.ifs (.and [(.cmp .lt (.var 10) (.cst (.int 3))), (.cmp .eq (.var 2) (.lst []))]) [(.ret (.tup [(.fc 69 [(.bin .add (.b1 .list (.var 4)) (.lst [(.tup [(.var 9), (.fc 53 [(.var 0), (.cst (.int 2))])])]))]), (.var 5), (.var 6), (.var 7), (.var 8)]))] []), (.ifs (.and [(.cmp .eq (.var 10) (.cst (.int 3))), (.cmp .gt (.b1 .len (.var 4)) (.cst (.int 1)))]) [(.asg (.nm 3) (.b1 .tuple (.comp (.var 12) (.nm 12) (.seq (.var 4)) (some (.cmp .ne (.ix (.var 12) (.cst (.int 0))) (.var 9)))))), (.ret (.tup [(.var 3), (.var 5), (.var 6), (.var 7), (.fc 71 [(.var 8), (.var 9)])]))] []), (.ifs (.cmp .lt (.var 10) (.cst (.int 6))) [(.asg (.nm 11) (.ifx (.cmp .isin (.var 9) (.var 5)) (.fc 71 [(.var 5), (.var 9)]) (.fc 69 [(.bin .add (.b1 .list (.var 5)) (.lst [(.var 9)]))]))), (.ret (.tup [(.var 4), (.var 11), (.var 6), (.var 7), (.var 8)]))] []), (.ifs (.cmp .lt (.var 10) (.cst (.int 9))) [(.asg (.nm 11) (.ifx (.cmp .isin (.var 9) (.var 7)) (.fc 71 [(.var 7), (.var 9)]) (.fc 69 [(.bin .add (.b1 .list (.var 7)) (.lst [(.var 9)]))]))), (.ret (.tup [(.var 4), (.var 5), (.var 6), (.var 11), (.var 8)]))] []), (.ifs (.and [(.cmp .eq (.var 10) (.cst (.int 9))), (.cmp .ne (.var 2) (.lst []))]) [(.asg (.nm 11) (.ifx (.cmp .isin (.var 9) (.var 8)) (.fc 71 [(.var 8), (.var 9)]) (.fc 69 [(.bin .add (.b1 .list (.var 8)) (.lst [(.var 9)]))]))), (.ret (.tup [(.var 4), (.var 5), (.var 6), (.var 7), (.var 11)]))] []), (.ifs (.or [(.isN (.var 6)), (.cmp .eq (.var 10) (.cst (.int 9)))]) [(.ret (.tup [(.var 4), (.var 5), (.var 6), (.var 7), (.var 8)]))] []), (.asg (.nm 3) (.b1 .tuple (.comp (.var 12) (.nm 12) (.seq (.var 6)) (some (.cmp .ne (.ix (.var 12) (.cst (.int 0))) (.var 9)))))), (.ifs (.cmp .eq (.b1 .len (.var 3)) (.b1 .len (.var 6))) [(.asg (.nm 3) (.fc 69 [(.bin .add (.b1 .list (.var 6)) (.lst [(.tup [(.var 9), (.fc 53 [(.var 0), (.cst (.int 2))])])]))]))] []), (.ret (.tup [(.var 4), (.var 5), (.var 3), (.var 7), (.var 8)]))]
def nm__law_zone : List Str := ["_law_box_here", "_law_trust_so", "_law_is_last", "_law_many", "_law_line", "_law_turn", "_law_servers_so", "_law_lives", "_law_told_so", "_law_at", "_law_again"]
def cd__law_zone : List Sc := [(.par [(.nm 8), (.nm 9)] [(.fc 70 [(.var 0), (.var 1), (.var 2)]), (.cst (.int 0))]), (.asg (.own 4) (.lst [(.tup [(.cst (.int 0)), (.var 8)])])), (.for_ (.nm 5) (.rng (.fc 53 [(.var 0), (.var 3)])) [(.asg (.nm 9) (.bin .add (.bin .add (.var 9) (.cst (.int 1))) (.fc 53 [(.var 0), (.cst (.int 7))]))), (.for_ (.nm 10) (.rng (.bin .add (.cst (.int 1)) (.fc 53 [(.var 0), (.cst (.int 2))]))) [(.asg (.nm 8) (.fc 72 [(.var 0), (.var 8)]))]), (.app 4 (.tup [(.var 9), (.var 8)]))]), (.asg (.nm 6) (.bin .add (.cst (.int 1)) (.fc 53 [(.var 0), (.cst (.int 3))]))), (.asg (.nm 7) (.tup [(.bin .add (.cst (.int 1)) (.fc 53 [(.var 0), (.cst (.int 5))])), (.bin .add (.cst (.int 1)) (.fc 53 [(.var 0), (.cst (.int 5))]))])), (.ret (.bin .add (.tup [(.b1 .tuple (.var 4)), (.var 6), (.bin .add (.cst (.int 1)) (.fc 53 [(.var 0), (.var 6)])), (.fc 53 [(.var 0), (.cst (.int 4))])]) (.var 7)))]
def nm__law_world : List Str := ["_law_box_here", "_law_most_zones", "_law_many"]
def cd__law_world : List Sc := [(.ret (.fc 75 [(.var 0), (.bin .add (.cst (.int 1)) (.fc 53 [(.var 0), (.var 1)])), (.var 2)]))]
def nm__law_world_of : List Str := ["_law_box_here", "_law_count", "_law_many", "_law_trust_so", "_law_place", "_law_anchors_so", "_law_zones_so"]
def cd__law_world_of : List Sc := [(.asg (.nm 3) (.fc 54 [(.var 0), (.lst [(.tup [(.tup [(.cst (.int 7)), (.cst (.int 0))])]), (.tup [(.tup [(.cst (.int 1)), (.cst (.int 0))])]), (.tup [(.tup [(.cst (.int 1)), (.cst (.int 0))]), (.tup [(.cst (.int 2)), (.cst (.int 1))])]), (.tup [(.tup [(.cst (.int 7)), (.cst (.int 0))]), (.tup [(.cst (.int 8)), (.cst (.int 1))])])])])), (.par [(.nm 5), (.own 6)] [(.var 3), (.lst [])]), (.for_ (.nm 4) (.rng (.var 1)) [(.app 6 (.fc 73 [(.var 0), (.var 3), (.cmp .eq (.bin .add (.var 4) (.cst (.int 1))) (.var 1)), (.var 2)])), (.asg (.nm 3) (.ix (.ix (.ix (.ix (.ix (.var 6) (.neg (.cst (.int 1)))) (.cst (.int 0))) (.cst (.int 0))) (.cst (.int 1))) (.cst (.int 2))))]), (.ret (.tup [(.b1 .tuple (.var 6)), (.var 5), (.ix (.lst [(.cst (.str "any")), (.cst (.str "each"))]) (.fc 53 [(.var 0), (.cst (.int 2))]))]))]
def nm__law_ways : List Str := ["_law_world_so", "_law_got_here", "_law_place", "_law_key_so", "_law_moment", "_law_trust_so", "_law_pair", "_law_zone_so", "_law_mine", "_law_found", "_law_then"]
def cd__law_ways : List Sc := [(.par [(.nm 7), (.nm 8), (.own 9)] [(.ix (.ix (.var 0) (.cst (.int 0))) (.var 2)), (.ix (.var 1) (.var 2)), (.lst [])]), (.for_ (.nm 5) (.keys (.ix (.var 8) (.cst (.str "trusts")))) [(.ifs (.fc 66 [(.var 3), (.var 5), (.ix (.var 0) (.cst (.int 2)))]) [(.ifs (.cmp .eq (.var 2) (.cst (.int 0))) [(.app 9 (.tup [(.tup []), (.var 4), (.var 4)]))] [(.asg (.own 9) (.bin .add (.var 9) (.fc 77 [(.var 0), (.var 1), (.var 2), (.var 5), (.var 4)])))])] [])]), (.for_ (.nm 6) (.keys (.ix (.var 8) (.cst (.str "keys")))) [(.ifs (.fc 67 [(.var 3), (.ix (.ix (.ix (.var 7) (.cst (.int 0))) (.ix (.var 6) (.cst (.int 0)))) (.cst (.int 1))), (.ix (.var 6) (.cst (.int 1))), (.ix (.var 0) (.cst (.int 2)))]) [(.for_ (.nm 10) (.seq (.sl (.ix (.ix (.var 8) (.cst (.str "keys"))) (.var 6)) (some (-2)) none)) [(.ifs (.chain (.var 10) .le (.var 4) .lt (.bin .add (.var 10) (.ix (.var 7) (.cst (.int 4))))) [(.app 9 (.tup [(.fc 68 [(.var 0), (.var 1), (.var 2), (.cst (.str "keys")), (.var 6), (.var 10)]), (.cst .none), (.var 4)]))] [])])] [])]), (.ret (.var 9))]
def nm__law_made_ways : List Str := ["_law_world_so", "_law_got_here", "_law_place", "_law_trust_so", "_law_moment", "_law_early", "_law_found", "_law_ahead", "_law_life", "_law_then", "_law_made"]
def cd__law_made_ways : List Sc := [(.par [(.own 6), (.nm 7), (.nm 8)] [(.lst []), (.ix (.ix (.var 1) (.bin .sub (.var 2) (.cst (.int 1)))) (.cst (.str "rest"))), (.ix (.ix (.ix (.var 0) (.cst (.int 0))) (.bin .sub (.var 2) (.cst (.int 1)))) (.cst (.int 5)))]), (.for_ (.nm 5) (.keys (.var 7)) [(.ifs (.cmp .eq (.ix (.ix (.ix (.ix (.ix (.ix (.var 0) (.cst (.int 0))) (.bin .sub (.var 2) (.cst (.int 1)))) (.cst (.int 0))) (.var 5)) (.cst (.int 1))) (.cst (.int 2))) (.var 3)) [(.for_ (.nm 9) (.seq (.sl (.ix (.var 7) (.var 5)) (some (-2)) none)) [(.asg (.nm 10) (.b2 .min (.var 4) (.bin .sub (.bin .add (.var 9) (.var 8)) (.cst (.int 1))))), (.ifs (.and [(.cmp .le (.var 9) (.var 10)), (.cmp .lt (.var 4) (.bin .add (.var 10) (.ix (.ix (.ix (.var 0) (.cst (.int 0))) (.var 2)) (.cst (.int 4)))))]) [(.app 6 (.tup [(.fc 68 [(.var 0), (.var 1), (.bin .sub (.var 2) (.cst (.int 1))), (.cst (.str "rest")), (.var 5), (.var 9)]), (.var 10), (.var 4)]))] [])])] [])]), (.ret (.var 6))]
def nm__law_keys_of : List Str := ["_law_world_so", "_law_place", "_law_found", "_law_moment", "_law_told_so"]
def cd__law_keys_of : List Sc := [(.asg (.nm 2) (.ifx (.cmp .eq (.var 1) (.cst (.int 0))) (.b1 .list (.ix (.var 0) (.cst (.int 1)))) (.lst []))), (.for_ (.tp [(.nm 3), (.nm 4)]) (.seq (.ix (.ix (.ix (.var 0) (.cst (.int 0))) (.var 1)) (.cst (.int 0)))) [(.asg (.nm 2) (.bin .add (.var 2) (.b1 .list (.ix (.var 4) (.cst (.int 0))))))]), (.for_ (.tp [(.nm 3), (.nm 4)]) (.seq (.ifx (.cmp .gt (.var 1) (.cst (.int 0))) (.ix (.ix (.ix (.var 0) (.cst (.int 0))) (.bin .sub (.var 1) (.cst (.int 1)))) (.cst (.int 0))) (.tup []))) [(.asg (.nm 2) (.bin .add (.var 2) (.b1 .list (.ix (.var 4) (.cst (.int 2))))))]), (.ret (.srt (.var 2)))]
def nm__law_shown : List Str := ["_law_world_so", "_law_place", "_law_key_so", "_law_ways_here", "_law_last", "_law_later", "_law_way_here"]
def cd__law_shown : List Sc := [(.ifs (.not (.b1 .all (.comp (.cmp .isb (.fc 51 [(.var 0), (.var 1), (.var 2), (.var 6)]) (.cst (.bool true))) (.nm 6) (.seq (.var 3)) none))) [(.ret (.cst (.bool false)))] []), (.ifs (.isN (.var 4)) [(.ret (.cst (.bool true)))] []), (.asg (.nm 5) (.comp (.tup [(.ix (.var 6) (.cst (.int 0))), (.ix (.var 6) (.cst (.int 1))), (.bin .add (.var 4) (.cst (.int 1)))]) (.nm 6) (.seq (.var 3)) none)), (.asg (.nm 5) (.bin .add (.var 5) (.comp (.tup [(.ix (.var 6) (.cst (.int 0))), (.bin .add (.var 4) (.cst (.int 1))), (.bin .add (.var 4) (.cst (.int 1)))]) (.nm 6) (.seq (.var 3)) none))), (.ret (.not (.b1 .any (.comp (.fc 51 [(.var 0), (.var 1), (.var 2), (.var 6)]) (.nm 6) (.seq (.var 5)) none))))]
def nm__law_right : List Str := ["_law_box_here", "_law_turn", "_law_world_so", "_law_got_here", "_law_place", "_law_key_so", "_law_last", "_law_moment", "_law_ways_here"]
def cd__law_right : List Sc := [(.for_ (.nm 1) (.rng (.cst (.int 1))) [(.asg (.nm 2) (.fc 74 [(.var 0), (.cst (.int 3)), (.cst (.int 3))])), (.asg (.nm 3) (.fc 62 [(.var 2)])), (.for_ (.nm 4) (.rng (.b1 .len (.ix (.var 2) (.cst (.int 0))))) [(.for_ (.nm 5) (.seq (.fc 78 [(.var 2), (.var 4)])) [(.asg (.nm 6) (.fc 47 [(.var 2), (.var 4), (.var 5)])), (.asg (.nm 7) (.ifx (.isN (.var 6)) (.bin .sub (.fc 60 [(.var 2)]) (.cst (.int 1))) (.var 6))), (.asg (.nm 8) (.ifx (.cmp .ge (.var 7) (.cst (.int 0))) (.fc 76 [(.var 2), (.var 3), (.var 4), (.var 5), (.var 7)]) (.lst []))), (.ifs (.cmp .ne (.cmp .eq (.var 8) (.lst [])) (.cmp .lt (.var 7) (.cst (.int 0)))) [(.ret (.cst (.bool false)))] []), (.ifs (.not (.fc 79 [(.var 2), (.var 4), (.var 5), (.var 8), (.var 6)])) [(.ret (.cst (.bool false)))] [])])])]), (.ret (.cst (.bool true)))]
def nm_law : List Str := ["_law_script", "_law_k"]
def cd_law : List Sc := [(.ret (.b1 .all (.comp (.fc 80 [(.fc 52 [(.var 0), (.var 1)])]) (.nm 1) (.rng (.bin .add (.cst (.int 1)) (.b2 .min (.cst (.int 1)) (.b1 .len (.var 0))))) none)))]
def fns : List FI := [
  ⟨2, 1, 0, cd_frozen⟩,
  ⟨1, 1, 0, cd_is_whole⟩,
  ⟨1, 1, 0, cd_is_number⟩,
  ⟨4, 3, 0, cd_are_enough⟩,
  ⟨11, 3, 0, cd_keys_believed⟩,
  ⟨9, 4, 0, cd_rest_believed⟩,
  ⟨2, 2, 0, cd_zone_of⟩,
  ⟨2, 2, 0, cd_begin_of⟩,
  ⟨4, 2, 0, cd_end_of⟩,
  ⟨4, 3, 0, cd_may_tell⟩,
  ⟨4, 1, 0, cd_joined⟩,
  ⟨7, 4, 0, cd_behind⟩,
  ⟨3, 3, 0, cd_step_between⟩,
  ⟨4, 2, 1, cd_Copies_init⟩,
  ⟨2, 2, 1, cd_Copies_site⟩,
  ⟨1, 1, 1, cd_Copies_rule⟩,
  ⟨3, 3, 1, cd_Copies_told⟩,
  ⟨2, 2, 1, cd_Copies_numbers⟩,
  ⟨4, 3, 1, cd_Copies_window⟩,
  ⟨2, 2, 1, cd_Copies_trusts⟩,
  ⟨2, 2, 1, cd_Copies_keys⟩,
  ⟨2, 2, 1, cd_Copies_rests⟩,
  ⟨5, 4, 1, cd_Copies_with_trust⟩,
  ⟨6, 2, 1, cd_Copies_all_keys⟩,
  ⟨6, 4, 1, cd_Copies_believes⟩,
  ⟨6, 5, 1, cd_Copies_with_keys⟩,
  ⟨6, 2, 1, cd_Copies_all_rests⟩,
  ⟨6, 2, 1, cd_Copies_trusts_behind⟩,
  ⟨2, 2, 2, cd_Path_init⟩,
  ⟨1, 1, 2, cd_Path_place⟩,
  ⟨1, 1, 2, cd_Path_site⟩,
  ⟨1, 1, 2, cd_Path_newest⟩,
  ⟨3, 1, 2, cd_Path_last_life⟩,
  ⟨1, 1, 2, cd_Path_goes_on⟩,
  ⟨2, 2, 2, cd_Path_is_held⟩,
  ⟨3, 2, 2, cd_Path_believes⟩,
  ⟨4, 3, 2, cd_Path_one_server_tells⟩,
  ⟨2, 2, 2, cd_Path_fits⟩,
  ⟨4, 2, 2, cd_Path_takes⟩,
  ⟨5, 4, 0, cd_is_path⟩,
  ⟨4, 2, 0, cd_path_of⟩,
  ⟨4, 3, 0, cd_has_one_way⟩,
  ⟨3, 3, 0, cd_is_enough⟩,
  ⟨4, 4, 0, cd_is_enough_in⟩,
  ⟨4, 2, 0, cd_last_held⟩,
  ⟨7, 3, 0, cd_last_made⟩,
  ⟨7, 3, 0, cd_last_genuine⟩,
  ⟨5, 3, 0, cd_last_trust⟩,
  ⟨3, 3, 0, cd_trust_behind⟩,
  ⟨8, 5, 0, cd_shows_genuine⟩,
  ⟨6, 5, 0, cd_shows_made⟩,
  ⟨7, 4, 0, cd_shows_trust⟩,
  ⟨3, 2, 0, cd__law_box⟩,
  ⟨5, 2, 0, cd__law_take⟩,
  ⟨2, 2, 0, cd__law_pick⟩,
  ⟨4, 3, 0, cd__law_told⟩,
  ⟨4, 3, 0, cd__law_covers⟩,
  ⟨10, 3, 0, cd__law_keys_ok⟩,
  ⟨6, 4, 0, cd__law_rest_ok⟩,
  ⟨2, 2, 0, cd__law_one_server⟩,
  ⟨9, 1, 0, cd__law_most⟩,
  ⟨4, 3, 0, cd__law_holds⟩,
  ⟨14, 1, 0, cd__law_got⟩,
  ⟨10, 5, 0, cd__law_rest_can⟩,
  ⟨5, 2, 0, cd__law_trusts⟩,
  ⟨4, 3, 0, cd__law_one_way⟩,
  ⟨3, 3, 0, cd__law_made_by⟩,
  ⟨4, 4, 0, cd__law_uses⟩,
  ⟨14, 6, 0, cd__law_way⟩,
  ⟨1, 1, 0, cd__law_row⟩,
  ⟨8, 3, 0, cd__law_begin_of⟩,
  ⟨3, 2, 0, cd__law_without⟩,
  ⟨13, 2, 0, cd__law_changed⟩,
  ⟨11, 4, 0, cd__law_zone⟩,
  ⟨3, 3, 0, cd__law_world⟩,
  ⟨7, 3, 0, cd__law_world_of⟩,
  ⟨11, 5, 0, cd__law_ways⟩,
  ⟨11, 5, 0, cd__law_made_ways⟩,
  ⟨5, 2, 0, cd__law_keys_of⟩,
  ⟨7, 5, 0, cd__law_shown⟩,
  ⟨9, 1, 0, cd__law_right⟩,
  ⟨2, 1, 0, cd_law⟩]
-- 0 frozen
-- 1 is_whole
-- 2 is_number
-- 3 are_enough
-- 4 keys_believed
-- 5 rest_believed
-- 6 zone_of
-- 7 begin_of
-- 8 end_of
-- 9 may_tell
-- 10 joined
-- 11 behind
-- 12 step_between
-- 13 Copies_init
-- 14 Copies_site
-- 15 Copies_rule
-- 16 Copies_told
-- 17 Copies_numbers
-- 18 Copies_window
-- 19 Copies_trusts
-- 20 Copies_keys
-- 21 Copies_rests
-- 22 Copies_with_trust
-- 23 Copies_all_keys
-- 24 Copies_believes
-- 25 Copies_with_keys
-- 26 Copies_all_rests
-- 27 Copies_trusts_behind
-- 28 Path_init
-- 29 Path_place
-- 30 Path_site
-- 31 Path_newest
-- 32 Path_last_life
-- 33 Path_goes_on
-- 34 Path_is_held
-- 35 Path_believes
-- 36 Path_one_server_tells
-- 37 Path_fits
-- 38 Path_takes
-- 39 is_path
-- 40 path_of
-- 41 has_one_way
-- 42 is_enough
-- 43 is_enough_in
-- 44 last_held
-- 45 last_made
-- 46 last_genuine
-- 47 last_trust
-- 48 trust_behind
-- 49 shows_genuine
-- 50 shows_made
-- 51 shows_trust
-- 52 _law_box
-- 53 _law_take
-- 54 _law_pick
-- 55 _law_told
-- 56 _law_covers
-- 57 _law_keys_ok
-- 58 _law_rest_ok
-- 59 _law_one_server
-- 60 _law_most
-- 61 _law_holds
-- 62 _law_got
-- 63 _law_rest_can
-- 64 _law_trusts
-- 65 _law_one_way
-- 66 _law_made_by
-- 67 _law_uses
-- 68 _law_way
-- 69 _law_row
-- 70 _law_begin_of
-- 71 _law_without
-- 72 _law_changed
-- 73 _law_zone
-- 74 _law_world
-- 75 _law_world_of
-- 76 _law_ways
-- 77 _law_made_ways
-- 78 _law_keys_of
-- 79 _law_shown
-- 80 _law_right
-- 81 law
end VI
set_option Elab.async false
set_option linter.all false
set_option maxRecDepth 100000
/-! V3: how trees, slots and cells lie in the heap. -/
namespace VI
open PySem PySem.Spec L2
open PyProof.Rows hiding St
/-- what the relation leans on: the program, the world, where the classes stand -/
structure Wd where
  P : Program
  w : World
  K : PySem.W.Frag
  cad : Nat → Addr
abbrev NEs := List (NestedKey × Addr × V)
/-- the entries of a dict with tuple keys, as the heap has them -/
def dNok (q : Wd) (a : Addr) (es : NEs) (h : Heap) : Prop := es.length ≤ sizeLine ∧ (a == sysModules) = false ∧ ∃ xs : List (NestedKey × Addr × Value),
  Paired (fun (p : NestedKey × Addr × V) (u : NestedKey × Addr × Value) => p.1 = u.1 ∧ p.2.1 = u.2.1 ∧ RelV p.2.2 u.2.2) es xs ∧
  (∃ o ea ep, h.get? a = some o ∧ o.ExactDict ∧ o.data = .dict ea ep ∧ ea.toList = xs.map (entryOfKey (nestedKind q.P q.w))) ∧ (xs.map (·.1)).Nodup
def dNo (q : Wd) (a : Addr) (es : NEs) : HO := .ext (dNok q a es)
def kD : L2.Key → D
  | .inl i => .int i
  | .inr x => .str x
mutual
/-- v is the tree d, by the objects of R that never change -/
inductive Rp (q : Wd) (R : Hp) : V → D → Prop where
  | non : Rp q R .non .none
  | bl (b : Bool) : Rp q R (.bl b) (.bool b)
  | int (i : Int) : Rp q R (.int i) (.int i)
  | str (x : Str) : Rp q R (.str x) (.str x)
  | lst {a : Addr} {vs : List V} {xs : List D} : SqL q.K R a vs → RpL q R vs xs → Rp q R (.ref a) (.list xs)
  | tup {a : Addr} {vs : List V} {xs : List D} : R a = some (.tup vs) → RpL q R vs xs → Rp q R (.ref a) (.tuple xs)
  | dk {a : Addr} {od : Obj} {kvs : List (L2.Key × V)} {ds : List (D × D)} : R a = some (.frz od (.dK kvs)) → RpK q R kvs ds → Rp q R (.ref a) (.dict ds)
  | dn {a : Addr} {od : Obj} {es : NEs} {ds : List (D × D)} : R a = some (.frz od (dNo q a es)) → RpN q R es ds → Rp q R (.ref a) (.dict ds)
inductive RpL (q : Wd) (R : Hp) : List V → List D → Prop where
  | nil : RpL q R [] []
  | cons {v : V} {x : D} {vs : List V} {xs : List D} : Rp q R v x → RpL q R vs xs → RpL q R (v :: vs) (x :: xs)
inductive RpK (q : Wd) (R : Hp) : List (L2.Key × V) → List (D × D) → Prop where
  | nil : RpK q R [] []
  | cons {k : L2.Key} {v : V} {x : D} {vs : List (L2.Key × V)} {xs : List (D × D)} : Rp q R v x → RpK q R vs xs → RpK q R ((k, v) :: vs) ((kD k, x) :: xs)
inductive RpN (q : Wd) (R : Hp) : NEs → List (D × D) → Prop where
  | nil : RpN q R [] []
  | cons {k : NestedKey} {b : Addr} {v : V} {kd x : D} {vs : NEs} {xs : List (D × D)} : kOf kd = some (.inr k) → Rp q R (.ref b) kd → Rp q R v x → RpN q R vs xs → RpN q R ((k, b, v) :: vs) ((kd, x) :: xs)
end
def Sub (R H : Hp) : Prop := ∀ a o, R a = some o → H a = some o
theorem Sub.rd {R H : Hp} (s : Sub R H) {a : Addr} {u : HO} (h : Rd R a u) : Rd H a u := h.elim (fun h => .inl (s _ _ h)) fun ⟨o, h⟩ => .inr ⟨o, s _ _ h⟩
theorem Sub.sq {R H : Hp} {K : PySem.W.Frag} (s : Sub R H) {a : Addr} {u : List V} (h : SqL K R a u) : SqL K H a u := h.imp s.rd id
mutual
theorem Rp.mono {q : Wd} {R R' : Hp} (s : Sub R R') : ∀ {v : V} {d : D}, Rp q R v d → Rp q R' v d
  | _, _, .non => .non
  | _, _, .bl b => .bl b
  | _, _, .int i => .int i
  | _, _, .str x => .str x
  | _, _, .lst h t => .lst (s.sq h) (RpL.mono s t)
  | _, _, .tup h t => .tup (s _ _ h) (RpL.mono s t)
  | _, _, .dk h t => .dk (s _ _ h) (RpK.mono s t)
  | _, _, .dn h t => .dn (s _ _ h) (RpN.mono s t)
theorem RpL.mono {q : Wd} {R R' : Hp} (s : Sub R R') : ∀ {v : List V} {d : List D}, RpL q R v d → RpL q R' v d
  | _, _, .nil => .nil
  | _, _, .cons h t => .cons (Rp.mono s h) (RpL.mono s t)
theorem RpK.mono {q : Wd} {R R' : Hp} (s : Sub R R') : ∀ {v : List (L2.Key × V)} {d : List (D × D)}, RpK q R v d → RpK q R' v d
  | _, _, .nil => .nil
  | _, _, .cons h t => .cons (Rp.mono s h) (RpK.mono s t)
theorem RpN.mono {q : Wd} {R R' : Hp} (s : Sub R R') : ∀ {v : NEs} {d : List (D × D)}, RpN q R v d → RpN q R' v d
  | _, _, .nil => .nil
  | _, _, .cons k h1 h2 t => .cons k (Rp.mono s h1) (Rp.mono s h2) (RpN.mono s t)
end

section
variable {q : Wd} {R R' R2 H H' H2 : Hp}
theorem RpL.length : ∀ {vs : List V} {xs : List D}, RpL q R vs xs → vs.length = xs.length
  | _, _, .nil => rfl
  | _, _, .cons _ t => congrArg Nat.succ (RpL.length t)
theorem RpK.length : ∀ {vs : List (L2.Key × V)} {xs : List (D × D)}, RpK q R vs xs → vs.length = xs.length
  | _, _, .nil => rfl
  | _, _, .cons _ t => congrArg Nat.succ (RpK.length t)
theorem RpN.length : ∀ {vs : NEs} {xs : List (D × D)}, RpN q R vs xs → vs.length = xs.length
  | _, _, .nil => rfl
  | _, _, .cons _ _ _ t => congrArg Nat.succ (RpN.length t)
theorem RpL.get : ∀ {vs : List V} {xs : List D} {i : Nat} {x : D}, RpL q R vs xs → xs[i]? = some x → ∃ v, vs[i]? = some v ∧ Rp q R v x
  | _, _, _, _, .nil, e => by simp at e
  | _, _, 0, _, .cons h _, e => by simp at e; subst e; exact ⟨_, rfl, h⟩
  | _, _, i + 1, x, .cons _ t, e => by
    obtain ⟨v, h1, h2⟩ := RpL.get (i := i) t (by simpa using e)
    exact ⟨v, by simpa using h1, h2⟩
theorem RpL.getV : ∀ {vs : List V} {xs : List D} {i : Nat} {v : V}, RpL q R vs xs → vs[i]? = some v → ∃ x, xs[i]? = some x ∧ Rp q R v x
  | _, _, _, _, .nil, e => by simp at e
  | _, _, 0, _, .cons h _, e => by simp at e; subst e; exact ⟨_, rfl, h⟩
  | _, _, i + 1, x, .cons _ t, e => by
    obtain ⟨v, h1, h2⟩ := RpL.getV (i := i) t (by simpa using e)
    exact ⟨v, by simpa using h1, h2⟩
theorem RpL.set {v : V} {x : D} (h : Rp q R v x) : ∀ {vs : List V} {xs : List D} (i : Nat), RpL q R vs xs → RpL q R (vs.set i v) (xs.set i x)
  | _, _, _, .nil => .nil
  | _, _, 0, .cons _ t => .cons h t
  | _, _, i + 1, .cons a t => .cons a (RpL.set h i t)
theorem RpL.append : ∀ {vs : List V} {xs : List D} {us : List V} {ys : List D}, RpL q R vs xs → RpL q R us ys → RpL q R (vs ++ us) (xs ++ ys)
  | _, _, _, _, .nil, t => t
  | _, _, _, _, .cons a s, t => .cons a (RpL.append s t)
theorem RpL.one {v : V} {x : D} (h : Rp q R v x) : RpL q R [v] [x] := .cons h .nil
theorem RpL.take : ∀ {vs : List V} {xs : List D} (n : Nat), RpL q R vs xs → RpL q R (vs.take n) (xs.take n)
  | _, _, 0, _ => .nil
  | _, _, _ + 1, .nil => .nil
  | _, _, n + 1, .cons a t => .cons a (RpL.take n t)
theorem RpL.drop : ∀ {vs : List V} {xs : List D} (n : Nat), RpL q R vs xs → RpL q R (vs.drop n) (xs.drop n)
  | _, _, 0, t => t
  | _, _, _ + 1, .nil => .nil
  | _, _, n + 1, .cons _ t => RpL.drop n t
theorem RpL.reverse {vs : List V} {xs : List D} (h : RpL q R vs xs) : RpL q R vs.reverse xs.reverse := by
  induction vs generalizing xs with
  | nil => cases h; exact .nil
  | cons v vs ih =>
    cases h with
    | cons a t =>
      rw [List.reverse_cons, List.reverse_cons]
      exact (ih t).append (.one a)
theorem atI_rp {vs : List V} {xs : List D} {i : Int} {x : D} (h : RpL q R vs xs) (e : atI xs i = some x) : ∃ v, atI vs i = some v ∧ Rp q R v x := by
  unfold atI at e ⊢
  rw [h.length]
  cases hj : ixN xs.length i with
  | none => rw [hj] at e; cases e
  | some j =>
    rw [hj] at e
    obtain ⟨v, h1, h2⟩ := h.get (i := j) e
    exact ⟨v, h1, h2⟩

/-! ### own things, cells, slots -/
/-- the object o holds x's own parts -/
inductive ObjR (q : Wd) (R : Hp) (a : Addr) : HO → D → Prop where
  | lst {vs : List V} {xs : List D} : RpL q R vs xs → ObjR q R a (.lst vs) (.list xs)
  | dk {kvs : List (L2.Key × V)} {ds : List (D × D)} : RpK q R kvs ds → ObjR q R a (.dK kvs) (.dict ds)
  | dn {es : NEs} {ds : List (D × D)} : RpN q R es ds → ObjR q R a (dNo q a es) (.dict ds)
def OwnAt (q : Wd) (R H : Hp) (a : Addr) (x : D) : Prop := ∃ o, H a = some o ∧ ObjR q R a o x
structure CA where
  a : Addr
  fl : List (Str × Addr)
inductive FldR (q : Wd) (R H : Hp) : List (Str × V) → List (Str × Bool × D) → List (Str × Addr) → Prop where
  | nil : FldR q R H [] [] []
  | val {n : Str} {v : V} {x : D} {vf : List (Str × V)} {fs : List (Str × Bool × D)} {fl : List (Str × Addr)} : Rp q R v x → FldR q R H vf fs fl → FldR q R H ((n, v) :: vf) ((n, false, x) :: fs) fl
  | own {n : Str} {l : Addr} {x : D} {vf : List (Str × V)} {fs : List (Str × Bool × D)} {fl : List (Str × Addr)} : OwnAt q R H l x → FldR q R H vf fs fl → FldR q R H ((n, .ref l) :: vf) ((n, true, x) :: fs) ((n, l) :: fl)
inductive CellR (q : Wd) (R H : Hp) : CA → Cell → Prop where
  | own {a : Addr} {x : D} : OwnAt q R H a x → CellR q R H ⟨a, []⟩ (.own x)
  | ins {a dx : Addr} {cl : Nat} {vf : List (Str × V)} {fs : List (Str × Bool × D)} {fl : List (Str × Addr)} : H a = some (.ins (q.cad cl) dx vf) → (vf.map (·.1)).Nodup → FldR q R H vf fs fl → CellR q R H ⟨a, fl⟩ (.ins cl fs)
inductive StoR (q : Wd) (R H : Hp) : List CA → Sto → Prop where
  | nil : StoR q R H [] []
  | cons {c : CA} {x : Cell} {cs : List CA} {S : Sto} : CellR q R H c x → StoR q R H cs S → StoR q R H (c :: cs) (x :: S)
def ownC (c : CA) : List Addr := c.a :: c.fl.map (·.2)
def owns (ads : List CA) : List Addr := ads.flatMap ownC
inductive SlR (q : Wd) (R H : Hp) (ads : List CA) : V → Sl → List Addr → Prop where
  | d {v : V} {x : D} : Rp q R v x → SlR q R H ads v (.d x) []
  | c {i : Nat} {c : CA} : ads[i]? = some c → SlR q R H ads (.ref c.a) (.c i) []
  | own {a : Addr} {x : D} : OwnAt q R H a x → SlR q R H ads (.ref a) (.own x) [a]
inductive EnvR (q : Wd) (R H : Hp) (ads : List CA) : St → Env → List Addr → Prop where
  | nil : EnvR q R H ads [] [] []
  | hole {v : Option V} {σ : St} {env : Env} {O : List Addr} : EnvR q R H ads σ env O → EnvR q R H ads (v :: σ) (none :: env) O
  | slot {v : V} {x : Sl} {σ : St} {env : Env} {O1 O2 : List Addr} : SlR q R H ads v x O1 → EnvR q R H ads σ env O2 → EnvR q R H ads (some v :: σ) (some x :: env) (O1 ++ O2)
inductive WR (q : Wd) (R : Hp) (ads : List CA) (σ : St) : V → W → Prop where
  | d {v : V} {x : D} : Rp q R v x → WR q R ads σ v (.d x)
  | c {i : Nat} {c : CA} : ads[i]? = some c → WR q R ads σ (.ref c.a) (.c i)
  | o {i : Nat} {v : V} : σ[i]? = some (some v) → WR q R ads σ v (.o i)
  | f {i : Nat} {n : Str} {l : Addr} {c : CA} : ads[i]? = some c → c.fl.lookup n = some l → WR q R ads σ (.ref l) (.f i n)
structure AdsLe (ads ads' : List CA) : Prop where
  le : ∀ (i : Nat) (c : CA), ads[i]? = some c → ∃ c', ads'[i]? = some c' ∧ c'.a = c.a ∧ ∀ n l, c.fl.lookup n = some l → c'.fl.lookup n = some l
theorem AdsLe.refl (ads : List CA) : AdsLe ads ads := ⟨fun _ c e => ⟨c, e, rfl, fun _ _ h => h⟩⟩
theorem AdsLe.trans {a b c : List CA} (x : AdsLe a b) (y : AdsLe b c) : AdsLe a c := ⟨fun i d e => by
  obtain ⟨d1, e1, f1, g1⟩ := x.le i d e
  obtain ⟨d2, e2, f2, g2⟩ := y.le i d1 e1
  exact ⟨d2, e2, f2.trans f1, fun n l h => g2 n l (g1 n l h)⟩⟩
/-- from one state to a later one -/
structure Grow (R H : Hp) (ads : List CA) (R' H' : Hp) (ads' : List CA) : Prop where
  le : AdsLe ads ads'
  rext : ∀ p o, H p = some o → R' p = R p
  keep : ∀ p o, H p = some o → p ∉ owns ads → H' p = some o
  dom : ∀ p o, H p = some o → ∃ o', H' p = some o'
  own : ∀ p, p ∈ owns ads' → p ∈ owns ads ∨ H p = none
theorem Grow.refl (R H : Hp) (ads : List CA) : Grow R H ads R H ads := ⟨.refl _, fun _ _ _ => rfl, fun _ _ e _ => e, fun _ o e => ⟨o, e⟩, fun _ h => .inl h⟩
theorem Grow.trans {R1 R2 R3 H1 H2 H3 : Hp} {a1 a2 a3 : List CA} (x : Grow R1 H1 a1 R2 H2 a2) (y : Grow R2 H2 a2 R3 H3 a3) : Grow R1 H1 a1 R3 H3 a3 where
  le := x.le.trans y.le
  rext := fun p o e => by
    obtain ⟨o', e'⟩ := x.dom p o e
    exact (y.rext p o' e').trans (x.rext p o e)
  keep := fun p o e n => by
    refine y.keep p o (x.keep p o e n) fun h => ?_
    rcases x.own p h with h | h
    · exact n h
    · rw [e] at h; cases h
  dom := fun p o e => by
    obtain ⟨o', e'⟩ := x.dom p o e
    exact y.dom p o' e'
  own := fun p h => by
    rcases y.own p h with h | h
    · exact x.own p h
    · right
      cases e : H1 p with
      | none => rfl
      | some o =>
        obtain ⟨o', e'⟩ := x.dom p o e
        rw [e'] at h; cases h
/-- all of a state; O: the slots' own things -/
structure Full (q : Wd) (R H : Hp) (ads : List CA) (O : List Addr) (σ : St) (env : Env) (S : Sto) : Prop where
  sub : Sub R H
  env : EnvR q R H ads σ env O
  sto : StoR q R H ads S
  nd : (O ++ owns ads).Nodup
  un : ∀ a, a ∈ O ++ owns ads → R a = none
theorem Grow.sub {ads ads' : List CA} (g : Grow R H ads R' H' ads') (s : Sub R H) : Sub R R' := fun a o e => (g.rext a o (s a o e)).trans e
theorem WR.grow {ads ads' : List CA} {σ : St} {v : V} {x : W} (g : Grow R H ads R' H' ads') (s : Sub R H) (h : WR q R ads σ v x) : WR q R' ads' σ v x := by
  cases h with
  | d h => exact .d (h.mono (g.sub s))
  | c h =>
    obtain ⟨c', e, f, _⟩ := g.le.le _ _ h
    rw [← f]; exact .c e
  | o h => exact .o h
  | f h l =>
    obtain ⟨c', e, f, k⟩ := g.le.le _ _ h
    exact .f e (k _ _ l)
theorem OwnAt.keep {a : Addr} {x : D} (s : Sub R R') (k : ∀ o, H a = some o → H' a = some o) (h : OwnAt q R H a x) : OwnAt q R' H' a x := by
  obtain ⟨o, e, r⟩ := h
  refine ⟨o, k o e, ?_⟩
  cases r with
  | lst r => exact .lst (r.mono s)
  | dk r => exact .dk (r.mono s)
  | dn r => exact .dn (r.mono s)
theorem SlR.grow {ads ads' : List CA} {v : V} {x : Sl} {O : List Addr} (g : Grow R H ads R' H' ads') (s : Sub R H) (h : SlR q R H ads v x O) (nd : ∀ a, a ∈ O → a ∉ owns ads) : SlR q R' H' ads' v x O := by
  cases h with
  | d h => exact .d (h.mono (g.sub s))
  | c h =>
    obtain ⟨c', e, f, _⟩ := g.le.le _ _ h
    rw [← f]; exact .c e
  | own h => exact .own (h.keep (g.sub s) fun o e => g.keep _ o e (nd _ (by simp)))
theorem EnvR.grow {ads ads' : List CA} (g : Grow R H ads R' H' ads') (s : Sub R H) : ∀ {σ : St} {env : Env} {O : List Addr}, EnvR q R H ads σ env O → (∀ a, a ∈ O → a ∉ owns ads) → EnvR q R' H' ads' σ env O
  | _, _, _, .nil, _ => .nil
  | _, _, _, .hole t, n => .hole (EnvR.grow g s t n)
  | _, _, _, .slot a t, n => .slot (a.grow g s fun b hb => n b (List.mem_append_left _ hb)) (EnvR.grow g s t fun b hb => n b (List.mem_append_right _ hb))
theorem EnvR.dom : ∀ {ads : List CA} {σ : St} {env : Env} {O : List Addr}, EnvR q R H ads σ env O → ∀ a, a ∈ O → ∃ o, H a = some o
  | _, _, _, _, .nil, _, h => by cases h
  | _, _, _, _, .hole t, a, h => EnvR.dom t a h
  | _, _, _, _, .slot s t, a, h => by
    rcases List.mem_append.mp h with h | h
    · cases s with
      | d _ => cases h
      | c _ => cases h
      | own z =>
        obtain ⟨o, e, _⟩ := z
        rw [List.mem_singleton.mp h]
        exact ⟨o, e⟩
    · exact EnvR.dom t a h
/-- nothing but the store -/
theorem Full.bare {ads : List CA} {O : List Addr} {σ : St} {env : Env} {S : Sto} (f : Full q R H ads O σ env S) : Full q R H ads [] [] [] S :=
  ⟨f.sub, .nil, f.sto, (List.nodup_append.mp f.nd).2.1, fun a h => f.un a (List.mem_append_right _ (by simpa using h))⟩
theorem Full.apart {ads : List CA} {O : List Addr} {σ : St} {env : Env} {S : Sto} (f : Full q R H ads O σ env S) : ∀ a, a ∈ O → a ∉ owns ads := fun a h h' => (List.nodup_append.mp f.nd).2.2 a h a h' rfl
/-- the slots again, behind something that knew the store alone -/
theorem Full.back {ads ads' : List CA} {O : List Addr} {σ : St} {env : Env} {S S' : Sto} (f : Full q R H ads O σ env S) (g : Grow R H ads R' H' ads') (f' : Full q R' H' ads' [] [] [] S') : Full q R' H' ads' O σ env S' := by
  have ap : ∀ a, a ∈ O → a ∉ owns ads' := fun a h h' => by
    rcases g.own a h' with h2 | h2
    · exact f.apart a h h2
    · obtain ⟨o, e⟩ := f.env.dom a h
      rw [e] at h2; cases h2
  refine ⟨f'.sub, f.env.grow g f.sub f.apart, f'.sto, List.nodup_append.mpr ⟨(List.nodup_append.mp f.nd).1, by simpa using f'.nd, fun a h b h' e => ap a h (e ▸ h')⟩, fun a h => ?_⟩
  rcases List.mem_append.mp h with h | h
  · obtain ⟨o, e⟩ := f.env.dom a h
    rw [g.rext a o e]
    exact f.un a (List.mem_append_left _ h)
  · exact f'.un a (by simpa using h)
end
end VI
set_option Elab.async false
set_option linter.all false
set_option maxRecDepth 100000
/-! V4: expressions, one rule a code. -/
namespace VI
open PySem PySem.Spec L2
open PyProof.Rows hiding St
theorem bnd_inv {α β : Type} {x : Option (α × Sto)} {k : α → Sto → Option β} {r : β} (h : bnd x k = some r) : ∃ a S, x = some (a, S) ∧ k a S = some r := by
  cases x with
  | none => cases h
  | some p => exact ⟨p.1, p.2, rfl, h⟩
theorem ob_inv {α β : Type} {x : Option α} {k : α → Option β} {r : β} (h : ob x k = some r) : ∃ a, x = some a ∧ k a = some r := by
  cases x with
  | none => cases h
  | some p => exact ⟨p, rfl, h⟩
theorem gd_inv {α : Type} {b : Bool} {x : Option α} {r : α} (h : gd b x = some r) : b = true ∧ x = some r := by
  cases b with
  | true => exact ⟨rfl, h⟩
  | false => cases h
theorem pu_inv {w : W} {x : D} (h : pu w = some x) : w = .d x := by
  cases w with
  | d y => cases h; rfl
  | _ => cases h
section
variable {q : Wd} {R R' H H' : Hp} {ads : List CA} {O : List Addr} {σ : St} {env : Env} {S S' : Sto}
/-! ### the state grows by an object -/
theorem CellR.dom {c : CA} {x : Cell} (h : CellR q R H c x) : ∀ a, a ∈ ownC c → ∃ o, H a = some o := by
  cases h with
  | own z =>
    intro a ha
    obtain ⟨o, e, _⟩ := z
    simp only [ownC, List.map_nil, List.mem_singleton] at ha
    rw [ha]; exact ⟨o, e⟩
  | ins e n f =>
    intro a ha
    rcases List.mem_cons.mp ha with h | h
    · rw [h]; exact ⟨_, e⟩
    · clear ha e n
      induction f with
      | nil => cases h
      | val _ _ ih => exact ih h
      | own z _ ih =>
        rcases List.mem_cons.mp h with h | h
        · obtain ⟨o, e, _⟩ := z
          rw [h]; exact ⟨o, e⟩
        · exact ih h
theorem StoR.dom (h : StoR q R H ads S) : ∀ a, a ∈ owns ads → ∃ o, H a = some o := by
  induction h with
  | nil => intro a ha; cases ha
  | cons c _ ih =>
    intro a ha
    rcases List.mem_append.mp (show a ∈ _ ++ _ from ha) with h | h
    · exact c.dom a h
    · exact ih a h
theorem Full.dom (f : Full q R H ads O σ env S) : ∀ a, a ∈ O ++ owns ads → ∃ o, H a = some o := fun a h => (List.mem_append.mp h).elim (f.env.dom a) (f.sto.dom a)
theorem CellR.keep {c : CA} {x : Cell} (s : Sub R R') (k : ∀ a o, a ∈ ownC c → H a = some o → H' a = some o) (h : CellR q R H c x) : CellR q R' H' c x := by
  cases h with
  | own z => exact .own (z.keep s fun o e => k _ o (by simp [ownC]) e)
  | ins e n f =>
    refine .ins (k _ _ (List.mem_cons_self ..) e) n ?_
    have k' : ∀ b o, b ∈ (_ : List (Str × Addr)).map (·.2) → H b = some o → H' b = some o := fun b o hb => k b o (List.mem_cons_of_mem _ hb)
    clear e k n
    induction f with
    | nil => exact .nil
    | val z _ ih => exact .val (z.mono s) (ih k')
    | own z _ ih => exact .own (z.keep s fun o e => k' _ o (List.mem_cons_self ..) e) (ih fun b o hb => k' b o (List.mem_cons_of_mem _ hb))
theorem StoR.keep (s : Sub R R') (h : StoR q R H ads S) (k : ∀ a o, a ∈ owns ads → H a = some o → H' a = some o) : StoR q R' H' ads S := by
  induction h with
  | nil => exact .nil
  | cons c _ ih => exact .cons (c.keep s fun a o ha => k a o (List.mem_append_left _ ha)) (ih fun a o ha => k a o (List.mem_append_right _ ha))
theorem EnvR.keep {ads : List CA} (s : Sub R R') : ∀ {σ : St} {env : Env} {O : List Addr}, EnvR q R H ads σ env O → (∀ a o, a ∈ O → H a = some o → H' a = some o) → EnvR q R' H' ads σ env O
  | _, _, _, .nil, _ => .nil
  | _, _, _, .hole t, k => .hole (EnvR.keep s t k)
  | _, _, _, .slot a t, k => by
    refine .slot ?_ (EnvR.keep s t fun b o hb => k b o (List.mem_append_right _ hb))
    have k1 := fun b o hb => k b o (List.mem_append_left _ hb)
    cases a with
    | d h => exact .d (h.mono s)
    | c h => exact .c h
    | own h => exact .own (h.keep s fun o e => k1 _ o (by simp) e)
/-- a new object; into R or not -/
theorem Full.grown {p : Addr} {o : HO} (f : Full q R H ads O σ env S) (hp : H p = none) (b : Bool) :
    Full q (if b then upd R p o else R) (upd H p o) ads O σ env S ∧ Grow R H ads (if b then upd R p o else R) (upd H p o) ads := by
  have ne : ∀ a u, H a = some u → a ≠ p := fun a u e h => by rw [h, hp] at e; cases e
  have rp : R p = none := by
    cases e : R p with
    | none => rfl
    | some u => have := f.sub p u e; rw [hp] at this; cases this
  have s' : Sub R (if b then upd R p o else R) := fun a u e => by
    cases b with
    | true =>
      show upd R p o a = some u
      rw [upd_ne (ne a u (f.sub a u e))]; exact e
    | false => exact e
  have k : ∀ a u, H a = some u → upd H p o a = some u := fun a u e => by rw [upd_ne (ne a u e)]; exact e
  refine ⟨⟨fun a u e => ?_, f.env.keep s' fun a u _ => k a u, f.sto.keep s' fun a u _ => k a u, f.nd, fun a h => ?_⟩, ⟨.refl _, fun a u e => ?_, fun a u e _ => k a u e, fun a u e => ⟨u, k a u e⟩, fun a h => .inl h⟩⟩
  · cases b with
    | true =>
      have e' : upd R p o a = some u := e
      by_cases h : a = p
      · rw [h, upd_same] at e' ⊢; exact e'
      · rw [upd_ne h] at e' ⊢; exact f.sub a u e'
    | false => exact k a u (f.sub a u e)
  · obtain ⟨u, e⟩ := f.dom a h
    cases b with
    | true =>
      show upd R p o a = none
      rw [upd_ne (ne a u e)]; exact f.un a h
    | false => exact f.un a h
  · cases b with
    | true =>
      show upd R p o a = R a
      rw [upd_ne (ne a u e)]
    | false => rfl
theorem Full.imm {p : Addr} {o : HO} (f : Full q R H ads O σ env S) (hp : H p = none) : Full q (upd R p o) (upd H p o) ads O σ env S ∧ Grow R H ads (upd R p o) (upd H p o) ads := f.grown hp true
theorem Full.garb {p : Addr} {o : HO} (f : Full q R H ads O σ env S) (hp : H p = none) : Full q R (upd H p o) ads O σ env S ∧ Grow R H ads R (upd H p o) ads := f.grown hp false

/-! ### what a value reads as -/
inductive Vd (q : Wd) (R H : Hp) : V → D → Prop where
  | r {v : V} {x : D} : Rp q R v x → Vd q R H v x
  | own {a : Addr} {x : D} : OwnAt q R H a x → Vd q R H (.ref a) x
theorem EnvR.own : ∀ {σ : St} {env : Env} {O : List Addr} {i : Nat} {x : D}, EnvR q R H ads σ env O → env[i]? = some (some (.own x)) → ∃ a, σ[i]? = some (some (.ref a)) ∧ OwnAt q R H a x ∧ a ∈ O
  | _, _, _, _, _, .nil, e => by simp at e
  | _, _, _, 0, _, .hole t, e => by simp at e
  | _, _, _, i + 1, _, .hole t, e => by
    obtain ⟨a, h1, h2, h3⟩ := EnvR.own (i := i) t (by simpa using e)
    exact ⟨a, by simpa using h1, h2, h3⟩
  | _, _, _, 0, _, .slot s t, e => by
    simp at e; subst e
    cases s with
    | own h => exact ⟨_, rfl, h, by simp⟩
  | _, _, _, i + 1, _, .slot s t, e => by
    obtain ⟨a, h1, h2, h3⟩ := EnvR.own (i := i) t (by simpa using e)
    exact ⟨a, by simpa using h1, h2, List.mem_append_right _ h3⟩
theorem StoR.get : ∀ {ads : List CA} {S : Sto} {i : Nat} {c : CA} {x : Cell}, StoR q R H ads S → ads[i]? = some c → S[i]? = some x → CellR q R H c x
  | _, _, _, _, _, .nil, e, _ => by simp at e
  | _, _, 0, _, _, .cons h _, e, e' => by simp at e e'; subst e; subst e'; exact h
  | _, _, i + 1, _, _, .cons _ t, e, e' => StoR.get (i := i) t (by simpa using e) (by simpa using e')
theorem StoR.length : ∀ {ads : List CA} {S : Sto}, StoR q R H ads S → ads.length = S.length
  | _, _, .nil => rfl
  | _, _, .cons _ t => congrArg Nat.succ (StoR.length t)
theorem FldR.own_at {vf : List (Str × V)} {fs : List (Str × Bool × D)} {fl : List (Str × Addr)} {n : Str} {l : Addr} {x : D} (h : FldR q R H vf fs fl) (e : fs.lookup n = some (true, x)) (e' : fl.lookup n = some l) (nd : (vf.map (·.1)).Nodup) : OwnAt q R H l x := by
  induction h with
  | nil => cases e
  | @val m v y vf fs fl hv ht ih =>
    rw [List.lookup_cons] at e
    cases hm : n == m with
    | true => rw [hm] at e; cases e
    | false =>
      rw [hm] at e
      exact ih e e' (List.nodup_cons.mp nd).2
  | @own m l' y vf fs fl hv ht ih =>
    rw [List.lookup_cons] at e e'
    cases hm : n == m with
    | true =>
      rw [hm] at e e'
      cases e; cases e'; exact hv
    | false =>
      rw [hm] at e e'
      exact ih e e' (List.nodup_cons.mp nd).2
theorem fldOf_inv {i : Nat} {n : Str} {cl : Nat} {b : Bool} {x : D} (h : fldOf S i n = some (cl, b, x)) : ∃ fs, S[i]? = some (.ins cl fs) ∧ fs.lookup n = some (b, x) := by
  unfold fldOf at h
  split at h
  · rename_i cl' fs e
    cases hl : fs.lookup n with
    | none => rw [hl] at h; cases h
    | some p =>
      rw [hl] at h
      cases h
      exact ⟨fs, e, by rw [hl]⟩
  · cases h
theorem Full.read {v : V} {w : W} {x : D} (f : Full q R H ads O σ env S) (h : WR q R ads σ v w) (e : rd w env S = some x) : Vd q R H v x := by
  cases h with
  | d h => cases e; exact .r h
  | c h =>
    rename_i i c
    have e1 : (match S[i]? with
      | some (.own x) => some x
      | _ => none) = some x := e
    split at e1
    · rename_i y hy
      cases e1
      cases f.sto.get h hy with
      | own z => exact .own z
    · cases e1
  | o h =>
    rename_i i
    have e1 : ownOf env[i]? = some x := e
    unfold ownOf at e1
    split at e1
    · rename_i y hy
      cases e1
      obtain ⟨a, h1, h2, _⟩ := f.env.own hy
      rw [h] at h1; cases h1
      exact .own h2
    · cases e1
  | f h l =>
    rename_i i n l' c
    have e1 : (match fldOf S i n with
      | some (_, true, x) => some x
      | _ => none) = some x := e
    split at e1
    · rename_i cl y hy
      cases e1
      obtain ⟨fs, h1, h2⟩ := fldOf_inv hy
      cases f.sto.get h h1 with
      | ins hi hn hf => exact .own (hf.own_at h2 l hn)
    · cases e1
theorem Vd.lst {v : V} {xs : List D} (s : Sub R H) (h : Vd q R H v (.list xs)) : ∃ a vs, v = .ref a ∧ SqL q.K H a vs ∧ RpL q R vs xs := by
  cases h with
  | r h => cases h with
    | lst h t => exact ⟨_, _, rfl, s.sq h, t⟩
  | own h =>
    obtain ⟨o, e, r⟩ := h
    cases r with
    | lst r => exact ⟨_, _, rfl, .inl (.inl e), r⟩
theorem Vd.tup {v : V} {xs : List D} (s : Sub R H) (h : Vd q R H v (.tuple xs)) : ∃ a vs, v = .ref a ∧ H a = some (.tup vs) ∧ RpL q R vs xs := by
  cases h with
  | r h => cases h with
    | tup h t => exact ⟨_, _, rfl, s _ _ h, t⟩
  | own h =>
    obtain ⟨o, e, r⟩ := h
    cases r
theorem Vd.dct {v : V} {ds : List (D × D)} (s : Sub R H) (h : Vd q R H v (.dict ds)) : ∃ a, v = .ref a ∧ ((∃ kvs, Rd H a (.dK kvs) ∧ RpK q R kvs ds) ∨ ∃ es, Rd H a (dNo q a es) ∧ RpN q R es ds) := by
  cases h with
  | r h => cases h with
    | dk h t => exact ⟨_, rfl, .inl ⟨_, .inr ⟨_, s _ _ h⟩, t⟩⟩
    | dn h t => exact ⟨_, rfl, .inr ⟨_, .inr ⟨_, s _ _ h⟩, t⟩⟩
  | own h =>
    obtain ⟨o, e, r⟩ := h
    cases r with
    | dk r => exact ⟨_, rfl, .inl ⟨_, .inl e, r⟩⟩
    | dn r => exact ⟨_, rfl, .inr ⟨_, .inl e, r⟩⟩
theorem Vd.int {v : V} {i : Int} (h : Vd q R H v (.int i)) : v = .int i := by
  cases h with
  | r h => cases h; rfl
  | own h => obtain ⟨o, e, r⟩ := h; cases r
theorem Vd.bl {v : V} {i : Bool} (h : Vd q R H v (.bool i)) : v = .bl i := by
  cases h with
  | r h => cases h; rfl
  | own h => obtain ⟨o, e, r⟩ := h; cases r
end
end VI
set_option Elab.async false
set_option linter.all false
set_option maxRecDepth 100000
/-! V5: expressions, one rule a code: names, numbers, comparisons. -/
namespace VI
open PySem PySem.Spec L2
open PyProof.Rows hiding St
/-- what every rule asks of the context -/
structure Gd (X : Cx) (k : Nat) : Prop where
  calm : X.calm = true
  nd : X.N.Nodup
  room : Room k X.A
  nox : X.xe = fun _ _ => False
theorem Gd.hu {X : Cx} {k : Nat} (g : Gd X k) : X.A.units + 150 < cLine := by have := g.room.un; omega
section
variable {q : Wd} {call : Nat → List W → Sto → Option (W × Sto)} {cls : Nat → Nat}
def tE (q : Wd) (call : Nat → List W → Sto → Option (W × Sto)) (cls : Nat → Nat) (c : C) : TE := fun σ H Q =>
  ∃ R ads O env S x S', Full q R H ads O σ env S ∧ evE call cls c env S = some (x, S') ∧
    ∀ v H' R' ads', Grow R H ads R' H' ads' → Full q R' H' ads' O σ env S' → WR q R' ads' σ v x → Q v H'
theorem PE.weak {X : Cx} {e : Expr} {t t' : TE} (h : PE X e t) (k : ∀ σ H Q, t' σ H Q → t σ H Q) : PE X e t' := ⟨fun pins s σ H Q I w => h.run pins s σ H Q I (k σ H Q w)⟩
theorem PT.weak {X : Cx} {e : Expr} {t t' : TT} (h : PT X e t) (k : ∀ σ H Q, t' σ H Q → t σ H Q) : PT X e t' := ⟨fun pins s σ H Q I w => h.run pins s σ H Q I (k σ H Q w)⟩
section
variable {R H : Hp} {ads : List CA} {O : List Addr} {σ : St} {env : Env} {S S1 S2 : Sto} {ca cb : C} {wa wb : W}
theorem two {r : R2} {Q : VK} (F : Full q R H ads O σ env S) (ea : evE call cls ca env S = some (wa, S1)) (eb : evE call cls cb env S1 = some (wb, S2))
    (k : ∀ u v H2 R2 a2, Grow R H ads R2 H2 a2 → Full q R2 H2 a2 O σ env S2 → WR q R2 a2 σ u wa → WR q R2 a2 σ v wb → r u v H2 Q) : tOp r (tE q call cls ca) (tE q call cls cb) σ H Q :=
  ⟨R, ads, O, env, S, wa, S1, F, ea, fun u H1 R1 a1 g1 F1 w1 => ⟨R1, a1, O, env, S1, wb, S2, F1, eb, fun v H2 R2 a2 g2 F2 w2 => k u v H2 R2 a2 (g1.trans g2) F2 (w1.grow g2 F1.sub) w2⟩⟩
theorem one {Q : VK} (F : Full q R H ads O σ env S) (ea : evE call cls ca env S = some (wa, S1))
    (k : ∀ u H1 R1 a1, Grow R H ads R1 H1 a1 → Full q R1 H1 a1 O σ env S1 → WR q R1 a1 σ u wa → Q u H1) : tE q call cls ca σ H Q := ⟨R, ads, O, env, S, wa, S1, F, ea, k⟩
theorem Full.puR {v : V} {w : W} {x : D} (h : WR q R ads σ v w) (e : pu w = some x) : Rp q R v x := by
  have e' := pu_inv e
  subst e'
  cases h with
  | d h => exact h
end
section
variable {X : Cx} {k : Nat} {cad : Nat → Addr}
abbrev qX (X : Cx) (cad : Nat → Addr) : Wd := ⟨X.prog, X.w, X.K, cad⟩
abbrev tX (X : Cx) (cad : Nat → Addr) (call : Nat → List W → Sto → Option (W × Sto)) (cls : Nat → Nat) (c : C) : TE := tE (qX X cad) call cls c
variable {a b e : Expr} {ca cb ce : C} {pos : Pos}
/-! names, constants -/
theorem EnvR.at : ∀ {q : Wd} {R H : Hp} {ads : List CA} {σ : St} {env : Env} {O : List Addr} {i : Nat} {x : Sl}, EnvR q R H ads σ env O → env[i]? = some (some x) → ∃ v, σ[i]? = some (some v) ∧ WR q R ads σ v (slW i x)
  | q, R, H, ads, σ, env, O, i, x, h, e => by
    have go : ∀ {σ' : St} {env : Env} {O : List Addr} {j : Nat}, EnvR q R H ads σ' env O → env[j]? = some (some x) → ∃ v O', σ'[j]? = some (some v) ∧ SlR q R H ads v x O' := by
      intro σ' env O j h
      induction h generalizing j with
      | nil => intro e; simp at e
      | hole _ ih =>
        cases j with
        | zero => intro e; simp at e
        | succ j => intro e; simpa using ih (j := j) (by simpa using e)
      | slot s _ ih =>
        cases j with
        | zero => intro e; simp at e; subst e; exact ⟨_, _, rfl, s⟩
        | succ j => intro e; simpa using ih (j := j) (by simpa using e)
    obtain ⟨v, O', h1, h2⟩ := go h e
    refine ⟨v, h1, ?_⟩
    cases h2 with
    | d h => exact .d h
    | c h => exact .c h
    | own h => exact .o h1
theorem s_var {i : Nat} {x : Str} (hN : X.N[i]? = some x) (hv : Vis X.env.scope x) (hd : (x == ("__debug__" : Str)) = false) (hcd : (x == ("__classdict__" : Str)) = false) : PE X (.Name x pos) (tX X cad call cls (.var i)) := by
  refine PE.weak (pe_var hN hv hd hcd) fun σ H Q ⟨R, ads, O, env, S, x, S', F, ev, k⟩ => ?_
  simp only [evE] at ev
  split at ev
  · rename_i sl hs
    cases ev
    obtain ⟨v, h1, h2⟩ := F.env.at hs
    exact ⟨v, h1, k v H R ads (.refl _ _ _) F h2⟩
  · cases ev
def kV0 : D → Option V
  | .none => some .non
  | .bool b => some (.bl b)
  | .int i => some (.int i)
  | .str x => some (.str x)
  | _ => none
theorem kV0_rp {q : Wd} {R : Hp} {d : D} {v : V} (h : kV0 d = some v) : Rp q R v d := by
  cases d <;> cases h <;> first | exact .non | exact .bl _ | exact .int _ | exact .str _
theorem s_lit {v : V} {d : D} {c : C} (h : PE X e (tC v)) (hd : kV0 d = some v) (hc : ∀ env S, evE call cls c env S = some (.d d, S)) : PE X e (tX X cad call cls c) := by
  refine PE.weak h fun σ H Q ⟨R, ads, O, env, S, x, S', F, ev, k⟩ => ?_
  rw [hc] at ev
  cases ev
  exact k v H R ads (.refl _ _ _) F (.d (kV0_rp hd))
theorem s_neg (ha : PE X a (tX X cad call cls ca)) : PE X (.UnaryOp .USub a pos) (tX X cad call cls (.neg ca)) := by
  refine PE.weak (pe_un un_neg ha) fun σ H Q ⟨R, ads, O, env, S, x, S', F, ev, k⟩ => ?_
  simp only [evE] at ev
  obtain ⟨wa, S1, ea, ev⟩ := bnd_inv ev
  obtain ⟨xa, ex, ev⟩ := ob_inv ev
  split at ev
  · cases ev
    refine one F ea fun u H1 R1 a1 g1 F1 w1 => ?_
    have r := Full.puR w1 ex
    cases r
    exact ⟨_, rfl, k _ _ _ _ g1 F1 (.d (.int _))⟩
  · cases ev
theorem boolOf_inv {x : D} {b : Bool} (h : boolOf x = some b) : x = .bool b := by
  cases x with
  | bool c => cases h; rfl
  | _ => cases h
theorem s_notV (ha : PE X a (tX X cad call cls ca)) : PE X (.UnaryOp .Not a pos) (tX X cad call cls (.not ca)) := by
  refine PE.weak (pe_not ha) fun σ H Q ⟨R, ads, O, env, S, x, S', F, ev, k⟩ => ?_
  simp only [evE] at ev
  obtain ⟨wa, S1, ea, ev⟩ := bnd_inv ev
  obtain ⟨xa, ex, ev⟩ := ob_inv ev
  obtain ⟨bb, eb, ev⟩ := ob_inv ev
  cases ev
  obtain rfl := boolOf_inv eb
  refine one F ea fun u H1 R1 a1 g1 F1 w1 => ?_
  have r := Full.puR w1 ex
  cases r
  exact ⟨_, rfl, k _ _ _ _ g1 F1 (.d (.bl _))⟩
theorem WR.isN {q : Wd} {R : Hp} {ads : List CA} {σ : St} {v : V} {d : D} (h : WR q R ads σ v (.d d)) : decide (v = .non) = (match d with | .none => true | _ => false) := by
  cases h with
  | d h => cases h <;> simp
theorem s_isN {pos' : Pos} {j : Nat} (ha : PE X a (tX X cad call cls ca)) : PE X (.Compare a [.Is] [.Constant .none j pos'] pos) (tX X cad call cls (.isN ca)) := by
  refine PE.weak (pe_cmp (pc_isN ha)) fun σ H Q ⟨R, ads, O, env, S, x, S', F, ev, k⟩ => ?_
  simp only [evE] at ev
  obtain ⟨wa, S1, ea, ev⟩ := bnd_inv ev
  refine one F ea fun u H1 R1 a1 g1 F1 w1 => ?_
  split at ev
  · cases ev
    rw [show decide (u = .non) = true from w1.isN]
    exact k _ _ _ _ g1 F1 (.d (.bl _))
  · rename_i d hd
    cases ev
    have e : decide (u = .non) = false := by
      rw [w1.isN]
      cases d <;> first | rfl | exact absurd rfl hd
    rw [e]
    exact k _ _ _ _ g1 F1 (.d (.bl _))
  · cases ev
    cases w1 with
    | @c _ cc h =>
      have e : decide (V.ref cc.a = V.non) = false := by simp
      rw [e]
      exact k _ _ _ _ g1 F1 (.d (.bl _))
  · cases ev
theorem s_notN {pos' : Pos} {j : Nat} (ha : PE X a (tX X cad call cls ca)) : PE X (.Compare a [.IsNot] [.Constant .none j pos'] pos) (tX X cad call cls (.notN ca)) := by
  refine PE.weak (pe_cmp (pc_notN ha)) fun σ H Q ⟨R, ads, O, env, S, x, S', F, ev, k⟩ => ?_
  simp only [evE] at ev
  obtain ⟨wa, S1, ea, ev⟩ := bnd_inv ev
  refine one F ea fun u H1 R1 a1 g1 F1 w1 => ?_
  split at ev
  · cases ev
    rw [show decide (u = .non) = true from w1.isN]
    exact k _ _ _ _ g1 F1 (.d (.bl _))
  · rename_i d hd
    cases ev
    have e : decide (u = .non) = false := by
      rw [w1.isN]
      cases d <;> first | rfl | exact absurd rfl hd
    rw [e]
    exact k _ _ _ _ g1 F1 (.d (.bl _))
  · cases ev
    cases w1 with
    | @c _ cc h =>
      have e : decide (V.ref cc.a = V.non) = false := by simp
      rw [e]
      exact k _ _ _ _ g1 F1 (.d (.bl _))
  · cases ev
end
end
end VI
set_option Elab.async false
set_option linter.all false
set_option maxRecDepth 100000
/-! V6: dicts of both kinds: read, asked, written. -/
namespace VI
open PySem PySem.Spec L2
open PyProof.Rows hiding St
/-! ### keys -/
mutual
theorem nested_of {X : Cx} {pins : List (Addr × Obj)} {σ : St} {H R : Hp} {s : Shared} {q : Wd} (I : Inv X pins σ H s) (sb : Sub R H) : ∀ (d : D) (v : V) (u : Value) (k : NestedKey), Rp q R v d → RelV v u → keyN d = some k → NestedIs s.heap k u
  | .none, _, _, k, h, r, e => by
    cases h; cases r
    simp only [keyN] at e; cases e
    exact .none
  | .int i, _, _, k, h, r, e => by
    cases h; obtain ⟨t, rfl⟩ := r
    simp only [keyN] at e; cases e
    exact .int _ _
  | .str x, _, _, k, h, r, e => by
    cases h; obtain ⟨t, rfl⟩ := r
    simp only [keyN] at e; cases e
    exact .text _ _
  | .tuple xs, _, _, k, h, r, e => by
    cases h with
    | tup h t =>
      cases r
      simp only [keyN] at e
      obtain ⟨ks, e1, e2⟩ := Option.map_eq_some_iff.mp e
      cases e2
      obtain ⟨its, rv, ⟨o, ho, hc, n, hd⟩, _⟩ := I.tuple (SqT.of (sb _ _ h))
      exact .tup ho hc hd (by simpa using nesteds_of I sb xs _ its ks t rv e1)
  | .bool _, _, _, k, _, _, e => by simp [keyN] at e
  | .list _, _, _, k, _, _, e => by simp [keyN] at e
  | .dict _, _, _, k, _, _, e => by simp [keyN] at e
theorem nesteds_of {X : Cx} {pins : List (Addr × Obj)} {σ : St} {H R : Hp} {s : Shared} {q : Wd} (I : Inv X pins σ H s) (sb : Sub R H) : ∀ (ds : List D) (vs : List V) (us : List Value) (ks : List NestedKey), RpL q R vs ds → Vals vs us → keyNs ds = some ks → NestedAll s.heap ks us
  | [], _, _, ks, h, r, e => by
    cases h; cases r
    simp only [keyNs] at e; cases e
    exact .nil
  | d :: ds, _, _, ks, h, r, e => by
    cases h with
    | cons h1 h2 =>
      cases r with
      | cons r1 r2 =>
        simp only [keyNs] at e
        cases e1 : keyN d with
        | none => rw [e1] at e; cases e
        | some k1 =>
          cases e2 : keyNs ds with
          | none => rw [e1, e2] at e; cases e
          | some ks1 =>
            rw [e1, e2] at e
            cases e
            exact .cons (nested_of I sb d _ _ _ h1 r1 e1) (nesteds_of I sb ds _ _ _ h2 r2 e2)
end
theorem kOf_inr {d : D} {k : NestedKey} (h : kOf d = some (.inr k)) : keyN d = some k ∧ k.depth ≤ 8 ∧ ∃ xs, d = .tuple xs := by
  cases d with
  | tuple xs =>
    simp only [kOf] at h
    obtain ⟨ks, e1, e2⟩ := Option.bind_eq_some_iff.mp h
    obtain ⟨e3, e4⟩ := gd_inv e2
    cases e4
    exact ⟨by simp only [keyN]; rw [e1]; rfl, of_decide_eq_true e3, xs, rfl⟩
  | _ => cases h
theorem kOf_inl {d : D} {k : L2.Key} (h : kOf d = some (.inl k)) : d = kD k := by
  cases d with
  | int i => cases h; rfl
  | str x => cases h; rfl
  | tuple xs =>
    simp only [kOf] at h
    obtain ⟨ks, e1, e2⟩ := Option.bind_eq_some_iff.mp h
    obtain ⟨e3, e4⟩ := gd_inv e2
    cases e4
  | _ => cases h
theorem kOf_kD (k : L2.Key) : kOf (kD k) = some (.inl k) := by
  cases k <;> rfl
theorem kD_rp {q : Wd} {R : Hp} {v : V} {k : L2.Key} (h : Rp q R v (kD k)) : v = kV k := by
  cases k <;> cases h <;> rfl
theorem key_is {X : Cx} {pins : List (Addr × Obj)} {σ : St} {H R : Hp} {s : Shared} {q : Wd} (I : Inv X pins σ H s) (sb : Sub R H) {b : Addr} {d : D} {k : NestedKey} (h : Rp q R (.ref b) d) (e : kOf d = some (.inr k)) : (nestedKind X.prog X.w).is s.heap k b :=
  have z := kOf_inr e
  ⟨nested_of I sb d _ _ k h rfl z.1, z.2.1⟩
theorem ref_of_tup {q : Wd} {R : Hp} {v : V} {d : D} {k : NestedKey} (h : Rp q R v d) (e : kOf d = some (.inr k)) : ∃ b, v = .ref b := by
  obtain ⟨_, _, xs, rfl⟩ := kOf_inr e
  cases h with
  | tup => exact ⟨_, rfl⟩

/-! ### dicts with tuple keys, in the heap -/
abbrev NR : NestedKey × Addr × V → NestedKey × Addr × Value → Prop := fun p u => p.1 = u.1 ∧ p.2.1 = u.2.1 ∧ RelV p.2.2 u.2.2
section
variable {X : Cx} {pins : List (Addr × Obj)} {σ : St} {H R : Hp} {s : Shared} {cad : Nat → Addr} {a : Addr} {es : NEs} {ds : List (D × D)}
theorem dNo_ok (I : Inv X pins σ H s) (h : Rd H a (dNo (qX X cad) a es)) : dNok (qX X cad) a es s.heap := by
  have z : ObjOk X.prog X.w H s.heap a (dNo (qX X cad) a es) := h.ok I.hok
  exact z.1
theorem RpN.keys (I : Inv X pins σ H s) (sb : Sub R H) {q : Wd} : ∀ {es : NEs} {ds : List (D × D)} {xs : List (NestedKey × Addr × Value)}, RpN q R es ds → Paired NR es xs → ∀ x ∈ xs, (nestedKind X.prog X.w).is s.heap x.1 x.2.1
  | _, _, _, .nil, .nil, x, h => by cases h
  | _, _, _, .cons ke k v t, .cons r rs, x, h => by
    rcases List.mem_cons.mp h with h | h
    · subst h
      obtain ⟨k0, b0, v0⟩ := x
      obtain ⟨h1, h2, _⟩ := r
      cases h1; cases h2
      exact key_is I sb k ke
    · exact RpN.keys I sb t rs x h
theorem dN_of (I : Inv X pins σ H s) (sb : Sub R H) {q : Wd} (h : Rd H a (dNo (qX X cad) a es)) (r : RpN q R es ds) : es.length ≤ sizeLine ∧ (a == sysModules) = false ∧ ∃ xs, Paired NR es xs ∧ s.heap.DictOfH (nestedKind X.prog X.w) a xs := by
  obtain ⟨z, y, xs, rp, ⟨o, ea, ep, e1, e2, e3, e4⟩, nd⟩ := dNo_ok I h
  exact ⟨z, y, xs, rp, o, ea, ep, e1, e2, e3, e4, RpN.keys I sb r rp, nd⟩
/-- an empty dict is one with tuple keys, too -/
theorem dN_empty (I : Inv X pins σ H s) (h : Rd H a (.dK [])) : (a == sysModules) = false ∧ s.heap.DictOfH (nestedKind X.prog X.w) a [] := by
  obtain ⟨_, y, vs, r, ⟨o, ea, ep, e1, e2, e3, e4, e5, e6⟩⟩ := dk_rd I.hok h
  cases r
  refine ⟨y, o, ea, ep, e1, e2, e3, ?_, fun x hx => (nomatch hx), List.nodup_nil⟩
  cases hl : ea.toList with
  | nil => rfl
  | cons x l => rw [hl] at e5; cases e5
theorem dK_empty (I : Inv X pins σ H s) (h : Rd H a (dNo (qX X cad) a [])) : (a == sysModules) = false ∧ s.heap.DictOf (mixKind X.prog X.w) a [] := by
  obtain ⟨z, y, xs, rp, ⟨o, ea, ep, e1, e2, e3, e4⟩, nd⟩ := dNo_ok I h
  cases rp
  refine ⟨y, o, ea, ep, e1, e2, e3, ?_, ?_, List.nodup_nil⟩
  · have : ea = #[] := by
      cases ea with
      | mk l => cases l with
        | nil => rfl
        | cons _ _ => cases e4
    subst this
    exact fun x hx => by simp at hx
  · rw [show ea.toList = [] from e4]
    exact .nil
end

/-! ### what is found -/
section
variable {q : Wd} {R : Hp}
theorem dFind_cons (p : D × D) (r : List (D × D)) (k : D) : dFind (p :: r) k = if kOf p.1 = kOf k then some p.2 else dFind r k := by
  unfold dFind
  rw [List.find?_cons]
  by_cases h : kOf p.1 = kOf k
  · rw [decide_eq_true h, if_pos h]; rfl
  · rw [decide_eq_false h, if_neg h]
theorem RpK.find {k : L2.Key} {kd : D} (ek : kOf kd = some (.inl k)) : ∀ {kvs : List (L2.Key × V)} {ds : List (D × D)}, RpK q R kvs ds →
    (∃ v x, dFind ds kd = some x ∧ valV kvs k = some v ∧ Rp q R v x) ∨ (dFind ds kd = none ∧ valV kvs k = none)
  | _, _, .nil => .inr ⟨rfl, rfl⟩
  | _, _, .cons (k := k1) (v := v1) (x := x1) h t => by
    rw [dFind_cons]
    by_cases e : k1 = k
    · left
      refine ⟨v1, x1, ?_, valV_pos e, h⟩
      rw [if_pos]
      rw [kOf_kD, ek, e]
    · rw [if_neg (by show ¬ kOf (kD k1) = kOf kd; rw [kOf_kD, ek]; intro z; cases z; exact e rfl), valV_neg (p := (k1, v1)) e]
      exact RpK.find ek t
theorem RpN.find {k : NestedKey} {kd : D} (ek : kOf kd = some (.inr k)) : ∀ {es : NEs} {ds : List (D × D)} {xs : List (NestedKey × Addr × Value)}, RpN q R es ds → Paired NR es xs →
    (∃ v x p, dFind ds kd = some x ∧ atKey xs k = some p ∧ RelV v p.2 ∧ Rp q R v x) ∨ (dFind ds kd = none ∧ atKey xs k = none)
  | _, _, _, .nil, .nil => .inr ⟨rfl, rfl⟩
  | _, _, _, .cons (k := k1) (b := b1) (v := v1) (kd := kd1) (x := x1) ke kb h t, .cons (b := y) r rs => by
    obtain ⟨k0, b0, v0⟩ := y
    obtain ⟨h1, h2, h3⟩ := r
    cases h1; cases h2
    rw [dFind_cons]
    by_cases e : k1 = k
    · left
      refine ⟨v1, x1, (b1, v0), ?_, ?_, h3, h⟩
      · rw [if_pos]
        show kOf kd1 = kOf kd
        rw [ke, ek, e]
      · simp [atKey, e]
    · rw [if_neg (by show ¬ kOf kd1 = kOf kd; rw [ke, ek]; intro z; cases z; exact e rfl)]
      have z : ∀ l : List (NestedKey × Addr × Value), atKey ((k1, b1, v0) :: l) k = atKey l k := fun l => by
        unfold atKey
        rw [List.find?_cons]
        simp [e]
      rw [z]
      exact RpN.find ek t rs
theorem homog_inr {k : NestedKey} : ∀ {kvs : List (L2.Key × V)} {ds : List (D × D)}, RpK q R kvs ds → homog ds (.inr k) = true → kvs = []
  | _, _, .nil, _ => rfl
  | _, _, .cons (k := k1) h t, e => by
    unfold homog at e
    rw [List.all_cons, kOf_kD] at e
    cases e
theorem homog_inl {k : L2.Key} : ∀ {es : NEs} {ds : List (D × D)}, RpN q R es ds → homog ds (.inl k) = true → es = []
  | _, _, .nil, _ => rfl
  | _, _, .cons ke _ _ _, e => by
    unfold homog at e
    rw [List.all_cons, ke] at e
    cases e
end
section
variable {X : Cx} {pins : List (Addr × Obj)} {σ : St} {H R : Hp} {s : Shared} {cad : Nat → Addr} {A : Around} {E : Value → Shared → Prop}
/-- a dict as one asks it by a key: of the one kind or the other -/
theorem dct_view {v : V} {ds : List (D × D)} {kd : D} {kv : V} {u : Value} {kk : KT} (I : Inv X pins σ H s) (sb : Sub R H) (h : Vd (qX X cad) R H v (.dict ds)) (hk : Rp (qX X cad) R kv kd) (ru : RelV kv u) (ek : kOf kd = some kk) (ho : homog ds kk = true) :
    ∃ a, v = .ref a ∧ (a == sysModules) = false ∧
    ((∃ k vs, (mixKind X.prog X.w).is k u = true ∧ s.heap.DictOf (mixKind X.prog X.w) a vs ∧
        ((∃ w x y, dFind ds kd = some x ∧ valueAt vs k = some y ∧ RelV w y ∧ Rp (qX X cad) R w x) ∨ (dFind ds kd = none ∧ valueAt vs k = none))) ∨
     ∃ k b xs, u = .ref b ∧ (nestedKind X.prog X.w).is s.heap k b ∧ s.heap.DictOfH (nestedKind X.prog X.w) a xs ∧
        ((∃ w x p, dFind ds kd = some x ∧ atKey xs k = some p ∧ RelV w p.2 ∧ Rp (qX X cad) R w x) ∨ (dFind ds kd = none ∧ atKey xs k = none))) := by
  obtain ⟨a, rfl, z⟩ := h.dct sb
  cases kk with
  | inl k =>
    have e1 := kOf_inl ek
    rw [e1] at hk
    have e2 := kD_rp hk
    have is : (mixKind X.prog X.w).is k u = true := kV_is (by rw [← e2]; exact ru)
    rcases z with ⟨kvs, hr, r⟩ | ⟨es, hr, r⟩
    · obtain ⟨_, hd, vs, rel, dd⟩ := dk_rd I.hok hr
      refine ⟨a, rfl, hd, .inl ⟨k, vs, is, dd, ?_⟩⟩
      have rv := rel.val k
      rcases r.find ek with ⟨w, x, h1, h2, h3⟩ | ⟨h1, h2⟩
      · rw [h2] at rv
        obtain ⟨y, h4, h5⟩ := rv.some_of
        exact .inl ⟨w, x, y, h1, h4, h5, h3⟩
      · rw [h2] at rv
        exact .inr ⟨h1, rv.none_of⟩
    · have e0 := homog_inl r ho
      subst e0
      cases r
      obtain ⟨hd, dd⟩ := dK_empty I hr
      exact ⟨a, rfl, hd, .inl ⟨k, [], is, dd, .inr ⟨rfl, rfl⟩⟩⟩
  | inr k =>
    obtain ⟨b, rfl⟩ := ref_of_tup hk ek
    cases ru
    have is := key_is I sb hk ek
    rcases z with ⟨kvs, hr, r⟩ | ⟨es, hr, r⟩
    · have e0 := homog_inr r ho
      subst e0
      cases r
      obtain ⟨hd, dd⟩ := dN_empty I hr
      exact ⟨a, rfl, hd, .inr ⟨k, b, [], rfl, is, dd, .inr ⟨rfl, rfl⟩⟩⟩
    · obtain ⟨_, hd, xs, rel, dd⟩ := dN_of I sb hr r
      exact ⟨a, rfl, hd, .inr ⟨k, b, xs, rfl, is, dd, r.find ek rel⟩⟩
theorem dct_getItem {v : V} {ds : List (D × D)} {kd x : D} {kv : V} {u : Value} {kk : KT} {Q : Value → Shared → Prop} (hu : A.units + 20 < cLine) (I : Inv X pins σ H s) (sb : Sub R H) (h : Vd (qX X cad) R H v (.dict ds)) (hk : Rp (qX X cad) R kv kd) (ru : RelV kv u) (ek : kOf kd = some kk)
    (ho : homog ds kk = true) (hx : dFind ds kd = some x) : ∃ a, v = .ref a ∧ s.TypeIs (.ref a) "dict" ∧ ((∀ w y s', Inv X pins σ H s' → RelV w y → Rp (qX X cad) R w x → Q y s') → wpAny (model X.prog X.w) A (getItem (.ref a) u) Q E s) := by
  obtain ⟨a, e, _, z⟩ := dct_view I sb h hk ru ek ho
  refine ⟨a, e, ?_⟩
  rcases z with ⟨k, vs, is, dd, z⟩ | ⟨k, b, xs, rfl, is, dd, z⟩
  · refine ⟨dd.typeIs, fun q => ?_⟩
    rcases z with ⟨w, x', y, h1, h2, h3, h4⟩ | ⟨h1, _⟩
    · rw [hx] at h1; cases h1
      exact wpAny_getItem_of is dd.mapOf h2 (q w y _ (I.tok _) h3 h4)
    · rw [hx] at h1; cases h1
  · refine ⟨dd.typeIs, fun q => ?_⟩
    rcases z with ⟨w, x', p, h1, h2, h3, h4⟩ | ⟨h1, _⟩
    · rw [hx] at h1; cases h1
      exact wpAny_getItem_heap (by show A.units + 1 + 8 < cLine; omega) is dd h2 (q w p.2 _ (I.tok _) h3 h4)
    · rw [hx] at h1; cases h1
theorem dct_get {v : V} {ds : List (D × D)} {kd xd : D} {kv xv : V} {u ux : Value} {kk : KT} {Q : Value → Shared → Prop} (hu : A.units + 20 < cLine) (I : Inv X pins σ H s) (sb : Sub R H) (h : Vd (qX X cad) R H v (.dict ds)) (hk : Rp (qX X cad) R kv kd) (ru : RelV kv u) (ek : kOf kd = some kk)
    (ho : homog ds kk = true) (hx : Rp (qX X cad) R xv xd) (rx : RelV xv ux) : ∃ a, v = .ref a ∧ ((∀ w y s', Inv X pins σ H s' → RelV w y → Rp (qX X cad) R w ((dFind ds kd).getD xd) → Q y s') → wpAny (model X.prog X.w) A (PySem.call (.builtin "dict.get") [.ref a, u, ux]) Q E s) := by
  obtain ⟨a, e, hd, z⟩ := dct_view I sb h hk ru ek ho
  refine ⟨a, e, fun q => ?_⟩
  rcases z with ⟨k, vs, is, dd, z⟩ | ⟨k, b, xs, rfl, is, dd, z⟩
  · refine call_meetsIn PySem.F.slot_dict_get dd.typeIs PySem.F.entry_dict_get (PySem.F.args_dict_get_3 _ _ _) (meets_dict_get_default (mixKind X.prog X.w) a is hd ux) ⟨_, dd.mapOf, ?_⟩
    rcases z with ⟨w, x', y, h1, h2, h3, h4⟩ | ⟨h1, h2⟩
    · rw [h2]
      exact q w y _ (I.tok _) h3 (by rw [h1]; exact h4)
    · rw [h2]
      exact q xv ux _ (I.tok _) rx (by rw [h1]; exact hx)
  · refine call_meetsIn PySem.F.slot_dict_get dd.typeIs PySem.F.entry_dict_get (PySem.F.args_dict_get_3 _ _ _) (meetsH_dict_get_default (nestedKind X.prog X.w) a b hd ux) ⟨(by show A.units + 1 + 8 < cLine; omega), k, xs, is, dd, ?_⟩
    rcases z with ⟨w, x', p, h1, h2, h3, h4⟩ | ⟨h1, h2⟩
    · rw [h2]
      exact q w p.2 _ (I.tok _) h3 (by rw [h1]; exact h4)
    · rw [h2]
      exact q xv ux _ (I.tok _) rx (by rw [h1]; exact hx)
theorem dct_isDict {v : V} {ds : List (D × D)} (I : Inv X pins σ H s) (sb : Sub R H) (h : Vd (qX X cad) R H v (.dict ds)) : ∃ a, v = .ref a ∧ s.TypeIs (.ref a) "dict" ∧ ∀ b, Value.ref a = .ref b → ∃ ob, s.heap.get? b = some ob ∧ ob.dict = none := by
  obtain ⟨a, rfl, z⟩ := h.dct sb
  refine ⟨a, rfl, ?_⟩
  rcases z with ⟨kvs, hr, r⟩ | ⟨es, hr, r⟩
  · obtain ⟨_, hd, vs, rel, o, _, _, h1, h2, _⟩ := dk_rd I.hok hr
    exact ⟨⟨o, h1, h2.1⟩, fun b e => by cases e; exact ⟨o, h1, h2.2.1⟩⟩
  · obtain ⟨_, _, _, _, ⟨o, _, _, h1, h2, _⟩, _⟩ := dNo_ok I hr
    exact ⟨⟨o, h1, h2.1⟩, fun b e => by cases e; exact ⟨o, h1, h2.2.1⟩⟩
end
end VI
set_option Elab.async false
set_option linter.all false
set_option maxRecDepth 100000
/-! V7: operators, comparisons, subscripts. -/
namespace VI
open PySem PySem.Spec L2
open PyProof.Rows hiding St
section
variable {q : Wd} {R H : Hp} {ads : List CA} {O : List Addr} {σ : St} {env : Env} {S : Sto}
theorem finNew {R1 H1 : Hp} {a1 : List CA} {S1 : Sto} {Q : VK} {x : D} {o : HO} (g1 : Grow R H ads R1 H1 a1) (F1 : Full q R1 H1 a1 O σ env S1)
    (k : ∀ v H' R' ads', Grow R H ads R' H' ads' → Full q R' H' ads' O σ env S1 → WR q R' ads' σ v (.d x) → Q v H')
    (h : ∀ p R', Sub R1 R' → R' p = some o → Rp q R' (.ref p) x) : ∀ p, H1 p = none → Q (.ref p) (upd H1 p o) := fun p hp => by
  obtain ⟨F2, g2⟩ := F1.imm (o := o) hp
  exact k _ _ _ _ (g1.trans g2) F2 (.d (h p _ (g2.sub F1.sub) upd_same))
theorem finLst {R1 H1 : Hp} {a1 : List CA} {S1 : Sto} {Q : VK} {vs : List V} {xs : List D} (g1 : Grow R H ads R1 H1 a1) (F1 : Full q R1 H1 a1 O σ env S1)
    (k : ∀ v H' R' ads', Grow R H ads R' H' ads' → Full q R' H' ads' O σ env S1 → WR q R' ads' σ v (.d (.list xs)) → Q v H')
    (t : RpL q R1 vs xs) : ∀ p, H1 p = none → Q (.ref p) (upd H1 p (.lst vs)) := finNew g1 F1 k fun p R' s e => .lst (.inl (.inl e)) (t.mono s)
theorem finTup {R1 H1 : Hp} {a1 : List CA} {S1 : Sto} {Q : VK} {vs : List V} {xs : List D} (g1 : Grow R H ads R1 H1 a1) (F1 : Full q R1 H1 a1 O σ env S1)
    (k : ∀ v H' R' ads', Grow R H ads R' H' ads' → Full q R' H' ads' O σ env S1 → WR q R' ads' σ v (.d (.tuple xs)) → Q v H')
    (t : RpL q R1 vs xs) : ∀ p, H1 p = none → Q (.ref p) (upd H1 p (.tup vs)) := finNew g1 F1 k fun p R' s e => .tup e (t.mono s)
end
section
variable {X : Cx}
/-- xs + ys of lists that are read -/
def rCatR (K : PySem.W.Frag) : R2 := fun x y H Q => ∃ l b xs zs, x = .ref l ∧ y = .ref b ∧ SqL K H l xs ∧ SqL K H b zs ∧ xs.length + zs.length ≤ sizeLine ∧ ∀ p, H p = none → Q (.ref p) (upd H p (.lst (xs ++ zs)))
theorem op_catR : OpR X (binaryOp .Add) (rCatR X.K) := by
  intro pins s σ H x y v u Q I rx ry ⟨l, b, xs, zs, ex, ey, hl, hb, hz, k⟩
  subst ex ey
  cases rx; cases ry
  obtain ⟨its, r, pl, _⟩ := I.list hl
  obtain ⟨its2, r2, pl2, _⟩ := I.list hb
  have l1 := r.length
  have l2 := r2.length
  obtain ⟨⟨cls, dd, data, sl⟩, n, ho, hc, _, hd⟩ := pl
  obtain ⟨⟨cls2, dd2, data2, sl2⟩, n2, ho2, hc2, _, hd2⟩ := pl2
  simp only at hc hd hc2 hd2
  subst hc hd hc2 hd2
  refine concat_meets ⟨_, ho, rfl⟩ ⟨_, ho2, rfl⟩ noFill_list_add seq_list_add PySem.F.slot_list_add PySem.F.entry_list_add (PySem.F.args_list_add_2 _ _) (list_addW l b its.toArray its2.toArray n n2 dd dd2 sl sl2 (by simp only [List.size_toArray]; omega)) ⟨ho, ho2, ?_⟩
  rw [show its.toArray ++ its2.toArray = (its ++ its2).toArray from by simp]
  refine ⟨.ref _, upd H s.heap.objs.size (.lst (xs ++ zs)), ?_, rfl, k _ I.fresh⟩
  exact I.lnew (t' := s.toks) (r.append r2) (by rw [List.length_append]; omega)
def opOf : Bo → Operator
  | .add => .Add
  | .sub => .Sub
  | .mul => .Mult
  | .fdiv => .FloorDiv
  | .mod => .Mod
  | .pow => .Pow
def rBo (K : PySem.W.Frag) : Bo → R2
  | .add => fun x y H Q => rI0 (fun i j => .int (i + j)) x y H Q ∨ (rCatR K x y H Q ∨ rCatT K x y H Q)
  | .sub => rI0 fun i j => .int (i - j)
  | .mul => rI CMul fun i j => .int (i * j)
  | .fdiv => rI CDiv fun i j => .int (i / j)
  | .mod => rI (fun _ j => 0 < j) fun i j => .int (i % j)
  | .pow => rI CPow fun i j => .int (i ^ j.toNat)
theorem op_bo (o : Bo) : OpR X (binaryOp (opOf o)) (rBo X.K o) := by
  cases o with
  | add => exact op_add.or (op_catR.or op_catT)
  | sub => exact op_sub
  | mul => exact op_mul
  | fdiv => exact op_fdiv
  | mod => exact op_mod
  | pow => exact op_pow
theorem inPow64_ok {i : Int} (h : inPow64 i = true) : -(2 ^ 64) < i ∧ i < 2 ^ 64 := by
  unfold inPow64 at h
  rw [Bool.and_eq_true, decide_eq_true_eq, decide_eq_true_eq] at h
  exact h
end
section
variable {q : Wd} {R H R2 H2 : Hp} {ads a2 : List CA} {O : List Addr} {σ : St} {env : Env} {S S2 : Sto}
theorem bo_ok {o : Bo} {u v : V} {x y z : D} {Q : VK} (g : Grow R H ads R2 H2 a2) (F : Full q R2 H2 a2 O σ env S2) (hu : Vd q R2 H2 u x) (hv : Rp q R2 v y) (e : binD o x y = some z)
    (k : ∀ v H' R' ads', Grow R H ads R' H' ads' → Full q R' H' ads' O σ env S2 → WR q R' ads' σ v (.d z) → Q v H') : rBo q.K o u v H2 Q := by
  unfold binD at e
  split at e
  · cases e
    obtain rfl := hu.int
    cases hv
    exact .inl ⟨_, _, rfl, rfl, k _ _ _ _ g F (.d (.int _))⟩
  · obtain ⟨e1, e⟩ := gd_inv e
    cases e
    obtain ⟨a, vs, rfl, ha, ta⟩ := hu.lst F.sub
    obtain ⟨b, us, rfl, hb, tb⟩ := (Vd.r hv).lst F.sub
    exact .inr (.inl ⟨a, b, vs, us, rfl, rfl, ha, hb, by rw [ta.length, tb.length]; exact of_decide_eq_true e1, finLst g F k (ta.append tb)⟩)
  · obtain ⟨e1, e⟩ := gd_inv e
    cases e
    rw [Bool.and_eq_true] at e1
    obtain ⟨a, vs, rfl, ha, ta⟩ := hu.tup F.sub
    obtain ⟨b, us, rfl, hb, tb⟩ := (Vd.r hv).tup F.sub
    refine .inr (.inr ⟨a, b, vs, us, rfl, rfl, .of ha, .of hb, ?_, by rw [ta.length, tb.length]; exact of_decide_eq_true e1.2, ?_, ?_⟩)
    · rintro rfl
      cases ta
      exact absurd e1.1 (by simp)
    · rintro rfl
      cases tb
      rw [List.append_nil] at k
      refine k _ _ _ _ g F (.d ?_)
      cases hu with
      | r h => exact h
      | own h => obtain ⟨_, _, r⟩ := h; cases r
    · exact fun _ => finTup g F k (ta.append tb)
  · cases e
    obtain rfl := hu.int
    cases hv
    exact ⟨_, _, rfl, rfl, k _ _ _ _ g F (.d (.int _))⟩
  · obtain ⟨e1, e⟩ := gd_inv e
    cases e
    obtain rfl := hu.int
    cases hv
    refine ⟨_, _, rfl, rfl, ?_, k _ _ _ _ g F (.d (.int _))⟩
    rw [Bool.or_eq_true] at e1
    exact e1.imp inPow64_ok inPow64_ok
  · obtain ⟨e1, e⟩ := gd_inv e
    cases e
    obtain rfl := hu.int
    cases hv
    rw [Bool.and_eq_true, decide_eq_true_eq, decide_eq_true_eq] at e1
    exact ⟨_, _, rfl, rfl, e1, k _ _ _ _ g F (.d (.int _))⟩
  · obtain ⟨e1, e⟩ := gd_inv e
    cases e
    obtain rfl := hu.int
    cases hv
    exact ⟨_, _, rfl, rfl, of_decide_eq_true e1, k _ _ _ _ g F (.d (.int _))⟩
  · obtain ⟨e1, e⟩ := gd_inv e
    cases e
    obtain rfl := hu.int
    cases hv
    rw [Bool.and_eq_true, Bool.and_eq_true, decide_eq_true_eq, decide_eq_true_eq, decide_eq_true_eq] at e1
    exact ⟨_, _, rfl, rfl, ⟨e1.1.1, e1.1.2, e1.2⟩, k _ _ _ _ g F (.d (.int _))⟩
  · cases e
end
section
variable {X : Cx} {k : Nat} {cad : Nat → Addr} {call : Nat → List W → Sto → Option (W × Sto)} {cls : Nat → Nat}
variable {a b c d e : Expr} {ca cb cc cd : C} {pos : Pos}
theorem s_bin {o : Bo} (ha : PE X a (tX X cad call cls ca)) (hb : PE X b (tX X cad call cls cb)) : PE X (.BinOp a (opOf o) b pos) (tX X cad call cls (.bin o ca cb)) := by
  refine PE.weak (pe_op (op_bo o) ha hb) fun σ H Q ⟨R, ads, O, env, S, x, S', F, ev, k⟩ => ?_
  simp only [evE] at ev
  obtain ⟨wa, S1, ea, ev⟩ := bnd_inv ev
  obtain ⟨wb, S2, eb, ev⟩ := bnd_inv ev
  obtain ⟨xa, e1, ev⟩ := ob_inv ev
  obtain ⟨xb, e2, ev⟩ := ob_inv ev
  obtain ⟨z, e3, ev⟩ := ob_inv ev
  cases ev
  exact two F ea eb fun u v H2 R2 a2 g F2 w1 w2 => bo_ok g F2 (F2.read w1 e1) (Full.puR w2 e2) e3 k
/-! ### comparisons -/
mutual
theorem Rp.dp {q : Wd} {R H : Hp} (s : Sub R H) : ∀ (d : D) (v : V), Rp q R v d → d.canLay0 = true → Dp q.K H v d
  | .none, _, h, _ => by cases h; exact .non
  | .bool _, _, h, _ => by cases h; exact .bl _
  | .int _, _, h, _ => by cases h; exact .int _
  | .str _, _, h, _ => by cases h; exact .str _
  | .list xs, _, h, c => by
    cases h with
    | lst h t => exact .lst (s.sq h) (RpL.dp s xs _ t c)
  | .tuple xs, _, h, c => by
    cases h with
    | tup h t => exact .tup (.of (s _ _ h)) (RpL.dp s xs _ t c)
  | .dict _, _, _, c => by cases c
theorem RpL.dp {q : Wd} {R H : Hp} (s : Sub R H) : ∀ (d : List D) (v : List V), RpL q R v d → PyData.canLayAll0 d = true → DpAll q.K H v d
  | [], _, h, _ => by cases h; exact .nil
  | x :: xs, _, h, c => by
    cases h with
    | cons h t =>
      simp only [PyData.canLayAll0, Bool.and_eq_true] at c
      exact .cons (Rp.dp s x _ h c.1) (RpL.dp s xs _ t c.2)
end
def rInT (K : PySem.W.Frag) (neg : Bool) : R2 := fun x y H Q => ∃ d ds, Dp K H x d ∧ Dp K H y (.tuple ds) ∧ SeqAt.shaped d = true ∧ SeqAt.shaped (.tuple ds) = true ∧ Q (.bl (if neg then !ds.any fun z => PyData.eqv z d else ds.any fun z => PyData.eqv z d)) H
theorem op_inT (hu : X.A.units + 65 < cLine) : OpR X (compareOp .In) (rInT X.K false) := by
  intro pins s σ H x y v u Q I rx ry ⟨d, ds, hd, he, sd, se, k⟩
  obtain ⟨as, r1⟩ := Dp.reads I d x v hd rx
  obtain ⟨bs, r2⟩ := Dp.reads I _ y u he ry
  exact SeqAt.in_tuple_reads r2 r1 (SeqAt.canLay_of_shaped se) (SeqAt.canLay_of_shaped sd) (room_in_shaped sd hu) (fin_bl I k rfl)
theorem op_notInT (hu : X.A.units + 65 < cLine) : OpR X (compareOp .NotIn) (rInT X.K true) := by
  intro pins s σ H x y v u Q I rx ry ⟨d, ds, hd, he, sd, se, k⟩
  obtain ⟨as, r1⟩ := Dp.reads I d x v hd rx
  obtain ⟨bs, r2⟩ := Dp.reads I _ y u he ry
  exact SeqAt.notIn_tuple_reads r2 r1 (SeqAt.canLay_of_shaped se) (SeqAt.canLay_of_shaped sd) (room_in_shaped sd hu) (fin_bl I k rfl)
def cmpOf : Co → CmpOp
  | .eq => .Eq
  | .ne => .NotEq
  | .lt => .Lt
  | .le => .LtE
  | .gt => .Gt
  | .ge => .GtE
  | .isin => .In
  | .notin => .NotIn
  | .isb => .Is
def rCo (K : PySem.W.Frag) : Co → R2
  | .eq => rEqD K
  | .ne => rNeD K
  | .lt => rI0 fun i j => .bl (decide (i < j))
  | .le => rI0 fun i j => .bl (decide (i ≤ j))
  | .gt => rI0 fun i j => .bl (decide (j < i))
  | .ge => rI0 fun i j => .bl (decide (j ≤ i))
  | .isin => fun x y H Q => rInD K x y H Q ∨ rInT K false x y H Q
  | .notin => fun x y H Q => rNotInD K x y H Q ∨ rInT K true x y H Q
  | .isb => rIsB
theorem op_co (hu : X.A.units + 150 < cLine) (o : Co) : OpR X (compareOp (cmpOf o)) (rCo X.K o) := by
  cases o with
  | eq => exact op_eqD (by omega)
  | ne => exact op_neD (by omega)
  | lt => exact op_lt
  | le => exact op_le
  | gt => exact op_gt
  | ge => exact op_ge
  | isin => exact (op_inD (by omega)).or (op_inT (by omega))
  | notin => exact (op_notInD (by omega)).or (op_notInT (by omega))
  | isb => exact op_isBl
theorem co_ok {q : Wd} {R H : Hp} {o : Co} {u v : V} {x y : D} {z : Bool} {Q : VK} (s : Sub R H) (hu : Rp q R u x) (hv : Rp q R v y) (e : cmpD o x y = some z) (k : Q (.bl z) H) : rCo q.K o u v H Q := by
  have sh : ∀ {d : D} {w : V}, Rp q R w d → SeqAt.shaped d = true → Dp q.K H w d := fun h c => Rp.dp s _ _ h (SeqAt.canLay_of_shaped c)
  unfold cmpD at e
  split at e
  · obtain ⟨e1, e⟩ := gd_inv e
    cases e
    rw [Bool.and_eq_true] at e1
    exact ⟨_, _, sh hu e1.1, sh hv e1.2, e1.1, e1.2, k⟩
  · obtain ⟨e1, e⟩ := gd_inv e
    cases e
    rw [Bool.and_eq_true] at e1
    exact ⟨_, _, sh hu e1.1, sh hv e1.2, e1.1, e1.2, k⟩
  · cases e; cases hu; cases hv; exact ⟨_, _, rfl, rfl, k⟩
  · cases e; cases hu; cases hv; exact ⟨_, _, rfl, rfl, k⟩
  · cases e; cases hu; cases hv; exact ⟨_, _, rfl, rfl, k⟩
  · cases e; cases hu; cases hv; exact ⟨_, _, rfl, rfl, k⟩
  · obtain ⟨e1, e⟩ := gd_inv e
    cases e
    rw [Bool.and_eq_true] at e1
    exact .inl ⟨_, _, sh hu e1.1, sh hv e1.2, e1.1, e1.2, k⟩
  · obtain ⟨e1, e⟩ := gd_inv e
    cases e
    rw [Bool.and_eq_true] at e1
    exact .inr ⟨_, _, sh hu e1.1, sh hv e1.2, e1.1, e1.2, k⟩
  · obtain ⟨e1, e⟩ := gd_inv e
    cases e
    rw [Bool.and_eq_true] at e1
    exact .inl ⟨_, _, sh hu e1.1, sh hv e1.2, e1.1, e1.2, k⟩
  · obtain ⟨e1, e⟩ := gd_inv e
    cases e
    rw [Bool.and_eq_true] at e1
    exact .inr ⟨_, _, sh hu e1.1, sh hv e1.2, e1.1, e1.2, k⟩
  · cases e; cases hu; cases hv; exact ⟨_, _, rfl, rfl, k⟩
  · cases e
/-- a test's reading -/
def tT (q : Wd) (call : Nat → List W → Sto → Option (W × Sto)) (cls : Nat → Nat) (c : C) : TT := fun σ H Q =>
  ∃ R ads O env S b S', Full q R H ads O σ env S ∧ evE call cls c env S = some (.d (.bool b), S') ∧
    ∀ H' R' ads', Grow R H ads R' H' ads' → Full q R' H' ads' O σ env S' → Q b H'
abbrev uX (X : Cx) (cad : Nat → Addr) (call : Nat → List W → Sto → Option (W × Sto)) (cls : Nat → Nat) (c : C) : TT := tT (qX X cad) call cls c
/-- from a test's reading to a value's -/
theorem tT_tB {q : Wd} {c : C} {σ : St} {H : Hp} {Q : Bool → Hp → Prop} (h : tT q call cls c σ H Q) : tE q call cls c σ H fun x H1 => ∃ k, x = .bl k ∧ Q k H1 := by
  obtain ⟨R, ads, O, env, S, b, S', F, ev, k⟩ := h
  exact ⟨R, ads, O, env, S, _, S', F, ev, fun v H' R' ads' g F' w => by
    cases w with
    | d h => cases h; exact ⟨b, rfl, k _ _ _ g F'⟩⟩
theorem cmp_rd {q : Wd} {o : Co} {σ : St} {H : Hp} {Q : VK} (h : tE q call cls (.cmp o ca cb) σ H Q) : tOp (rCo q.K o) (tE q call cls ca) (tE q call cls cb) σ H Q := by
  obtain ⟨R, ads, O, env, S, x, S', F, ev, k⟩ := h
  simp only [evE] at ev
  obtain ⟨wa, S1, ea, ev⟩ := bnd_inv ev
  obtain ⟨wb, S2, eb, ev⟩ := bnd_inv ev
  obtain ⟨xa, e1, ev⟩ := ob_inv ev
  obtain ⟨xb, e2, ev⟩ := ob_inv ev
  obtain ⟨z, e3, ev⟩ := ob_inv ev
  cases ev
  exact two F ea eb fun u v H2 R2 a2 g F2 w1 w2 => co_ok F2.sub (Full.puR w1 e1) (Full.puR w2 e2) e3 (k _ _ _ _ g F2 (.d (.bl _)))
theorem s_cmp {o : Co} (G : Gd X k) (ha : PE X a (tX X cad call cls ca)) (hb : PE X b (tX X cad call cls cb)) (hm : behindInMarks (cmpOf o) b = false) : PE X (.Compare a [cmpOf o] [b] pos) (tX X cad call cls (.cmp o ca cb)) :=
  PE.weak (pe_cmpR (op_co G.hu o) ha hb hm) fun _ _ _ h => cmp_rd h
theorem s_cmpT {o : Co} (G : Gd X k) (ha : PE X a (tX X cad call cls ca)) (hb : PE X b (tX X cad call cls cb)) (hm : behindInMarks (cmpOf o) b = false) : PT X (.Compare a [cmpOf o] [b] pos) (uX X cad call cls (.cmp o ca cb)) :=
  PT.weak (pt_cmpR (op_co G.hu o) ha hb hm) fun _ _ _ h => cmp_rd (tT_tB h)
theorem chain_rd {q : Wd} {o o' : Co} {σ : St} {H : Hp} {Q : VK} (h : tE q call cls (.chain ca o cb o' cc) σ H Q) : tChain (rCo q.K o) (rCo q.K o') (tE q call cls ca) (tE q call cls cb) (tE q call cls cc) σ H Q := by
  obtain ⟨R, ads, O, env, S, x, S', F, ev, k⟩ := h
  simp only [evE] at ev
  obtain ⟨wa, S1, ea, ev⟩ := bnd_inv ev
  obtain ⟨wb, S2, eb, ev⟩ := bnd_inv ev
  obtain ⟨xa, e1, ev⟩ := ob_inv ev
  obtain ⟨xb, e2, ev⟩ := ob_inv ev
  obtain ⟨z, e3, ev⟩ := ob_inv ev
  refine ⟨R, ads, O, env, S, wa, S1, F, ea, fun u H1 R1 a1 g1 F1 w1 => ⟨R1, a1, O, env, S1, wb, S2, F1, eb, fun v H2 R2 a2 g2 F2 w2 => ?_⟩⟩
  refine co_ok F2.sub (Full.puR (w1.grow g2 F1.sub) e1) (Full.puR w2 e2) e3 ⟨z, rfl, ?_⟩
  cases z with
  | false =>
    cases ev
    rw [if_neg Bool.false_ne_true]
    exact k _ _ _ _ (g1.trans g2) F2 (.d (.bl _))
  | true =>
    rw [if_pos rfl]
    obtain ⟨wc, S3, ec, ev⟩ := bnd_inv ev
    obtain ⟨xc, e4, ev⟩ := ob_inv ev
    obtain ⟨z', e5, ev⟩ := ob_inv ev
    cases ev
    exact one F2 ec fun t H3 R3 a3 g3 F3 w3 => co_ok F3.sub (Full.puR (w2.grow g3 F2.sub) e2) (Full.puR w3 e4) e5 (k _ _ _ _ ((g1.trans g2).trans g3) F3 (.d (.bl _)))
theorem s_chain {o o' : Co} (G : Gd X k) (ha : PE X a (tX X cad call cls ca)) (hb : PE X b (tX X cad call cls cb)) (hc : PE X c (tX X cad call cls cc)) (hm : lastMarks [cmpOf o, cmpOf o'] [b, c] = false) :
    PE X (.Compare a [cmpOf o, cmpOf o'] [b, c] pos) (tX X cad call cls (.chain ca o cb o' cc)) := PE.weak (pe_chain (op_co G.hu o) (op_co G.hu o') ha hb hc hm) fun _ _ _ h => chain_rd h
theorem s_chainT {o o' : Co} (G : Gd X k) (ha : PE X a (tX X cad call cls ca)) (hb : PE X b (tX X cad call cls cb)) (hc : PE X c (tX X cad call cls cc)) (hm : lastMarks [cmpOf o, cmpOf o'] [b, c] = false) :
    PT X (.Compare a [cmpOf o, cmpOf o'] [b, c] pos) (uX X cad call cls (.chain ca o cb o' cc)) := PT.weak (pt_chain (op_co G.hu o) (op_co G.hu o') ha hb hc hm) fun _ _ _ h => chain_rd (tT_tB h)
/-! ### subscripts -/
def rIxD (q : Wd) : R2 := fun x y H Q => ∃ R ds kd kk w, Sub R H ∧ Vd q R H x (.dict ds) ∧ Rp q R y kd ∧ kOf kd = some kk ∧ homog ds kk = true ∧ dFind ds kd = some w ∧ ∀ v, Rp q R v w → Q v H
theorem ix_dct (G : Gd X k) : IxR X (rIxD (qX X cad)) := by
  intro value slice pins s σ H x y v u Q I rx ry ⟨R, ds, kd, kk, w, sb, hd, hk, ek, ho, hf, kk2⟩ hs
  have hu := G.hu
  obtain ⟨a, e, ty, z⟩ := dct_getItem (Q := EP X pins σ Q) (E := X.xe) (A := X.A) (by omega) I sb hd hk ry ek ho hf
  subst e
  cases rx
  exact tail_any ty PySem.F.slot_dict_getitem.lookup (z fun w' y' s' I' r' hp => ⟨w', H, I', r', kk2 w' hp⟩) hs
theorem s_ix (G : Gd X k) (ha : PE X a (tX X cad call cls ca)) (hb : PE X b (tX X cad call cls cb)) (hs : PlainIx b) : PE X (.Subscript a b pos) (tX X cad call cls (.ix ca cb)) := by
  refine PE.weak (pe_ix ((ix_list (X := X)).or ((ix_tup (X := X)).or (ix_dct (cad := cad) G))) ha hb hs) fun σ H Q ⟨R, ads, O, env, S, x, S', F, ev, k⟩ => ?_
  simp only [evE] at ev
  obtain ⟨wa, S1, ea, ev⟩ := bnd_inv ev
  obtain ⟨wb, S2, eb, ev⟩ := bnd_inv ev
  obtain ⟨xa, e1, ev⟩ := ob_inv ev
  obtain ⟨xb, e2, ev⟩ := ob_inv ev
  obtain ⟨z, e3, ev⟩ := ob_inv ev
  cases ev
  refine two F ea eb fun u v H2 R2 a2 g F2 w1 w2 => ?_
  have hu := F2.read w1 e1
  have hv := Full.puR w2 e2
  unfold ixD at e3
  split at e3
  · obtain ⟨l, vs, rfl, hl, t⟩ := hu.lst F2.sub
    obtain ⟨w, h1, h2⟩ := atI_rp t e3
    cases hv
    exact .inl ⟨l, vs, _, w, rfl, rfl, hl, h1, k _ _ _ _ g F2 (.d h2)⟩
  · obtain ⟨l, vs, rfl, hl, t⟩ := hu.tup F2.sub
    obtain ⟨w, h1, h2⟩ := atI_rp t e3
    cases hv
    exact .inr (.inl ⟨l, vs, _, w, rfl, rfl, .of hl, h1, k _ _ _ _ g F2 (.d h2)⟩)
  · unfold dGet at e3
    obtain ⟨kk, e4, e5⟩ := ob_inv e3
    obtain ⟨e6, e7⟩ := gd_inv e5
    exact .inr (.inr ⟨R2, _, _, kk, _, F2.sub, hu, hv, e4, e6, e7, fun w hw => k _ _ _ _ g F2 (.d hw)⟩)
  · cases e3
def poC (o : Option Int) : TO := fun _ H Q => Q o H
theorem cutV_rp {q : Wd} {R : Hp} {vs : List V} {xs : List D} {lo hi : Option Int} (t : RpL q R vs xs) : RpL q R (cutV vs lo hi) (cutD xs lo hi) := by
  unfold cutV cutD
  rw [t.length]
  exact (t.drop _).take _
theorem s_sl {lo hi : Option Expr} {l h : Option Int} {p2 : Pos} (ha : PE X a (tX X cad call cls ca)) (hl : PO X lo (poC l)) (hh : PO X hi (poC h)) : PE X (.Subscript a (.Slice lo hi none p2) pos) (tX X cad call cls (.sl ca l h)) := by
  refine PE.weak (pe_slice ((sl_list (X := X)).or (sl_tup (X := X))) ha hl hh) fun σ H Q ⟨R, ads, O, env, S, x, S', F, ev, k⟩ => ?_
  simp only [evE] at ev
  obtain ⟨wa, S1, ea, ev⟩ := bnd_inv ev
  obtain ⟨xa, e1, ev⟩ := ob_inv ev
  obtain ⟨z, e3, ev⟩ := ob_inv ev
  cases ev
  refine one F ea fun u H1 R1 a1 g F1 w1 => ?_
  have hu := Full.puR w1 e1
  unfold slD at e3
  split at e3
  · cases e3
    obtain ⟨l, vs, rfl, hl, t⟩ := (Vd.r hu).lst F1.sub
    exact .inl ⟨l, vs, rfl, hl, finLst g F1 k (cutV_rp t)⟩
  · obtain ⟨e4, e5⟩ := gd_inv e3
    cases e5
    obtain ⟨l, vs, rfl, hl, t⟩ := (Vd.r hu).tup F1.sub
    refine .inr ⟨l, vs, rfl, .of hl, ?_, finTup g F1 k (cutV_rp t)⟩
    rw [t.length]
    exact of_decide_eq_true e4
  · cases e3
theorem s_rev {j : Nat} {p1 p2 p3 : Pos} (ha : PE X a (tX X cad call cls ca)) : PE X (.Subscript a (.Slice none none (some (.UnaryOp .USub (.Constant (.int 1) j p1) p2)) p3) pos) (tX X cad call cls (.rev ca)) := by
  refine PE.weak (pe_revL ha) fun σ H Q ⟨R, ads, O, env, S, x, S', F, ev, k⟩ => ?_
  simp only [evE] at ev
  obtain ⟨wa, S1, ea, ev⟩ := bnd_inv ev
  obtain ⟨xa, e1, ev⟩ := ob_inv ev
  obtain ⟨z, e3, ev⟩ := ob_inv ev
  cases ev
  refine one F ea fun u H1 R1 a1 g F1 w1 => ?_
  have hu := Full.puR w1 e1
  unfold revD at e3
  split at e3
  · cases e3
    obtain ⟨l, vs, rfl, hl, t⟩ := (Vd.r hu).lst F1.sub
    exact ⟨l, vs, rfl, hl, finLst g F1 k t.reverse⟩
  · cases e3
end
end VI
set_option Elab.async false
set_option linter.all false
set_option maxRecDepth 100000
/-! V8: chains of three, and, or, not, displays, built-in calls. -/
namespace VI
open PySem PySem.Spec L2
open PyProof.Rows hiding St
section
variable {X : Cx} {k : Nat} {cad : Nat → Addr} {call : Nat → List W → Sto → Option (W × Sto)} {cls : Nat → Nat}
variable {a b c d e : Expr} {ca cb cc cd : C} {pos : Pos} {es : List Expr} {cs : List C}
/-! ### a op b op c op d -/
def tChain3 (r r' r'' : R2) (ta tb tc td : TE) : TE := fun σ H Q => ta σ H fun x H1 => tb σ H1 fun y H2 => r x y H2 fun z H3 => ∃ k, z = .bl k ∧
  (if k = true then tc σ H3 fun w' H4 => r' y w' H4 fun z' H5 => ∃ k', z' = .bl k' ∧ (if k' = true then td σ H5 fun u' H6 => r'' w' u' H6 Q else Q (.bl false) H5) else Q (.bl false) H3)
theorem pe_chain3 {op op' op'' : CmpOp} {r r' r'' : R2} {ta tb tc td : TE} (ho : OpR X (compareOp op) r) (ho' : OpR X (compareOp op') r') (ho'' : OpR X (compareOp op'') r'') (ha : PE X a ta) (hb : PE X b tb) (hc : PE X c tc) (hd : PE X d td)
    (hm : lastMarks [op, op', op''] [b, c, d] = false) : PE X (.Compare a [op, op', op''] [b, c, d] pos) (tChain3 r r' r'' ta tb tc td) := by
  refine ⟨fun pins s σ H Q I h => ?_⟩
  refine Compare_chain (thn (ha.run pins s σ H _ I h) fun v s1 ⟨x, H1, I1, r1, q1⟩ => chain_link (thn (hb.run pins s1 σ H1 _ I1 q1) fun u s2 ⟨y, H2, I2, r2, q2⟩ =>
    thn (ho pins s2 σ H2 x y v u _ I2 r1 r2 q2) fun t s3 ⟨z, H3, I3, r3, j, ez, q3⟩ => ?_)) hm
  subst ez; cases r3
  refine wpAny_truthy_bool ?_
  cases j with
  | false => exact ite_ff ⟨.bl false, H3, I3, rfl, q3⟩
  | true =>
    refine ite_tt (chain_link (thn (hc.run pins s3 σ H3 _ I3 q3) fun w' s4 ⟨z', H4, I4, r4, q4⟩ => thn (ho' pins s4 σ H4 y z' u w' _ I4 r2 r4 q4) fun t' s5 ⟨z2, H5, I5, r5, j', ez', q5⟩ => ?_))
    subst ez'; cases r5
    refine wpAny_truthy_bool ?_
    cases j' with
    | false => exact ite_ff ⟨.bl false, H5, I5, rfl, q5⟩
    | true => exact ite_tt (chain_last (thn (hd.run pins s5 σ H5 _ I5 q5) fun g s6 ⟨z3, H6, I6, r6, q6⟩ => ho'' pins s6 σ H6 z' z3 w' g Q I6 r4 r6 q6))
theorem pt_chain3 {op op' op'' : CmpOp} {r r' r'' : R2} {ta tb tc td : TE} (ho : OpR X (compareOp op) r) (ho' : OpR X (compareOp op') r') (ho'' : OpR X (compareOp op'') r'') (ha : PE X a ta) (hb : PE X b tb) (hc : PE X c tc) (hd : PE X d td)
    (hm : lastMarks [op, op', op''] [b, c, d] = false) : PT X (.Compare a [op, op', op''] [b, c, d] pos) (tTest (tChain3 r r' r'' ta tb tc td)) := by
  refine ⟨fun pins s σ H Q I h => ?_⟩
  refine isTrue_chain (thn (ha.run pins s σ H _ I h) fun v s1 ⟨x, H1, I1, r1, q1⟩ => test_link (thn (hb.run pins s1 σ H1 _ I1 q1) fun u s2 ⟨y, H2, I2, r2, q2⟩ =>
    thn (ho pins s2 σ H2 x y v u _ I2 r1 r2 q2) fun t s3 ⟨z, H3, I3, r3, j, ez, q3⟩ => ?_)) hm
  subst ez; cases r3
  refine wpAny_truthy_bool ?_
  cases j with
  | false =>
    obtain ⟨j2, e2, q'⟩ := q3
    cases e2
    exact ite_ff ⟨H3, I3, q'⟩
  | true =>
    refine ite_tt (test_link (thn (hc.run pins s3 σ H3 _ I3 q3) fun w' s4 ⟨z', H4, I4, r4, q4⟩ => thn (ho' pins s4 σ H4 y z' u w' _ I4 r2 r4 q4) fun t' s5 ⟨z2, H5, I5, r5, j', ez', q5⟩ => ?_))
    subst ez'; cases r5
    refine wpAny_truthy_bool ?_
    cases j' with
    | false =>
      obtain ⟨j2, e2, q'⟩ := q5
      cases e2
      exact ite_ff ⟨H5, I5, q'⟩
    | true =>
      refine ite_tt (test_last (thn (hd.run pins s5 σ H5 _ I5 q5) fun g s6 ⟨z3, H6, I6, r6, q6⟩ => thn (ho'' pins s6 σ H6 z' z3 w' g _ I6 r4 r6 q6) fun m s7 ⟨z4, H7, I7, r7, j3, e3, q7⟩ => ?_))
      subst e3; cases r7
      exact wpAny_truthy_bool ⟨H7, I7, q7⟩
theorem chain3_rd {q : Wd} {o o' o'' : Co} {σ : St} {H : Hp} {Q : VK} (h : tE q call cls (.chain3 ca o cb o' cc o'' cd) σ H Q) :
    tChain3 (rCo q.K o) (rCo q.K o') (rCo q.K o'') (tE q call cls ca) (tE q call cls cb) (tE q call cls cc) (tE q call cls cd) σ H Q := by
  obtain ⟨R, ads, O, env, S, x, S', F, ev, k⟩ := h
  simp only [evE] at ev
  obtain ⟨wa, S1, ea, ev⟩ := bnd_inv ev
  obtain ⟨wb, S2, eb, ev⟩ := bnd_inv ev
  obtain ⟨xa, e1, ev⟩ := ob_inv ev
  obtain ⟨xb, e2, ev⟩ := ob_inv ev
  obtain ⟨z, e3, ev⟩ := ob_inv ev
  refine ⟨R, ads, O, env, S, wa, S1, F, ea, fun u H1 R1 a1 g1 F1 w1 => ⟨R1, a1, O, env, S1, wb, S2, F1, eb, fun v H2 R2 a2 g2 F2 w2 => ?_⟩⟩
  refine co_ok F2.sub (Full.puR (w1.grow g2 F1.sub) e1) (Full.puR w2 e2) e3 ⟨z, rfl, ?_⟩
  cases z with
  | false =>
    cases ev
    rw [if_neg Bool.false_ne_true]
    exact k _ _ _ _ (g1.trans g2) F2 (.d (.bl _))
  | true =>
    rw [if_pos rfl]
    obtain ⟨wc, S3, ec, ev⟩ := bnd_inv ev
    obtain ⟨xc, e4, ev⟩ := ob_inv ev
    obtain ⟨z', e5, ev⟩ := ob_inv ev
    refine one F2 ec fun t H3 R3 a3 g3 F3 w3 => co_ok F3.sub (Full.puR (w2.grow g3 F2.sub) e2) (Full.puR w3 e4) e5 ⟨z', rfl, ?_⟩
    cases z' with
    | false =>
      cases ev
      rw [if_neg Bool.false_ne_true]
      exact k _ _ _ _ ((g1.trans g2).trans g3) F3 (.d (.bl _))
    | true =>
      rw [if_pos rfl]
      obtain ⟨wd, S4, ed, ev⟩ := bnd_inv ev
      obtain ⟨xd, e6, ev⟩ := ob_inv ev
      obtain ⟨z'', e7, ev⟩ := ob_inv ev
      cases ev
      exact one F3 ed fun t' H4 R4 a4 g4 F4 w4 => co_ok F4.sub (Full.puR (w3.grow g4 F3.sub) e4) (Full.puR w4 e6) e7 (k _ _ _ _ (((g1.trans g2).trans g3).trans g4) F4 (.d (.bl _)))
theorem s_chain3 {o o' o'' : Co} (G : Gd X k) (ha : PE X a (tX X cad call cls ca)) (hb : PE X b (tX X cad call cls cb)) (hc : PE X c (tX X cad call cls cc)) (hd : PE X d (tX X cad call cls cd)) (hm : lastMarks [cmpOf o, cmpOf o', cmpOf o''] [b, c, d] = false) :
    PE X (.Compare a [cmpOf o, cmpOf o', cmpOf o''] [b, c, d] pos) (tX X cad call cls (.chain3 ca o cb o' cc o'' cd)) := PE.weak (pe_chain3 (op_co G.hu o) (op_co G.hu o') (op_co G.hu o'') ha hb hc hd hm) fun _ _ _ h => chain3_rd h
theorem s_chain3T {o o' o'' : Co} (G : Gd X k) (ha : PE X a (tX X cad call cls ca)) (hb : PE X b (tX X cad call cls cb)) (hc : PE X c (tX X cad call cls cc)) (hd : PE X d (tX X cad call cls cd)) (hm : lastMarks [cmpOf o, cmpOf o', cmpOf o''] [b, c, d] = false) :
    PT X (.Compare a [cmpOf o, cmpOf o', cmpOf o''] [b, c, d] pos) (uX X cad call cls (.chain3 ca o cb o' cc o'' cd)) := PT.weak (pt_chain3 (op_co G.hu o) (op_co G.hu o') (op_co G.hu o'') ha hb hc hd hm) fun _ _ _ h => chain3_rd (tT_tB h)
/-! ### and, or, not, if -/
theorem s_and1 (ha : PE X a (tX X cad call cls ca)) : PE X (.BoolOp .And [a] pos) (tX X cad call cls (.and [ca])) := by
  refine PE.weak (pe_one ha) fun σ H Q ⟨R, ads, O, env, S, x, S', F, ev, k⟩ => ?_
  simp only [evE, evAnd] at ev
  obtain ⟨wa, S1, ea, ev⟩ := bnd_inv ev
  obtain ⟨xa, e1, ev⟩ := ob_inv ev
  cases ev
  obtain rfl := pu_inv e1
  exact one F ea k
theorem s_or1 (ha : PE X a (tX X cad call cls ca)) : PE X (.BoolOp .Or [a] pos) (tX X cad call cls (.or [ca])) := by
  refine PE.weak (pe_one ha) fun σ H Q ⟨R, ads, O, env, S, x, S', F, ev, k⟩ => ?_
  simp only [evE, evOr] at ev
  obtain ⟨wa, S1, ea, ev⟩ := bnd_inv ev
  obtain ⟨xa, e1, ev⟩ := ob_inv ev
  cases ev
  obtain rfl := pu_inv e1
  exact one F ea k
theorem s_and (ha : PE X a (tX X cad call cls ca)) (hb : PE X (.BoolOp .And (b :: es) pos) (tX X cad call cls (.and (cb :: cs)))) : PE X (.BoolOp .And (a :: b :: es) pos) (tX X cad call cls (.and (ca :: cb :: cs))) := by
  refine PE.weak (pe_and ha hb) fun σ H Q ⟨R, ads, O, env, S, x, S', F, ev, k⟩ => ?_
  simp only [evE, evAnd] at ev
  obtain ⟨wa, S1, ea, ev⟩ := bnd_inv ev
  obtain ⟨xa, e1, ev⟩ := ob_inv ev
  obtain ⟨z, e2, ev⟩ := ob_inv ev
  obtain rfl := boolOf_inv e2
  refine one F ea fun u H1 R1 a1 g F1 w1 => ?_
  have r := Full.puR w1 e1
  cases r
  refine ⟨z, rfl, ?_⟩
  cases z with
  | true =>
    rw [if_pos rfl]
    exact ⟨R1, a1, O, env, S1, x, S', F1, by simp only [evE]; exact ev, fun v H' R' ads' g' => k v H' R' ads' (g.trans g')⟩
  | false =>
    cases ev
    rw [if_neg Bool.false_ne_true]
    exact k _ _ _ _ g F1 (.d (.bl _))
theorem s_or (ha : PE X a (tX X cad call cls ca)) (hb : PE X (.BoolOp .Or (b :: es) pos) (tX X cad call cls (.or (cb :: cs)))) : PE X (.BoolOp .Or (a :: b :: es) pos) (tX X cad call cls (.or (ca :: cb :: cs))) := by
  refine PE.weak (pe_or ha hb) fun σ H Q ⟨R, ads, O, env, S, x, S', F, ev, k⟩ => ?_
  simp only [evE, evOr] at ev
  obtain ⟨wa, S1, ea, ev⟩ := bnd_inv ev
  obtain ⟨xa, e1, ev⟩ := ob_inv ev
  obtain ⟨z, e2, ev⟩ := ob_inv ev
  obtain rfl := boolOf_inv e2
  refine one F ea fun u H1 R1 a1 g F1 w1 => ?_
  have r := Full.puR w1 e1
  cases r
  refine ⟨z, rfl, ?_⟩
  cases z with
  | false =>
    rw [if_neg Bool.false_ne_true]
    exact ⟨R1, a1, O, env, S1, x, S', F1, by simp only [evE]; exact ev, fun v H' R' ads' g' => k v H' R' ads' (g.trans g')⟩
  | true =>
    cases ev
    rw [if_pos rfl]
    exact k _ _ _ _ g F1 (.d (.bl _))
/-- as tests -/
theorem PW.weak {t t' : TT} (h : PW X e t) (k : ∀ σ H Q, t' σ H Q → t σ H Q) : PW X e t' := ⟨fun wh pins s σ H Q I w => h.run wh pins s σ H Q I (k σ H Q w)⟩
theorem s_and1T (ha : PT X a (uX X cad call cls ca)) : PW X (.BoolOp .And [a] pos) (uX X cad call cls (.and [ca])) := by
  refine PW.weak (pw_and1 ha) fun σ H Q ⟨R, ads, O, env, S, x, S', F, ev, k⟩ => ?_
  simp only [evE, evAnd] at ev
  obtain ⟨wa, S1, ea, ev⟩ := bnd_inv ev
  obtain ⟨xa, e1, ev⟩ := ob_inv ev
  cases ev
  obtain rfl := pu_inv e1
  exact ⟨R, ads, O, env, S, x, S', F, ea, k⟩
theorem s_or1T (ha : PT X a (uX X cad call cls ca)) : PW X (.BoolOp .Or [a] pos) (uX X cad call cls (.or [ca])) := by
  refine PW.weak (pw_or1 ha) fun σ H Q ⟨R, ads, O, env, S, x, S', F, ev, k⟩ => ?_
  simp only [evE, evOr] at ev
  obtain ⟨wa, S1, ea, ev⟩ := bnd_inv ev
  obtain ⟨xa, e1, ev⟩ := ob_inv ev
  cases ev
  obtain rfl := pu_inv e1
  exact ⟨R, ads, O, env, S, x, S', F, ea, k⟩
theorem s_andT (ha : PT X a (uX X cad call cls ca)) (hb : PW X (.BoolOp .And (b :: es) pos) (uX X cad call cls (.and (cb :: cs)))) : PW X (.BoolOp .And (a :: b :: es) pos) (uX X cad call cls (.and (ca :: cb :: cs))) := by
  refine PW.weak (pw_and ha hb) fun σ H Q ⟨R, ads, O, env, S, x, S', F, ev, k⟩ => ?_
  simp only [evE, evAnd] at ev
  obtain ⟨wa, S1, ea, ev⟩ := bnd_inv ev
  obtain ⟨xa, e1, ev⟩ := ob_inv ev
  obtain ⟨z, e2, ev⟩ := ob_inv ev
  obtain rfl := boolOf_inv e2
  obtain rfl := pu_inv e1
  refine ⟨R, ads, O, env, S, z, S1, F, ea, fun H1 R1 a1 g F1 => ?_⟩
  cases z with
  | true =>
    rw [if_pos rfl]
    exact ⟨R1, a1, O, env, S1, x, S', F1, by simp only [evE]; exact ev, fun H' R' ads' g' => k H' R' ads' (g.trans g')⟩
  | false =>
    cases ev
    rw [if_neg Bool.false_ne_true]
    exact k _ _ _ g F1
theorem s_orT (ha : PT X a (uX X cad call cls ca)) (hb : PW X (.BoolOp .Or (b :: es) pos) (uX X cad call cls (.or (cb :: cs)))) : PW X (.BoolOp .Or (a :: b :: es) pos) (uX X cad call cls (.or (ca :: cb :: cs))) := by
  refine PW.weak (pw_or ha hb) fun σ H Q ⟨R, ads, O, env, S, x, S', F, ev, k⟩ => ?_
  simp only [evE, evOr] at ev
  obtain ⟨wa, S1, ea, ev⟩ := bnd_inv ev
  obtain ⟨xa, e1, ev⟩ := ob_inv ev
  obtain ⟨z, e2, ev⟩ := ob_inv ev
  obtain rfl := boolOf_inv e2
  obtain rfl := pu_inv e1
  refine ⟨R, ads, O, env, S, z, S1, F, ea, fun H1 R1 a1 g F1 => ?_⟩
  cases z with
  | false =>
    rw [if_neg Bool.false_ne_true]
    exact ⟨R1, a1, O, env, S1, x, S', F1, by simp only [evE]; exact ev, fun H' R' ads' g' => k H' R' ads' (g.trans g')⟩
  | true =>
    cases ev
    rw [if_pos rfl]
    exact k _ _ _ g F1
theorem s_notT (ha : PT X a (uX X cad call cls ca)) : PT X (.UnaryOp .Not a pos) (uX X cad call cls (.not ca)) := by
  refine PT.weak (pt_not ha) fun σ H Q ⟨R, ads, O, env, S, x, S', F, ev, k⟩ => ?_
  simp only [evE] at ev
  obtain ⟨wa, S1, ea, ev⟩ := bnd_inv ev
  obtain ⟨xa, e1, ev⟩ := ob_inv ev
  obtain ⟨z, e2, ev⟩ := ob_inv ev
  obtain rfl := boolOf_inv e2
  obtain rfl := pu_inv e1
  cases ev
  exact ⟨R, ads, O, env, S, z, _, F, ea, k⟩
theorem s_valT (ha : PE X a (tX X cad call cls ca)) (he : ∀ whole, isTrue a X.env whole = (do let v ← whole; standAt a.pos; holding [v] (truthy v))) : PT X a (uX X cad call cls ca) :=
  PT.weak (pt_val ha he) fun _ _ _ h => tT_tB h
theorem s_ifx (hc : PT X c (uX X cad call cls cc)) (ha : PE X a (tX X cad call cls ca)) (hb : PE X b (tX X cad call cls cb)) : PE X (.IfExp c a b pos) (tX X cad call cls (.ifx cc ca cb)) := by
  refine PE.weak (pe_ifExp hc ha hb) fun σ H Q ⟨R, ads, O, env, S, x, S', F, ev, k⟩ => ?_
  simp only [evE] at ev
  obtain ⟨wa, S1, ea, ev⟩ := bnd_inv ev
  obtain ⟨xa, e1, ev⟩ := ob_inv ev
  obtain ⟨z, e2, ev⟩ := ob_inv ev
  obtain rfl := boolOf_inv e2
  obtain rfl := pu_inv e1
  refine ⟨R, ads, O, env, S, z, S1, F, ea, fun H1 R1 a1 g F1 => ?_⟩
  cases z with
  | true =>
    rw [if_pos rfl]
    exact ⟨R1, a1, O, env, S1, x, S', F1, ev, fun v H' R' ads' g' => k v H' R' ads' (g.trans g')⟩
  | false =>
    rw [if_neg Bool.false_ne_true]
    exact ⟨R1, a1, O, env, S1, x, S', F1, ev, fun v H' R' ads' g' => k v H' R' ads' (g.trans g')⟩
end
end VI
set_option Elab.async false
set_option linter.all false
set_option maxRecDepth 100000
/-! V8a: set(xs) of a list of ints, with what sorted asks of it. -/
namespace VI
open PySem PySem.Spec L2
open PyProof.Rows hiding St
def nSet (w : World) : Obj := { cls := .type "set", dict := none, data := .set #[] 0 (.fresh 0 0 (!w.params.followText "set-order")) }
section
variable {P : Program} {w : World} {A : Around} {E : Value → Shared → Prop} {s : Shared}
set_option maxHeartbeats 3200000 in
theorem set_of_ints {l : Addr} {its : Array Value} (ns : List Int) {Q : Value → Shared → Prop} (hh : A.handled = none) (hl : s.heap.IsList l its) (hit : IntsAre its.toList ns) (hb : ns.length + 1 < scanBound)
    (h : ∀ (h' : Heap) (tk c : Nat), SetR w h' s.heap.objs.size (fun j => decide (j ∈ ns)) c → (∀ b o, s.heap.get? b = some o → h'.get? b = some o) → Q (.ref s.heap.objs.size) { s with heap := h', toks := tk }) :
    wpAny (model P w) A (PySem.call (.type "set") [.ref l]) Q E s := by
  have nz : its.size = ns.length := by
    have z := IntsAre.length hit
    rwa [Array.length_toList] at z
  have md := F.called_set.made
  have sb := F.called_set.sub
  have nt := F.called_set.notType
  have cc := F.called_set.canCreate
  have ct := F.typeCall_set_1 (.ref l)
  obtain ⟨c, tl, mro⟩ := F.called_set.mro
  refine wpAny_call (codeAny_of_tree ?_)
  show wpAny _ _ (callAny (.type "set") _) _ _ _
  refine wpAny_pure ⟨Code.quiet_builtin _ (by decide +kernel), codeAny_builtin F.entry_type_call ?_⟩
  rw [Around.under_plain (weight_type_call_type "set" [.ref l] []) rfl]
  repeat (any_goals (first | assumption | wp_step))
  refine codeAny_mono (code_set_led1 (.ref l) (E := E) (Q₁ := fun ob t => ob = .ref s.heap.objs.size ∧ t = { s with heap := s.heap.push (nSet w) }) ⟨rfl, rfl⟩) fun r t hr => ?_
  cases r with
  | error e => exact hr
  | ok fl =>
    cases fl with
    | ret ob =>
      obtain ⟨rfl, rfl⟩ := hr
      have gS : (s.heap.push (nSet w)).get? s.heap.objs.size = some (nSet w) := Heap.get?_push_size _ rfl
      have gT : Shared.TypeIs { s with heap := s.heap.push (nSet w) } (.ref s.heap.objs.size) "set" := ⟨_, gS, rfl⟩
      have li := F.called_set.init.lookup
      have bi := F.called_set.init.bind (.ref s.heap.objs.size)
      repeat (any_goals (first | assumption | wp_step))
      refine codeAny_mono (codeAny_call_builtin (R := wants (fun r t => r = .none ∧ ∃ h' tk c, t = { s with heap := h', toks := tk } ∧ SetR w h' s.heap.objs.size (fun j => decide (j ∈ ns)) c ∧
          (∀ b o, s.heap.get? b = some o → h'.get? b = some o)) E) F.called_set.init.plain F.entry_set_init (check_set_init_1 gT ?_)) fun r2 t2 hr2 => ?_
      · obtain ⟨⟨oc, od, odt, osl⟩, hol, hcl, nl, hdl⟩ := hl
        simp only at hcl hdl
        subst hcl hdl
        have hol' : (s.heap.push (nSet w)).get? l = some { cls := .type "list", dict := od, data := .seq its nl, slots := osl } := Heap.get?_push_of_some _ hol
        have s1 := F.sub_list_set
        have s2 := F.sub_list_frozenset
        have ne : (Value.type "list" == Value.type "dict") = false := by decide
        have hl1 : (s.heap.push (nSet w)).IsList l its := ⟨_, hol', rfl, nl, rfl⟩
        unfold Builtin.«set.__init__» noKeywords Builtin.Frozenset.updateFrom
        generalize hPI : pyIter = PI
        wp_walk
        subst hPI
        refine wpAny_pyIter_list hl1 ?_
        refine wpAny_bind (wpAny_runValue ?_)
        have lS : l < s.heap.objs.size := Heap.lt_size hol
        have h3 : A.in1.in1.in1.handled = none := by simp [hh]
        have neI : l ≠ (s.heap.push (nSet w)).objs.size := by
          rw [Heap.size_push]
          exact Nat.ne_of_lt (Nat.lt_succ_of_lt lS)
        have nf : s.heap.objs.size ∉ [(s.heap.push (nSet w)).objs.size, l] := by
          rw [Heap.size_push]
          simp only [List.mem_cons, List.not_mem_nil, or_false, not_or]
          exact ⟨Nat.ne_of_lt (Nat.lt_succ_self _), Nat.ne_of_gt lS⟩
        have val : ∀ (i : Nat) (v : Value), its[i]? = some v → ∃ k t, ns[i]? = some k ∧ v = .int k t := fun i v hv => by
          have hi : i < ns.length := by rw [← nz]; exact (Array.getElem?_eq_some_iff.mp hv).1
          obtain ⟨t, e⟩ := IntsAre.int_at hit i v (by rw [Array.getElem?_toList]; exact hv)
          refine ⟨ns[i], t, List.getElem?_eq_getElem hi, ?_⟩
          rw [e, List.getD_eq_getElem?_getD, List.getElem?_eq_getElem hi]
          rfl
        refine set_update_ints ((Walks.list h3 _ l neI its).toS) s.heap.objs.size nf ns nz hb val (its.size - 0) 0 _ (by omega) (Nat.zero_le _) ⟨⟨_, Heap.get?_push_size _ rfl, rfl, rfl⟩, (hl1.push _)⟩ ?st ?en
        case st => exact ⟨0, Nat.le_refl 0, setR_new_at (Heap.get?_push_of_some _ gS)⟩
        case en =>
          intro ⟨h', g2, d', tk', os'⟩ c' hm hc' hS'
          obtain rfl : g2 = s.gens := hm.gens
          obtain rfl : d' = s.drawn := hm.drawn
          obtain rfl : os' = s.os := hm.os
          show wpAny _ _ _ _ _ _
          refine wpAny_pure ?_
          show wpAny _ _ (ret Value.none) _ _ _
          refine wpAny_pure ⟨rfl, h', tk', c', rfl, hS', fun b o e => ?_⟩
          have b0 : b < s.heap.objs.size := Heap.lt_size e
          refine hm.heap b o ?_ (Heap.get?_push_of_some _ (Heap.get?_push_of_some _ e))
          simp only [List.mem_cons, List.not_mem_nil, or_false, not_or]
          refine ⟨Nat.ne_of_lt b0, ?_⟩
          rw [Heap.size_push]
          exact Nat.ne_of_lt (Nat.lt_succ_of_lt b0)
      · cases r2 with
        | error e => exact hr2
        | ok fl2 =>
          cases fl2 with
          | ret v =>
            obtain ⟨rfl, h', tk, c, rfl, hS, hk⟩ := hr2
            repeat (any_goals (first | assumption | wp_step))
            exact h _ _ _ hS hk
          | _ => exact hr2.elim
    | _ => exact hr.elim
end
end VI
set_option Elab.async false
set_option linter.all false
set_option maxRecDepth 100000
/-! V9: argument lists, displays, built-in calls. -/
namespace VI
open PySem PySem.Spec L2
open PyProof.Rows hiding St
def notStar : Expr → Bool
  | .Starred _ _ => false
  | _ => true
theorem star_ns {e : Expr} {es : List Expr} {env : PySem.Env} (h : notStar e = true) : starEach (e :: es) env = (false, eval e env) :: starEach es env := by
  cases e <;> first | rfl | cases h
theorem star_any {pos : Pos} {env : PySem.Env} : ∀ {es : List Expr}, es.all notStar = true → (backTo pos (starEach es env)).any (·.1) = false
  | [], _ => rfl
  | e :: es, h => by
    rw [List.all_cons, Bool.and_eq_true] at h
    rw [star_ns h.1]
    show (false || (backTo pos (starEach es env)).any (·.1)) = false
    rw [Bool.false_or]
    exact star_any h.2
section
variable {call : Nat → List W → Sto → Option (W × Sto)} {cls : Nat → Nat}
def tA (q : Wd) (call : Nat → List W → Sto → Option (W × Sto)) (cls : Nat → Nat) (cs : List C) : TA := fun σ H Q =>
  ∃ R ads O env S xs S', Full q R H ads O σ env S ∧ evEs call cls cs env S = some (xs, S') ∧
    ∀ vs H' R' ads', Grow R H ads R' H' ads' → Full q R' H' ads' O σ env S' → RpL q R' vs xs → Q vs H'
inductive WsR (q : Wd) (R : Hp) (ads : List CA) : List V → List W → Prop where
  | nil : WsR q R ads [] []
  | cons {v : V} {w : W} {vs : List V} {ws : List W} : WR q R ads [] v w → WsR q R ads vs ws → WsR q R ads (v :: vs) (w :: ws)
theorem WsR.grow {q : Wd} {R H R' H' : Hp} {ads ads' : List CA} (g : Grow R H ads R' H' ads') (s : Sub R H) : ∀ {vs : List V} {ws : List W}, WsR q R ads vs ws → WsR q R' ads' vs ws
  | _, _, .nil => .nil
  | _, _, .cons h t => .cons (h.grow g s) (WsR.grow g s t)
def tW (q : Wd) (call : Nat → List W → Sto → Option (W × Sto)) (cls : Nat → Nat) (cs : List C) : TA := fun σ H Q =>
  ∃ R ads O env S ws S', Full q R H ads O σ env S ∧ evWs call cls cs env S = some (ws, S') ∧
    ∀ vs H' R' ads', Grow R H ads R' H' ads' → Full q R' H' ads' O σ env S' → WsR q R' ads' vs ws → Q vs H'
theorem PA.weak {X : Cx} {e : List Expr} {t t' : TA} (h : PA X e t) (k : ∀ σ H Q, t' σ H Q → t σ H Q) : PA X e t' := ⟨fun pos pins s σ H Q I w => h.run pos pins s σ H Q I (k σ H Q w)⟩
section
variable {X : Cx} {k : Nat} {cad : Nat → Addr}
variable {a b e : Expr} {ca cb c : C} {pos : Pos} {es : List Expr} {cs : List C}
theorem a_nil : PA X [] (tA (qX X cad) call cls []) := PA.weak pa_nil fun σ H Q ⟨R, ads, O, env, S, xs, S', F, ev, k⟩ => by
  simp only [evEs] at ev
  cases ev
  exact k _ _ _ _ (.refl _ _ _) F .nil
theorem a_cons (ha : PE X e (tX X cad call cls c)) (ht : PA X es (tA (qX X cad) call cls cs)) (ns : notStar e = true) : PA X (e :: es) (tA (qX X cad) call cls (c :: cs)) := by
  refine PA.weak (pa_cons ha ht (star_ns ns)) fun σ H Q ⟨R, ads, O, env, S, xs, S', F, ev, k⟩ => ?_
  simp only [evEs] at ev
  obtain ⟨wa, S1, ea, ev⟩ := bnd_inv ev
  obtain ⟨xa, e1, ev⟩ := ob_inv ev
  obtain ⟨ys, S2, e2, ev⟩ := bnd_inv ev
  cases ev
  exact one F ea fun u H1 R1 a1 g1 F1 w1 => ⟨R1, a1, O, env, S1, ys, _, F1, e2, fun vs H2 R2 a2 g2 F2 t2 =>
    k _ _ _ _ (g1.trans g2) F2 (.cons ((Full.puR w1 e1).mono (g2.sub F1.sub)) t2)⟩
theorem w_nil : PA X [] (tW (qX X cad) call cls []) := PA.weak pa_nil fun σ H Q ⟨R, ads, O, env, S, xs, S', F, ev, k⟩ => by
  simp only [evWs] at ev
  cases ev
  exact k _ _ _ _ (.refl _ _ _) F .nil
theorem WR.arg {q : Wd} {R : Hp} {ads : List CA} {σ : St} {v : V} {w w' : W} (h : WR q R ads σ v w) (e : argW w = some w') : WR q R ads [] v w' := by
  cases h with
  | d h => cases e; exact .d h
  | c h => cases e; exact .c h
  | o h => cases e
  | f h l => cases e
theorem w_cons (ha : PE X e (tX X cad call cls c)) (ht : PA X es (tW (qX X cad) call cls cs)) (ns : notStar e = true) : PA X (e :: es) (tW (qX X cad) call cls (c :: cs)) := by
  refine PA.weak (pa_cons ha ht (star_ns ns)) fun σ H Q ⟨R, ads, O, env, S, xs, S', F, ev, k⟩ => ?_
  simp only [evWs] at ev
  obtain ⟨wa, S1, ea, ev⟩ := bnd_inv ev
  obtain ⟨xa, e1, ev⟩ := ob_inv ev
  obtain ⟨ys, S2, e2, ev⟩ := bnd_inv ev
  cases ev
  exact one F ea fun u H1 R1 a1 g1 F1 w1 => ⟨R1, a1, O, env, S1, ys, _, F1, e2, fun vs H2 R2 a2 g2 F2 t2 =>
    k _ _ _ _ (g1.trans g2) F2 (.cons ((w1.arg e1).grow g2 F1.sub) t2)⟩
/-! ### displays -/
def shortB (n : Nat) : Bool := decide (n ≤ 1000)
theorem short_ok {n : Nat} (h : shortB n = true) : n ≤ sizeLine := by
  have := of_decide_eq_true h
  rw [sizeLine_eq]; omega
theorem evEs_len : ∀ {cs : List C} {env : Env} {S S' : Sto} {xs : List D}, evEs call cls cs env S = some (xs, S') → xs.length = cs.length
  | [], _, _, _, _, h => by
    simp only [evEs] at h
    cases h; rfl
  | c :: cs, _, _, _, _, h => by
    simp only [evEs] at h
    obtain ⟨wa, S1, ea, h⟩ := bnd_inv h
    obtain ⟨xa, e1, h⟩ := ob_inv h
    obtain ⟨ys, S2, e2, h⟩ := bnd_inv h
    cases h
    exact congrArg Nat.succ (evEs_len e2)
theorem s_tup {n : Nat} (ha : PA X es (tA (qX X cad) call cls cs)) (hs : shortB cs.length = true) : PE X (.Tuple es n pos) (tX X cad call cls (.tup cs)) := by
  refine PE.weak (pe_tup ha) fun σ H Q ⟨R, ads, O, env, S, x, S', F, ev, k⟩ => ?_
  simp only [evE] at ev
  obtain ⟨xs, S1, ea, ev⟩ := bnd_inv ev
  cases ev
  refine ⟨R, ads, O, env, S, xs, _, F, ea, fun vs H1 R1 a1 g F1 t => ⟨?_, finTup g F1 k t⟩⟩
  rw [t.length, evEs_len ea]
  exact short_ok hs
theorem s_lst (ha : PA X es (tA (qX X cad) call cls cs)) (hs : shortB cs.length = true) : PE X (.List es pos) (tX X cad call cls (.lst cs)) := by
  refine PE.weak (pe_lst ha) fun σ H Q ⟨R, ads, O, env, S, x, S', F, ev, k⟩ => ?_
  simp only [evE] at ev
  obtain ⟨xs, S1, ea, ev⟩ := bnd_inv ev
  cases ev
  refine ⟨R, ads, O, env, S, xs, _, F, ea, fun vs H1 R1 a1 g F1 t => ⟨?_, finLst g F1 k t⟩⟩
  rw [t.length, evEs_len ea]
  exact short_ok hs
/-- the same lists, not put into R: what an own slot begins with -/
theorem s_lstF (ha : PA X es (tA (qX X cad) call cls cs)) (hs : shortB cs.length = true) {σ : St} {H : Hp} {Q : VK}
    (h : ∃ R ads O env S xs S', Full (qX X cad) R H ads O σ env S ∧ evEs call cls cs env S = some (xs, S') ∧
      ∀ p vs H' R' ads', Grow R H ads R' H' ads' → Full (qX X cad) R' H' ads' O σ env S' → RpL (qX X cad) R' vs xs → H' p = none → Q (.ref p) (upd H' p (.lst vs))) : tLst (tA (qX X cad) call cls cs) σ H Q := by
  obtain ⟨R, ads, O, env, S, xs, S', F, ea, k⟩ := h
  refine ⟨R, ads, O, env, S, xs, S', F, ea, fun vs H1 R1 a1 g F1 t => ⟨?_, fun p hp => k p vs H1 R1 a1 g F1 t hp⟩⟩
  rw [t.length, evEs_len ea]
  exact short_ok hs
/-! ### built-ins of one thing -/
theorem RpL.ints {q : Wd} {R : Hp} : ∀ {vs : List V} {xs : List D} {ns : List Int}, RpL q R vs xs → asInts xs = some ns → vs = ns.map V.int
  | _, _, _, .nil, e => by cases e; rfl
  | _, _, _, .cons h t, e => by
    cases h <;> simp only [asInts] at e <;> try cases e
    obtain ⟨r, e1, e2⟩ := Option.map_eq_some_iff.mp e
    cases e2
    rw [RpL.ints t e1]; rfl
theorem RpL.bools {q : Wd} {R : Hp} : ∀ {vs : List V} {xs : List D} {ns : List Bool}, RpL q R vs xs → asBools xs = some ns → vs = ns.map V.bl
  | _, _, _, .nil, e => by cases e; rfl
  | _, _, _, .cons h t, e => by
    cases h <;> simp only [asBools] at e <;> try cases e
    obtain ⟨r, e1, e2⟩ := Option.map_eq_some_iff.mp e
    cases e2
    rw [RpL.bools t e1]; rfl
theorem asPair_inv {x : D} {p : Int × Int} (h : asPair x = some p) : x = enP p := by
  unfold asPair at h
  split at h
  · cases h; rfl
  · cases h
theorem asPairs_cons {x : D} {xs : List D} {r : List (Int × Int)} (h : asPairs (x :: xs) = some r) : ∃ i j t, x = enP (i, j) ∧ asPairs xs = some t ∧ r = (i, j) :: t := by
  simp only [asPairs] at h
  obtain ⟨p, e1, e2⟩ := ob_inv h
  obtain ⟨t, e3, e4⟩ := Option.map_eq_some_iff.mp e2
  exact ⟨p.1, p.2, t, asPair_inv e1, e3, e4.symm⟩
theorem enP_rp {q : Wd} {R : Hp} {v : V} {i j : Int} (h : Rp q R v (enP (i, j))) : ∃ t, v = .ref t ∧ R t = some (.tup [.int i, .int j]) := by
  cases h with
  | tup h t =>
    cases t with
    | cons h1 t =>
      cases h1
      cases t with
      | cons h2 t =>
        cases h2
        cases t
        exact ⟨_, rfl, h⟩
/-- the pair of ints that stands at an address -/
def pairAt (R : Hp) : V → Int × Int
  | .ref t => match R t with
    | some (.tup [.int i, .int j]) => (i, j)
    | _ => (0, 0)
  | _ => (0, 0)
theorem RpL.pairs {q : Wd} {R : Hp} : ∀ {vs : List V} {xs : List D} {ps : List (Int × Int)}, RpL q R vs xs → asPairs xs = some ps →
    vs.map (pairAt R) = ps ∧ ∀ v, v ∈ vs → ∃ t, v = .ref t ∧ R t = some (.tup [.int (pairAt R v).1, .int (pairAt R v).2])
  | _, _, _, .nil, e => by cases e; exact ⟨rfl, fun v h => by cases h⟩
  | _, _, _, .cons (v := v) h t, e => by
    obtain ⟨i, j, r, rfl, e1, rfl⟩ := asPairs_cons e
    obtain ⟨p, rfl, hp⟩ := enP_rp h
    obtain ⟨h1, h2⟩ := RpL.pairs t e1
    have z : pairAt R (.ref p) = (i, j) := by
      show (match R p with
        | some (.tup [.int i, .int j]) => (i, j)
        | _ => (0, 0)) = (i, j)
      rw [hp]
    refine ⟨by rw [List.map_cons, z, h1], fun v hv => ?_⟩
    rcases List.mem_cons.mp hv with rfl | hv
    · exact ⟨p, rfl, by rw [z]; exact hp⟩
    · exact h2 v hv
theorem RpL.of_pairs {q : Wd} {R : Hp} : ∀ {vs : List V}, (∀ v, v ∈ vs → ∃ t, v = .ref t ∧ R t = some (.tup [.int (pairAt R v).1, .int (pairAt R v).2])) → RpL q R vs ((vs.map (pairAt R)).map enP)
  | [], _ => .nil
  | v :: vs, h => by
    obtain ⟨t, e, ht⟩ := h v (List.mem_cons_self ..)
    refine .cons ?_ (RpL.of_pairs fun u hu => h u (List.mem_cons_of_mem _ hu))
    have : Rp q R (.ref t) (enP (pairAt R v)) := .tup ht (.cons (.int _) (.cons (.int _) .nil))
    rw [← e] at this
    exact this
theorem RpL.of_ints {q : Wd} {R : Hp} : ∀ {ns : List Int}, RpL q R (ns.map V.int) (ns.map enI)
  | [] => .nil
  | n :: ns => .cons (.int n) RpL.of_ints
theorem leP_total (a b : Int × Int) : (leP a b || leP b a) = true := by
  unfold leP
  simp only [Bool.or_eq_true, Bool.and_eq_true, decide_eq_true_eq]
  omega
theorem leP_trans (a b c : Int × Int) (h1 : leP a b = true) (h2 : leP b c = true) : leP a c = true := by
  unfold leP at *
  simp only [Bool.or_eq_true, Bool.and_eq_true, decide_eq_true_eq] at *
  omega
theorem leP_anti {a b : Int × Int} (h1 : leP a b = true) (h2 : leP b a = true) : a = b := by
  unfold leP at *
  simp only [Bool.or_eq_true, Bool.and_eq_true, decide_eq_true_eq] at *
  exact Prod.ext (by omega) (by omega)
/-- two orders of the same, both rising, are one -/
theorem perm_one {α : Type} {le : α → α → Bool} (anti : ∀ {a b : α}, le a b = true → le b a = true → a = b) : ∀ {l m : List α}, l.Perm m → l.Pairwise (fun a b => le a b = true) → m.Pairwise (fun a b => le a b = true) → l = m
  | [], m, p, _, _ => by rw [List.nil_perm.mp p]
  | a :: l, m, p, h1, h2 => by
    cases m with
    | nil => exact absurd p.symm (by simp)
    | cons b m =>
      obtain ⟨h3, h4⟩ := List.pairwise_cons.mp h1
      obtain ⟨h5, h6⟩ := List.pairwise_cons.mp h2
      have e : a = b := by
        have ha : a ∈ b :: m := p.mem_iff.mp (List.mem_cons_self ..)
        have hb : b ∈ a :: l := p.mem_iff.mpr (List.mem_cons_self ..)
        rcases List.mem_cons.mp ha with e | ha
        · exact e
        · rcases List.mem_cons.mp hb with e | hb
          · exact e.symm
          · exact anti (h3 b hb) (h5 a ha)
      subst e
      rw [perm_one anti ((List.perm_cons a).mp p) h4 h6]
theorem srtP_perm (xs : List (Int × Int)) : (srtP xs).Perm xs := List.mergeSort_perm xs leP
theorem srtP_srt (xs : List (Int × Int)) : (srtP xs).Pairwise (fun a b => leP a b = true) := List.pairwise_mergeSort leP_trans leP_total xs
theorem srtI_perm (xs : List Int) : (srtI xs).Perm xs := List.mergeSort_perm xs leI
theorem leI_iff {a b : Int} : leI a b = true ↔ a ≤ b := decide_eq_true_iff
theorem leI_trans (a b c : Int) (h1 : leI a b = true) (h2 : leI b c = true) : leI a c = true := leI_iff.mpr (Int.le_trans (leI_iff.mp h1) (leI_iff.mp h2))
theorem leI_total (a b : Int) : (leI a b || leI b a) = true := by
  simp only [Bool.or_eq_true, leI_iff]
  omega
theorem leI_anti {a b : Int} (h1 : leI a b = true) (h2 : leI b a = true) : a = b := Int.le_antisymm (leI_iff.mp h1) (leI_iff.mp h2)
theorem srtI_srt (xs : List Int) : (srtI xs).Pairwise (fun a b => leI a b = true) := List.pairwise_mergeSort leI_trans leI_total xs
theorem lexB_leP {a b : Int × Int} (h : SrtO.lexB b a = false) : leP a b = true := by
  have h := SrtO.lexB_no.mp h
  unfold leP
  simp only [Bool.or_eq_true, Bool.and_eq_true, decide_eq_true_eq]
  omega
theorem maxI_ge : ∀ (l : List Int) (m : Int), m ≤ maxI m l ∧ (∀ y, y ∈ l → y ≤ maxI m l) ∧ (maxI m l = m ∨ maxI m l ∈ l)
  | [], m => ⟨Int.le_refl _, fun y h => (nomatch h), .inl rfl⟩
  | x :: r, m => by
    obtain ⟨h1, h2, h3⟩ := maxI_ge r (if m < x then x else m)
    show m ≤ maxI (if m < x then x else m) r ∧ _ ∧ (maxI (if m < x then x else m) r = m ∨ _)
    refine ⟨?_, fun y hy => ?_, ?_⟩
    · by_cases e : m < x
      · rw [if_pos e] at h1 ⊢; omega
      · rw [if_neg e] at h1 ⊢; omega
    · show y ≤ maxI (if m < x then x else m) r
      rcases List.mem_cons.mp hy with rfl | hy
      · by_cases e : m < y
        · rw [if_pos e] at h1 ⊢; omega
        · rw [if_neg e] at h1 ⊢; omega
      · exact h2 y hy
    · show maxI (if m < x then x else m) r = m ∨ maxI (if m < x then x else m) r ∈ x :: r
      rcases h3 with h3 | h3
      · by_cases e : m < x
        · rw [if_pos e] at h3 ⊢
          right; rw [h3]; exact List.mem_cons_self ..
        · rw [if_neg e] at h3 ⊢
          exact .inl h3
      · exact .inr (List.mem_cons_of_mem _ h3)
end
end
end VI
set_option Elab.async false
set_option linter.all false
set_option maxRecDepth 100000
/-! V10: dict displays. -/
namespace VI
open PySem PySem.Spec L2
open PyProof.Rows hiding St
section
variable {q : Wd} {R H R2 H2 : Hp} {ads a2 : List CA} {O : List Addr} {σ : St} {env : Env} {S S2 : Sto}
/-- something that was laid behind the start, and stayed by itself, goes into R -/
theorem Full.late {p : Addr} {o u : HO} (F : Full q R2 H2 a2 O σ env S2) (hp : H p = none) (g : Grow R H ads R2 H2 a2) (s : Sub R H) (h2 : H2 p = some u) (hO : ∀ b, b ∈ O → ∃ w, H b = some w) (rn : R2 p = none) :
    Full q (upd R2 p o) (upd H2 p o) a2 O σ env S2 ∧ Grow R H ads (upd R2 p o) (upd H2 p o) a2 ∨ p ∈ owns a2 := by
  by_cases hi : p ∈ owns a2
  · exact .inr hi
  · left
    have ne : ∀ b w, H b = some w → b ≠ p := fun b w e z => by rw [z, hp] at e; cases e
    have nO : p ∉ O := fun z => by obtain ⟨w, e⟩ := hO p z; rw [hp] at e; cases e
    have sb : Sub R2 (upd R2 p o) := fun b w e => by
      rw [upd_ne (fun z => by rw [z, rn] at e; cases e)]; exact e
    have kp : ∀ b w, b ≠ p → H2 b = some w → upd H2 p o b = some w := fun b w z e => by rw [upd_ne z]; exact e
    refine ⟨⟨fun b w e => ?_, F.env.keep sb fun b w hb => kp b w (fun z => nO (z ▸ hb)), F.sto.keep sb fun b w hb => kp b w (fun z => hi (z ▸ hb)), F.nd, fun b hb => ?_⟩, ⟨g.le, fun b w e => ?_, fun b w e n => ?_, fun b w e => ?_, g.own⟩⟩
    · by_cases z : b = p
      · rw [z, upd_same] at e ⊢; exact e
      · rw [upd_ne z] at e ⊢; exact F.sub b w e
    · have z : b ≠ p := fun z => by
        subst z
        rcases List.mem_append.mp hb with hb | hb
        · exact nO hb
        · exact hi hb
      rw [upd_ne z]; exact F.un b hb
    · rw [upd_ne (ne b w e)]; exact g.rext b w e
    · rw [upd_ne (ne b w e)]; exact g.keep b w e n
    · obtain ⟨w', e'⟩ := g.dom b w e
      exact ⟨w', by rw [upd_ne (ne b w e)]; exact e'⟩
end
section
variable {call : Nat → List W → Sto → Option (W × Sto)} {cls : Nat → Nat} {X : Cx} {k : Nat} {cad : Nat → Addr}
variable {a b e : Expr} {ca cb c : C} {pos : Pos} {es : List Expr} {cs : List C}
/-- an own object handed out, locked for good -/
def tLk (t : TE) : TE := fun σ H Q => t σ H fun v H1 => ∃ d u, v = .ref d ∧ H1 d = some u ∧ Mut (some u) ∧ ∀ od, Q v (upd H1 d (.frz od u))
theorem pe_lk {t : TE} (h : PE X e t) : PE X e (tLk t) := ⟨fun pins s σ H Q I w => thn (h.run pins s σ H _ I w) fun u s1 ⟨v, H1, I1, r, d, u', ev, hd, mu, kk⟩ => by
  subst ev
  obtain ⟨od, I2⟩ := I1.lock hd mu
  exact ⟨_, _, I2, r, kk od⟩⟩
theorem s_dct0 : PE X (.Dict [] [] pos) (tX X cad call cls .dct0) := by
  refine PE.weak (pe_lk pe_dnewK) fun σ H Q ⟨R, ads, O, env, S, x, S', F, ev, k⟩ => ?_
  simp only [evE] at ev
  cases ev
  intro p hp
  refine ⟨p, .dK [], rfl, upd_same, trivial, fun od => ?_⟩
  rw [upd_upd]
  obtain ⟨F2, g2⟩ := F.imm (o := .frz od (.dK [])) hp
  exact k _ _ _ _ g2 F2 (.d (.dk upd_same .nil))
/-- keys that are texts -/
def trsOf (q : Wd) (call : Nat → List W → Sto → Option (W × Sto)) (cls : Nat → Nat) : List Str → List C → List (TE × TE)
  | k :: ks, c :: cs => (tC (.str k), tE q call cls c) :: trsOf q call cls ks cs
  | _, _ => []
theorem trs_rd {q : Wd} : ∀ {ks : List Str} {cs : List C} {σ : St} {H R : Hp} {ads : List CA} {O : List Addr} {env : Env} {S S' : Sto} {xs : List D} {Q : List (V × V) → Hp → Prop}, ks.length = cs.length → Full q R H ads O σ env S → evEs call cls cs env S = some (xs, S') →
    (∀ vs H' R' ads', Grow R H ads R' H' ads' → Full q R' H' ads' O σ env S' → RpL q R' vs xs → Q ((ks.map V.str).zip vs) H') → tPairs (trsOf q call cls ks cs) σ H Q
  | [], [], σ, H, R, ads, O, env, S, S', xs, Q, _, F, ev, k => by
    simp only [evEs] at ev
    cases ev
    exact k [] _ _ _ (.refl _ _ _) F .nil
  | kk :: ks, c :: cs, σ, H, R, ads, O, env, S, S', xs, Q, hl, F, ev, k => by
    simp only [evEs] at ev
    obtain ⟨wa, S1, ea, ev⟩ := bnd_inv ev
    obtain ⟨xa, e1, ev⟩ := ob_inv ev
    obtain ⟨ys, S2, e2, ev⟩ := bnd_inv ev
    cases ev
    refine one F ea fun u H1 R1 a1 g1 F1 w1 => trs_rd (Nat.succ.inj hl) F1 e2 fun vs H2 R2 a2 g2 F2 t2 => ?_
    exact k (u :: vs) _ _ _ (g1.trans g2) F2 (.cons ((Full.puR w1 e1).mono (g2.sub F1.sub)) t2)
  | [], _ :: _, _, _, _, _, _, _, _, _, _, _, hl, _, _, _ => by cases hl
  | _ :: _, [], _, _, _, _, _, _, _, _, _, _, hl, _, _, _ => by cases hl
theorem merge_nd : ∀ (m l : List (L2.Key × V)), (∀ p, p ∈ m → ∀ q, q ∈ l → p.1 ≠ q.1) → (m.map (·.1)).Nodup → mergeK l m = l ++ m
  | [], l, _, _ => by simp [mergeK]
  | p :: m, l, h, nd => by
    obtain ⟨n1, n2⟩ := List.nodup_cons.mp (show (p.1 :: m.map (·.1)).Nodup from nd)
    show mergeK (putK l p.1 p.2) m = _
    have e : valV l p.1 = none := by
      unfold valV
      rw [List.find?_eq_none.mpr]
      · rfl
      · intro z hz
        rw [decide_eq_true_eq]
        exact fun e => h p (List.mem_cons_self ..) z hz e.symm
    rw [putK_new _ e, merge_nd m (l ++ [(p.1, p.2)]) (fun z hz y hy => ?_) n2]
    · simp
    · rcases List.mem_append.mp hy with hy | hy
      · exact h z (List.mem_cons_of_mem _ hz) y hy
      · rw [List.mem_singleton.mp hy]
        exact fun e => n1 (e ▸ List.mem_map.mpr ⟨z, hz, rfl⟩)
theorem zip_keys : ∀ {ks : List Str} {vs : List V}, (ks.map V.str).zip vs = ((ks.zip vs).map fun p => ((Sum.inr p.1 : L2.Key), p.2)).map fun kv => (kV kv.1, kv.2)
  | [], _ => rfl
  | _ :: _, [] => rfl
  | k :: ks, v :: vs => by
    show (V.str k, v) :: (ks.map V.str).zip vs = (V.str k, v) :: (((ks.zip vs).map fun p => ((Sum.inr p.1 : L2.Key), p.2)).map fun kv => (kV kv.1, kv.2))
    rw [zip_keys]
theorem zip_rpK {q : Wd} {R : Hp} : ∀ {ks : List Str} {vs : List V} {xs : List D}, RpL q R vs xs → RpK q R ((ks.zip vs).map fun p => ((Sum.inr p.1 : L2.Key), p.2)) ((ks.map fun k => PyData.str k).zip xs)
  | [], _, _, _ => .nil
  | _ :: _, _, _, .nil => .nil
  | k :: ks, _, _, .cons h t => .cons (k := .inr k) h (zip_rpK t)
theorem zip_nd : ∀ {ks : List Str} {vs : List V}, ks.Nodup → (((ks.zip vs).map fun p => ((Sum.inr p.1 : L2.Key), p.2)).map (·.1)).Nodup
  | [], _, _ => List.nodup_nil
  | _ :: _, [], _ => List.nodup_nil
  | k :: ks, v :: vs, h => by
    obtain ⟨n1, n2⟩ := List.nodup_cons.mp h
    refine List.nodup_cons.mpr ⟨fun m => ?_, zip_nd n2⟩
    obtain ⟨z, hz, e⟩ := List.mem_map.mp m
    obtain ⟨y, hy, e2⟩ := List.mem_map.mp hz
    subst e2
    have e3 : y.1 = k := by cases e; rfl
    exact n1 (e3 ▸ (List.of_mem_zip hy).1)
/-- the keys' list, as the display has it -/
def keyIs1 : Option Expr → Str → Bool
  | some (.Constant (.str x) _ _), k => decide (x = k)
  | _, _ => false
def keyCs : List (Option Expr) → List Str → Bool
  | [], [] => true
  | x :: r, k :: ks => keyIs1 x k && keyCs r ks
  | _, _ => false
theorem keyCs_inv {kx : Option Expr} {keys : List (Option Expr)} {k : Str} {ks : List Str} (hk : keyCs (kx :: keys) (k :: ks) = true) : ∃ p1 p2, kx = some (.Constant (.str k) p1 p2) ∧ keyCs keys ks = true := by
  obtain ⟨h1, h2⟩ := Bool.and_eq_true_iff.mp (show (keyIs1 kx k && keyCs keys ks) = true from hk)
  unfold keyIs1 at h1
  split at h1
  · have e := of_decide_eq_true h1
    exact ⟨_, _, by rw [e], h2⟩
  · cases h1
theorem keyCs_len : ∀ {keys : List (Option Expr)} {ks : List Str}, keyCs keys ks = true → keys.length = ks.length
  | [], [], _ => rfl
  | _ :: _, [], h => by cases h
  | [], _ :: _, h => by cases h
  | _ :: _, _ :: _, h => by
    obtain ⟨_, _, _, h2⟩ := keyCs_inv h
    exact congrArg Nat.succ (keyCs_len h2)
theorem pps_strs : ∀ {keys : List (Option Expr)} {vals : List Expr} {ks : List Str} {cs : List C}, keyCs keys ks = true → keys.length = vals.length → (∀ (i : Nat) (e : Expr) (c : C), vals[i]? = some e → cs[i]? = some c → PE X e (tX X cad call cls c)) → cs.length = ks.length →
    PPs X pos keys vals (trsOf (qX X cad) call cls ks cs)
  | [], [], [], _, _, _, _, _ => pps_nil
  | [], [], _ :: _, _, h, _, _, _ => by cases h
  | [], _ :: _, _, _, _, h, _, _ => by cases h
  | _ :: _, [], _, _, _, h, _, _ => by cases h
  | _ :: _, _ :: _, [], _, h, _, _, _ => by cases h
  | _ :: _, _ :: _, _ :: _, [], _, _, _, h => by cases h
  | kx :: keys, v :: vals, k :: ks, c :: cs, hk, hl, hv, hc => by
    obtain ⟨p1, p2, rfl, hk'⟩ := keyCs_inv hk
    exact pps_cons pe_str (hv 0 _ _ rfl rfl) (pps_strs hk' (Nat.succ.inj hl) (fun i e c h1 h2 => hv (i + 1) e c h1 h2) (Nat.succ.inj hc))
theorem s_dctS {keys : List (Option Expr)} {vals : List Expr} {ks : List Str} (hk : keyCs keys ks = true) (hl : keys.length = vals.length) (hv : ∀ (i : Nat) (e : Expr) (c : C), vals[i]? = some e → cs[i]? = some c → PE X e (tX X cad call cls c)) (hc : cs.length = ks.length) (h0 : keys ≠ []) (h15 : keys.length ≤ 15)
    (hall : keys.all (·.isSome) = true) (nd : ks.Nodup) : PE X (.Dict keys vals pos) (tX X cad call cls (.dctS ks cs)) := by
  refine PE.weak (pe_lk (pe_disp (pps_strs (cs := cs) hk hl hv hc) hall hl h0 h15)) fun σ H Q ⟨R, ads, O, env, S, x, S', F, ev, k⟩ => ?_
  simp only [evE] at ev
  obtain ⟨xs, S1, ea, ev⟩ := bnd_inv ev
  obtain ⟨e1, ev⟩ := gd_inv ev
  cases ev
  intro p hp
  obtain ⟨F0, g0⟩ := F.garb (o := .dK []) hp
  refine trs_rd hc.symm F0 ea fun vs H1 R1 a1 g1 F1 t => ?_
  have po : p ∉ owns ads := fun z => by
    obtain ⟨o, e⟩ := F.dom p (List.mem_append_right _ z)
    rw [hp] at e; cases e
  have h1 : H1 p = some (.dK []) := g1.keep p _ upd_same po
  have e2 : vs.length = ks.length := by rw [t.length]; exact of_decide_eq_true e1
  refine ⟨h1, (ks.zip vs).map fun p => ((Sum.inr p.1 : L2.Key), p.2), zip_keys, ?_, ?_⟩
  · rw [List.length_map, List.length_zip, e2, Nat.min_self, ← hc]
    have : keys.length = ks.length := keyCs_len hk
    omega
  · refine ⟨p, _, rfl, upd_same, trivial, fun od => ?_⟩
    rw [upd_upd, merge_nd _ [] (fun _ _ _ h => (nomatch h)) (zip_nd nd), List.nil_append]
    have rn : R1 p = none := by
      rw [g1.rext p _ upd_same]
      cases z : R p with
      | none => rfl
      | some u => have := F.sub p u z; rw [hp] at this; cases this
    rcases F1.late (o := .frz od (.dK ((ks.zip vs).map fun p => ((Sum.inr p.1 : L2.Key), p.2)))) hp (g0.trans g1) F.sub h1 (fun b hb => F.dom b (List.mem_append_left _ hb)) rn with ⟨F2, g2⟩ | z
    · refine k _ _ _ _ g2 F2 (.d (.dk upd_same (zip_rpK (t.mono fun b u e => ?_))))
      rw [upd_ne (fun z => by rw [z, rn] at e; cases e)]; exact e
    · rcases g1.own p z with z | z
      · exact absurd z po
      · rw [upd_same] at z; cases z
end
end VI
set_option Elab.async false
set_option linter.all false
set_option maxRecDepth 100000
/-! V11: built-in calls. -/
namespace VI
open PySem PySem.Spec L2
open PyProof.Rows hiding St
section
variable {call : Nat → List W → Sto → Option (W × Sto)} {cls : Nat → Nat} {X : Cx} {k : Nat} {cad : Nat → Addr}
variable {a b e : Expr} {ca cb c : C} {pos p pn : Pos} {es : List Expr} {cs : List C}
def b1n : B1 → Str
  | .len => "len"
  | .all => "all"
  | .any => "any"
  | .sum => "sum"
  | .max => "max"
  | .tuple => "tuple"
  | .list => "list"
  | .abs => "abs"
  | .int => "int"
  | .sorted => "sorted"
theorem one_arg {te : TE} (ha : PE X a te) (ns : notStar a = true) : PA X [a] (tCons te tNil) := pa_cons ha pa_nil (star_ns ns)
theorem pl_nil {env : PySem.Env} : (backTo pos (starEach [] env)).any (·.1) = false := rfl
/-- a list read as V's -/
theorem b1_in {q : Wd} {σ : St} {H : Hp} {Q : VK} {f : B1} {r : List V → Hp → VK → Prop} (h : tE q call cls (.b1 f ca) σ H Q)
    (hr : ∀ u R1 H1 a1 O env S1 x z, Full q R1 H1 a1 O σ env S1 → Vd q R1 H1 u x → b1D f x = some z →
      (∀ v H' R' ads', Grow R1 H1 a1 R' H' ads' → Full q R' H' ads' O σ env S1 → WR q R' ads' σ v (.d z) → Q v H') → r [u] H1 Q) : tCB r (tCons (tE q call cls ca) tNil) σ H Q := by
  obtain ⟨R, ads, O, env, S, x, S', F, ev, k⟩ := h
  simp only [evE] at ev
  obtain ⟨wa, S1, ea, ev⟩ := bnd_inv ev
  obtain ⟨xa, e1, ev⟩ := ob_inv ev
  obtain ⟨z, e2, ev⟩ := ob_inv ev
  cases ev
  exact one F ea fun u H1 R1 a1 g1 F1 w1 => hr u R1 H1 a1 O env _ xa z F1 (F1.read w1 e1) e2 fun v H' R' ads' g F' w => k v H' R' ads' (g1.trans g) F' w
theorem s_b1 {f : B1} (G : Gd X k) (ha : PE X a (tX X cad call cls ca)) (ns : notStar a = true) (hg : Gl X (b1n f)) (hm : X.mg (b1n f) = none) : PE X (.Call (.Name (b1n f) pn) [a] [] pos) (tX X cad call cls (.b1 f ca)) := by
  cases f with
  | len =>
    refine PE.weak (pe_callB (t := tCons _ tNil) call_len_seq hg hm boot_len (one_arg ha ns) (by decide) (by decide) (star_ns ns) pl_nil) fun σ H Q h => b1_in h fun u R1 H1 a1 O env S1 x z F hu e kk => ?_
    unfold b1D at e
    split at e <;> try (rename_i h1; cases h1; done)
    all_goals try cases e
    · obtain ⟨l, vs, rfl, hl, t⟩ := hu.lst F.sub
      exact ⟨l, vs, rfl, .inl hl, by rw [t.length]; exact kk _ _ _ _ (.refl _ _ _) F (.d (.int _))⟩
    · obtain ⟨l, vs, rfl, hl, t⟩ := hu.tup F.sub
      exact ⟨l, vs, rfl, .inr (.of hl), by rw [t.length]; exact kk _ _ _ _ (.refl _ _ _) F (.d (.int _))⟩
  | all =>
    refine PE.weak (pe_callB (t := tCons _ tNil) (cr_all G.calm) hg hm (by decide +kernel) (one_arg ha ns) (by decide) (by decide) (star_ns ns) pl_nil) fun σ H Q h => b1_in h fun u R1 H1 a1 O env S1 x z F hu e kk => ?_
    unfold b1D at e
    split at e <;> try (rename_i h1; cases h1; done)
    all_goals try cases e
    obtain ⟨bs, e1, e2⟩ := Option.map_eq_some_iff.mp e
    cases e2
    obtain ⟨l, vs, rfl, hl, t⟩ := hu.lst F.sub
    obtain rfl := t.bools e1
    exact ⟨l, bs, rfl, hl, kk _ _ _ _ (.refl _ _ _) F (.d (.bl _))⟩
  | any =>
    refine PE.weak (pe_callB (t := tCons _ tNil) (cr_any G.calm) hg hm (by decide +kernel) (one_arg ha ns) (by decide) (by decide) (star_ns ns) pl_nil) fun σ H Q h => b1_in h fun u R1 H1 a1 O env S1 x z F hu e kk => ?_
    unfold b1D at e
    split at e <;> try (rename_i h1; cases h1; done)
    all_goals try cases e
    obtain ⟨bs, e1, e2⟩ := Option.map_eq_some_iff.mp e
    cases e2
    obtain ⟨l, vs, rfl, hl, t⟩ := hu.lst F.sub
    obtain rfl := t.bools e1
    exact ⟨l, bs, rfl, hl, kk _ _ _ _ (.refl _ _ _) F (.d (.bl _))⟩
  | sum =>
    refine PE.weak (pe_callB (t := tCons _ tNil) (cr_sum G.calm) hg hm (by decide +kernel) (one_arg ha ns) (by decide) (by decide) (star_ns ns) pl_nil) fun σ H Q h => b1_in h fun u R1 H1 a1 O env S1 x z F hu e kk => ?_
    unfold b1D at e
    split at e <;> try (rename_i h1; cases h1; done)
    all_goals try cases e
    obtain ⟨bs, e1, e2⟩ := Option.map_eq_some_iff.mp e
    cases e2
    obtain ⟨l, vs, rfl, hl, t⟩ := hu.lst F.sub
    obtain rfl := t.ints e1
    exact ⟨l, bs, rfl, hl, kk _ _ _ _ (.refl _ _ _) F (.d (.int _))⟩
  | max =>
    refine PE.weak (pe_callB (t := tCons _ tNil) (cr_max G.calm) hg hm (by decide +kernel) (one_arg ha ns) (by decide) (by decide) (star_ns ns) pl_nil) fun σ H Q h => b1_in h fun u R1 H1 a1 O env S1 x z F hu e kk => ?_
    unfold b1D at e
    split at e <;> try (rename_i h1; cases h1; done)
    all_goals try cases e
    obtain ⟨bs, e1, e2⟩ := Option.bind_eq_some_iff.mp e
    obtain ⟨l, vs, rfl, hl, t⟩ := hu.lst F.sub
    obtain rfl := t.ints e1
    split at e2
    · cases e2
    · rename_i n r
      cases e2
      obtain ⟨m1, m2, m3⟩ := maxI_ge r n
      refine ⟨l, _, rfl, hl, Nat.succ_pos _, fun m hm hy => ?_⟩
      have e3 : m = maxI n r := by
        refine Int.le_antisymm ?_ ?_
        · rcases List.mem_cons.mp hm with rfl | hm
          · exact m1
          · exact m2 m hm
        · rcases m3 with m3 | m3
          · rw [m3]; exact hy n (List.mem_cons_self ..)
          · exact hy _ (List.mem_cons_of_mem _ m3)
      rw [e3]
      exact kk _ _ _ _ (.refl _ _ _) F (.d (.int _))
  | tuple =>
    refine PE.weak (pe_callTy (t := tCons _ tNil) call_tuple_of hg hm (by decide +kernel) (one_arg ha ns) (by decide) (by decide) (star_ns ns) pl_nil) fun σ H Q h => b1_in h fun u R1 H1 a1 O env S1 x z F hu e kk => ?_
    unfold b1D at e
    split at e <;> try (rename_i h1; cases h1; done)
    all_goals try cases e
    · obtain ⟨l, vs, rfl, hl, t⟩ := hu.lst F.sub
      exact ⟨l, vs, rfl, .inl ⟨hl, finTup (.refl _ _ _) F kk t⟩⟩
    · obtain ⟨l, vs, e2, hl, t⟩ := hu.tup F.sub
      subst e2
      refine ⟨l, vs, rfl, .inr ⟨.of hl, kk _ _ _ _ (.refl _ _ _) F (.d ?_)⟩⟩
      cases hu with
      | r h => exact h
      | own h => obtain ⟨_, _, r⟩ := h; cases r
  | list =>
    refine PE.weak (pe_callTy (t := tCons _ tNil) call_list_of hg hm (by decide +kernel) (one_arg ha ns) (by decide) (by decide) (star_ns ns) pl_nil) fun σ H Q h => b1_in h fun u R1 H1 a1 O env S1 x z F hu e kk => ?_
    unfold b1D at e
    split at e <;> try (rename_i h1; cases h1; done)
    all_goals try cases e
    · obtain ⟨l, vs, rfl, hl, t⟩ := hu.lst F.sub
      exact ⟨l, vs, rfl, .inl hl, finLst (.refl _ _ _) F kk t⟩
    · obtain ⟨l, vs, rfl, hl, t⟩ := hu.tup F.sub
      exact ⟨l, vs, rfl, .inr (.of hl), finLst (.refl _ _ _) F kk t⟩
  | abs =>
    refine PE.weak (pe_callB (t := tCons _ tNil) call_abs hg hm (by decide +kernel) (one_arg ha ns) (by decide) (by decide) (star_ns ns) pl_nil) fun σ H Q h => b1_in h fun u R1 H1 a1 O env S1 x z F hu e kk => ?_
    unfold b1D at e
    split at e <;> try (rename_i h1; cases h1; done)
    all_goals try cases e
    obtain rfl := hu.int
    exact ⟨_, rfl, kk _ _ _ _ (.refl _ _ _) F (.d (.int _))⟩
  | int =>
    refine PE.weak (pe_callTy (t := tCons _ tNil) call_int1 hg hm (by decide +kernel) (one_arg ha ns) (by decide) (by decide) (star_ns ns) pl_nil) fun σ H Q h => b1_in h fun u R1 H1 a1 O env S1 x z F hu e kk => ?_
    unfold b1D at e
    split at e <;> try (rename_i h1; cases h1; done)
    all_goals try cases e
    · obtain rfl := hu.int
      exact .inl ⟨_, rfl, kk _ _ _ _ (.refl _ _ _) F (.d (.int _))⟩
    · obtain rfl := hu.bl
      exact .inr ⟨_, rfl, kk _ _ _ _ (.refl _ _ _) F (.d (.int _))⟩
  | sorted =>
    refine PE.weak (pe_callB (t := tCons _ tNil) cr_sortedPO hg hm (by decide +kernel) (one_arg ha ns) (by decide) (by decide) (star_ns ns) pl_nil) fun σ H Q h => b1_in h fun u R1 H1 a1 O env S1 x z F hu e kk => ?_
    unfold b1D at e
    split at e <;> try (rename_i h1; cases h1; done)
    all_goals try cases e
    obtain ⟨ps, e1, e2⟩ := Option.map_eq_some_iff.mp e
    cases e2
    obtain ⟨l, vs, rfl, hl, t⟩ := hu.lst F.sub
    obtain ⟨h1, h2⟩ := t.pairs e1
    refine ⟨l, vs, pairAt R1, rfl, hl, fun v hv => ?_, fun ys p hs hp => ?_⟩
    · obtain ⟨t, e3, e4⟩ := h2 v hv
      exact ⟨t, e3, F.sub _ _ e4⟩
    · have h3 : ∀ v, v ∈ ys → ∃ t, v = .ref t ∧ R1 t = some (.tup [.int (pairAt R1 v).1, .int (pairAt R1 v).2]) := fun v hv => h2 v (hp.perm.mem_iff.mp hv)
      have e5 : ys.map (pairAt R1) = srtP ps := by
        refine perm_one leP_anti ?_ ?_ (srtP_srt ps)
        · exact ((hp.perm.map _).trans (by rw [h1])).trans (srtP_perm ps).symm
        · rw [List.pairwise_map]
          exact hs.imp fun h => lexB_leP h
      have t' := RpL.of_pairs (q := qX X cad) h3
      rw [e5] at t'
      exact finLst (.refl _ _ _) F kk t' p
end
end VI
set_option Elab.async false
set_option linter.all false
set_option maxRecDepth 100000
/-! V12: more built-in calls, fields, dicts with one tuple key. -/
namespace VI
open PySem PySem.Spec L2
open PyProof.Rows hiding St
section
variable {call : Nat → List W → Sto → Option (W × Sto)} {cls : Nat → Nat} {X : Cx} {k : Nat} {cad : Nat → Addr}
variable {a b e d x : Expr} {ca cb c cd cx ck : C} {pos p pn apos : Pos} {es : List Expr} {cs : List C}
def b2n : B2 → Str
  | .max => "max"
  | .min => "min"
theorem s_b2 {f : B2} (G : Gd X k) (ha : PE X a (tX X cad call cls ca)) (hb : PE X b (tX X cad call cls cb)) (na : notStar a = true) (nb : notStar b = true) (hg : Gl X (b2n f)) (hm : X.mg (b2n f) = none) : PE X (.Call (.Name (b2n f) pn) [a, b] [] pos) (tX X cad call cls (.b2 f ca cb)) := by
  have pa : PA X [a, b] (tCons (tX X cad call cls ca) (tCons (tX X cad call cls cb) tNil)) := pa_cons ha (pa_cons hb pa_nil (star_ns nb)) (star_ns na)
  have pl : (backTo pos (starEach [b] X.env)).any (·.1) = false := star_any (by rw [List.all_cons, nb]; rfl)
  have fin : ∀ {r : List V → Hp → VK → Prop} {g : Int → Int → Int}, (∀ i j H (Q : VK), Q (.int (g i j)) H → r [.int i, .int j] H Q) → (∀ i j, b2D f (.int i) (.int j) = some (.int (g i j))) → ∀ σ H Q, tX X cad call cls (.b2 f ca cb) σ H Q → tCB r (tCons (tX X cad call cls ca) (tCons (tX X cad call cls cb) tNil)) σ H Q := by
    intro r g hr hgd σ H Q ⟨R, ads, O, env, S, x, S', F, ev, kk⟩
    simp only [evE] at ev
    obtain ⟨wa, S1, ea, ev⟩ := bnd_inv ev
    obtain ⟨wb, S2, eb, ev⟩ := bnd_inv ev
    obtain ⟨xa, e1, ev⟩ := ob_inv ev
    obtain ⟨xb, e2, ev⟩ := ob_inv ev
    obtain ⟨z, e3, ev⟩ := ob_inv ev
    cases ev
    refine ⟨R, ads, O, env, S, wa, S1, F, ea, fun u H1 R1 a1 g1 F1 w1 => ⟨R1, a1, O, env, S1, wb, _, F1, eb, fun v H2 R2 a2 g2 F2 w2 => ?_⟩⟩
    have hu := Full.puR (w1.grow g2 F1.sub) e1
    have hv := Full.puR w2 e2
    have z2 : ∃ i j, xa = .int i ∧ xb = .int j := by
      unfold b2D at e3
      split at e3
      · exact ⟨_, _, rfl, rfl⟩
      · exact ⟨_, _, rfl, rfl⟩
      · cases e3
    obtain ⟨i, j, rfl, rfl⟩ := z2
    rw [hgd] at e3
    cases e3
    cases hu; cases hv
    exact hr i j H2 Q (kk _ _ _ _ (g1.trans g2) F2 (.d (.int _)))
  cases f with
  | max => exact PE.weak (pe_callB (call_max2 G.calm) hg hm (by decide +kernel) pa (by decide) (by decide) (star_ns na) pl) (fin (g := fun i j => if j > i then j else i) (fun i j H Q h => ⟨i, j, rfl, h⟩) fun _ _ => rfl)
  | min => exact PE.weak (pe_callB (call_min2 G.calm) hg hm (by decide +kernel) pa (by decide) (by decide) (star_ns na) pl) (fin (g := fun i j => if j < i then j else i) (fun i j H Q h => ⟨i, j, rfl, h⟩) fun _ _ => rfl)
/-! ### isinstance -/
def tyS : Ty → String
  | .list => "list"
  | .tuple => "tuple"
  | .int => "int"
  | .bool => "bool"
  | .str => "str"
theorem ty_of {q : Wd} {R H : Hp} {v : V} {d : D} (s : Sub R H) (h : Rp q R v d) (nd : notDict d = true) : ∃ n, TyX q.K H v (.type n) ∧ ∀ t, PySem.W.kitOne q.K (.type n) (.type (tyS t)) = some (isTy t d) := by
  cases h with
  | non => exact ⟨"NoneType", .base .non, fun t => by cases t <;> first | exact kit_ty (r := true) (by decide +kernel) | exact kit_ty (r := false) (by decide +kernel)⟩
  | bl b => exact ⟨"bool", .base (.bl b), fun t => by cases t <;> first | exact kit_ty (r := true) (by decide +kernel) | exact kit_ty (r := false) (by decide +kernel)⟩
  | int i => exact ⟨"int", .base (.int i), fun t => by cases t <;> first | exact kit_ty (r := true) (by decide +kernel) | exact kit_ty (r := false) (by decide +kernel)⟩
  | str x => exact ⟨"str", .base (.str x), fun t => by cases t <;> first | exact kit_ty (r := true) (by decide +kernel) | exact kit_ty (r := false) (by decide +kernel)⟩
  | lst h t =>
    refine ⟨"list", ?_, fun t => by cases t <;> first | exact kit_ty (r := true) (by decide +kernel) | exact kit_ty (r := false) (by decide +kernel)⟩
    rcases s.sq h with (h | ⟨o, h⟩) | ⟨o, its, n, h1, h2, _⟩
    · exact .base (.lst h)
    · exact .base (.frz h)
    · exact .kList h1 h2
  | tup h t => exact ⟨"tuple", .base (.tup (s _ _ h)), fun t => by cases t <;> first | exact kit_ty (r := true) (by decide +kernel) | exact kit_ty (r := false) (by decide +kernel)⟩
  | dk => cases nd
  | dn => cases nd
theorem kit_any {K : PySem.W.Frag} {n : String} {d : D} (h : ∀ t, PySem.W.kitOne K (.type n) (.type (tyS t)) = some (isTy t d)) : ∀ ts : List Ty, PySem.W.kitAny K (.type n) (ts.map fun t => .type (tyS t)) = some (ts.any fun t => isTy t d)
  | [] => rfl
  | t :: ts => by
    show PySem.W.kitAny K (.type n) (.type (tyS t) :: ts.map fun t => .type (tyS t)) = _
    refine kitAny_cons (h t) (fun e => ?_) fun e => ?_
    · rw [kit_any h ts, List.any_cons, e, Bool.false_or]
    · rw [List.any_cons, e, Bool.true_or]
/-- a written list of type names -/
def tyNames : List Expr → List Ty → Bool
  | [], [] => true
  | .Name x _ :: es, t :: ts => decide (x = Str.ofString (tyS t)) && tyNames es ts
  | _, _ => false
def tTys (ts : List Ty) : TA := fun _ H Q => Q (ts.map fun t => V.ty (tyS t)) H
theorem tyNames_inv {e : Expr} {es : List Expr} {t : Ty} {ts : List Ty} (h : tyNames (e :: es) (t :: ts) = true) : ∃ p, e = .Name (Str.ofString (tyS t)) p ∧ tyNames es ts = true := by
  unfold tyNames at h
  split at h
  · rename_i h1 _; cases h1
  · rename_i e1 e2
    cases e1; cases e2
    obtain ⟨h1, h2⟩ := Bool.and_eq_true_iff.mp h
    exact ⟨_, by rw [of_decide_eq_true h1], h2⟩
  · cases h
theorem boot_ty (t : Ty) : bootBuiltins (Str.ofString (tyS t)) = some (.type (tyS t)) := by cases t <;> decide +kernel
theorem ne_dbg (t : Ty) : (Str.ofString (tyS t)) ≠ ("__name__" : Str) ∧ ((Str.ofString (tyS t)) == ("__debug__" : Str)) = false := by cases t <;> exact ⟨by decide, by decide⟩
theorem pa_tys : ∀ {es : List Expr} {ts : List Ty}, tyNames es ts = true → (∀ t, t ∈ ts → Gl X (Str.ofString (tyS t)) ∧ X.mg (Str.ofString (tyS t)) = none) → PA X es (tTys ts)
  | [], [], _, _ => PA.weak pa_nil fun _ _ _ h => h
  | [], _ :: _, h, _ => by cases h
  | e :: _, [], h, _ => by cases e <;> cases h
  | e :: es, t :: ts, h, hf => by
    obtain ⟨p, rfl, h2⟩ := tyNames_inv h
    obtain ⟨g, m⟩ := hf t (List.mem_cons_self ..)
    refine PA.weak (pa_cons (pe_bltn (v := .ty (tyS t)) g m (boot_ty t) rfl (ne_dbg t).1 (ne_dbg t).2) (pa_tys h2 fun t ht => hf t (List.mem_cons_of_mem _ ht)) (star_ns rfl)) fun σ H Q h => ?_
    exact h
theorem s_isi1 {t : Ty} (ha : PE X a (tX X cad call cls ca)) (na : notStar a = true) (hg : Gl X "isinstance") (hm : X.mg "isinstance" = none) (hgt : Gl X (Str.ofString (tyS t))) (hmt : X.mg (Str.ofString (tyS t)) = none) :
    PE X (.Call (.Name "isinstance" pn) [a, .Name (Str.ofString (tyS t)) p] [] pos) (tX X cad call cls (.isi1 ca t)) := by
  have pa := pa_cons ha (pa_cons (pe_bltn (v := .ty (tyS t)) (pos := p) hgt hmt (boot_ty t) rfl (ne_dbg t).1 (ne_dbg t).2) pa_nil (star_ns rfl)) (star_ns na)
  refine PE.weak (pe_callB call_isi hg hm PyProof.Rows.boot_isinstance pa (by decide) (by decide) (star_ns na) (star_any rfl)) fun σ H Q ⟨R, ads, O, env, S, x, S', F, ev, kk⟩ => ?_
  simp only [evE] at ev
  obtain ⟨wa, S1, ea, ev⟩ := bnd_inv ev
  obtain ⟨xa, e1, ev⟩ := ob_inv ev
  obtain ⟨nd, ev⟩ := gd_inv ev
  cases ev
  refine one F ea fun u H1 R1 a1 g1 F1 w1 => ?_
  obtain ⟨n, ty, kt⟩ := ty_of F1.sub (Full.puR w1 e1) nd
  exact ⟨u, _, _, _, _, rfl, .ty _, ty, kt t, kk _ _ _ _ g1 F1 (.d (.bl _))⟩
theorem ClsV.tys : ∀ ts : List Ty, Paired ClsV (ts.map fun t => V.ty (tyS t)) (ts.map fun t => Value.type (tyS t))
  | [] => .nil
  | t :: ts => .cons (.ty _) (ClsV.tys ts)
theorem s_isi {ts : List Ty} {n : Nat} {p2 : Pos} (ha : PE X a (tX X cad call cls ca)) (na : notStar a = true) (hg : Gl X "isinstance") (hm : X.mg "isinstance" = none) (hn : tyNames es ts = true) (hs : shortB ts.length = true)
    (hf : ∀ t, t ∈ ts → Gl X (Str.ofString (tyS t)) ∧ X.mg (Str.ofString (tyS t)) = none) : PE X (.Call (.Name "isinstance" pn) [a, .Tuple es n p2] [] pos) (tX X cad call cls (.isi ca ts)) := by
  have pa := pa_cons ha (pa_cons (pe_tup (x1 := n) (pos := p2) (pa_tys hn hf)) pa_nil (star_ns rfl)) (star_ns na)
  refine PE.weak (pe_callB call_isiT hg hm PyProof.Rows.boot_isinstance pa (by decide) (by decide) (star_ns na) (star_any rfl)) fun σ H Q ⟨R, ads, O, env, S, x, S', F, ev, kk⟩ => ?_
  simp only [evE] at ev
  obtain ⟨wa, S1, ea, ev⟩ := bnd_inv ev
  obtain ⟨xa, e1, ev⟩ := ob_inv ev
  obtain ⟨nd, ev⟩ := gd_inv ev
  cases ev
  refine one F ea fun u H1 R1 a1 g1 F1 w1 => ⟨by rw [List.length_map]; exact short_ok hs, fun p hp => ?_⟩
  obtain ⟨F2, g2⟩ := F1.garb (o := .tup (ts.map fun t => V.ty (tyS t))) hp
  obtain ⟨n, ty, kt⟩ := ty_of F2.sub (Full.puR w1 e1) nd
  exact ⟨u, p, _, _, _, _, rfl, upd_same, ClsV.tys ts, ty, kit_any kt ts, kk _ _ _ _ (g1.trans g2) F2 (.d (.bl _))⟩
/-! ### e.f -/
theorem FldR.look {q : Wd} {R H : Hp} {vf : List (Str × V)} {fs : List (Str × Bool × D)} {fl : List (Str × Addr)} {n : Str} {b : Bool} {x : D} (h : FldR q R H vf fs fl) (nd : (vf.map (·.1)).Nodup) (e : fs.lookup n = some (b, x)) :
    ∃ v, vf.lookup n = some v ∧ (if b then ∃ l, v = .ref l ∧ fl.lookup n = some l else Rp q R v x) := by
  induction h with
  | nil => cases e
  | @val m v y vf fs fl hv ht ih =>
    rw [List.lookup_cons] at e ⊢
    cases hm : n == m with
    | true =>
      rw [hm] at e; cases e
      exact ⟨v, rfl, hv⟩
    | false =>
      rw [hm] at e
      exact ih (List.nodup_cons.mp nd).2 e
  | @own m l y vf fs fl hv ht ih =>
    rw [List.lookup_cons] at e ⊢
    cases hm : n == m with
    | true =>
      rw [hm] at e; cases e
      refine ⟨.ref l, rfl, l, rfl, ?_⟩
      rw [List.lookup_cons, hm]
    | false =>
      rw [hm] at e
      obtain ⟨v, h1, h2⟩ := ih (List.nodup_cons.mp nd).2 e
      refine ⟨v, h1, ?_⟩
      cases b with
      | true =>
        obtain ⟨l', h3, h4⟩ := h2
        refine ⟨l', h3, ?_⟩
        rw [List.lookup_cons, hm]; exact h4
      | false => exact h2
/-- what is asked of the classes -/
def ClsOk (X : Cx) (cad : Nat → Addr) (n : Str) : Prop := ∀ cl, 1 ≤ cl → cl ≤ 2 → Cls X.K (cad cl) ∧ NoAttr X.K (cad cl) n
theorem s_at {n : Str} (ha : PE X a (tX X cad call cls ca)) (hb : attributeBase a n X.env (eval a X.env) = eval a X.env) (hc : ∀ cl, Cls X.K (cad cl) ∧ NoAttr X.K (cad cl) n) : PE X (.Attribute a n pos) (tX X cad call cls (.at ca n)) := by
  refine PE.weak (pe_fld ha hb) fun σ H Q ⟨R, ads, O, env, S, x, S', F, ev, kk⟩ => ?_
  simp only [evE] at ev
  obtain ⟨wa, S1, ea, ev⟩ := bnd_inv ev
  refine one F ea fun u H1 R1 a1 g1 F1 w1 => ?_
  split at ev
  · rename_i i
    cases w1 with
    | @c _ cc hi =>
      split at ev
      · rename_i cl y hy
        cases ev
        obtain ⟨fs, h1, h2⟩ := fldOf_inv hy
        cases F1.sto.get hi h1 with
        | ins e1 e2 e3 =>
          obtain ⟨v, h3, l, rfl, h4⟩ := e3.look e2 h2
          exact ⟨_, _, _, _, _, rfl, e1, (hc cl).1, (hc cl).2, h3, kk _ _ _ _ g1 F1 (.f hi h4)⟩
      · rename_i cl y hy
        cases ev
        obtain ⟨fs, h1, h2⟩ := fldOf_inv hy
        cases F1.sto.get hi h1 with
        | ins e1 e2 e3 =>
          obtain ⟨v, h3, h4⟩ := e3.look e2 h2
          exact ⟨_, _, _, _, _, rfl, e1, (hc cl).1, (hc cl).2, h3, kk _ _ _ _ g1 F1 (.d h4)⟩
      · cases ev
  · cases ev
/-! ### d.get(k, x) -/
theorem s_get (G : Gd X k) (hd : PE X d (tX X cad call cls cd)) (hk : PE X a (tX X cad call cls ck)) (hx : PE X x (tX X cad call cls cx)) (na : notStar a = true) (nx : notStar x = true) (m : M2 X d "get" apos a x pos) :
    PE X (.Call (.Attribute d "get" apos) [a, x] [] pos) (tX X cad call cls (.get cd ck cx)) := by
  refine ⟨fun pins s σ H Q I ⟨R, ads, O, env, S, y, S', F, ev, kk⟩ => ?_⟩
  simp only [evE] at ev
  obtain ⟨wd, S1, ed, ev⟩ := bnd_inv ev
  obtain ⟨d0, e0, ev⟩ := ob_inv ev
  obtain ⟨n0, ev⟩ := gd_inv ev
  obtain ⟨wk, S2, ek, ev⟩ := bnd_inv ev
  obtain ⟨wx, S3, ex, ev⟩ := bnd_inv ev
  obtain ⟨dd, e1, ev⟩ := ob_inv ev
  obtain ⟨kd, e2, ev⟩ := ob_inv ev
  obtain ⟨xd, e3, ev⟩ := ob_inv ev
  split at ev
  · rename_i kvs
    obtain ⟨z, e4, ev⟩ := ob_inv ev
    cases ev
    unfold dGetD at e4
    obtain ⟨kk', e5, e6⟩ := ob_inv e4
    obtain ⟨ho, e7⟩ := gd_inv e6
    cases e7
    have hu := G.hu
    have n1 : ∃ ds, d0 = .dict ds := by
      cases d0 <;> first | exact ⟨_, rfl⟩ | cases n0
    obtain ⟨ds0, rfl⟩ := n1
    refine wpAny_Call_method m.base m.few m.line PySem.F.plainAttrs_dict PySem.F.slot_dict_get PySem.F.type_dict_get (thn (hd.run pins s σ H (fun v H1 => ∃ R1 a1, Grow R H ads R1 H1 a1 ∧ Full (qX X cad) R1 H1 a1 O σ env S1 ∧ WR (qX X cad) R1 a1 σ v wd) I
      (one F ed fun u H1 R1 a1 g1 F1 w1 => ⟨R1, a1, g1, F1, w1⟩)) fun u s1 ⟨v, H1, I1, rv, R1, a1, g1, F1, w1⟩ => ?_)
    obtain ⟨a0, e8, t1, t2⟩ := dct_isDict I1 F1.sub (F1.read w1 e0)
    subst e8
    cases rv
    refine ⟨t1, t2, ?_⟩
    rw [m.trees]
    refine Calls.callWith_builtin rfl (Calls.evalArgs_plain (Calls.spliced_cons (thn (hk.run pins s1 σ H1 (fun v H2 => ∃ R2 a2, Grow R1 H1 a1 R2 H2 a2 ∧ Full (qX X cad) R2 H2 a2 O σ env S2 ∧ WR (qX X cad) R2 a2 σ v wk) I1
      (one F1 ek fun u H2 R2 a2 g2 F2 w2 => ⟨R2, a2, g2, F2, w2⟩)) fun uk s2 ⟨vk, H2, I2, rk, R2, a2, g2, F2, w2⟩ =>
      Calls.spliced_cons (thn (hx.run pins s2 σ H2 (fun v H3 => ∃ R3 a3, Grow R2 H2 a2 R3 H3 a3 ∧ Full (qX X cad) R3 H3 a3 O σ env S' ∧ WR (qX X cad) R3 a3 σ v wx) I2
      (one F2 ex fun u H3 R3 a3 g3 F3 w3 => ⟨R3, a3, g3, F3, w3⟩)) fun ux s3 ⟨vx, H3, I3, rx, R3, a3, g3, F3, w3⟩ => Calls.spliced_nil ?_))))
    obtain ⟨a', e9, fin⟩ := dct_get (Q := EP X pins σ Q) (E := X.xe) (A := X.A) (by omega) I3 F3.sub (F3.read ((w1.grow g2 F1.sub).grow g3 F2.sub) e1) (Full.puR (w2.grow g3 F2.sub) e2) rk e5 ho (Full.puR w3 e3) rx
    cases e9
    exact fin fun w y s' I' r' hp => ⟨w, H3, I', r', kk _ _ _ _ ((g1.trans g2).trans g3) F3 (.d hp)⟩
  · cases ev
end
end VI
set_option Elab.async false
set_option linter.all false
set_option maxRecDepth 100000
/-! V13: list(range(n)), sorted(set(xs)), {k: v} with a tuple key, cells. -/
namespace VI
open PySem PySem.Spec L2
open PyProof.Rows hiding St
section
variable {call : Nat → List W → Sto → Option (W × Sto)} {cls : Nat → Nat} {X : Cx} {k : Nat} {cad : Nat → Addr}
variable {a b e : Expr} {ca cb c ck cv : C} {pos p pn p2 pn2 : Pos} {es : List Expr} {cs : List C}
theorem rgV_rp {q : Wd} {R : Hp} (n : Int) : RpL q R (rgV 0 n) ((List.range n.toNat).map fun (i : Nat) => PyData.int (i : Int)) := by
  unfold rgV
  rw [show n - 0 = n from Int.sub_zero n]
  generalize List.range n.toNat = l
  induction l with
  | nil => exact .nil
  | cons i l ih =>
    rw [List.map_cons, List.map_cons]
    refine .cons ?_ ih
    rw [Int.zero_add]; exact .int _
theorem itemsOf1 {x : D} {xs : List D} (h : itemsOf 1 x = some xs) : ∃ n : Int, x = .int n ∧ n ≤ 16777216 ∧ -(2 ^ 62) ≤ n ∧ xs = (List.range n.toNat).map fun (i : Nat) => PyData.int (i : Int) := by
  cases x <;> try (unfold itemsOf at h; cases h; done)
  rename_i n
  obtain ⟨h1, h2⟩ := gd_inv (show gd (decide (n ≤ 16777216) && decide (-(2 ^ 62) ≤ n)) (some ((List.range n.toNat).map fun (i : Nat) => PyData.int (i : Int))) = some xs from h)
  rw [Bool.and_eq_true, decide_eq_true_eq, decide_eq_true_eq] at h1
  exact ⟨n, rfl, h1.1, h1.2, (Option.some.inj h2).symm⟩
theorem s_lrng (G : Gd X k) (ha : PE X a (tX X cad call cls ca)) (na : notStar a = true) (hg : Gl X "list") (hm : X.mg "list" = none) (hg2 : Gl X "range") (hm2 : X.mg "range" = none) :
    PE X (.Call (.Name "list" pn) [.Call (.Name "range" pn2) [a] [] p2] [] pos) (tX X cad call cls (.lrng ca)) := by
  refine PE.weak (pe_listRg G.calm hg hm (prg_1 hg2 hm2 ha (star_ns na)) (star_ns rfl)) fun σ H Q ⟨R, ads, O, env, S, x, S', F, ev, kk⟩ => ?_
  simp only [evE] at ev
  obtain ⟨wa, S1, ea, ev⟩ := bnd_inv ev
  obtain ⟨xa, e1, ev⟩ := ob_inv ev
  obtain ⟨xs, e2, ev⟩ := ob_inv ev
  cases ev
  obtain ⟨n, rfl, h1, h2, rfl⟩ := itemsOf1 e2
  refine one F ea fun u H1 R1 a1 g1 F1 w1 => ?_
  have r := Full.puR w1 e1
  cases r
  refine ⟨n, rfl, ⟨by decide, by decide, h2, by omega, by omega⟩, finLst g1 F1 kk (rgV_rp n)⟩
/-! ### sets -/
theorem ddp_mem {α : Type} [DecidableEq α] : ∀ {l : List α} {x : α}, x ∈ ddp l ↔ x ∈ l
  | [], x => Iff.rfl
  | y :: r, x => by
    unfold ddp
    have ih := ddp_mem (l := r) (x := x)
    by_cases h : y ∈ ddp r
    · rw [if_pos h, ih, List.mem_cons]
      constructor
      · exact fun h => .inr h
      · rintro (rfl | h')
        · exact ddp_mem.mp h
        · exact h'
    · rw [if_neg h, List.mem_cons, List.mem_cons, ih]
theorem ddp_nd {α : Type} [DecidableEq α] : ∀ l : List α, (ddp l).Nodup
  | [] => List.nodup_nil
  | y :: r => by
    unfold ddp
    by_cases h : y ∈ ddp r
    · rw [if_pos h]; exact ddp_nd r
    · rw [if_neg h]; exact List.nodup_cons.mpr ⟨h, ddp_nd r⟩
theorem nd_perm {α : Type} [DecidableEq α] {l m : List α} (h1 : l.Nodup) (h2 : m.Nodup) (h : ∀ x, x ∈ l ↔ x ∈ m) : l.Perm m := (List.perm_ext_iff_of_nodup h1 h2).mpr h
def rSetI (K : PySem.W.Frag) (w : World) : List V → Hp → VK → Prop := fun xs H Q => ∃ (l : Addr) (ns : List Int), xs = [.ref l] ∧ SqL K H l (ns.map V.int) ∧ ns.length ≤ 1000 ∧
  ∀ (p : Addr) (S : Int → Bool) (n : Nat), H p = none → (∀ j, S j = true ↔ j ∈ ns) → n = (ddp ns).length → Q (.ref p) (upd H p (SetO w p S n))
theorem cr_setI (hc : X.calm = true) : CallR X (.type "set") (rSetI X.K X.w) := by
  intro pins s σ H xs us Q I r ⟨l, ns, ex, hl, hn, kk⟩
  subst ex
  rw [Vals.ref1 r]
  obtain ⟨its, rv, pl, hz⟩ := I.list hl
  refine set_of_ints ns (I.ok.hd hc) pl.isList (by simpa using rv.ints) (by unfold scanBound; omega) fun h' tk n hS hk => ?_
  have hf : H s.heap.objs.size = none := I.fresh
  refine ⟨.ref s.heap.objs.size, upd H s.heap.objs.size (SetO X.w s.heap.objs.size (fun j => decide (j ∈ ns)) n), I.laid (t' := tk) hk (Nat.le_refl _) (setO_new hS), rfl, kk _ _ _ hf (fun j => decide_eq_true_iff) ?_⟩
  obtain ⟨o, es, ep, t, _, _, _, _, nd, mem, _, _, sz, _⟩ := hS
  have pm : (es.toList.map keyOf).Perm (ddp ns) := nd_perm nd (ddp_nd ns) fun j => by
    rw [← mem j, ddp_mem, decide_eq_true_eq]
  have e1 := pm.length_eq
  rw [List.length_map, Array.length_toList, sz] at e1
  exact e1
def keyPair (R : Hp) (v : V) : Addr × List Int := ((match v with | .ref a => a | _ => 0), [(pairAt R v).1, (pairAt R v).2])
theorem leP_code {a b : Int × Int} (h : TS.code 64 [a.1, a.2] ≤ TS.code 64 [b.1, b.2]) (ha : 0 ≤ a.2 ∧ a.2 < 64) (hb : 0 ≤ b.2 ∧ b.2 < 64) : leP a b = true := by
  rw [code_pair, code_pair] at h
  unfold leP
  simp only [Bool.or_eq_true, Bool.and_eq_true, decide_eq_true_eq]
  omega
theorem s_srt (G : Gd X k) (ha : PE X a (tX X cad call cls ca)) (na : notStar a = true) (hg : Gl X "sorted") (hm : X.mg "sorted" = none) (hg2 : Gl X "set") (hm2 : X.mg "set" = none) :
    PE X (.Call (.Name "sorted" pn) [.Call (.Name "set" pn2) [a] [] p2] [] pos) (tX X cad call cls (.srt ca)) := by
  have hu := G.hu
  refine PE.weak (pe_callB (t := tCons _ tNil) (CallR.or (cr_sortedSet G.calm) (cr_sortedT G.calm)) hg hm (by decide +kernel) (pa_cons (pe_callTy (t := tCons _ tNil) (CallR.or (cr_setI G.calm) (cr_setOfT G.calm (by omega))) hg2 hm2 (by decide +kernel) (one_arg ha na) (by decide) (by decide) (star_ns na) pl_nil)
    pa_nil (star_ns rfl)) (by decide) (by decide) (star_ns rfl) pl_nil) fun σ H Q ⟨R, ads, O, env, S, x, S', F, ev, kk⟩ => ?_
  simp only [evE] at ev
  obtain ⟨wa, S1, ea, ev⟩ := bnd_inv ev
  obtain ⟨xa, e1, ev⟩ := ob_inv ev
  obtain ⟨z, e2, ev⟩ := ob_inv ev
  cases ev
  refine one F ea fun u H1 R1 a1 g1 F1 w1 => ?_
  have r := Full.puR w1 e1
  unfold srtD at e2
  split at e2
  · rename_i xs
    obtain ⟨l, vs, rfl, hl, t⟩ := (Vd.r r).lst F1.sub
    split at e2
    · rename_i ns e3
      obtain ⟨e4, e5⟩ := gd_inv e2
      cases e5
      rw [Bool.and_eq_true, decide_eq_true_eq, decide_eq_true_eq] at e4
      have := t.ints e3
      subst this
      refine .inl ⟨l, ns, rfl, hl, e4.2, fun p S n hp hS hn => .inl ⟨p, S, n, rfl, upd_same, ?_, fun ns' p' hs hmem _ hp' => ?_⟩⟩
      · rw [hn, ← (srtI_perm (ddp ns)).length_eq]; exact e4.1
      · have e6 : ns' = srtI (ddp ns) := by
          have nd : ns'.Nodup := hs.imp fun h => Int.ne_of_lt h
          refine perm_one leI_anti ?_ (hs.imp fun h => leI_iff.mpr (Int.le_of_lt h)) (srtI_srt _)
          exact (nd_perm nd (ddp_nd ns) fun j => by rw [hmem j, hS j, ddp_mem]).trans (srtI_perm _).symm
        rw [e6]
        obtain ⟨F2, g2⟩ := F1.garb (o := SetO X.w p S n) hp
        exact finLst (g1.trans g2) F2 kk .of_ints p' hp'
    · rename_i e3
      obtain ⟨ps, e4, e5⟩ := Option.bind_eq_some_iff.mp e2
      obtain ⟨e6, e7⟩ := gd_inv e5
      cases e7
      rw [Bool.and_eq_true, decide_eq_true_eq] at e6
      obtain ⟨h1, h2⟩ := t.pairs e4
      have bd : ∀ q ∈ ps, 0 ≤ q.1 ∧ q.1 < 64 ∧ 0 ≤ q.2 ∧ q.2 < 64 := fun q hq => by
        have := List.all_eq_true.mp e6.2 q hq
        simp only [Bool.and_eq_true, decide_eq_true_eq] at this
        omega
      have len : vs.length = ps.length := by rw [← h1, List.length_map]
      have kref : ∀ v ∈ vs, V.ref (keyPair R1 v).1 = v ∧ R1 (keyPair R1 v).1 = some (.tup [.int (pairAt R1 v).1, .int (pairAt R1 v).2]) := fun v hv => by
        obtain ⟨t, rfl, ht⟩ := h2 v hv
        exact ⟨rfl, ht⟩
      have e8 : (vs.map (keyPair R1)).map (fun p => V.ref p.1) = vs := by
        rw [List.map_map]
        conv => rhs; rw [← List.map_id vs]
        exact List.map_congr_left fun v hv => (kref v hv).1
      have kin : ∀ p ∈ vs.map (keyPair R1), ∃ v, v ∈ vs ∧ p = keyPair R1 v := fun p hp => by
        obtain ⟨v, hv, e⟩ := List.mem_map.mp hp
        exact ⟨v, hv, e.symm⟩
      refine .inr ⟨l, vs.map (keyPair R1), rfl, by rw [e8]; exact hl, fun p hp => ?_, by rw [List.length_map, len]; exact e6.1, fun p L hp hL1 hL2 => ?_⟩
      · obtain ⟨v, hv, rfl⟩ := kin p hp
        exact .of (F1.sub _ _ (kref v hv).2)
      · obtain ⟨F2, g2⟩ := F1.garb (o := SetTO X.prog X.w p L) hp
        have inv : ∀ q ∈ L, ∃ v, v ∈ vs ∧ q = keyPair R1 v := fun q hq => kin q (hL1 q hq)
        have pin : ∀ v ∈ vs, pairAt R1 v ∈ ps := fun v hv => by rw [← h1]; exact List.mem_map.mpr ⟨v, hv, rfl⟩
        refine .inr ⟨p, L, 2, 64, rfl, upd_same, fun q hq => ?_, by decide, fun q hq => ?_, fun L' p' pm nd h64 pw hp' => ?_⟩
        · obtain ⟨v, hv, rfl⟩ := inv q hq
          exact .of (F2.sub _ _ (kref v hv).2)
        · obtain ⟨v, hv, rfl⟩ := inv q hq
          refine ⟨rfl, fun m hm => ?_⟩
          have b := bd _ (pin v hv)
          rcases List.mem_cons.mp hm with rfl | hm
          · omega
          · rw [List.mem_singleton.mp hm]; omega
        · have inv' : ∀ q ∈ L', ∃ v, v ∈ vs ∧ q = keyPair R1 v := fun q hq => inv q (pm.mem_iff.mp hq)
          have hv3 : ∀ v ∈ L'.map (fun q => V.ref q.1), ∃ t, v = .ref t ∧ R1 t = some (.tup [.int (pairAt R1 v).1, .int (pairAt R1 v).2]) := fun v hv => by
            obtain ⟨q, hq, rfl⟩ := List.mem_map.mp hv
            obtain ⟨v2, hv2, rfl⟩ := inv' q hq
            show ∃ t, V.ref (keyPair R1 v2).1 = .ref t ∧ R1 t = some (.tup [.int (pairAt R1 (V.ref (keyPair R1 v2).1)).1, .int (pairAt R1 (V.ref (keyPair R1 v2).1)).2])
            rw [(kref v2 hv2).1]
            exact h2 v2 hv2
          have hq2 : ∀ q ∈ L', q.2 = [(pairAt R1 (V.ref q.1)).1, (pairAt R1 (V.ref q.1)).2] := fun q hq => by
            obtain ⟨v, hv, rfl⟩ := inv' q hq
            rw [(kref v hv).1]; rfl
          have e9 : (L'.map fun q => V.ref q.1).map (pairAt R1) = srtP (ddp ps) := by
            refine perm_one leP_anti ?_ ?_ (srtP_srt _)
            · refine (nd_perm ?_ (ddp_nd ps) fun z => ?_).trans (srtP_perm _).symm
              · rw [List.map_map]
                have : (L'.map (·.2)) = (L'.map (pairAt R1 ∘ fun q => V.ref q.1)).map fun z => [z.1, z.2] := by
                  rw [List.map_map]
                  exact List.map_congr_left hq2
                rw [this] at nd
                exact List.Pairwise.of_map (fun z : Int × Int => [z.1, z.2]) (fun a b hne e => hne (by rw [e])) nd
              · rw [ddp_mem, List.map_map]
                constructor
                · intro hz
                  obtain ⟨q, hq, rfl⟩ := List.mem_map.mp hz
                  obtain ⟨v, hv, rfl⟩ := inv' q hq
                  show pairAt R1 (V.ref (keyPair R1 v).1) ∈ ps
                  rw [(kref v hv).1]; exact pin v hv
                · intro hz
                  rw [← h1] at hz
                  obtain ⟨v, hv, rfl⟩ := List.mem_map.mp hz
                  have := hL2 (keyPair R1 v) (List.mem_map.mpr ⟨v, hv, rfl⟩)
                  obtain ⟨q, hq, e⟩ := List.mem_map.mp this
                  have hq' := pm.mem_iff.mpr hq
                  refine List.mem_map.mpr ⟨q, hq', ?_⟩
                  have e2 := hq2 q hq'
                  rw [e] at e2
                  have e3 : [(pairAt R1 v).1, (pairAt R1 v).2] = [(pairAt R1 (V.ref q.1)).1, (pairAt R1 (V.ref q.1)).2] := e2
                  injection e3 with e4 e5
                  injection e5 with e5 _
                  exact Prod.ext e4.symm e5.symm
            · rw [List.map_map, List.pairwise_map]
              refine pw.imp_of_mem fun {q r} hq hr h => ?_
              have e2 := hq2 q hq
              have e3 := hq2 r hr
              rw [e2, e3] at h
              have b1 : ∀ q ∈ L', 0 ≤ (pairAt R1 (V.ref q.1)).2 ∧ (pairAt R1 (V.ref q.1)).2 < 64 := fun q hq => by
                obtain ⟨v, hv, rfl⟩ := inv' q hq
                rw [(kref v hv).1]
                have := bd _ (pin v hv)
                omega
              exact leP_code h (b1 q hq) (b1 r hr)
          have t' := RpL.of_pairs (q := qX X cad) hv3
          rw [e9] at t'
          exact finLst (g1.trans g2) F2 kk t' p' hp'
  · cases e2
end
end VI
set_option Elab.async false
set_option linter.all false
set_option maxRecDepth 100000
/-! V14: calls of defs, methods, classes; a new box. -/
namespace VI
open PySem PySem.Spec L2 C8
open PyProof.Rows hiding St
/-- what a def promises: it does what F says -/
def spOf (q : Wd) (np : Nat) (F : List W → Sto → Option (W × Sto)) : Sp := fun vs H Q _ =>
  ∃ R ads S ws w S', Full q R H ads [] [] [] S ∧ WsR q R ads vs ws ∧ ws.length = np ∧ F ws S = some (w, S') ∧
    ∀ v H' R' ads', Grow R H ads R' H' ads' → Full q R' H' ads' [] [] [] S' → WR q R' ads' [] v w → Q v H'
theorem WsR.length {q : Wd} {R : Hp} {ads : List CA} : ∀ {vs : List V} {ws : List W}, WsR q R ads vs ws → vs.length = ws.length
  | _, _, .nil => rfl
  | _, _, .cons _ t => congrArg Nat.succ (WsR.length t)
theorem WR.out {q : Wd} {R : Hp} {ads : List CA} {σ : St} {v : V} {w : W} (h : WR q R ads [] v w) : WR q R ads σ v w := by
  cases h with
  | d h => exact .d h
  | c h => exact .c h
  | o h => simp at h
  | f h l => exact .f h l
section
variable {call : Nat → List W → Sto → Option (W × Sto)} {cls np : Nat → Nat}
section
variable {X : Cx} {k j : Nat} {cad : Nat → Addr}
variable {a b e o : Expr} {ca cb co c : C} {pos p apos : Pos} {es : List Expr} {cs : List C} {x m : Str} {f : Nat}
theorem evWs_len : ∀ {cs : List C} {env : Env} {S S' : Sto} {xs : List W}, evWs call cls cs env S = some (xs, S') → xs.length = cs.length
  | [], _, _, _, _, h => by
    simp only [evWs] at h
    cases h; rfl
  | c :: cs, _, _, _, _, h => by
    simp only [evWs] at h
    obtain ⟨wa, S1, ea, h⟩ := bnd_inv h
    obtain ⟨xa, e1, h⟩ := ob_inv h
    obtain ⟨ys, S2, e2, h⟩ := bnd_inv h
    cases h
    exact congrArg Nat.succ (evWs_len e2)
theorem s_fc (c : Cal X.prog X.w X.K X.mg X.base k x (spOf (qX X cad) (np f) (call f)) []) (hr : Room j X.A) (hk : k ≤ j) (hg : Gl X x) (ha : PA X (e :: es) (tW (qX X cad) call cls cs)) (hl : cs.length = np f)
    (hdb : (x == ("__debug__" : Str)) = false) (hs : (e :: es).all notStar = true) : PE X (.Call (.Name x p) (e :: es) [] pos) (tX X cad call cls (.fc f cs)) := by
  rw [List.all_cons, Bool.and_eq_true] at hs
  refine PE.weak (pe_c c hr hk hg ha hdb (star_ns hs.1) (star_any hs.2)) fun σ H Q ⟨R, ads, O, env, S, w, S', F, ev, kk⟩ => ?_
  simp only [evE] at ev
  obtain ⟨ws, S1, ea, ev⟩ := bnd_inv ev
  refine ⟨R, ads, O, env, S, ws, S1, F, ea, fun vs H1 R1 a1 g1 F1 t => ?_⟩
  show spOf _ _ _ (vs ++ []) H1 Q _
  rw [List.append_nil]
  exact ⟨R1, a1, S1, ws, w, S', F1.bare, t, (evWs_len ea).trans hl, ev, fun v H2 R2 a2 g2 F2 w2 => kk v H2 R2 a2 (g1.trans g2) (F1.back g2 F2) w2.out⟩
theorem StoR.geta {q : Wd} {R H : Hp} : ∀ {ads : List CA} {S : Sto} {i : Nat} {x : Cell}, StoR q R H ads S → S[i]? = some x → ∃ c, ads[i]? = some c ∧ CellR q R H c x
  | _, _, _, _, .nil, e => by simp at e
  | _, _, 0, _, .cons h _, e => by simp at e; subst e; exact ⟨_, rfl, h⟩
  | _, _, i + 1, _, .cons _ t, e => by
    obtain ⟨c, h1, h2⟩ := StoR.geta (i := i) t (by simpa using e)
    exact ⟨c, by simpa using h1, h2⟩
theorem FldR.none {q : Wd} {R H : Hp} {vf : List (Str × V)} {fs : List (Str × Bool × D)} {fl : List (Str × Addr)} {n : Str} (h : FldR q R H vf fs fl) (e : fs.lookup n = none) : vf.lookup n = none := by
  induction h with
  | nil => rfl
  | val hv ht ih =>
    rw [List.lookup_cons] at e ⊢
    split at e
    · cases e
    · rename_i hm
      exact ih e
  | own hv ht ih =>
    rw [List.lookup_cons] at e ⊢
    split at e
    · cases e
    · rename_i hm
      exact ih e
theorem mc_rd {C0 : Addr} (hC : C0 = cad (cls f)) {t : TA} {σ : St} {H : Hp} {Q : VK} (hl : cs.length + 1 = np f)
    (ht : ∀ σ H Q, tW (qX X cad) call cls cs σ H Q → t σ H Q) (h : tX X cad call cls (.mc f m co cs) σ H Q) : tMeth C0 m (spOf (qX X cad) (np f) (call f)) [] C8.E0 (tX X cad call cls co) t σ H Q := by
  obtain ⟨R, ads, O, env, S, w, S', F, ev, kk⟩ := h
  simp only [evE] at ev
  obtain ⟨wo, S1, eo, ev⟩ := bnd_inv ev
  cases wo <;> simp only [] at ev <;> try cases ev
  rename_i i
  split at ev
  · rename_i cl fs hS
    obtain ⟨hh, ev2⟩ := gd_inv ev
    clear ev
    rw [Bool.and_eq_true, decide_eq_true_eq] at hh
    obtain ⟨rfl, hm⟩ := hh
    obtain ⟨ws, S2, ea, ev⟩ := bnd_inv ev2
    refine one F eo fun u H1 R1 a1 g1 F1 w1 => ?_
    cases w1 with
    | @c _ cc hc =>
      have hcell := F1.sto.get hc hS
      cases hcell with
      | @ins ad dx _ vf _ fl hi hn hf =>
        refine ⟨_, dx, vf, rfl, by rw [hC]; exact hi, hf.none (by simpa using hm), ?_⟩
        refine ht _ _ _ ⟨R1, a1, O, env, S1, ws, S2, F1, ea, fun vs H2 R2 a2 g2 F2 t2 => ?_⟩
        show spOf _ _ _ (_ :: (vs ++ [])) H2 Q _
        rw [List.append_nil]
        refine ⟨R2, a2, S2, .c i :: ws, w, S', F2.bare, .cons (.out ((WR.c (σ := []) hc).grow g2 F1.sub)) t2, ?_, ev, fun v H3 R3 a3 g3 F3 w3 => kk v H3 R3 a3 ((g1.trans g2).trans g3) (F2.back g3 F3) w3.out⟩
        rw [List.length_cons, evWs_len ea, hl]
  · cases ev
theorem s_mc {C0 : Addr} {pl : Sem Bool} (c : Met X.prog X.w X.K X.mg X.base k C0 m (spOf (qX X cad) (np f) (call f)) []) (hC : C0 = cad (cls f)) (hr : Room j X.A) (hk : k ≤ j) (ho : PE X o (tX X cad call cls co)) (ha : PA X (e :: es) (tW (qX X cad) call cls cs)) (hl : cs.length + 1 = np f)
    (hs : (e :: es).all notStar = true) (ht : eval (.Call (.Attribute o m apos) (e :: es) [] pos) X.env = (do
      let ov ← eval o X.env
      standAt apos.atName
      let (f, first) ← holding [ov] (getMethod ov m pl)
      callWith pos f first (backTo pos (starEach (e :: es) X.env)) (backToKw pos (keywordEach [] X.env)))) : PE X (.Call (.Attribute o m apos) (e :: es) [] pos) (tX X cad call cls (.mc f m co cs)) := by
  rw [List.all_cons, Bool.and_eq_true] at hs
  exact PE.weak (pe_mt c hr hk ho ha (star_ns hs.1) (star_any hs.2) ht) fun σ H Q h => mc_rd hC hl (fun _ _ _ h => h) h
theorem s_mc0 {C0 : Addr} {pl : Sem Bool} (c : Met X.prog X.w X.K X.mg X.base k C0 m (spOf (qX X cad) (np f) (call f)) []) (hC : C0 = cad (cls f)) (hr : Room j X.A) (hk : k ≤ j) (ho : PE X o (tX X cad call cls co)) (hl : 1 = np f)
    (ht : eval (.Call (.Attribute o m apos) [] [] pos) X.env = (do
      let ov ← eval o X.env
      standAt apos.atName
      let (f, first) ← holding [ov] (getMethod ov m pl)
      callWith pos f first (backTo pos (starEach [] X.env)) (backToKw pos (keywordEach [] X.env)))) : PE X (.Call (.Attribute o m apos) [] [] pos) (tX X cad call cls (.mc f m co [])) := by
  refine PE.weak (pe_mt0 c hr hk ho ht) fun σ H Q h => mc_rd hC (by simpa using hl) (fun σ H Q ⟨R, ads, O, env, S, ws, S', F, ev, k⟩ => ?_) h
  simp only [evWs] at ev
  cases ev
  exact k _ _ _ _ (.refl _ _ _) F .nil
/-- a new cell at the end -/
theorem Full.alloc {q : Wd} {R H : Hp} {ads : List CA} {O : List Addr} {σ : St} {env : Env} {S : Sto} {ca : CA} {cell : Cell} (F : Full q R H ads O σ env S) (hc : CellR q R H ca cell) (nd : (ownC ca).Nodup) (ap : ∀ a, a ∈ ownC ca → a ∉ O ++ owns ads ∧ R a = none) : Full q R H (ads ++ [ca]) O σ env (S ++ [cell]) := by
  have hle : AdsLe ads (ads ++ [ca]) := ⟨fun i c e => by
    have hi : i < ads.length := (List.getElem?_eq_some_iff.mp e).1
    exact ⟨c, by rw [List.getElem?_append_left hi]; exact e, rfl, fun _ _ h => h⟩⟩
  have ho : owns (ads ++ [ca]) = owns ads ++ ownC ca := by simp [owns]
  refine ⟨F.sub, ?_, ?_, ?_, ?_⟩
  · have go : ∀ {σ : St} {env : Env} {O : List Addr}, EnvR q R H ads σ env O → EnvR q R H (ads ++ [ca]) σ env O := by
      intro σ env O h
      induction h with
      | nil => exact .nil
      | hole _ ih => exact .hole ih
      | slot s _ ih =>
        refine .slot ?_ ih
        cases s with
        | d h => exact .d h
        | c h =>
          obtain ⟨c', e, f, _⟩ := hle.le _ _ h
          rw [← f]; exact .c e
        | own h => exact .own h
    exact go F.env
  · have go : ∀ {ads : List CA} {S : Sto}, StoR q R H ads S → StoR q R H (ads ++ [ca]) (S ++ [cell]) := by
      intro ads S h
      induction h with
      | nil => exact .cons hc .nil
      | cons h _ ih => exact .cons h ih
    exact go F.sto
  · rw [ho, ← List.append_assoc]
    exact List.nodup_append.mpr ⟨F.nd, nd, fun a h b h' e => (ap b h').1 (e ▸ h)⟩
  · intro a h
    rw [ho, ← List.append_assoc] at h
    rcases List.mem_append.mp h with h | h
    · exact F.un a h
    · exact (ap a h).2
theorem owns_snoc (ads : List CA) (c : CA) : owns (ads ++ [c]) = owns ads ++ ownC c := by simp [owns]
theorem AdsLe.snoc (ads : List CA) (c : CA) : AdsLe ads (ads ++ [c]) := ⟨fun i d e => ⟨d, by rw [List.getElem?_append_left (List.getElem?_eq_some_iff.mp e).1]; exact e, rfl, fun _ _ h => h⟩⟩
theorem Full.Rnone {q : Wd} {R H : Hp} {ads : List CA} {O : List Addr} {σ : St} {env : Env} {S : Sto} (F : Full q R H ads O σ env S) {p : Addr} (h : H p = none) : R p = none := by
  cases z : R p with
  | none => rfl
  | some u => have := F.sub p u z; rw [h] at this; cases this
theorem Full.fresh {q : Wd} {R H : Hp} {ads : List CA} {O : List Addr} {σ : St} {env : Env} {S : Sto} (F : Full q R H ads O σ env S) {p : Addr} (h : H p = none) : p ∉ O ++ owns ads := fun z => by
  obtain ⟨o, e⟩ := F.dom p z
  rw [h] at e; cases e
theorem Grow.snoc {R H R' H' : Hp} {ads ads' : List CA} {c : CA} (g : Grow R H ads R' H' ads') (h : ∀ a, a ∈ ownC c → H a = none) : Grow R H ads R' H' (ads' ++ [c]) :=
  ⟨g.le.trans (.snoc _ _), g.rext, g.keep, g.dom, fun p hp => by
    rw [owns_snoc] at hp
    rcases List.mem_append.mp hp with hp | hp
    · exact g.own p hp
    · exact .inr (h p hp)⟩
theorem s_box {pos : Pos} (ha : PA X es (tA (qX X cad) call cls cs)) (hs : shortB cs.length = true) : PE X (.List es pos) (tX X cad call cls (.box cs)) := by
  refine PE.weak (pe_lst ha) fun σ H Q ⟨R, ads, O, env, S, x, S', F, ev, k⟩ => ?_
  simp only [evE] at ev
  obtain ⟨xs, S1, ea, ev⟩ := bnd_inv ev
  cases ev
  refine ⟨R, ads, O, env, S, xs, S1, F, ea, fun vs H1 R1 a1 g F1 t => ⟨?_, fun p hp => ?_⟩⟩
  · rw [t.length, evEs_len ea]
    exact short_ok hs
  · obtain ⟨F2, g2⟩ := F1.garb (o := .lst vs) hp
    have hn : H p = none := by
      cases z : H p with
      | none => rfl
      | some u => obtain ⟨o', e'⟩ := g.dom p u z; rw [hp] at e'; cases e'
    have F3 := F2.alloc (ca := ⟨p, []⟩) (cell := .own (.list xs)) (.own ⟨_, upd_same, .lst t⟩) (by simp [ownC]) fun a ha => by
      have e : a = p := by simpa [ownC] using ha
      subst e
      exact ⟨F1.fresh hp, F1.Rnone hp⟩
    refine k _ _ _ _ ((g.trans g2).snoc fun a ha => ?_) F3 ?_
    · have e : a = p := by simpa [ownC] using ha
      subst e; exact hn
    · refine WR.c (c := ⟨p, []⟩) ?_
      rw [← F1.sto.length, List.getElem?_append_right (Nat.le_refl _)]
      simp
theorem s_mk {C0 : Addr} (c : Mak X.prog X.w X.K X.mg X.base k x C0 (spOf (qX X cad) (np f) (call f)) []) (hC : C0 = cad (cls f)) (hr : Room j X.A) (hk : k + 1 ≤ j) (hg : Gl X x) (ha : PA X (e :: es) (tW (qX X cad) call cls cs)) (hl : cs.length + 1 = np f)
    (hdb : (x == ("__debug__" : Str)) = false) (hs : (e :: es).all notStar = true) : PE X (.Call (.Name x p) (e :: es) [] pos) (tX X cad call cls (.mk f cs)) := by
  rw [List.all_cons, Bool.and_eq_true] at hs
  refine PE.weak (pe_mk c hr hk hg ha hdb (star_ns hs.1) (star_any hs.2)) fun σ H Q ⟨R, ads, O, env, S, w, S', F, ev, kk⟩ => ?_
  simp only [evE] at ev
  obtain ⟨ws, S1, ea, ev⟩ := bnd_inv ev
  obtain ⟨w2, S2, e2, ev⟩ := bnd_inv ev
  split at ev
  · cases ev
    refine ⟨R, ads, O, env, S, ws, S1, F, ea, fun vs H1 R1 a1 g1 F1 t x dx hx hdx hne => ?_⟩
    show spOf _ _ _ (_ :: (vs ++ [])) _ _ _
    rw [List.append_nil]
    have hx2 : upd H1 dx (.own x) x = none := by rw [upd_ne (Ne.symm hne)]; exact hx
    obtain ⟨F2, g2⟩ := F1.garb (o := .own x) hdx
    obtain ⟨F3, g3⟩ := F2.garb (o := .ins C0 dx []) hx2
    have F4 := F3.alloc (ca := ⟨x, []⟩) (cell := .ins (cls f) []) (.ins (vf := []) (by rw [upd_same, hC]) List.nodup_nil .nil) (by simp [ownC]) fun a ha => by
      have e : a = x := by simpa [ownC] using ha
      subst e
      exact ⟨F1.fresh hx, F1.Rnone hx⟩
    have g4 : Grow R1 H1 a1 R1 _ (a1 ++ [⟨x, []⟩]) := (g2.trans g3).snoc fun a ha => by
      have e : a = x := by simpa [ownC] using ha
      subst e; exact hx
    have hcx : (a1 ++ [⟨x, []⟩])[S1.length]? = some ⟨x, []⟩ := by
      rw [← F1.sto.length, List.getElem?_append_right (Nat.le_refl _)]
      simp
    refine ⟨R1, a1 ++ [⟨x, []⟩], S1 ++ [.ins (cls f) []], .c S1.length :: ws, _, _, F4.bare, .cons (.c (c := ⟨x, []⟩) hcx) (t.grow g4 F1.sub), ?_, e2, fun v H5 R5 a5 g5 F5 w5 => ⟨?_, ?_⟩⟩
    · rw [List.length_cons, evWs_len ea, hl]
    · cases w5 with
      | d h => cases h; rfl
    · refine kk _ _ _ _ (g1.trans (g4.trans g5)) (F4.back g5 F5) ?_
      obtain ⟨c', e', f', _⟩ := g5.le.le _ _ hcx
      have : WR (qX X cad) R5 a5 σ (.ref c'.a) (.c S1.length) := .c e'
      rw [f'] at this
      exact this
  · cases ev
end
end
end VI
set_option Elab.async false
set_option linter.all false
set_option maxRecDepth 100000
/-! V15: what a for walks over: trees' items. -/
namespace VI
open PySem PySem.Spec L2 C8
open PyProof.Rows hiding St
section
open AutoSeq1 (wpAny_loadPart')
set_option maxHeartbeats 1000000 in
theorem enumNewT (t : Addr) (items : Array Value) (dct : Option Addr) (n : Nat) (sl : Array (Option Value)) :
    Meets (Builtin.«enumerate.__new__» ⟨[.type "enumerate", .ref t], []⟩) (fun _ Rk z => z.heap.get? t = some { cls := .type "tuple", dict := dct, data := .seq items n, slots := sl } ∧
      Rk (.ok (.ret (.ref (z.heap.push { cls := .type "tuple_iterator", data := .fields #[.ref t, .int 0 0] }).objs.size)))
        { z with heap := (z.heap.push { cls := .type "tuple_iterator", data := .fields #[.ref t, .int 0 0] }).push { cls := .type "enumerate", data := .fields #[.none, .bool false, .ref z.heap.objs.size, rawInt 0, .none, .none] } }) :=
  .of_wp fun prog w A Rk z hh => by
    obtain ⟨hp, g, d, tk, os⟩ := z; obtain ⟨ht, hh⟩ := hh
    have hsub := sub_enumerate
    have hT : Heap.IsTuple (Shared.heap ⟨hp, g, d, tk, os⟩) t items := ⟨_, ht, rfl, n, rfl⟩
    wp_walk using wpAny_loadPart' ht
    refine wpAny_stack_any fun st => wpAny_pure ?_
    split
    · rename_i c _ _ _ _ _
      cases (c == Value.type "enumerate")
      · wp_walk using wpAny_loadPart' ht, wpAny_pyIter_tuple hT
        exact ⟨_, rfl, hh⟩
      · wp_walk using wpAny_loadPart' ht, wpAny_pyIter_tuple hT
        exact ⟨_, rfl, hh⟩
    · wp_walk using wpAny_loadPart' ht, wpAny_pyIter_tuple hT
      exact ⟨_, rfl, hh⟩
end
section
variable {prog : Program} {w : World} {A : Around} {E : Value → Shared → Prop} {z : Shared}
theorem callEnumT {t : Addr} {items : Array Value} {Q : Value → Shared → Prop} (hT : z.heap.IsTuple t items)
    (k : ∀ g, IsEnum g (z.heap.objs.size + 1) z.heap.objs.size 0 .none → g.IsTupleIter z.heap.objs.size t 0 → g.objs.size = z.heap.objs.size + 2 →
      (∀ b u, z.heap.get? b = some u → g.get? b = some u) → Q (.ref (z.heap.objs.size + 1)) { z with heap := g }) :
    wpAny (model prog w) A (call (.type "enumerate") [.ref t]) Q E z := by
  obtain ⟨⟨c, dct, dt, sl⟩, ht, hc, n, hd⟩ := hT
  cases (show c = .type "tuple" from hc)
  cases (show dt = .seq items n from hd)
  refine callType_new F.called_enumerate (by decide) (F.typeCall_enumerate_1 _) (F.newCall_enumerate_1 _) (fun obj => F.args_object_init_2 obj _) F.entry_enumerate_new
    (enumNewT t items dct n sl) ⟨ht, ?_⟩
  have hz : (z.heap.push { cls := .type "tuple_iterator", data := .fields #[.ref t, .int 0 0] }).objs.size = z.heap.objs.size + 1 := Heap.size_push ..
  show _ ∧ _
  rw [hz]
  have he : IsEnum ((z.heap.push { cls := .type "tuple_iterator", data := .fields #[.ref t, .int 0 0] }).push
      { cls := .type "enumerate", data := .fields #[.none, .bool false, .ref z.heap.objs.size, rawInt 0, .none, .none] }) (z.heap.objs.size + 1) z.heap.objs.size 0 .none := by
    have e := Heap.get?_push_size (z.heap.push { cls := .type "tuple_iterator", data := .fields #[.ref t, .int 0 0] })
      (o := { cls := .type "enumerate", data := .fields #[.none, .bool false, .ref z.heap.objs.size, rawInt 0, .none, .none] }) rfl
    rw [hz] at e; exact e
  exact ⟨⟨_, he, rfl⟩, k _ he ⟨_, Heap.get?_push_of_some _ (Heap.get?_push_size _ rfl), rfl, rfl⟩ (by rw [Heap.size_push, hz]) fun b u x => Heap.get?_push_of_some _ (Heap.get?_push_of_some _ x)⟩
end
/-! ### items by their trees -/
def YD (q : Wd) (R : Hp) (xs : List D) : Nat → Hp → V → Hp → Prop := fun i H v H' => ∃ x, xs[i]? = some x ∧ ((H' = H ∧ Rp q R v x) ∨
  ∃ T a b y z, v = .ref T ∧ H T = none ∧ H' = upd H T (.tup [a, b]) ∧ x = .tuple [y, z] ∧ Rp q R a y ∧ Rp q R b z)
def JD (q : Wd) (R : Hp) (xs : List D) : L2.It := ⟨fun i H => i < xs.length ∧ Sub R H, YD q R xs, fun i H => i = xs.length ∧ Sub R H⟩
theorem walk_JD {q : Wd} {R : Hp} {xs : List D} : Walk (JD q R xs) xs.length (Sub R) (YD q R xs) := ⟨fun _ _ h g => ⟨h, g⟩, fun _ g => ⟨rfl, g⟩, fun _ _ _ _ _ _ y => y⟩
section
variable {X : Cx} {pins : List (Addr × Obj)} {σ : St} {H R : Hp} {s : Shared} {cad : Nat → Addr} {d : Addr} {ds : List (D × D)} {od : Obj}
def FzD (q : Wd) (R : Hp) (d : Addr) (od : Obj) (ds : List (D × D)) : Prop := (∃ kvs, R d = some (.frz od (.dK kvs)) ∧ RpK q R kvs ds) ∨ ∃ es, R d = some (.frz od (dNo q d es)) ∧ RpN q R es ds
theorem RpK.at {q : Wd} : ∀ {kvs : List (L2.Key × V)} {ds : List (D × D)} {i : Nat} {p : D × D}, RpK q R kvs ds → ds[i]? = some p → ∃ k v, kvs[i]? = some (k, v) ∧ p.1 = kD k ∧ Rp q R v p.2
  | _, _, _, _, .nil, e => by simp at e
  | _, _, 0, _, .cons h _, e => by simp at e; subst e; exact ⟨_, _, rfl, rfl, h⟩
  | _, _, i + 1, _, .cons _ t, e => by
    obtain ⟨k, v, h1, h2⟩ := RpK.at (i := i) t (by simpa using e)
    exact ⟨k, v, by simpa using h1, h2⟩
theorem RpN.at {q : Wd} : ∀ {kvs : NEs} {ds : List (D × D)} {i : Nat} {p : D × D}, RpN q R kvs ds → ds[i]? = some p → ∃ k b v, kvs[i]? = some (k, b, v) ∧ Rp q R (.ref b) p.1 ∧ Rp q R v p.2
  | _, _, _, _, .nil, e => by simp at e
  | _, _, 0, _, .cons _ h1 h2 _, e => by simp at e; subst e; exact ⟨_, _, _, rfl, h1, h2⟩
  | _, _, i + 1, _, .cons _ _ _ t, e => by
    obtain ⟨k, b, v, h1, h2⟩ := RpN.at (i := i) t (by simpa using e)
    exact ⟨k, b, v, by simpa using h1, h2⟩
theorem kD_kV {q : Wd} (k : L2.Key) : Rp q R (kV k) (kD k) := by
  cases k with
  | inl i => exact .int i
  | inr x => exact .str x
/-- a dict of R, as the heap has it -/
theorem FzD.ents (I : Inv X pins σ H s) (sb : Sub R H) (h : FzD (qX X cad) R d od ds) : (d == sysModules) = false ∧ ∃ es ep, od.data = .dict es ep ∧ s.heap.DictRaw d es ep ∧ es.size = ds.length ∧
    ∀ (i : Nat) (p : D × D), ds[i]? = some p → ∃ (hi : i < es.size) (kv xv : V), RelV kv es[i].key ∧ RelV xv es[i].val ∧ Rp (qX X cad) R kv p.1 ∧ Rp (qX X cad) R xv p.2 := by
  rcases h with ⟨kvs, h, r⟩ | ⟨es0, h, r⟩
  · obtain ⟨hs, hgd, hx, es, ep, vs, hdt, hsz, kv, hm⟩ := I.frzK (sb _ _ h)
    refine ⟨hs, es, ep, hdt, ⟨_, hgd, hx, hdt⟩, hsz.trans r.length, fun i p hp => ?_⟩
    obtain ⟨k, v, h1, h2, h3⟩ := r.at hp
    obtain ⟨u, hu, ru⟩ := kv_get kv h1
    have hi : i < es.size := by rw [hsz]; exact (List.getElem?_eq_some_iff.mp h1).1
    obtain ⟨o', es', g1, g2, g3, g4, g5, g6⟩ := hm
    rw [hgd] at g1; cases g1
    rw [hdt] at g3; cases g3
    obtain ⟨e1, e2⟩ := g5.get? (e := es[i]) (by simp [hi]) hu
    exact ⟨hi, kV k, v, relV_key e1, by rw [e2]; exact ru, by rw [h2]; exact kD_kV k, h3⟩
  · have hf := I.hok d _ (sb _ _ h)
    obtain ⟨hgd, z⟩ := hf
    obtain ⟨z0, hs, xs, rp, ⟨o, es, ep, e1, e2, e3, e4⟩, nd⟩ := dNo_ok I (.inr ⟨od, sb _ _ h⟩)
    rw [hgd] at e1; cases e1
    have hsz := size_of_entries e4
    have hl : es0.length = xs.length := Paired.length rp
    refine ⟨hs, es, ep, e3, ⟨_, hgd, e2, e3⟩, by rw [hsz, ← hl]; exact r.length, fun i p hp => ?_⟩
    obtain ⟨k, b, v, h1, h2, h3⟩ := r.at hp
    obtain ⟨x, hx, g1, g2, g3⟩ := paired_get rp h1
    have hi : i < es.size := by rw [hsz, ← hl]; exact (List.getElem?_eq_some_iff.mp h1).1
    have e := entry_at e4 i
    rw [Array.getElem?_eq_getElem hi, hx, Option.map_some] at e
    have e' := Option.some.inj e
    refine ⟨hi, .ref b, v, ?_, ?_, h2, h3⟩
    · rw [e']
      show Value.ref x.2.1 = Value.ref b
      rw [← g2]
    · rw [e']; exact g3
theorem FzD.of {q : Wd} {v : V} (h : Rp q R v (.dict ds)) : ∃ d od, v = .ref d ∧ FzD q R d od ds := by
  cases h with
  | dk h t => exact ⟨_, _, rfl, .inl ⟨_, h, t⟩⟩
  | dn h t => exact ⟨_, _, rfl, .inr ⟨_, h, t⟩⟩
end
section
variable {P : Program} {w : World} {K : PySem.W.Frag} {tg : Expr} {cad : Nat → Addr} {R : Hp} {d : Addr} {ds : List (D × D)} {od : Obj} {es : Array DictEntry} {ep : Nat}
theorem turn_kD (it : Addr) (fz : FzD ⟨P, w, K, cad⟩ R d od ds) (hod : od.data = .dict es ep) (hes : es.size = ds.length) : Turn P w K tg (JD ⟨P, w, K, cad⟩ R (ds.map (·.1))) [it] it (fun i h => h.IsKeyIter it d i es.size ep) where
  mem := by simp
  obj := fun i h st b hb => by
    obtain rfl : b = it := by simpa using hb
    obtain ⟨oi, e, c, dd⟩ := st
    exact ⟨oi, e, fun v z => by rw [dd] at z; cases z⟩
  keep := fun i h h' st k => st.at fun oi e => k it (by simp) oi e
  item := by
    intro X hP hw hK hc i pins s σ H E I hf st hg
    subst hP hw hK
    obtain ⟨hi, sb⟩ := hg
    obtain ⟨f0, f1, f2, f3, f4, f5⟩ := hf it (by simp)
    obtain ⟨hs, es', ep', e1, raw, e2, ent⟩ := FzD.ents I sb fz
    rw [hod] at e1; cases e1
    rw [List.length_map] at hi
    obtain ⟨hx, kv, xv, rk, rx, pk, px⟩ := ent i ds[i] (by simp [hi])
    refine wpAny_pyNext_keys_item_raw st raw hx fun h' st' sm => ?_
    have I1 : Inv X pins σ H { s with heap := h' } := I.turned (t' := s.toks) (fun b ob hb e => (sm.2 b hb).trans e) f0 f1 f3 f4 f5
    obtain ⟨oi, g1, g2, g3⟩ := id st'
    exact ⟨_, rfl, go_of (s := { s with heap := h' }) g1 g2 g3 (by decide) ⟨kv, H, I1, rk, ⟨ds[i].1, by simp [hi], .inl ⟨rfl, pk⟩⟩, st', fun b hb => (hf b hb).1⟩⟩
  done := by
    intro X hP hw hK hc i pins s σ H E I hf st hg
    subst hP hw hK
    obtain ⟨hi, sb⟩ := hg
    obtain ⟨f0, f1, f2, f3, f4, f5⟩ := hf it (by simp)
    obtain ⟨hs, es', ep', e1, raw, e2, ent⟩ := FzD.ents I sb fz
    rw [hod] at e1; cases e1
    rw [List.length_map] at hi
    exact wpAny_pyNext_keys_end_raw (I.ok.hd hc) st raw (by rw [hes]; exact Nat.le_of_eq hi.symm) fun h' eb => ⟨rfl, I.turned (t' := s.toks) (fun b ob hb e => eb b ob hb e) f0 f1 f3 f4 f5⟩
  self := fun _ _ _ _ _ st h => wpAny_pyIter_keyiter st h
theorem turn_iD {elts : List Expr} {kk : Nat} {tpos : Pos} (it : Addr) (fz : FzD ⟨P, w, K, cad⟩ R d od ds) (hod : od.data = .dict es ep) (hes : es.size = ds.length) :
    Turn P w K (.Tuple elts kk tpos) (JD ⟨P, w, K, cad⟩ R (ds.map fun p => .tuple [p.1, p.2])) [it] it (fun i h => ∃ ok ov, IsItemIter h it d i es.size ep ok ov) where
  mem := by simp
  obj := fun i h st b hb => by
    obtain rfl : b = it := by simpa using hb
    obtain ⟨ok, ov, e⟩ := st
    exact ⟨_, e, fun v z => nomatch z⟩
  keep := fun i h h' st k => let ⟨ok, ov, e⟩ := st; ⟨ok, ov, k it (by simp) _ e⟩
  item := by
    intro X hP hw hK hc i pins s σ H E I hf st hg
    subst hP hw hK
    obtain ⟨hi, sb⟩ := hg
    obtain ⟨hs, es', ep', e1, raw, e2, ent⟩ := FzD.ents I sb fz
    rw [hod] at e1; cases e1
    rw [List.length_map] at hi
    obtain ⟨hx, kv, xv, rk, rx, pk, px⟩ := ent i ds[i] (by simp [hi])
    obtain ⟨ok, ov, he⟩ := st
    have hlt : it < s.heap.objs.size := Heap.lt_size he
    refine wpAny_pyNext_items_item_raw he raw hx fun h' ho hT hz hk => ?_
    refine ⟨_, rfl, wpAny_letOwnedTupleGo_items (s := { s with heap := h' }) ho fun h'' he' sm => ?_⟩
    have hT2 := (sm.2 _ (Nat.ne_of_gt hlt)).trans hT
    have new : ObjOk X.prog X.w (upd H s.heap.objs.size (.tup [kv, xv])) h'' s.heap.objs.size (.tup [kv, xv]) :=
      ⟨by show 2 ≤ sizeLine; decide, [es[i].key, es[i].val], .cons rk (.cons rx .nil), ⟨_, hT2, rfl, _, rfl⟩⟩
    have I1 : Inv X pins σ (upd H s.heap.objs.size (.tup [kv, xv])) { s with heap := h'' } :=
      I.turnedNew (t' := s.toks) (ch := [it]) (fun b ob hb e => (sm.2 b (by simpa using hb)).trans (hk b ob (by simpa using hb) e)) hf (Nat.le_refl _) new
    refine ⟨.ref s.heap.objs.size, _, I1, rfl, ⟨.tuple [ds[i].1, ds[i].2], by simp [hi], .inr ⟨_, kv, xv, _, _, rfl, I.hok.fresh (Nat.le_refl _), rfl, rfl, pk, px⟩⟩, ⟨_, _, he'⟩, fun b hb => ?_⟩
    obtain rfl : b = it := by simpa using hb
    rw [upd_ne (Nat.ne_of_lt hlt)]
    exact (hf b (by simp)).1
  done := by
    intro X hP hw hK hc i pins s σ H E I hf st hg
    subst hP hw hK
    obtain ⟨hi, sb⟩ := hg
    obtain ⟨f0, f1, f2, f3, f4, f5⟩ := hf it (by simp)
    obtain ⟨hs, es', ep', e1, raw, e2, ent⟩ := FzD.ents I sb fz
    rw [hod] at e1; cases e1
    rw [List.length_map] at hi
    obtain ⟨ok, ov, he⟩ := st
    exact wpAny_pyNext_items_end_raw (I.ok.hd hc) he raw (by rw [hes]; exact Nat.le_of_eq hi.symm) fun h' eb => ⟨rfl, I.turned (t' := s.toks) (fun b ob hb e => eb b ob hb e) f0 f1 f3 f4 f5⟩
  self := fun _ _ _ _ _ st h => let ⟨_, _, e⟩ := st; wpAny_pyIter_itemiter e h
/-- enumerate over a tuple -/
theorem turn_eT {elts : List Expr} {kk : Nat} {tpos : Pos} (t e it : Addr) {vs : List V} {xs : List D} (ht : R t = some (.tup vs)) (r : RpL ⟨P, w, K, cad⟩ R vs xs) :
    Turn P w K (.Tuple elts kk tpos) (JD ⟨P, w, K, cad⟩ R (xs.zipIdx.map fun p => .tuple [.int (p.2 : Int), p.1])) [e, it] e (fun i h => (∃ old, IsEnum h e it ((i : Nat) : Int) old) ∧ h.IsTupleIter it t i ∧ e ≠ it) where
  mem := by simp
  obj := fun i h st b hb => by
    obtain ⟨⟨old, he⟩, ⟨o, ho, hc, hd⟩, _⟩ := st
    have e' : b = e ∨ b = it := by simpa using hb
    rcases e' with z | z
    · rw [z]; exact ⟨_, he, fun v y => nomatch y⟩
    · rw [z]; exact ⟨o, ho, fun v y => by rw [hd] at y; cases y⟩
  keep := fun i h h' st k => let ⟨⟨old, he⟩, hi, hne⟩ := st; ⟨⟨old, k e (by simp) _ he⟩, hi.at fun o y => k it (by simp) o y, hne⟩
  item := by
    intro X hP hw hK hc i pins s σ H E I hf st hg
    subst hP hw hK
    obtain ⟨⟨old, he⟩, hit, hne⟩ := st
    obtain ⟨hi, sb⟩ := hg
    have hi' : i < xs.length := by simpa using hi
    obtain ⟨x, hx, rx⟩ := r.get (i := i) (x := xs[i]) (by simp [hi'])
    have hq : SqT X.K H t vs := .inl (.inl (sb _ _ ht))
    obtain ⟨its, rv, p, hz⟩ := I.tuple hq
    obtain ⟨u, hu, ru⟩ := rv.get hx
    have hel : e < s.heap.objs.size := Heap.lt_size he
    have hil : it < s.heap.objs.size := by obtain ⟨_, y, _⟩ := hit; exact Heap.lt_size y
    have hti : t ≠ it := fun z => by
      have y := (hf it (by simp)).1
      rw [← z, sb _ _ ht] at y; cases y
    have hte : e ∉ [it, t] := fun z => by
      have z' : e = it ∨ e = t := by simpa using z
      rcases z' with z | z
      · exact hne z
      · have y := (hf e (by simp)).1
        rw [z, sb _ _ ht] at y; cases y
    have pt : s.heap.IsTuple t its.toArray := p
    refine wpAny_pyNext_enum_itemD (Draws.tuple (show X.A.in1.handled = none from I.ok.hd hc) it t hti its.toArray) he ⟨hit, pt⟩ ?_ hne hte fun xx h' tk hP ho st2 hT hsz hk => ?_
    · have hl := rv.length
      have hl2 := r.length
      rw [List.size_toArray]; omega
    have hxx : xx = u := by
      have e1 : its.toArray[i]? = some xx := hP
      have e2 : its.toArray[i]? = some u := by simpa using hu
      rw [e1] at e2; exact Option.some.inj e2
    subst hxx
    obtain ⟨hit', _⟩ := st2
    refine ⟨_, rfl, wpAny_letOwnedTupleGo_enum (s := { s with heap := h', toks := tk + 1 }) ho fun h'' he' sm => ?_⟩
    have hT2 := (sm.2 _ (Nat.ne_of_gt hel)).trans hT
    have new : ObjOk X.prog X.w (upd H s.heap.objs.size (.tup [.int (i : Nat), x])) h'' s.heap.objs.size (.tup [.int (i : Nat), x]) :=
      ⟨by show 2 ≤ sizeLine; decide, [.int i tk, xx], .cons ⟨_, rfl⟩ (.cons ru .nil), ⟨_, hT2, rfl, _, rfl⟩⟩
    have I1 : Inv X pins σ (upd H s.heap.objs.size (.tup [.int (i : Nat), x])) { s with heap := h'', toks := tk + 1 } :=
      I.turnedNew (ch := [e, it]) (fun b ob hb y => (sm.2 b (fun z => hb (by simp [z]))).trans (hk b ob (fun z => hb (by simp [z])) (fun z => hb (by simp [z])) y)) hf (Nat.le_refl _) new
    refine ⟨.ref s.heap.objs.size, _, I1, rfl, ⟨.tuple [.int (i : Int), xs[i]], by simp [hi'], .inr ⟨_, .int (i : Nat), x, _, _, rfl, I.hok.fresh (Nat.le_refl _), rfl, rfl, .int _, rx⟩⟩, ⟨⟨xx, ?_⟩, hit'.at fun o y => (sm.2 it (Ne.symm hne)).trans y, hne⟩, fun b hb => ?_⟩
    · have e1 : ((i + 1 : Nat) : Int) = (i : Int) + 1 := by omega
      rw [e1]; exact he'
    · have hb' : b < s.heap.objs.size := by
        have z' : b = e ∨ b = it := by simpa using hb
        rcases z' with z | z
        · rw [z]; exact hel
        · rw [z]; exact hil
      rw [upd_ne (Nat.ne_of_lt hb')]
      exact (hf b hb).1
  done := by
    intro X hP hw hK hc i pins s σ H E I hf st hg
    subst hP hw hK
    obtain ⟨⟨old, he⟩, hit, hne⟩ := st
    obtain ⟨hi, sb⟩ := hg
    have hq : SqT X.K H t vs := .inl (.inl (sb _ _ ht))
    obtain ⟨its, rv, p, hz⟩ := I.tuple hq
    obtain ⟨f0, f1, f2, f3, f4, f5⟩ := hf it (by simp)
    have hti : t ≠ it := fun z => by
      have y := (hf it (by simp)).1
      rw [← z, sb _ _ ht] at y; cases y
    have pt : s.heap.IsTuple t its.toArray := p
    have hl := rv.length
    have hl2 := r.length
    have hi' : i = its.toArray.size := by
      have hi' : i = xs.length := by simpa using hi
      rw [List.size_toArray]; omega
    subst hi'
    exact wpAny_pyNext_enum_endD (Draws.tuple (show X.A.in1.handled = none from I.ok.hd hc) it t hti its.toArray) he ⟨hit, pt⟩ fun h' eb => ⟨rfl, I.turned (t' := s.toks) (fun b ob hb y => eb b ob hb y) f0 f1 f3 f4 f5⟩
  self := fun _ _ _ _ _ st h => let ⟨⟨_, he⟩, _⟩ := st; wpAny_pyIter_enum he h
end
end VI
set_option Elab.async false
set_option linter.all false
set_option maxRecDepth 100000
/-! V16: iteration rules. -/
namespace VI
open PySem PySem.Spec L2 C8
open PyProof.Rows hiding St
section
variable {call : Nat → List W → Sto → Option (W × Sto)} {cls : Nat → Nat}
/-- an iteration comes: the items' trees -/
def tI (q : Wd) (call : Nat → List W → Sto → Option (W × Sto)) (cls : Nat → Nat) (it : VI.It) : TI := fun σ H Rk =>
  ∃ R ads O env S xs S', Full q R H ads O σ env S ∧ evIt call cls it env S = some (xs, S') ∧
    ∀ J H' R' ads', Grow R H ads R' H' ads' → Full q R' H' ads' O σ env S' → xs.length ≤ sizeLine → Walk J xs.length (Sub R') (YD q R' xs) → Rk J H'
theorem PI.weak {X : Cx} {tg e : Expr} {t t' : TI} (h : PI X tg e t) (k : ∀ σ H Q, t' σ H Q → t σ H Q) : PI X tg e t' := ⟨fun pins s σ H Q I w => h.run pins s σ H Q I (k σ H Q w)⟩
section
variable {X : Cx} {k : Nat} {cad : Nat → Addr}
variable {a e tg : Expr} {ca c : C} {pos p : Pos}
abbrev wX (X : Cx) (cad : Nat → Addr) (call : Nat → List W → Sto → Option (W × Sto)) (cls : Nat → Nat) (it : VI.It) : TI := tI (qX X cad) call cls it
def iSeq (K : PySem.W.Frag) (tl : TE) : TI := fun σ H Rk => tl σ H fun x H1 => (∃ a xs, x = .ref a ∧ SqL K H1 a xs ∧ (xs.length ≤ sizeLine → Rk (Itl K a) H1)) ∨ ∃ a xs, x = .ref a ∧ SqT K H1 a xs ∧ (xs.length ≤ sizeLine → Rk (Itt K a) H1)
theorem pi_seq {t : TE} (he : PE X e t) : PI X tg e (iSeq X.K t) := by
  refine ⟨fun pins s σ H Rk I w => thn (he.run pins s σ H _ I w) fun v s1 ⟨x, H1, I1, r1, q1⟩ => ?_⟩
  have fresh := fun b (hb : b ∈ [s1.heap.objs.size]) => (show FpOk X pins H1 b from by
    have z : b = s1.heap.objs.size := by simpa using hb
    rw [z]
    exact I1.fpOk (Nat.le_refl _) (I1.hok.fresh (Nat.le_refl _)))
  rcases q1 with ⟨a, xs, rfl, hq, q⟩ | ⟨a, xs, rfl, hq, q⟩
  · obtain ⟨its, rv, p, hz⟩ := I1.list hq
    cases r1
    exact wpAny_pyIter_list p.isList ⟨_, [_], _, _, H1, rfl, I1.kept (t' := s1.toks) fun b u y => Heap.get?_push_of_some _ y, turn_list a _, ⟨_, Heap.get?_push_size _ rfl, rfl, rfl⟩, fresh, q hz⟩
  · obtain ⟨its, rv, p, hz⟩ := I1.tuple hq
    cases r1
    exact wpAny_pyIter_tuple (show s1.heap.IsTuple a its.toArray from p) ⟨_, [_], _, _, H1, rfl, I1.kept (t' := s1.toks) fun b u y => Heap.get?_push_of_some _ y, turn_tuple a _, ⟨_, Heap.get?_push_size _ rfl, rfl, rfl⟩, fresh, q hz⟩
theorem yAt {q : Wd} {R : Hp} {vs : List V} {xs : List D} (r : RpL q R vs xs) {i : Nat} {H H' : Hp} {v : V} (y : YAt vs i H v H') : YD q R xs i H v H' := by
  obtain ⟨x, h1, h2⟩ := r.getV y.2
  exact ⟨x, h1, .inl ⟨y.1, h2⟩⟩
theorem i_seq (ha : PE X e (tX X cad call cls c)) : PI X tg e (wX X cad call cls (.seq c)) := by
  refine PI.weak (pi_seq ha) fun σ H Q ⟨R, ads, O, env, S, xs, S', F, ev, kk⟩ => ?_
  simp only [evIt] at ev
  obtain ⟨wa, S1, ea, ev⟩ := bnd_inv ev
  obtain ⟨xa, e1, ev⟩ := ob_inv ev
  obtain ⟨ys, e2, ev⟩ := ob_inv ev
  cases ev
  refine one F ea fun u H1 R1 a1 g1 F1 w1 => ?_
  have r := Full.puR w1 e1
  cases r with
  | @lst b vs zs h t =>
    cases e2
    refine .inl ⟨b, vs, rfl, F1.sub.sq h, fun hz => kk _ _ _ _ g1 F1 (by rw [← t.length]; exact hz) ?_⟩
    rw [← t.length]
    exact walk_list.mono (fun H s => s.sq h) fun i H x H' _ _ y => yAt t y
  | @tup b vs zs h t =>
    cases e2
    refine .inr ⟨b, vs, rfl, .inl (.inl (F1.sub _ _ h)), fun hz => kk _ _ _ _ g1 F1 (by rw [← t.length]; exact hz) ?_⟩
    rw [← t.length]
    exact walk_tup.mono (fun H s => .inl (.inl (s _ _ h))) fun i H x H' _ _ y => yAt t y
  | _ => cases e2
theorem i_rng (ha : PE X a (tX X cad call cls c)) (na : notStar a = true) (hg : Gl X "range") (hm : X.mg "range" = none) : PI X tg (.Call (.Name "range" p) [a] [] pos) (wX X cad call cls (.rng c)) := by
  refine PI.weak (pi_range1 hg hm (one_arg ha na) (star_ns na)) fun σ H Q ⟨R, ads, O, env, S, xs, S', F, ev, kk⟩ => ?_
  simp only [evIt] at ev
  obtain ⟨wa, S1, ea, ev⟩ := bnd_inv ev
  obtain ⟨xa, e1, ev⟩ := ob_inv ev
  obtain ⟨ys, e2, ev⟩ := ob_inv ev
  cases ev
  obtain ⟨n, rfl, h1, h2, rfl⟩ := itemsOf1 e2
  refine one F ea fun u H1 R1 a1 g1 F1 w1 => ?_
  have r := Full.puR w1 e1
  cases r
  refine ⟨n, rfl, h2, by omega, kk _ _ _ _ g1 F1 ?_ ?_⟩
  · rw [List.length_map, List.length_range, sizeLine_eq]; omega
  · rw [List.length_map, List.length_range]
    refine walk_range.mono (fun H s => trivial) fun i H x H' hi _ y => ?_
    obtain ⟨y1, y2⟩ := y
    refine ⟨.int i, by simp [hi], .inl ⟨y1, ?_⟩⟩
    rw [y2]
    show Rp _ _ (V.int (0 + (i : Int))) _
    rw [Int.zero_add]; exact .int _
/-- a dict's keys, by the dict -/
def iKD (q : Wd) (tl : TE) : TI := fun σ H Rk => tl σ H fun x H1 => ∃ R d od ds, x = .ref d ∧ Sub R H1 ∧ FzD q R d od ds ∧ (ds.length ≤ sizeLine → Rk (JD q R (ds.map (·.1))) H1)
def iID (q : Wd) (tl : TE) : TI := fun σ H Rk => tl σ H fun x H1 => ∃ R d od ds, x = .ref d ∧ Sub R H1 ∧ FzD q R d od ds ∧ (ds.length ≤ sizeLine → Rk (JD q R (ds.map fun p => .tuple [p.1, p.2])) H1)
theorem FzD.sz {pins : List (Addr × Obj)} {σ : St} {H R : Hp} {s : Shared} {d : Addr} {od : Obj} {ds : List (D × D)} (I : L2.Inv X pins σ H s) (sb : Sub R H) (h : FzD (qX X cad) R d od ds) : ds.length ≤ sizeLine := by
  rcases h with ⟨kvs, h, r⟩ | ⟨es0, h, r⟩
  · obtain ⟨_, z, _⟩ := I.hok d _ (sb _ _ h)
    rw [← r.length]; exact z
  · obtain ⟨z, _⟩ := dNo_ok I (.inr ⟨od, sb _ _ h⟩)
    rw [← r.length]; exact z
theorem pi_kD {t : TE} (he : PE X e t) : PI X tg e (iKD (qX X cad) t) := by
  refine ⟨fun pins s σ H Rk I w => thn (he.run pins s σ H _ I w) fun v s1 ⟨x, H1, I1, r1, R, d, od, ds, ex, sb, fz, q⟩ => ?_⟩
  subst ex
  obtain rfl : v = Value.ref d := r1
  obtain ⟨hs, es, ep, e1, raw, e2, _⟩ := FzD.ents I1 sb fz
  exact wpAny_pyIter_dict_raw hs raw (pi_one (tk := s1.toks) I1 _ (turn_kD (cad := cad) _ fz e1 e2) ⟨_, Heap.get?_push_size _ rfl, rfl, rfl⟩ (q (fz.sz I1 sb)))
theorem pi_iD {t : TE} {elts : List Expr} {kk : Nat} {tpos apos cpos : Pos} (he : PE X e t) (hb : attributeBase e "items" X.env (eval e X.env) = eval e X.env) (hline : (apos.endLine == cpos.line) = true) :
    PI X (.Tuple elts kk tpos) (.Call (.Attribute e "items" apos) [] [] cpos) (iID (qX X cad) t) := by
  refine ⟨fun pins s σ H Rk I w => ?_⟩
  refine wpAny_Call_method (T := "dict") (id := "dict.items") hb rfl hline PySem.F.plainAttrs_dict PySem.F.slot_dict_items PySem.F.type_dict_items (thn (he.run pins s σ H _ I w) fun v s1 ⟨x, H1, I1, r1, R, d, od, ds, ex, sb, fz, q⟩ => ?_)
  subst ex
  obtain rfl : v = Value.ref d := r1
  obtain ⟨hs, es, ep, e1, raw, e2, _⟩ := FzD.ents I1 sb fz
  obtain ⟨o, g1, g2, g3⟩ := id raw
  refine ⟨raw.typeIs, fun b y => by cases y; exact ⟨o, g1, g2.2.1⟩, ?_⟩
  have I2 : L2.Inv X pins σ H1 { s1 with heap := s1.heap.push { cls := .type "dict_items", data := .fields #[.ref d] } } := I1.kept (t' := s1.toks) fun b ob y => Heap.get?_push_of_some _ y
  have fin : wpAny (model X.prog X.w) X.A (pyIter (.ref s1.heap.objs.size)) (PIE X pins σ (.Tuple elts kk tpos) Rk) X.xe { s1 with heap := s1.heap.push { cls := .type "dict_items", data := .fields #[.ref d] } } :=
    wpAny_pyIter_items_raw (d := d) ⟨_, Heap.get?_push_size _ rfl, rfl, rfl⟩ (raw.at fun u y => Heap.get?_push_of_some _ y) (pi_one (tk := s1.toks) I2 _ (turn_iD (cad := cad) _ fz e1 e2) ⟨.none, .none, Heap.get?_push_size _ rfl⟩ (q (fz.sz I1 sb)))
  show wpAny _ _ (callWith cpos (.builtin "dict.items") [.ref d] [] []) _ X.xe s1
  exact method_meetsIn PySem.F.slot_dict_items PySem.F.entry_dict_items rfl (PySem.evalArgs_none ⟨rfl, raw.typeIs, PySem.F.args_dict_items_1 _, _, meets_dict_items_raw d hs, ⟨es, ep, raw⟩, fin⟩)
theorem i_keys (ha : PE X e (tX X cad call cls c)) : PI X tg e (wX X cad call cls (.keys c)) := by
  refine PI.weak (pi_kD (cad := cad) ha) fun σ H Q ⟨R, ads, O, env, S, xs, S', F, ev, kk⟩ => ?_
  simp only [evIt] at ev
  obtain ⟨wa, S1, ea, ev⟩ := bnd_inv ev
  obtain ⟨xa, e1, ev⟩ := ob_inv ev
  obtain ⟨ys, e2, ev⟩ := ob_inv ev
  cases ev
  refine one F ea fun u H1 R1 a1 g1 F1 w1 => ?_
  have r := Full.puR w1 e1
  cases xa <;> try (cases e2; done)
  cases e2
  obtain ⟨d, od, rfl, fz⟩ := FzD.of r
  exact ⟨R1, d, od, _, rfl, F1.sub, fz, fun hz => kk _ _ _ _ g1 F1 (by rw [List.length_map]; exact hz) walk_JD⟩
theorem i_items {elts : List Expr} {kk : Nat} {tpos apos cpos : Pos} (ha : PE X e (tX X cad call cls c)) (hb : attributeBase e "items" X.env (eval e X.env) = eval e X.env) (hline : (apos.endLine == cpos.line) = true) :
    PI X (.Tuple elts kk tpos) (.Call (.Attribute e "items" apos) [] [] cpos) (wX X cad call cls (.items c)) := by
  refine PI.weak (pi_iD (cad := cad) ha hb hline) fun σ H Q ⟨R, ads, O, env, S, xs, S', F, ev, kk⟩ => ?_
  simp only [evIt] at ev
  obtain ⟨wa, S1, ea, ev⟩ := bnd_inv ev
  obtain ⟨xa, e1, ev⟩ := ob_inv ev
  obtain ⟨ys, e2, ev⟩ := ob_inv ev
  cases ev
  refine one F ea fun u H1 R1 a1 g1 F1 w1 => ?_
  have r := Full.puR w1 e1
  cases xa <;> try (cases e2; done)
  cases e2
  obtain ⟨d, od, rfl, fz⟩ := FzD.of r
  exact ⟨R1, d, od, _, rfl, F1.sub, fz, fun hz => kk _ _ _ _ g1 F1 (by rw [List.length_map]; exact hz) walk_JD⟩
def iET (q : Wd) (t : TA) : TI := fun σ H Rk => t σ H fun vs H1 => ∃ R b us xs, vs = [.ref b] ∧ Sub R H1 ∧ R b = some (.tup us) ∧ RpL q R us xs ∧ (us.length ≤ sizeLine → Rk (JD q R (xs.zipIdx.map fun p => .tuple [.int (p.2 : Int), p.1])) H1)
theorem pi_eT {t : TA} {elts : List Expr} {kk : Nat} {tpos : Pos} (hg : Gl X "enumerate") (hm : X.mg "enumerate" = none) (ha : PA X [a] t) (na : notStar a = true) : PI X (.Tuple elts kk tpos) (.Call (.Name "enumerate" p) [a] [] pos) (iET (qX X cad) t) := by
  refine ⟨fun pins s σ H Rk I w => ?_⟩
  refine wpAny_Call_Name_kw (ld_blt I hg hm (show bootBuiltins "enumerate" = some (.type "enumerate") by decide +kernel) (callWith_type1 (thn (ha.run pos pins s σ H _ I w) fun us s1 ⟨vs, H1, I1, r1, R, b, ws, xs, ev, sb, hb, t, q⟩ => ?_) (star_ns na) rfl))
  subst ev
  cases r1 with
  | cons r rr =>
    cases rr
    cases r
    have hq : SqT X.K H1 b ws := .inl (.inl (sb _ _ hb))
    obtain ⟨its, rv, p', hz⟩ := I1.tuple hq
    refine callEnumT (show s1.heap.IsTuple b its.toArray from p') fun h' he hit hsz hk => wpAny_pyIter_enum he ?_
    have I2 : L2.Inv X pins σ H1 { s1 with heap := h' } := I1.kept (t' := s1.toks) hk
    refine ⟨s1.heap.objs.size + 1, [s1.heap.objs.size + 1, s1.heap.objs.size], _, _, H1, rfl, I2, turn_eT (cad := cad) b (s1.heap.objs.size + 1) s1.heap.objs.size hb t, ⟨⟨.none, he⟩, hit, Nat.succ_ne_self _⟩, fun y hy => ?_, q hz⟩
    have z : s1.heap.objs.size ≤ y := by
      rcases (show y = s1.heap.objs.size + 1 ∨ y = s1.heap.objs.size by simpa using hy) with z | z
      · rw [z]; exact Nat.le_add_right _ _
      · rw [z]; exact Nat.le_refl _
    exact I1.fpOk z (I1.hok.fresh z)
theorem i_enum {elts : List Expr} {kk : Nat} {tpos : Pos} (ha : PE X a (tX X cad call cls c)) (na : notStar a = true) (hg : Gl X "enumerate") (hm : X.mg "enumerate" = none) : PI X (.Tuple elts kk tpos) (.Call (.Name "enumerate" p) [a] [] pos) (wX X cad call cls (.enum c)) := by
  refine PI.weak (pi_eT (cad := cad) hg hm (one_arg ha na) na) fun σ H Q ⟨R, ads, O, env, S, xs, S', F, ev, kk⟩ => ?_
  simp only [evIt] at ev
  obtain ⟨wa, S1, ea, ev⟩ := bnd_inv ev
  obtain ⟨xa, e1, ev⟩ := ob_inv ev
  obtain ⟨ys, e2, ev⟩ := ob_inv ev
  cases ev
  refine one F ea fun u H1 R1 a1 g1 F1 w1 => ?_
  have r := Full.puR w1 e1
  cases r with
  | @tup b vs zs h t =>
    cases e2
    exact ⟨R1, b, vs, zs, rfl, F1.sub, h, t, fun hz => kk _ _ _ _ g1 F1 (by rw [List.length_map, List.length_zipIdx, ← t.length]; exact hz) walk_JD⟩
  | _ => cases e2
end
end
end VI
set_option Elab.async false
set_option linter.all false
set_option maxRecDepth 100000
/-! V17: slots set and forgotten; targets. -/
namespace VI
open PySem PySem.Spec L2 C8
open PyProof.Rows hiding St
section
variable {q : Wd} {R R' H H' : Hp} {ads : List CA} {O : List Addr} {σ : St} {env : Env} {S : Sto}
def SO (q : Wd) (R H : Hp) (ads : List CA) (v : Option V) (e : Option Sl) (N : List Addr) : Prop := (e = none ∧ N = []) ∨ ∃ v0 s, v = some v0 ∧ e = some s ∧ SlR q R H ads v0 s N
theorem EnvR.len : ∀ {σ : St} {env : Env} {O : List Addr}, EnvR q R H ads σ env O → σ.length = env.length
  | _, _, _, .nil => rfl
  | _, _, _, .hole t => congrArg Nat.succ (EnvR.len t)
  | _, _, _, .slot _ t => congrArg Nat.succ (EnvR.len t)
theorem EnvR.mk {v : Option V} {e : Option Sl} {N O : List Addr} {σ : St} {env : Env} (h : SO q R H ads v e N) (t : EnvR q R H ads σ env O) : EnvR q R H ads (v :: σ) (e :: env) (N ++ O) := by
  rcases h with ⟨rfl, rfl⟩ | ⟨v0, s, rfl, rfl, h⟩
  · exact .hole t
  · exact .slot h t
theorem EnvR.cut : ∀ {σ : St} {env : Env} {O : List Addr} {i : Nat}, EnvR q R H ads σ env O → i < σ.length → ∃ A B C, O = A ++ (B ++ C) ∧ (∃ v e, σ[i]? = some v ∧ env[i]? = some e ∧ SO q R H ads v e B) ∧ ∀ v e N, SO q R H ads v e N → EnvR q R H ads (σ.set i v) (env.set i e) (A ++ (N ++ C))
  | _, _, _, _, .nil, h => by simp at h
  | _, _, O, 0, .hole (v := v) t, _ => ⟨[], [], O, rfl, ⟨v, none, rfl, rfl, .inl ⟨rfl, rfl⟩⟩, fun v e N h => EnvR.mk (N := N) h t⟩
  | _, _, _, 0, .slot (O1 := B) (O2 := C) (v := v) (x := x) s t, _ => ⟨[], B, C, rfl, ⟨some v, some x, rfl, rfl, .inr ⟨v, x, rfl, rfl, s⟩⟩, fun v e N h => EnvR.mk (N := N) h t⟩
  | _, _, _, i + 1, .hole t, h => by
    obtain ⟨A, B, C, e, ⟨v, e', h1, h2, h3⟩, k⟩ := EnvR.cut (i := i) t (by simpa using h)
    exact ⟨A, B, C, e, ⟨v, e', by simpa using h1, by simpa using h2, h3⟩, fun v e N h => .hole (k v e N h)⟩
  | _, _, _, i + 1, .slot (O1 := O1) s t, h => by
    obtain ⟨A, B, C, e, ⟨v, e', h1, h2, h3⟩, k⟩ := EnvR.cut (i := i) t (by simpa using h)
    refine ⟨O1 ++ A, B, C, by rw [e, List.append_assoc], ⟨v, e', by simpa using h1, by simpa using h2, h3⟩, fun v e N h => ?_⟩
    rw [List.append_assoc]
    exact .slot s (k v e N h)
/-- a slot set -/
theorem Full.slot {i : Nat} {v : Option V} {e : Option Sl} {N : List Addr} (F : Full q R H ads O σ env S) (h : SO q R H ads v e N) (nd : N.Nodup) (hN : ∀ a, a ∈ N → a ∉ O ∧ a ∉ owns ads ∧ R a = none) :
    ∃ O', (∀ a, a ∈ O' → a ∈ O ∨ a ∈ N) ∧ Full q R H ads O' (σ.set i v) (env.set i e) S := by
  by_cases hi : i < σ.length
  · obtain ⟨A, B, C, e1, _, k⟩ := F.env.cut hi
    have sub : ∀ a, a ∈ A ++ (N ++ C) → a ∈ O ∨ a ∈ N := fun a ha => by
      rw [e1]
      simp only [List.mem_append] at ha ⊢
      rcases ha with h | h | h
      · exact .inl (.inl h)
      · exact .inr h
      · exact .inl (.inr (.inr h))
    refine ⟨A ++ (N ++ C), sub, ⟨F.sub, k v e N h, F.sto, ?_, fun a ha => ?_⟩⟩
    · have n1 := F.nd
      rw [e1] at n1
      have hA : ∀ a, a ∈ A → a ∉ N := fun a ha hn => (hN a hn).1 (by rw [e1]; simp [ha])
      have hC : ∀ a, a ∈ N → a ∉ C := fun a hn hc => (hN a hn).1 (by rw [e1]; simp [hc])
      simp only [List.nodup_append, List.mem_append] at n1 ⊢
      obtain ⟨⟨nA, ⟨nB, nC, _⟩, hABC⟩, nw, hw⟩ := n1
      refine ⟨⟨nA, ⟨nd, nC, fun a ha b hb e => hC a ha (e ▸ hb)⟩, fun a ha b hb e => ?_⟩, nw, fun a ha b hb e => ?_⟩
      · rcases hb with hb | hb
        · exact hA a ha (e ▸ hb)
        · exact hABC a ha b (.inr hb) e
      · rcases ha with ha | ha | ha
        · exact hw a (.inl ha) b hb e
        · exact (hN a ha).2.1 (e ▸ hb)
        · exact hw a (.inr (.inr ha)) b hb e
    · rcases List.mem_append.mp ha with ha | ha
      · rcases sub a ha with h | h
        · exact F.un a (List.mem_append_left _ h)
        · exact (hN a h).2.2
      · exact F.un a (List.mem_append_right _ ha)
  · refine ⟨O, fun a h => .inl h, ?_⟩
    rw [List.set_eq_of_length_le (by omega), List.set_eq_of_length_le (by rw [← F.env.len]; omega)]
    exact F
theorem Full.put {i : Nat} {v : V} {x : Sl} (F : Full q R H ads O σ env S) (h : SlR q R H ads v x []) : ∃ O', (∀ a, a ∈ O' → a ∈ O) ∧ Full q R H ads O' (σ.set i (some v)) (env.set i (some x)) S := by
  obtain ⟨O', h1, h2⟩ := F.slot (i := i) (v := some v) (e := some x) (N := []) (.inr ⟨v, x, rfl, rfl, h⟩) List.nodup_nil (fun a h => nomatch h)
  exact ⟨O', fun a h => (h1 a h).elim id (fun z => nomatch z), h2⟩
theorem Full.wipe : ∀ (vs : List Nat), Full q R H ads O σ env S → ∃ O', (∀ a, a ∈ O' → a ∈ O) ∧ Full q R H ads O' (L2.wipe σ vs) (wipeE env vs) S
  | [], F => ⟨O, fun a h => h, F⟩
  | v :: vs, F => by
    obtain ⟨O1, h1, F1⟩ := Full.wipe vs F
    obtain ⟨O2, h2, F2⟩ := F1.slot (i := v) (v := none) (e := none) (N := []) (.inl ⟨rfl, rfl⟩) List.nodup_nil (fun a h => nomatch h)
    exact ⟨O2, fun a h => h1 a ((h2 a h).elim id fun z => nomatch z), F2⟩
theorem set_set_comm {α : Type} {l : List α} {i j : Nat} {a b : α} (h : i ≠ j) : (l.set i a).set j b = (l.set j b).set i a := List.set_comm a b h
theorem wipe_set {i : Nat} {v : Option V} : ∀ {vs : List Nat} {σ : St}, i ∈ vs → wipe (σ.set i v) vs = wipe σ vs
  | [], _, h => by cases h
  | u :: vs, σ, h => by
    unfold wipe
    by_cases e : i = u
    · subst e
      by_cases hm : i ∈ vs
      · rw [wipe_set hm]
      · have go : ∀ {vs : List Nat} {σ : St}, i ∉ vs → wipe (σ.set i v) vs = (wipe σ vs).set i v := by
          intro vs
          induction vs with
          | nil => intro σ _; rfl
          | cons w vs ih =>
            intro σ hn
            simp only [List.mem_cons, not_or] at hn
            show (wipe (σ.set i v) vs).set w none = ((wipe σ vs).set w none).set i v
            rw [ih hn.2, set_set_comm hn.1]
        rw [go hm, List.set_set]
    · have hm : i ∈ vs := (List.mem_cons.mp h).resolve_left e
      rw [wipe_set hm]
theorem wipe_wipe : ∀ (vs us : List Nat) (σ : St), (∀ i, i ∈ us → i ∈ vs) → wipe (wipe σ us) vs = wipe σ vs
  | _, [], _, _ => rfl
  | vs, u :: us, σ, h => by
    show wipe ((wipe σ us).set u none) vs = wipe σ vs
    rw [wipe_set (h u (List.mem_cons_self ..)), wipe_wipe vs us σ fun i hi => h i (List.mem_cons_of_mem _ hi)]
/-! ### targets -/
mutual
def gT (K : PySem.W.Frag) : Tg → TG
  | .nm i => gName i
  | .tp ts => gTup K ts.length (gTs K ts)
def gTs (K : PySem.W.Frag) : List Tg → TGs
  | [] => gNil
  | t :: ts => gCons (gT K t) (gTs K ts)
end
mutual
theorem tg_ok {K : PySem.W.Frag} {vs : List Nat} : ∀ (t : Tg) {σ : St} {env env' : Env} {O : List Addr} {v : V} {x : D} {Q : St → Hp → Prop}, Full q R H ads O σ env S → Rp q R v x → bindTg t x env = some env' → (∀ i, i ∈ tgSlots t → i ∈ vs) →
    (∀ σ' O', (∀ a, a ∈ O' → a ∈ O) → Full q R H ads O' σ' env' S → L2.wipe σ' vs = L2.wipe σ vs → Q σ' H) → gT K t v σ H Q
  | .nm i, σ, env, env', O, v, x, Q, F, r, e, hv, k => by
    have e' : some (env.set i (some (.d x))) = some env' := by simpa only [bindTg] using e
    cases e'
    obtain ⟨O', h1, F1⟩ := F.put (i := i) (.d r)
    show Q (σ.set i (some v)) H
    exact k _ O' h1 F1 (wipe_set (hv i (by simp [tgSlots])))
  | .tp ts, σ, env, env', O, v, x, Q, F, r, e, hv, k => by
    cases r with
    | @tup b us xs hb t =>
      have e' : bindTgs ts xs env = some env' := by simpa only [bindTg] using e
      refine ⟨b, us, rfl, .inl (.inl (F.sub _ _ hb)), ?_, tgs_ok ts F t e' hv k⟩
      rw [t.length]
      exact (bindTgs_len e').symm
    | _ => simp only [bindTg] at e; cases e
theorem tgs_ok {K : PySem.W.Frag} {vs : List Nat} : ∀ (ts : List Tg) {σ : St} {env env' : Env} {O : List Addr} {us : List V} {xs : List D} {Q : St → Hp → Prop}, Full q R H ads O σ env S → RpL q R us xs → bindTgs ts xs env = some env' → (∀ i, i ∈ tgsSlots ts → i ∈ vs) →
    (∀ σ' O', (∀ a, a ∈ O' → a ∈ O) → Full q R H ads O' σ' env' S → L2.wipe σ' vs = L2.wipe σ vs → Q σ' H) → gTs K ts us σ H Q
  | [], σ, env, env', O, us, xs, Q, F, r, e, hv, k => by
    cases r with
    | nil =>
      have e' : some env = some env' := by simpa only [bindTgs] using e
      cases e'
      exact ⟨rfl, k σ O (fun a h => h) F rfl⟩
    | cons => simp only [bindTgs] at e; cases e
  | t :: ts, σ, env, env', O, us, xs, Q, F, r, e, hv, k => by
    cases r with
    | nil => simp only [bindTgs] at e; cases e
    | @cons v x vs' xs h r =>
      have e' : (ob (bindTg t x env) fun env1 => bindTgs ts xs env1) = some env' := by simpa only [bindTgs] using e
      obtain ⟨env1, e1, e2⟩ := ob_inv e'
      refine ⟨v, vs', rfl, tg_ok t F h e1 (fun i hi => hv i (by simp [tgsSlots, hi])) fun σ' O' s1 F1 w1 => ?_⟩
      exact tgs_ok ts F1 r e2 (fun i hi => hv i (by simp [tgsSlots, hi])) fun σ2 O2 s2 F2 w2 => k σ2 O2 (fun a h => s1 a (s2 a h)) F2 (w2.trans w1)
theorem bindTgs_len : ∀ {ts : List Tg} {xs : List D} {env env' : Env}, bindTgs ts xs env = some env' → ts.length = xs.length
  | [], [], _, _, _ => rfl
  | [], _ :: _, _, _, e => by simp only [bindTgs] at e; cases e
  | _ :: _, [], _, _, e => by simp only [bindTgs] at e; cases e
  | t :: ts, x :: xs, env, env', e => by
    have e' : (ob (bindTg t x env) fun env1 => bindTgs ts xs env1) = some env' := by simpa only [bindTgs] using e
    obtain ⟨env1, _, e2⟩ := ob_inv e'
    exact congrArg Nat.succ (bindTgs_len e2)
end
/-- the item of a turn, into R -/
theorem YD.in {R1 : Hp} {xs : List D} {i : Nat} {v : V} (y : YD q R1 xs i H v H') (s : Sub R1 R) (F : Full q R H ads O σ env S) : ∃ R' x, xs[i]? = some x ∧ Full q R' H' ads O σ env S ∧ Grow R H ads R' H' ads ∧ Rp q R' v x := by
  obtain ⟨x, hx, z⟩ := y
  rcases z with ⟨rfl, r⟩ | ⟨T, a, b, ya, yb, rfl, hT, rfl, rfl, ra, rb⟩
  · exact ⟨R, x, hx, F, .refl _ _ _, r.mono s⟩
  · obtain ⟨F2, g2⟩ := F.imm (o := .tup [a, b]) hT
    have s2 := g2.sub F.sub
    exact ⟨_, _, hx, F2, g2, .tup upd_same (.cons ((ra.mono s).mono s2) (.cons ((rb.mono s).mono s2) .nil))⟩
end
end VI
set_option Elab.async false
set_option linter.all false
set_option maxRecDepth 100000
/-! V18: list comprehensions. -/
namespace VI
open PySem PySem.Spec L2 C8
open PyProof.Rows hiding St
section
variable {q : Wd} {R H : Hp} {ads : List CA} {O : List Addr} {σ : St} {env : Env} {S : Sto}
/-- an object that is nobody's, written -/
theorem Full.write {p : Addr} {o : HO} (F : Full q R H ads O σ env S) (h1 : R p = none) (h2 : p ∉ O ++ owns ads) : Full q R (upd H p o) ads O σ env S := by
  have k : ∀ a u, a ≠ p → H a = some u → upd H p o a = some u := fun a u n e => by rw [upd_ne n]; exact e
  refine ⟨fun a u e => k a u (fun z => by rw [z, h1] at e; cases e) (F.sub a u e), F.env.keep (fun _ _ e => e) fun a u ha => k a u (fun z => h2 (z ▸ List.mem_append_left _ ha)), F.sto.keep (fun _ _ e => e) fun a u ha => k a u (fun z => h2 (z ▸ List.mem_append_right _ ha)), F.nd, F.un⟩
theorem Grow.write {R0 H0 : Hp} {a0 : List CA} {p : Addr} {o : HO} (g : Grow R0 H0 a0 R H ads) (h : H0 p = none) : Grow R0 H0 a0 R (upd H p o) ads := by
  have ne : ∀ a u, H0 a = some u → a ≠ p := fun a u e z => by rw [z, h] at e; cases e
  refine ⟨g.le, g.rext, fun a u e n => ?_, fun a u e => ?_, g.own⟩
  · rw [upd_ne (ne a u e)]; exact g.keep a u e n
  · rw [upd_ne (ne a u e)]; exact g.dom a u e
theorem upd_id {H : Hp} {p : Addr} {o : HO} (h : H p = some o) : upd H p o = H := by
  funext a
  by_cases e : a = p
  · rw [e, upd_same, h]
  · rw [upd_ne e]
end
section
variable {call : Nat → List W → Sto → Option (W × Sto)} {cls : Nat → Nat}
def tTs (q : Wd) (call : Nat → List W → Sto → Option (W × Sto)) (cls : Nat → Nat) (ct : Option C) : TT := fun σ H Q =>
  ∃ R ads O env S b S', Full q R H ads O σ env S ∧ evT call cls ct env S = some (b, S') ∧ ∀ H' R' ads', Grow R H ads R' H' ads' → Full q R' H' ads' O σ env S' → Q b H'
section
variable {X : Cx} {k : Nat} {cad : Nat → Addr}
variable {e elt tg iter : Expr} {ca ce c : C} {pos : Pos}
theorem PTs.weak {ifs : List Expr} {t t' : TT} (h : PTs X ifs t) (k : ∀ σ H Q, t' σ H Q → t σ H Q) : PTs X ifs t' := ⟨fun pins s σ H Q I w => h.run pins s σ H Q I (k σ H Q w)⟩
theorem ts_nil : PTs X [] (tTs (qX X cad) call cls none) := PTs.weak pts_nil fun σ H Q ⟨R, ads, O, env, S, b, S', F, ev, k⟩ => by
  simp only [evT] at ev
  cases ev
  exact k _ _ _ (.refl _ _ _) F
theorem ts_one (h : PT X e (uX X cad call cls c)) : PTs X [e] (tTs (qX X cad) call cls (some c)) := PTs.weak (pts_one h) fun σ H Q ⟨R, ads, O, env, S, b, S', F, ev, k⟩ => by
  simp only [evT] at ev
  obtain ⟨wa, S1, ea, ev⟩ := bnd_inv ev
  obtain ⟨xa, e1, ev⟩ := ob_inv ev
  obtain ⟨bb, e2, ev⟩ := ob_inv ev
  cases ev
  obtain rfl := boolOf_inv e2
  obtain rfl := pu_inv e1
  exact ⟨R, ads, O, env, S, b, _, F, ea, k⟩
theorem comp_rd {q : Wd} {K : PySem.W.Frag} {ctg : Tg} {cit : VI.It} {ct : Option C} {σ : St} {H : Hp} {Q : VK} (h : tE q call cls (.comp ce ctg cit ct) σ H Q) :
    tLc (tI q call cls cit) (gT K ctg) (tTs q call cls ct) (tE q call cls ce) (tgSlots ctg) σ H Q := by
  obtain ⟨R, ads, O, env, S, x, S', F, ev, kk⟩ := h
  simp only [evE] at ev
  obtain ⟨xs, S1, ea, ev⟩ := bnd_inv ev
  obtain ⟨ys, S2, el, ev⟩ := bnd_inv ev
  cases ev
  refine ⟨R, ads, O, env, S, xs, S1, F, ea, fun J H1 R1 a1 g1 F1 hz hW D hD => ?_⟩
  obtain ⟨Ow, sw, Fw⟩ := F1.wipe (tgSlots ctg)
  obtain ⟨Fd, gd⟩ := Fw.garb (o := .lst []) hD
  have hRD : R1 D = none := F1.Rnone hD
  have hDf : D ∉ Ow ++ owns a1 := Fw.fresh hD
  have hDo : D ∉ Ow := fun z => hDf (List.mem_append_left _ z)
  have hDa : D ∉ owns a1 := fun z => hDf (List.mem_append_right _ z)
  refine lc_it hW (fun i Hi => ∃ Ri ai Si acc accD rest, Full q Ri Hi ai Ow (L2.wipe σ (tgSlots ctg)) (wipeE env (tgSlots ctg)) Si ∧ Grow R1 H1 a1 Ri Hi ai ∧ Hi D = some (.lst acc) ∧ Ri D = none ∧ D ∉ owns ai ∧ RpL q Ri acc accD ∧
    compLoop ctg (fun env' S' => evT call cls ct env' S') (fun env' S' => evE call cls ce env' S') (wipeE env (tgSlots ctg)) (xs.drop i) Si = some (rest, S') ∧ accD ++ rest = ys ∧ acc.length ≤ i) ?_ ?_ ?_ ?_
  · exact ⟨R1, a1, S1, [], [], ys, Fd, gd, upd_same, hRD, hDa, .nil, by simpa using el, rfl, Nat.zero_le _⟩
  · rintro i Hi _ ⟨Ri, ai, Si, acc, accD, rest, Fi, gi, _⟩
    exact fun a o h => Fi.sub a o (gi.sub F1.sub a o h)
  · rintro i x Hi H' hi ⟨Ri, ai, Si, acc, accD, rest, Fi, gi, hd, hRd, hDi, hacc, hl, hsum, hlen⟩ hy
    obtain ⟨R2, xd, hx, F2, g2, rx⟩ := hy.in (gi.sub F1.sub) Fi
    rw [List.drop_eq_getElem_cons (by exact hi)] at hl
    have hxe : xs[i] = xd := by
      have z : xs[i]? = some xs[i] := by simp [hi]
      rw [hx] at z; exact (Option.some.inj z).symm
    rw [hxe] at hl
    unfold compLoop at hl
    obtain ⟨env2, eb, hl⟩ := ob_inv hl
    obtain ⟨b, S3, et, hl⟩ := bnd_inv hl
    refine tg_ok ctg F2 rx eb (fun i h => h) fun σ2 O2 s2 F3 w2 => ⟨w2.trans (wipe_wipe _ _ _ fun i h => h), ?_⟩
    have hd2 : H' D = some (.lst acc) := g2.keep D _ hd hDi
    have hR2 : R2 D = none := (g2.rext D _ hd).trans hRd
    refine ⟨R2, ai, O2, env2, Si, b, S3, F3, et, fun H3 R3 a3 g3 F4 => ?_⟩
    have hd3 : H3 D = some (.lst acc) := g3.keep D _ hd2 hDi
    have hR3 : R3 D = none := (g3.rext D _ hd2).trans hR2
    have hD3 : D ∉ owns a3 := fun z => by
      rcases g3.own D z with z | z
      · exact hDi z
      · rw [hd2] at z; cases z
    have gg := gi.trans (g2.trans g3)
    cases b with
    | true =>
      simp only [if_true]
      obtain ⟨w, S4, ee, hl⟩ := bnd_inv hl
      obtain ⟨y, ey, hl⟩ := ob_inv hl
      obtain ⟨rest', S5, el', hl⟩ := bnd_inv hl
      cases hl
      refine ⟨R3, a3, O2, env2, S3, w, S4, F4, ee, fun v H4 R4 a4 g4 F5 w4 => ?_⟩
      have hd4 : H4 D = some (.lst acc) := g4.keep D _ hd3 hD3
      have hR4 : R4 D = none := (g4.rext D _ hd3).trans hR3
      have hD4 : D ∉ owns a4 := fun z => by
        rcases g4.own D z with z | z
        · exact hD3 z
        · rw [hd3] at z; cases z
      have g24 := g2.trans (g3.trans g4)
      have Fb := Fi.back g24 F5.bare
      refine ⟨acc, hd4, by omega, R4, a4, S4, acc ++ [v], accD ++ [y], rest', Fb.write hR4 (fun z => ?_), (gg.trans g4).write hD, upd_same, hR4, hD4, ?_, el', by rw [List.append_assoc]; exact hsum, ?_⟩
      · rcases List.mem_append.mp z with z | z
        · exact hDo z
        · exact hD4 z
      · exact (hacc.mono (g24.sub Fi.sub)).append (.one (Full.puR w4 ey))
      · rw [List.length_append, List.length_singleton]; omega
    | false =>
      simp only [Bool.false_eq_true, if_false]
      have g23 := g2.trans g3
      exact ⟨R3, a3, S3, acc, accD, rest, Fi.back g23 F4.bare, gg, hd3, hR3, hD3, hacc.mono (g23.sub Fi.sub), hl, hsum, Nat.le_succ_of_le hlen⟩
  · rintro Hi ⟨Ri, ai, Si, acc, accD, rest, Fi, gi, hd, hRd, hDi, hacc, hl, hsum, hlen⟩
    rw [List.drop_length] at hl
    unfold compLoop at hl
    cases hl
    rw [List.append_nil] at hsum
    subst hsum
    have Fb := F1.back gi Fi.bare
    rcases Fb.late (o := .lst acc) hD gi F1.sub hd (fun b hb => F1.dom b (List.mem_append_left _ hb)) hRd with ⟨F9, g9⟩ | z
    · rw [upd_id hd] at F9 g9
      refine kk _ _ _ _ (g1.trans g9) F9 (.d (.lst (.inl (.inl upd_same)) (hacc.mono fun b u e => ?_)))
      rw [upd_ne (fun z => by rw [z, hRd] at e; cases e)]; exact e
    · exact absurd z hDi
theorem s_comp {ifs : List Expr} {scope : Scope} {own : List (Str × Nat)} {ctg : Tg} {cit : VI.It} {ct : Option C} (G : Gd X k) (hi : PI X tg iter (wX X cad call cls cit)) (ok : BlkOk X.N X.env.scope scope own) (ho : own.map (·.2) = tgSlots ctg)
    (hg : ∀ (s : Shared) (H : Hp) (C : Addr) (cl : List (Str × Addr)) (fp : List Addr), PG (X.blk s H scope (compEnvC scope cl C X.env) fp) tg (gT X.K ctg))
    (ht : ∀ (s : Shared) (H : Hp) (C : Addr) (cl : List (Str × Addr)) (fp : List Addr), PTs (X.blk s H scope (compEnvC scope cl C X.env) fp) ifs (tTs (qX X cad) call cls ct))
    (he : ∀ (s : Shared) (H : Hp) (C : Addr) (cl : List (Str × Addr)) (fp : List Addr), PE (X.blk s H scope (compEnvC scope cl C X.env) fp) elt (tX X cad call cls ce))
    (hs : ∀ x, foldedSetIterable iter X.env x = pure x) :
    PE X (.ListComp elt [⟨tg, iter, ifs, 0⟩] scope pos) (tX X cad call cls (.comp ce ctg cit ct)) := by
  refine PE.weak (pe_lc G.calm G.nd hi ok hg ht he hs) fun σ H Q h => ?_
  rw [ho]
  exact comp_rd h
end
end
end VI
set_option Elab.async false
set_option linter.all false
set_option maxRecDepth 100000
/-! V19: own things written: lists, dicts; the display of one pair. -/
namespace VI
open PySem PySem.Spec L2 C8
open PyProof.Rows hiding St
section
variable {q : Wd} {R : Hp}
theorem dPutL_cons (p : D × D) (r : List (D × D)) (kd : D) : dHas (p :: r) kd = (decide (kOf p.1 = kOf kd) || dHas r kd) := rfl
theorem kd_eq {k k' : L2.Key} {kd : D} (e : kOf kd = some (.inl k)) : (kOf (kD k') = kOf kd) ↔ k' = k := by
  rw [kOf_kD, e]
  exact ⟨fun h => by cases h; rfl, fun h => by rw [h]⟩
theorem RpK.has {k : L2.Key} {kd : D} (ek : kOf kd = some (.inl k)) : ∀ {kvs : List (L2.Key × V)} {ds : List (D × D)}, RpK q R kvs ds → (kvs.any fun kv => decide (kv.1 = k)) = dHas ds kd
  | _, _, .nil => rfl
  | _, _, .cons (k := k') h t => by
    rw [List.any_cons, dPutL_cons, RpK.has ek t]
    congr 1
    exact decide_eq_decide.mpr (kd_eq ek).symm
theorem RpK.repl {k : L2.Key} {kd xd : D} {v : V} (ek : kOf kd = some (.inl k)) (hv : Rp q R v xd) : ∀ {kvs : List (L2.Key × V)} {ds : List (D × D)}, RpK q R kvs ds →
    RpK q R (kvs.map fun kv => if kv.1 = k then (kv.1, v) else kv) (ds.map fun p => if kOf p.1 = kOf kd then (p.1, xd) else p)
  | _, _, .nil => .nil
  | _, _, .cons (k := k') (v := v') (x := x') h t => by
    rw [List.map_cons, List.map_cons]
    by_cases e : k' = k
    · rw [if_pos (show (k', v').1 = k from e), if_pos (show kOf (kD k', x').1 = kOf kd from (kd_eq ek).mpr e)]
      exact .cons hv (RpK.repl ek hv t)
    · rw [if_neg (show ¬ (k', v').1 = k from e), if_neg (show ¬ kOf (kD k', x').1 = kOf kd from fun z => e ((kd_eq ek).mp z))]
      exact .cons h (RpK.repl ek hv t)
theorem RpK.snoc {k : L2.Key} {kd xd : D} {v : V} (ek : kOf kd = some (.inl k)) (hv : Rp q R v xd) : ∀ {kvs : List (L2.Key × V)} {ds : List (D × D)}, RpK q R kvs ds → RpK q R (kvs ++ [(k, v)]) (ds ++ [(kd, xd)])
  | _, _, .nil => by
    rw [kOf_inl ek]
    exact .cons hv .nil
  | _, _, .cons h t => .cons h (RpK.snoc ek hv t)
theorem RpK.put {k : L2.Key} {kd xd : D} {v : V} (ek : kOf kd = some (.inl k)) (hv : Rp q R v xd) {kvs : List (L2.Key × V)} {ds : List (D × D)} (h : RpK q R kvs ds) : RpK q R (putK kvs k v) (dPutL ds kd xd) := by
  unfold putK dPutL
  rw [h.has ek]
  by_cases e : dHas ds kd = true
  · rw [if_pos e, if_pos e]; exact h.repl ek hv
  · rw [if_neg e, if_neg e]; exact h.snoc ek hv
theorem nk_eq {k k' : NestedKey} {kd kd' : D} (e : kOf kd = some (.inr k)) (e' : kOf kd' = some (.inr k')) : (kOf kd' = kOf kd) ↔ k' = k := by
  rw [e, e']
  exact ⟨fun h => by cases h; rfl, fun h => by rw [h]⟩
theorem atKey_cons (x : NestedKey × Addr × Value) (r : List (NestedKey × Addr × Value)) (k : NestedKey) : (atKey (x :: r) k).isSome = (decide (x.1 = k) || (atKey r k).isSome) := by
  unfold atKey
  rw [List.find?_cons]
  by_cases e : x.1 = k <;> simp [e]
theorem RpN.has {k : NestedKey} {kd : D} (ek : kOf kd = some (.inr k)) : ∀ {es : NEs} {ds : List (D × D)} {xs : List (NestedKey × Addr × Value)}, RpN q R es ds → Paired NR es xs → (atKey xs k).isSome = dHas ds kd
  | _, _, _, .nil, .nil => rfl
  | _, _, _, .cons (k := k') ke h1 h2 t, .cons (b := x) r rs => by
    rw [atKey_cons, dPutL_cons, RpN.has ek t rs]
    congr 1
    refine decide_eq_decide.mpr ?_
    rw [← r.1]
    exact (nk_eq ek ke).symm
theorem RpN.repl {k : NestedKey} {kd xd : D} {v : V} {u : Value} (ek : kOf kd = some (.inr k)) (hv : Rp q R v xd) (ru : RelV v u) : ∀ {es : NEs} {ds : List (D × D)} {xs : List (NestedKey × Addr × Value)}, RpN q R es ds → Paired NR es xs →
    ∃ es', es'.length = es.length ∧ RpN q R es' (ds.map fun p => if kOf p.1 = kOf kd then (p.1, xd) else p) ∧ Paired NR es' (xs.map (putAt k u))
  | _, _, _, .nil, .nil => ⟨[], rfl, .nil, .nil⟩
  | _, _, _, .cons (k := k') (b := b') (v := v') (kd := kd') (x := x') ke h1 h2 t, .cons (b := y) r rs => by
    obtain ⟨es', hl, g1, g2⟩ := RpN.repl ek hv ru t rs
    by_cases e : k' = k
    · refine ⟨(k', b', v) :: es', congrArg Nat.succ hl, ?_, ?_⟩
      · rw [List.map_cons, if_pos (show kOf (kd', x').1 = kOf kd from (nk_eq ek ke).mpr e)]
        exact .cons ke h1 hv g1
      · rw [List.map_cons]
        refine .cons ?_ g2
        unfold putAt
        rw [if_pos (show y.1 = k from r.1.symm.trans e)]
        exact ⟨r.1, r.2.1, ru⟩
    · refine ⟨(k', b', v') :: es', congrArg Nat.succ hl, ?_, ?_⟩
      · rw [List.map_cons, if_neg (show ¬ kOf (kd', x').1 = kOf kd from fun z => e ((nk_eq ek ke).mp z))]
        exact .cons ke h1 h2 g1
      · rw [List.map_cons]
        refine .cons ?_ g2
        unfold putAt
        rw [if_neg (show ¬ y.1 = k from fun z => e (r.1.trans z))]
        exact r
theorem RpN.snoc {k : NestedKey} {b : Addr} {kd xd : D} {v : V} (ek : kOf kd = some (.inr k)) (hb : Rp q R (.ref b) kd) (hv : Rp q R v xd) : ∀ {es : NEs} {ds : List (D × D)}, RpN q R es ds → RpN q R (es ++ [(k, b, v)]) (ds ++ [(kd, xd)])
  | _, _, .nil => .cons ek hb hv .nil
  | _, _, .cons ke h1 h2 t => .cons ke h1 h2 (RpN.snoc ek hb hv t)
theorem RpN.put {k : NestedKey} {b : Addr} {kd xd : D} {v : V} {u : Value} (ek : kOf kd = some (.inr k)) (hb : Rp q R (.ref b) kd) (hv : Rp q R v xd) (ru : RelV v u) {es : NEs} {ds : List (D × D)} {xs : List (NestedKey × Addr × Value)} (h : RpN q R es ds) (r : Paired NR es xs) :
    ∃ es', es'.length ≤ es.length + 1 ∧ RpN q R es' (dPutL ds kd xd) ∧ Paired NR es' (storedH xs k b u) := by
  unfold storedH dPutL
  rw [h.has ek r]
  by_cases e : dHas ds kd = true
  · rw [if_pos e, if_pos e]
    obtain ⟨es', hl, g1, g2⟩ := h.repl ek hv ru r
    exact ⟨es', by omega, g1, g2⟩
  · rw [if_neg e, if_neg e]
    exact ⟨es ++ [(k, b, v)], by simp, h.snoc ek hb hv, r.snoc ⟨rfl, rfl, ru⟩⟩
end
section
variable {X : Cx} {pins : List (Addr × Obj)} {σ : St} {H R : Hp} {s : Shared} {cad : Nat → Addr} {E : Value → Shared → Prop}
theorem dNo_new {H' : Hp} {h' : Heap} {a : Addr} {es : NEs} {xs : List (NestedKey × Addr × Value)} (z : es.length ≤ sizeLine) (hd : (a == sysModules) = false) (r : Paired NR es xs) (dd : h'.DictOfH (nestedKind X.prog X.w) a xs) : ObjOk X.prog X.w H' h' a (dNo (qX X cad) a es) := by
  obtain ⟨o, ea, ep, e1, e2, e3, e4, e5, e6⟩ := dd
  refine ⟨⟨z, hd, xs, r, ⟨o, ea, ep, e1, e2, e3, e4⟩, e6⟩, ⟨o, e1⟩, fun h1 h2 f k => ?_⟩
  obtain ⟨z, hd, xs, r, ⟨o, ea, ep, e1, e2⟩, e6⟩ := f
  exact ⟨z, hd, xs, r, ⟨o, ea, ep, k o e1, e2⟩, e6⟩
theorem ownAt_mut {q : Wd} {a : Addr} {o : HO} {x : D} (h : ObjR q R a o x) : Mut (some o) := by
  cases h <;> trivial
/-- an own thing, an item of it written -/
def rPut (q : Wd) : TSet := fun o i v H Q => ∃ R a x kd xd y, o = .ref a ∧ Sub R H ∧ OwnAt q R H a x ∧ Rp q R i kd ∧ Rp q R v xd ∧ putOwn x kd xd = some y ∧ ∀ o', ObjR q R a o' y → Q (upd H a o')
theorem set_put (hu : X.A.units + 150 < cLine) : PSet X (rPut (qX X cad)) := by
  intro pins s σ H o i v ov iv u Q I ro ri rv ⟨R, a, x, kd, xd, y, ho, sb, own, hk, hx, hy, k⟩
  subst ho
  obtain ⟨ob, hob, r⟩ := own
  cases r with
  | @lst vs xs t =>
    cases kd <;> try (simp only [putOwn] at hy; cases hy; done)
    rename_i n
    cases hk
    simp only [putOwn] at hy
    obtain ⟨j, e1, e2⟩ := ob_inv hy
    cases e2
    exact set_list pins s σ H _ _ v ov iv u Q I ro ri rv ⟨a, vs, n, j, rfl, rfl, hob, by rw [t.length]; exact e1, k _ (.lst (t.set hx j))⟩
  | @dk kvs ds t =>
    have hy' : (ob (dPut ds kd xd) fun kvs' => some (PyData.dict kvs')) = some y := by
      cases kd <;> exact hy
    obtain ⟨ds', e1, e2⟩ := ob_inv hy'
    cases e2
    unfold dPut at e1
    obtain ⟨kk, ek, e1⟩ := ob_inv e1
    obtain ⟨hh, e1⟩ := gd_inv e1
    cases e1
    rw [Bool.and_eq_true, decide_eq_true_eq] at hh
    obtain ⟨hg, hl⟩ := hh
    cases ro
    obtain ⟨z, hd, vs, rel, dd⟩ := dk_of I.hok hob
    cases kk with
    | inl kq =>
      have e3 := kOf_inl ek
      have hi : i = kV kq := kD_rp (by rw [← e3]; exact hk)
      have hz : vs.length ≤ sizeLine := by rw [← rel.length]; exact z
      refine wpAny_setItem_pairs (hsz := hz) (kV_is (by rw [← hi]; exact ri)) dd fun h' dd' hs => ?_
      have he : ∃ w, h'.get? a = some w := let ⟨w, _, _, hw, _⟩ := dd'; ⟨w, hw⟩
      have hz2 : (putK kvs kq v).length ≤ sizeLine := by
        have := length_putK kvs kq v
        have := t.length
        omega
      exact ⟨_, d_write I (by rw [hob]; trivial) hs he (dk_new hz2 hd (rel.put kq rv) dd'), k _ (.dk (t.put ek hx))⟩
    | inr kq =>
      have e0 := homog_inr t hg
      subst e0
      cases t
      obtain ⟨b, rfl⟩ := ref_of_tup hk ek
      cases ri
      have is := key_is I sb hk ek
      obtain ⟨_, dd⟩ := dN_empty I (.inl hob)
      refine wpAny_setItem_heap (hsz := by simp) (by show X.A.units + 1 + 8 < cLine; omega) is dd fun h' dd' hs => ?_
      have he : ∃ w, h'.get? a = some w := let ⟨w, _, _, hw, _⟩ := dd'; ⟨w, hw⟩
      obtain ⟨es', g1, g2, g3⟩ := RpN.put (q := qX X cad) ek hk hx rv (.nil) (.nil)
      exact ⟨_, d_write I (by rw [hob]; trivial) hs he (dNo_new (cad := cad) (by simp at g1; rw [sizeLine_eq]; omega) hd g3 dd'), k _ (.dn g2)⟩
  | @dn es ds t =>
    have hy' : (ob (dPut ds kd xd) fun kvs' => some (PyData.dict kvs')) = some y := by
      cases kd <;> exact hy
    obtain ⟨ds', e1, e2⟩ := ob_inv hy'
    cases e2
    unfold dPut at e1
    obtain ⟨kk, ek, e1⟩ := ob_inv e1
    obtain ⟨hh, e1⟩ := gd_inv e1
    cases e1
    rw [Bool.and_eq_true, decide_eq_true_eq] at hh
    obtain ⟨hg, hl⟩ := hh
    cases ro
    cases kk with
    | inl kq =>
      have e3 := kOf_inl ek
      have hi : i = kV kq := kD_rp (by rw [← e3]; exact hk)
      have e0 := homog_inl t hg
      subst e0
      cases t
      obtain ⟨hd, dd⟩ := dK_empty I (.inl hob)
      refine wpAny_setItem_pairs (hsz := by simp) (kV_is (by rw [← hi]; exact ri)) dd fun h' dd' hs => ?_
      have he : ∃ w, h'.get? a = some w := let ⟨w, _, _, hw, _⟩ := dd'; ⟨w, hw⟩
      exact ⟨_, d_write I (by rw [hob]; trivial) hs he (dk_new (kvs := putK [] kq v) (by show 1 ≤ sizeLine; decide) hd (KV.put (kvs := []) .nil kq rv) dd'), k _ (.dk (RpK.put ek hx .nil))⟩
    | inr kq =>
      obtain ⟨b, rfl⟩ := ref_of_tup hk ek
      cases ri
      have is := key_is I sb hk ek
      obtain ⟨z, hd, xs, rel, dd⟩ := dN_of I sb (.inl hob) t
      have hz : xs.length ≤ sizeLine := by rw [← Paired.length rel]; exact z
      refine wpAny_setItem_heap (hsz := hz) (by show X.A.units + 1 + 8 < cLine; omega) is dd fun h' dd' hs => ?_
      have he : ∃ w, h'.get? a = some w := let ⟨w, _, _, hw, _⟩ := dd'; ⟨w, hw⟩
      obtain ⟨es', g1, g2, g3⟩ := RpN.put ek hk hx rv t rel
      exact ⟨_, d_write I (by rw [hob]; trivial) hs he (dNo_new (cad := cad) (by have := t.length; omega) hd g3 dd'), k _ (.dn g2)⟩
end
end VI
set_option Elab.async false
set_option linter.all false
set_option maxRecDepth 100000
/-! V20: {tuple: value}. -/
namespace VI
open PySem PySem.Spec L2 C8
open PyProof.Rows hiding St
section
variable {X : Cx} {k : Nat} {cad : Nat → Addr} {pos : Pos} {a b : Expr} {ca cb : C}
def tDispN (q : Wd) (tk tv : TE) : TE := fun σ H Q => ∀ p, H p = none → tk σ (upd H p (.dK [])) fun kx H1 => tv σ H1 fun vx H2 => H2 p = some (.dK []) ∧ ∃ R kd k b, Sub R H2 ∧ kx = .ref b ∧ Rp q R kx kd ∧ kOf kd = some (.inr k) ∧ Q (.ref p) (upd H2 p (dNo q p [(k, b, vx)]))
theorem pe_dispN {tk tv : TE} (hu : X.A.units + 150 < cLine) (hk : PE X a tk) (hv : PE X b tv) : PE X (.Dict [some a] [b] pos) (tDispN (qX X cad) tk tv) := by
  refine ⟨fun pins s σ H Q I w => ?_⟩
  have hn := I.hok.fresh (Nat.le_refl s.heap.objs.size)
  have I1 := I.laid (a := s.heap.objs.size) (o := .dK []) (h' := s.heap.push { cls := .type "dict", data := .dict #[] }) (t' := s.toks) (fun _ _ y => Heap.get?_push_of_some _ y) (Nat.le_refl _) (dk_empty s.heap I.big)
  rw [arm_eval_Dict, zip_pairTrees [some a] [b] X.env pos rfl rfl, dictDisplay_pairs (pairTrees [some a] [b] X.env pos) (fun h => nomatch h) (show 1 < 17 by decide)]
  refine wpAny_bind (wpAny_standAt (wpAny_bind (wpAny_subDictH (knd := nestedKind X.prog X.w) (by show X.A.units + 8 < cLine; omega) (show 1 ≤ 15 by decide) (thn ((pps_cons hk hv pps_nil).run pins _ σ _ (fun ps H2 => match ps with | [(kx, vx)] => (H2 s.heap.objs.size = some (.dK []) ∧ ∃ R kd k b, Sub R H2 ∧ kx = .ref b ∧ Rp (qX X cad) R kx kd ∧ kOf kd = some (.inr k) ∧ Q (.ref s.heap.objs.size) (upd H2 s.heap.objs.size (dNo (qX X cad) s.heap.objs.size [(k, b, vx)]))) | _ => False) I1 (w _ hn)) fun ws s2 ⟨ps, H2, I2, rel, z⟩ => ?_))))
  split at z
  · obtain ⟨hp, R, kd, kk, bb, sb, ek, rk, ekk, qq⟩ := z
    subst ek
    cases rel with
    | @cons _ y _ _ r rr =>
      cases rr
      obtain ⟨y1, y2⟩ := y
      obtain ⟨r1, r2⟩ := r
      cases (show y1 = Value.ref bb from r1)
      obtain ⟨hd, dd⟩ := dN_empty I2 (.inl hp)
      refine ⟨[(kk, bb, y2)], ⟨rfl, rfl, key_is I2 sb rk ekk, trivial⟩, dd, fun h' tk' dd' hs => wpAny_pure ⟨.ref s.heap.objs.size, _, ?_, rfl, qq⟩⟩
      have he : ∃ z, h'.get? s.heap.objs.size = some z := let ⟨z, _, _, hz, _⟩ := dd'; ⟨z, hz⟩
      exact d_write I2 (by rw [hp]; trivial) hs he (dNo_new (cad := cad) (by show 1 ≤ sizeLine; decide) hd (.cons ⟨rfl, rfl, r2⟩ .nil) dd')
  · exact z.elim
variable {call : Nat → List W → Sto → Option (W × Sto)} {cls : Nat → Nat}
theorem s_dctN (G : Gd X k) (ha : PE X a (tX X cad call cls ca)) (hb : PE X b (tX X cad call cls cb)) : PE X (.Dict [some a] [b] pos) (tX X cad call cls (.dctN ca cb)) := by
  refine PE.weak (pe_lk (pe_dispN (cad := cad) G.hu ha hb)) fun σ H Q ⟨R, ads, O, env, S, x, S', F, ev, kk⟩ => ?_
  simp only [evE] at ev
  obtain ⟨wa, S1, ea, ev⟩ := bnd_inv ev
  obtain ⟨wb, S2, eb, ev⟩ := bnd_inv ev
  obtain ⟨xa, e1, ev⟩ := ob_inv ev
  obtain ⟨xb, e2, ev⟩ := ob_inv ev
  split at ev
  · rename_i kq ek
    cases ev
    intro p hp
    obtain ⟨F0, g0⟩ := F.garb (o := .dK []) hp
    refine one F0 ea fun u H1 R1 a1 g1 F1 w1 => one F1 eb fun v H2 R2 a2 g2 F2 w2 => ?_
    have g12 := g1.trans g2
    have po : p ∉ owns ads := fun z => F.fresh hp (List.mem_append_right _ z)
    have h2 : H2 p = some (.dK []) := g12.keep p _ upd_same po
    have ru := (Full.puR w1 e1).mono (g2.sub F1.sub)
    obtain ⟨b0, rfl⟩ := ref_of_tup ru ek
    have rv := Full.puR w2 e2
    refine ⟨h2, R2, xa, kq, b0, F2.sub, rfl, ru, ek, p, _, rfl, upd_same, trivial, fun od => ?_⟩
    rw [upd_upd]
    have rn : R2 p = none := by
      rw [g12.rext p _ upd_same]
      exact F.Rnone hp
    rcases F2.late (o := .frz od (dNo (qX X cad) p [(kq, b0, v)])) hp (g0.trans g12) F.sub h2 (fun b hb => F.dom b (List.mem_append_left _ hb)) rn with ⟨F3, g3⟩ | z
    · have sb : Sub R2 (upd R2 p (.frz od (dNo (qX X cad) p [(kq, b0, v)]))) := fun b u e => by
        rw [upd_ne (fun z => by rw [z, rn] at e; cases e)]; exact e
      exact kk _ _ _ _ g3 F3 (.d (.dn upd_same (.cons ek (ru.mono sb) (rv.mono sb) .nil)))
    · rcases g12.own p z with z | z
      · exact absurd z po
      · rw [upd_same] at z; cases z
  · cases ev
end
end VI
set_option Elab.async false
set_option linter.all false
set_option maxRecDepth 100000
/-! V21: statements: names set, if, return, expressions. -/
namespace VI
open PySem PySem.Spec L2 C8
open PyProof.Rows hiding St
structure At (q : Wd) (R0 H0 : Hp) (a0 : List CA) (R H : Hp) (ads : List CA) (O : List Addr) (σ : St) (env : Env) (S : Sto) : Prop where
  full : Full q R H ads O σ env S
  grow : Grow R0 H0 a0 R H ads
  new : ∀ p, p ∈ O → H0 p = none
section
variable {q : Wd} {R0 H0 R H R' H' : Hp} {a0 ads ads' : List CA} {O : List Addr} {σ : St} {env : Env} {S S' : Sto}
theorem At.step (A : At q R0 H0 a0 R H ads O σ env S) (g : Grow R H ads R' H' ads') (F : Full q R' H' ads' O σ env S') : At q R0 H0 a0 R' H' ads' O σ env S' := ⟨F, A.grow.trans g, A.new⟩
end
/-- what is to come behind a statement -/
def Post (q : Wd) (R0 H0 : Hp) (a0 : List CA) (R : Hp) (D : Ends) (S' : Sto) : Out → Prop
  | .nx env' => ∀ σ' H' R' ads' O', Sub R R' → At q R0 H0 a0 R' H' ads' O' σ' env' S' → D.nx σ' H'
  | .rt w => ∀ v H' R' ads', Grow R0 H0 a0 R' H' ads' → Full q R' H' ads' [] [] [] S' → WR q R' ads' [] v w → D.rt v H'
theorem Sub.refl (R : Hp) : Sub R R := fun _ _ h => h
theorem Sub.trans {A B C : Hp} (x : Sub A B) (y : Sub B C) : Sub A C := fun a o h => y a o (x a o h)
theorem Post.sub {q : Wd} {R0 H0 R R' : Hp} {a0 : List CA} {D : Ends} {S' : Sto} {o : Out} (h : Post q R0 H0 a0 R D S' o) (s : Sub R R') : Post q R0 H0 a0 R' D S' o := by
  cases o with
  | nx e => exact fun σ' H' R2 a2 O2 s2 A => h σ' H' R2 a2 O2 (s.trans s2) A
  | rt w => exact h
theorem PS.weak {X : Cx} {st : Stmt} {t t' : TS} (h : PS X st t) (k : ∀ D σ H, t' D σ H → t D σ H) : PS X st t' := ⟨fun pins s σ H D I w => h.run pins s σ H D I (k D σ H w)⟩
theorem PSs.weak {X : Cx} {st : List Stmt} {t t' : TS} (h : PSs X st t) (k : ∀ D σ H, t' D σ H → t D σ H) : PSs X st t' := ⟨fun pins s σ H D I w => h.run pins s σ H D I (k D σ H w)⟩
section
variable {call : Nat → List W → Sto → Option (W × Sto)} {cls : Nat → Nat}
def tS (q : Wd) (call : Nat → List W → Sto → Option (W × Sto)) (cls : Nat → Nat) (c : Sc) : TS := fun D σ H =>
  ∃ R0 H0 a0 R ads O env S out S', At q R0 H0 a0 R H ads O σ env S ∧ evS call cls c env S = some (out, S') ∧ Post q R0 H0 a0 R D S' out
def tB (q : Wd) (call : Nat → List W → Sto → Option (W × Sto)) (cls : Nat → Nat) (cs : List Sc) : TS := fun D σ H =>
  ∃ R0 H0 a0 R ads O env S out S', At q R0 H0 a0 R H ads O σ env S ∧ evB call cls cs env S = some (out, S') ∧ Post q R0 H0 a0 R D S' out
/-- a new mutable thing -/
def tF (q : Wd) (call : Nat → List W → Sto → Option (W × Sto)) (cls : Nat → Nat) (c : C) : TE := fun σ H Q =>
  ∃ R ads O env S x S', Full q R H ads O σ env S ∧ evE call cls c env S = some (.d x, S') ∧ isFresh x = true ∧
    ∀ a H' R' ads', Grow R H ads R' H' ads' → Full q R' H' ads' O σ env S' → OwnAt q R' H' a x → R' a = none → a ∉ O → a ∉ owns ads' → H a = none → Q (.ref a) H'
section
variable {X : Cx} {k : Nat} {cad : Nat → Addr}
variable {e elt tg iter : Expr} {ca cb ce c : C} {pos : Pos} {sts : List Stmt} {st : Stmt} {cs : List Sc} {sc : Sc}
abbrev sX (X : Cx) (cad : Nat → Addr) (call : Nat → List W → Sto → Option (W × Sto)) (cls : Nat → Nat) (sc : Sc) : TS := tS (qX X cad) call cls sc
abbrev bX (X : Cx) (cad : Nat → Addr) (call : Nat → List W → Sto → Option (W × Sto)) (cls : Nat → Nat) (cs : List Sc) : TS := tB (qX X cad) call cls cs
theorem b_nil : PSs X [] (bX X cad call cls []) := PSs.weak pss_nil fun D σ H ⟨R0, H0, a0, R, ads, O, env, S, out, S', A, ev, k⟩ => by
  simp only [evB] at ev
  cases ev
  exact k _ _ _ _ _ (.refl _) A
theorem b_cons (h1 : PS X st (sX X cad call cls sc)) (h2 : PSs X sts (bX X cad call cls cs)) : PSs X (st :: sts) (bX X cad call cls (sc :: cs)) := by
  refine PSs.weak (pss_cons h1 h2) fun D σ H ⟨R0, H0, a0, R, ads, O, env, S, out, S', A, ev, k⟩ => ?_
  simp only [evB] at ev
  obtain ⟨o, S1, e1, ev⟩ := bnd_inv ev
  refine ⟨R0, H0, a0, R, ads, O, env, S, o, S1, A, e1, ?_⟩
  cases o with
  | nx env' => exact fun σ' H' R' ads' O' s A' => ⟨R0, H0, a0, R', ads', O', env', S1, out, S', A', ev, k.sub s⟩
  | rt w => cases ev; exact k
/-- a docstring is nothing -/
theorem b_doc {x : Str} {j : Nat} {p p2 : Pos} (h2 : PSs X sts (bX X cad call cls cs)) : PSs X (.Expr (.Constant (.str x) j p) p2 :: sts) (bX X cad call cls cs) := PSs.weak (pss_cons ps_doc h2) fun D σ H h => h
theorem s_never : PS X st (sX X cad call cls .never) := PS.weak ps_never fun D σ H ⟨R0, H0, a0, R, ads, O, env, S, out, S', A, ev, k⟩ => by
  simp only [evS] at ev
  cases ev
theorem s_if {tc : Expr} {cc : C} {a b : List Stmt} {as bs : List Sc} (hc : PT X tc (uX X cad call cls cc)) (ha : PSs X a (bX X cad call cls as)) (hb : PSs X b (bX X cad call cls bs)) : PS X (.If tc a b pos) (sX X cad call cls (.ifs cc as bs)) := by
  refine PS.weak (ps_if hc ha hb) fun D σ H ⟨R0, H0, a0, R, ads, O, env, S, out, S', A, ev, k⟩ => ?_
  simp only [evS] at ev
  obtain ⟨wa, S1, ea, ev⟩ := bnd_inv ev
  obtain ⟨xa, e1, ev⟩ := ob_inv ev
  obtain ⟨bb, e2, ev⟩ := ob_inv ev
  obtain rfl := boolOf_inv e2
  obtain rfl := pu_inv e1
  refine ⟨R, ads, O, env, S, bb, S1, A.full, ea, fun H1 R1 a1 g1 F1 => ?_⟩
  have A1 := A.step g1 F1
  have s1 := g1.sub A.full.sub
  cases bb with
  | true =>
    simp only [if_true]
    exact ⟨R0, H0, a0, R1, a1, O, env, S1, out, S', A1, ev, k.sub s1⟩
  | false =>
    simp only [Bool.false_eq_true, if_false]
    exact ⟨R0, H0, a0, R1, a1, O, env, S1, out, S', A1, ev, k.sub s1⟩
theorem s_expr (he : PE X e (tX X cad call cls c)) (hs : swapsWith e none pos.line X.env = pure false) : PS X (.Expr e pos) (sX X cad call cls (.expr c)) := by
  refine PS.weak (ps_expr he hs) fun D σ H ⟨R0, H0, a0, R, ads, O, env, S, out, S', A, ev, k⟩ => ?_
  simp only [evS] at ev
  obtain ⟨wa, S1, ea, ev⟩ := bnd_inv ev
  cases ev
  exact one A.full ea fun u H1 R1 a1 g1 F1 w1 => k _ _ _ _ _ (g1.sub A.full.sub) (A.step g1 F1)
/-! names set -/
theorem nm_rd {i : Nat} {D : Ends} {σ : St} {H : Hp} {q : Wd} (h : tS q call cls (.asg (.nm i) c) D σ H) : tAsg (tE q call cls c) (gName i) D σ H := by
  obtain ⟨R0, H0, a0, R, ads, O, env, S, out, S', A, ev, k⟩ := h
  simp only [evS] at ev
  obtain ⟨wa, S1, ea, ev⟩ := bnd_inv ev
  obtain ⟨xa, e1, ev⟩ := ob_inv ev
  cases ev
  refine one A.full ea fun u H1 R1 a1 g1 F1 w1 => ?_
  have s1 := g1.sub A.full.sub
  have hsl : SlR q R1 H1 a1 u xa [] := by
    cases w1 with
    | d h => cases e1; exact .d h
    | c h => cases e1; exact .c h
    | o h => cases e1
    | f h l => cases e1
  obtain ⟨O', h1, F2⟩ := F1.put (i := i) hsl
  exact k _ _ _ _ O' s1 ⟨F2, A.grow.trans g1, fun p hp => A.new p (h1 p hp)⟩
theorem s_nm {i : Nat} {x : Str} {pos' : Pos} (hN : X.N.Nodup) (hi : X.N[i]? = some x) (hx : Loc X.env.scope x) (he : PE X e (tX X cad call cls c)) (hs : swapsWith e (some (.Name x pos')) pos.line X.env = pure false) (hf : X.fn x = true ∨ X.env.scope.names.lookup x = some .local) :
    PS X (.Assign [.Name x pos'] e pos) (sX X cad call cls (.asg (.nm i) c)) := PS.weak (ps_set hN hi hx he hs hf) fun D σ H h => nm_rd h
theorem s_nmC {ifs : List Expr} {scope : Scope} {own : List (Str × Nat)} {ctg : Tg} {cit : VI.It} {ct : Option C} {i : Nat} {y : Str} {py spos : Pos} (G : Gd X k) (hy : X.N[i]? = some y) (hyl : X.env.scope.names.lookup y = some .local)
    (hsw : swapsWith (.ListComp elt [⟨tg, iter, ifs, 0⟩] scope pos) (some (.Name y py)) spos.line X.env = pure true) (hi : PI X tg iter (wX X cad call cls cit)) (ok : BlkOk X.N X.env.scope scope own) (ho : own.map (·.2) = tgSlots ctg)
    (hg : ∀ (s : Shared) (H : Hp) (C : Addr) (cl : List (Str × Addr)) (fp : List Addr), PG (X.blk s H scope (compEnvC scope cl C X.env) fp) tg (gT X.K ctg))
    (ht : ∀ (s : Shared) (H : Hp) (C : Addr) (cl : List (Str × Addr)) (fp : List Addr), PTs (X.blk s H scope (compEnvC scope cl C X.env) fp) ifs (tTs (qX X cad) call cls ct))
    (he : ∀ (s : Shared) (H : Hp) (C : Addr) (cl : List (Str × Addr)) (fp : List Addr), PE (X.blk s H scope (compEnvC scope cl C X.env) fp) elt (tX X cad call cls ce))
    (hs : ∀ x, foldedSetIterable iter X.env x = pure x) :
    PS X (.Assign [.Name y py] (.ListComp elt [⟨tg, iter, ifs, 0⟩] scope pos) spos) (sX X cad call cls (.asg (.nm i) (.comp ce ctg cit ct))) := by
  refine PS.weak (ps_setLc G.calm G.nd hy hyl hsw hi ok hg ht he hs) fun D σ H h => ?_
  have h' : tE (qX X cad) call cls (.comp ce ctg cit ct) σ H fun x H1 => gName i x σ H1 D.nx := nm_rd h
  rw [ho]
  exact comp_rd h'
theorem own_rd {i : Nat} {D : Ends} {σ : St} {H : Hp} {q : Wd} (h : tS q call cls (.asg (.own i) c) D σ H) : tAsg (tF q call cls c) (gName i) D σ H := by
  obtain ⟨R0, H0, a0, R, ads, O, env, S, out, S', A, ev, k⟩ := h
  simp only [evS] at ev
  obtain ⟨wa, S1, ea, ev⟩ := bnd_inv ev
  obtain ⟨xa, e1, ev⟩ := ob_inv ev
  cases ev
  have ⟨x, e2, hfr, e3⟩ : ∃ x, wa = .d x ∧ isFresh x = true ∧ xa = .own x := by
    cases wa <;> simp only [rhsOf] at e1 <;> try (cases e1; done)
    obtain ⟨h1, h2⟩ := gd_inv e1
    cases h2
    exact ⟨_, rfl, h1, rfl⟩
  subst e2 e3
  refine ⟨R, ads, O, env, S, x, S', A.full, ea, hfr, fun a H1 R1 a1 g1 F1 ow rn nO no hn => ?_⟩
  have s1 := g1.sub A.full.sub
  obtain ⟨O', h1, F2⟩ := F1.slot (i := i) (v := some (.ref a)) (e := some (.own x)) (N := [a]) (.inr ⟨_, _, rfl, rfl, .own ow⟩) (by simp) fun b hb => by
    obtain rfl := List.mem_singleton.mp hb
    exact ⟨nO, no, rn⟩
  refine k _ _ _ _ O' s1 ⟨F2, A.grow.trans g1, fun p hp => ?_⟩
  rcases h1 p hp with h | h
  · exact A.new p h
  · obtain rfl := List.mem_singleton.mp h
    cases z : H0 p with
    | none => rfl
    | some u => obtain ⟨u', y⟩ := A.grow.dom p u z; rw [hn] at y; cases y
theorem s_own {i : Nat} {x : Str} {pos' : Pos} (hN : X.N.Nodup) (hi : X.N[i]? = some x) (hx : Loc X.env.scope x) (he : PE X e (tF (qX X cad) call cls c)) (hs : swapsWith e (some (.Name x pos')) pos.line X.env = pure false) (hf : X.fn x = true ∨ X.env.scope.names.lookup x = some .local) :
    PS X (.Assign [.Name x pos'] e pos) (sX X cad call cls (.asg (.own i) c)) := PS.weak (ps_set hN hi hx he hs hf) fun D σ H h => own_rd h
/-! new mutable things -/
theorem finF {q : Wd} {R H R1 H1 : Hp} {ads a1 : List CA} {O : List Addr} {σ : St} {env : Env} {S' : Sto} {x : D} {o : HO} {p : Addr} {Q : VK} (g1 : Grow R H ads R1 H1 a1) (F1 : Full q R1 H1 a1 O σ env S')
    (k : ∀ a H' R' ads', Grow R H ads R' H' ads' → Full q R' H' ads' O σ env S' → OwnAt q R' H' a x → R' a = none → a ∉ O → a ∉ owns ads' → H a = none → Q (.ref a) H') (hp : H1 p = none) (r : ObjR q R1 p o x) : Q (.ref p) (upd H1 p o) := by
  obtain ⟨F2, g2⟩ := F1.garb (o := o) hp
  have fr := F1.fresh hp
  refine k p _ _ _ (g1.trans g2) F2 ⟨o, upd_same, r⟩ (F1.Rnone hp) (fun z => fr (List.mem_append_left _ z)) (fun z => fr (List.mem_append_right _ z)) ?_
  cases z : H p with
  | none => rfl
  | some u => obtain ⟨u', y⟩ := g1.dom p u z; rw [hp] at y; cases y
theorem f_lst {es : List Expr} {cs : List C} (ha : PA X es (tA (qX X cad) call cls cs)) (hs : shortB cs.length = true) : PE X (.List es pos) (tF (qX X cad) call cls (.lst cs)) := by
  refine PE.weak (pe_lst ha) fun σ H Q ⟨R, ads, O, env, S, x, S', F, ev, hfr, k⟩ => ?_
  simp only [evE] at ev
  obtain ⟨xs, S1, ea, ev⟩ := bnd_inv ev
  cases ev
  refine ⟨R, ads, O, env, S, xs, _, F, ea, fun vs H1 R1 a1 g F1 t => ⟨?_, fun p hp => finF g F1 k hp (.lst t)⟩⟩
  rw [t.length, evEs_len ea]
  exact short_ok hs
theorem f_dct0 : PE X (.Dict [] [] pos) (tF (qX X cad) call cls .dct0) := by
  refine PE.weak pe_dnewK fun σ H Q ⟨R, ads, O, env, S, x, S', F, ev, hfr, k⟩ => ?_
  simp only [evE] at ev
  cases ev
  exact fun p hp => finF (.refl _ _ _) F k hp (.dk .nil)
theorem f_add {a b : Expr} (ha : PE X a (tX X cad call cls ca)) (hb : PE X b (tX X cad call cls cb)) : PE X (.BinOp a (opOf .add) b pos) (tF (qX X cad) call cls (.bin .add ca cb)) := by
  refine PE.weak (pe_op op_catR ha hb) fun σ H Q ⟨R, ads, O, env, S, x, S', F, ev, hfr, k⟩ => ?_
  simp only [evE] at ev
  obtain ⟨wa, S1, ea, ev⟩ := bnd_inv ev
  obtain ⟨wb, S2, eb, ev⟩ := bnd_inv ev
  obtain ⟨xa, e1, ev⟩ := ob_inv ev
  obtain ⟨xb, e2, ev⟩ := ob_inv ev
  obtain ⟨z, e3, ev⟩ := ob_inv ev
  cases ev
  refine two F ea eb fun u v H2 R2 a2 g F2 wu wv => ?_
  cases xa <;> try (simp only [binD] at e3; cases e3; done)
  · cases xb <;> simp only [binD] at e3 <;> cases e3
    cases hfr
  · cases xb <;> try (simp only [binD] at e3; cases e3; done)
    simp only [binD] at e3
    obtain ⟨hz, e3⟩ := gd_inv e3
    cases e3
    obtain ⟨l, vs, rfl, h1, t1⟩ := (F2.read wu e1).lst F2.sub
    obtain ⟨b, us, rfl, h2, t2⟩ := (Vd.r (Full.puR wv e2)).lst F2.sub
    refine ⟨l, b, vs, us, rfl, rfl, h1, h2, ?_, fun p hp => finF g F2 k hp (.lst (t1.append t2))⟩
    rw [t1.length, t2.length]; exact of_decide_eq_true hz
  · cases xb <;> try (simp only [binD] at e3; cases e3; done)
    simp only [binD] at e3
    obtain ⟨hz, e3⟩ := gd_inv e3
    cases e3
    cases hfr
theorem s_frz_never : True := trivial
end
end
end VI
set_option Elab.async false
set_option linter.all false
set_option maxRecDepth 100000
/-! V22: own slots and cells taken out, written, put in. -/
namespace VI
open PySem PySem.Spec L2 C8
open PyProof.Rows hiding St
section
variable {q : Wd} {R R' H H' R0 H0 : Hp} {ads ads' a0 : List CA} {O : List Addr} {σ : St} {env : Env} {S : Sto}
theorem set_id {α : Type} : ∀ {l : List α} {i : Nat} {a : α}, l[i]? = some a → l.set i a = l
  | [], _, _, h => by simp at h
  | b :: l, 0, a, h => by simp at h; subst h; rfl
  | b :: l, i + 1, a, h => by rw [List.set_cons_succ, set_id (l := l) (i := i) (by simpa using h)]
/-- an own thing, its slot emptied -/
theorem Full.out {i : Nat} {x : D} (F : Full q R H ads O σ env S) (h : env[i]? = some (some (.own x))) : ∃ a O1, σ[i]? = some (some (.ref a)) ∧ OwnAt q R H a x ∧ a ∈ O ∧ R a = none ∧ a ∉ owns ads ∧ a ∉ O1 ∧ (∀ p, p ∈ O1 → p ∈ O) ∧ Full q R H ads O1 σ (env.set i none) S := by
  have hi : i < σ.length := by rw [F.env.len]; exact (List.getElem?_eq_some_iff.mp h).1
  obtain ⟨A, B, C, e1, ⟨v, e, h1, h2, h3⟩, k⟩ := F.env.cut hi
  rw [h] at h2
  cases h2
  rcases h3 with ⟨h3, _⟩ | ⟨v0, s, rfl, h4, h5⟩
  · cases h3
  · cases h4
    cases h5 with
    | @own a _ ow =>
      have nd := F.nd
      have un := F.un a (by rw [e1]; simp)
      have dis := F.apart a (by rw [e1]; simp)
      rw [e1] at nd
      simp only [List.nodup_append, List.mem_append, List.mem_singleton] at nd
      obtain ⟨⟨nA, ⟨nB, nC, hBC⟩, hABC⟩, nw, hw⟩ := nd
      have k1 := k (some (.ref a)) none [] (.inl ⟨rfl, rfl⟩)
      rw [set_id h1, List.nil_append] at k1
      refine ⟨a, A ++ C, h1, ow, by rw [e1]; simp, un, dis, fun z => ?_, fun p hp => ?_, ⟨F.sub, k1, F.sto, ?_, fun p hp => ?_⟩⟩
      · rcases List.mem_append.mp z with z | z
        · exact hABC a z a (.inl rfl) rfl
        · exact hBC a rfl a z rfl
      · rw [e1]
        rcases List.mem_append.mp hp with z | z
        · simp [z]
        · simp [z]
      · simp only [List.nodup_append, List.mem_append]
        refine ⟨⟨nA, nC, fun b hb c hc => hABC b hb c (.inr hc)⟩, nw, fun b hb c hc => ?_⟩
        rcases hb with hb | hb
        · exact hw b (.inl hb) c hc
        · exact hw b (.inr (.inr hb)) c hc
      · refine F.un p ?_
        rw [e1]
        rcases List.mem_append.mp hp with z | z
        · rcases List.mem_append.mp z with z | z
          · simp [z]
          · simp [z]
        · simp [z]
/-- an object that is nobody's goes into R -/
theorem Full.into {p : Addr} {o : HO} (F : Full q R H ads O σ env S) (h : p ∉ O ++ owns ads) (rn : R p = none) : Full q (upd R p o) (upd H p o) ads O σ env S := by
  have sb : Sub R (upd R p o) := fun b w e => by rw [upd_ne (fun z => by rw [z, rn] at e; cases e)]; exact e
  have kp : ∀ b w, b ≠ p → H b = some w → upd H p o b = some w := fun b w z e => by rw [upd_ne z]; exact e
  refine ⟨fun b w e => ?_, F.env.keep sb fun b w hb => kp b w (fun z => h (z ▸ List.mem_append_left _ hb)), F.sto.keep sb fun b w hb => kp b w (fun z => h (z ▸ List.mem_append_right _ hb)), F.nd, fun b hb => ?_⟩
  · by_cases z : b = p
    · rw [z, upd_same] at e ⊢; exact e
    · rw [upd_ne z] at e ⊢; exact F.sub b w e
  · rw [upd_ne (show b ≠ p from fun z => h (z ▸ hb))]; exact F.un b hb
theorem Grow.into {p : Addr} {o : HO} (g : Grow R0 H0 a0 R H ads) (h : H0 p = none) : Grow R0 H0 a0 (upd R p o) (upd H p o) ads := by
  have ne : ∀ a u, H0 a = some u → a ≠ p := fun a u e z => by rw [z, h] at e; cases e
  refine ⟨g.le, fun a u e => ?_, fun a u e n => ?_, fun a u e => ?_, g.own⟩
  · rw [upd_ne (ne a u e)]; exact g.rext a u e
  · rw [upd_ne (ne a u e)]; exact g.keep a u e n
  · rw [upd_ne (ne a u e)]; exact g.dom a u e
/-- an own slot's thing, written -/
theorem At.mut {i : Nat} {x y : D} (A : At q R0 H0 a0 R H ads O σ env S) (h : env[i]? = some (some (.own x))) : ∃ a, σ[i]? = some (some (.ref a)) ∧ OwnAt q R H a x ∧ R a = none ∧ ∀ o', ObjR q R a o' y → ∃ O', At q R0 H0 a0 R (upd H a o') ads O' σ (env.set i (some (.own y))) S := by
  obtain ⟨a, O1, h1, ow, hO, rn, na, nO, sO, F1⟩ := A.full.out h
  refine ⟨a, h1, ow, rn, fun o' r => ?_⟩
  have F2 := F1.write (o := o') rn (fun z => (List.mem_append.mp z).elim nO na)
  obtain ⟨O', s1, F3⟩ := F2.slot (i := i) (v := some (.ref a)) (e := some (.own y)) (N := [a]) (.inr ⟨_, _, rfl, rfl, .own ⟨o', upd_same, r⟩⟩) (by simp) fun b hb => by
    obtain rfl := List.mem_singleton.mp hb
    exact ⟨nO, na, rn⟩
  rw [set_id h1, List.set_set] at F3
  refine ⟨O', F3, A.grow.write (A.new a hO), fun p hp => ?_⟩
  rcases s1 p hp with z | z
  · exact A.new p (sO p z)
  · obtain rfl := List.mem_singleton.mp z
    exact A.new p hO
/-- an own slot's thing goes into R for good -/
theorem At.frz {i : Nat} {x : D} (A : At q R0 H0 a0 R H ads O σ env S) (h : env[i]? = some (some (.own x))) : ∃ a o, σ[i]? = some (some (.ref a)) ∧ H a = some o ∧ Mut (some o) ∧ H0 a = none ∧ R a = none ∧
    ((∃ xs, x = .list xs) ∨ ∃ ds, x = .dict ds) ∧
    (∀ xs, x = .list xs → ∃ O', Sub R (upd R a o) ∧ Rp q (upd R a o) (.ref a) x ∧ At q R0 H0 a0 (upd R a o) H ads O' σ (env.set i (some (.d x))) S) ∧
    ∀ od ds, x = .dict ds → ∃ O', Sub R (upd R a (.frz od o)) ∧ Rp q (upd R a (.frz od o)) (.ref a) x ∧ At q R0 H0 a0 (upd R a (.frz od o)) (upd H a (.frz od o)) ads O' σ (env.set i (some (.d x))) S := by
  obtain ⟨a, O1, h1, ow, hO, rn, na, nO, sO, F1⟩ := A.full.out h
  obtain ⟨o, ho, r⟩ := ow
  have hn := A.new a hO
  have fin : ∀ o2, Rp q (upd R a o2) (.ref a) x → ∃ O', Sub R (upd R a o2) ∧ Rp q (upd R a o2) (.ref a) x ∧ At q R0 H0 a0 (upd R a o2) (upd H a o2) ads O' σ (env.set i (some (.d x))) S := fun o2 rp => by
    have F2 := F1.into (o := o2) (fun z => (List.mem_append.mp z).elim nO na) rn
    obtain ⟨O', s1, F3⟩ := F2.put (i := i) (.d rp)
    rw [set_id h1, List.set_set] at F3
    exact ⟨O', fun b w e => by rw [upd_ne (fun z => by rw [z, rn] at e; cases e)]; exact e, rp, F3, A.grow.into hn, fun p hp => A.new p (sO p (s1 p hp))⟩
  have sb : ∀ o2, Sub R (upd R a o2) := fun o2 b w e => by rw [upd_ne (fun z => by rw [z, rn] at e; cases e)]; exact e
  refine ⟨a, o, h1, ho, ownAt_mut r, hn, rn, ?_, fun xs ex => ?_, fun od ds ex => ?_⟩
  · cases r with
    | lst => exact .inl ⟨_, rfl⟩
    | dk => exact .inr ⟨_, rfl⟩
    | dn => exact .inr ⟨_, rfl⟩
  · subst ex
    cases r with
    | lst t =>
      have e := fin (.lst _) (.lst (.inl (.inl upd_same)) (t.mono (sb _)))
      rw [upd_id ho] at e
      exact e
  · subst ex
    cases r with
    | dk t => exact fin _ (.dk upd_same (t.mono (sb _)))
    | dn t => exact fin _ (.dn upd_same (t.mono (sb _)))
/-! ### cells -/
structure CExt (c c' : CA) : Prop where
  a : c'.a = c.a
  look : ∀ n l, c.fl.lookup n = some l → c'.fl.lookup n = some l
  sub : ∀ p, p ∈ ownC c → p ∈ ownC c'
theorem CExt.refl (c : CA) : CExt c c := ⟨rfl, fun _ _ h => h, fun _ h => h⟩
theorem ads_set {j : Nat} {c c' : CA} (h : ads[j]? = some c) : ∃ A B, ads = A ++ c :: B ∧ ads.set j c' = A ++ c' :: B := by
  have hj := (List.getElem?_eq_some_iff.mp h).1
  have e : ads[j] = c := (List.getElem?_eq_some_iff.mp h).2
  refine ⟨ads.take j, ads.drop (j + 1), ?_, List.set_eq_take_append_cons_drop .. |>.trans (by rw [if_pos hj])⟩
  rw [← e, ← List.drop_eq_getElem_cons hj, List.take_append_drop]
theorem StoR.set {j : Nat} {c' : CA} {x' : Cell} (hx : CellR q R' H' c' x') : ∀ {ads : List CA} {S : Sto} {j : Nat}, (∀ (i : Nat) c x, i ≠ j → ads[i]? = some c → S[i]? = some x → CellR q R' H' c x) → ads.length = S.length → StoR q R' H' (ads.set j c') (S.set j x')
  | [], [], _, _, _ => .nil
  | [], _ :: _, _, _, e => by cases e
  | _ :: _, [], _, _, e => by cases e
  | c :: ads, x :: S, 0, k, e => by
    refine .cons hx ?_
    have go : ∀ {ads : List CA} {S : Sto}, ads.length = S.length → (∀ (i : Nat) c x, ads[i]? = some c → S[i]? = some x → CellR q R' H' c x) → StoR q R' H' ads S := by
      intro ads
      induction ads with
      | nil => intro S e _; cases S with | nil => exact .nil | cons => cases e
      | cons c ads ih =>
        intro S e k
        cases S with
        | nil => cases e
        | cons x S => exact .cons (k 0 c x rfl rfl) (ih (Nat.succ.inj e) fun i c x h1 h2 => k (i + 1) c x h1 h2)
    exact go (Nat.succ.inj e) fun i c x h1 h2 => k (i + 1) c x (by omega) h1 h2
  | c :: ads, x :: S, j + 1, k, e => .cons (k 0 c x (by omega) rfl rfl) (StoR.set hx (j := j) (fun i c x hi h1 h2 => k (i + 1) c x (by omega) h1 h2) (Nat.succ.inj e))
theorem ownC_in {i : Nat} {c : CA} (h : ads[i]? = some c) : ∀ p, p ∈ ownC c → p ∈ owns ads := fun p hp => List.mem_flatMap.mpr ⟨c, List.mem_of_getElem? h, hp⟩
theorem owns_apart {i j : Nat} {c d : CA} (nd : (owns ads).Nodup) (hi : ads[i]? = some c) (hj : ads[j]? = some d) (n : i ≠ j) : ∀ p, p ∈ ownC c → p ∉ ownC d := by
  induction ads generalizing i j with
  | nil => simp at hi
  | cons x ads ih =>
    intro p h1 h2
    have nd' : (ownC x ++ owns ads).Nodup := nd
    obtain ⟨n1, n2, n3⟩ := List.nodup_append.mp nd'
    cases i with
    | zero =>
      cases j with
      | zero => exact n rfl
      | succ j =>
        simp at hi hj; subst hi
        exact n3 p h1 p (ownC_in hj p h2) rfl
    | succ i =>
      cases j with
      | zero =>
        simp at hi hj; subst hj
        exact n3 p h2 p (ownC_in hi p h1) rfl
      | succ j => exact ih n2 (i := i) (j := j) (by simpa using hi) (by simpa using hj) (by omega) p h1 h2
theorem Full.cell {j : Nat} {c c' : CA} {x' : Cell} (F : Full q R H ads O σ env S) (hc : ads[j]? = some c) (ext : CExt c c') (hx : CellR q R H' c' x') (nd : (ownC c').Nodup) (new : ∀ p, p ∈ ownC c' → p ∈ ownC c ∨ (p ∉ O ++ owns ads ∧ R p = none))
    (k : ∀ p o, p ∉ ownC c' → H p = some o → H' p = some o) : Full q R H' (ads.set j c') O σ env (S.set j x') := by
  obtain ⟨A, B, e1, e2⟩ := ads_set (c' := c') hc
  have hO : ∀ p, p ∈ O → p ∉ ownC c' := fun p hp z => by
    rcases new p z with h | h
    · exact F.apart p hp (ownC_in hc p h)
    · exact h.1 (List.mem_append_left _ hp)
  have hR : ∀ p, p ∈ ownC c' → R p = none := fun p z => by
    rcases new p z with h | h
    · exact F.un p (List.mem_append_right _ (ownC_in hc p h))
    · exact h.2
  have ndo : (owns ads).Nodup := (List.nodup_append.mp F.nd).2.1
  have hle : AdsLe ads (ads.set j c') := ⟨fun i d e => by
    by_cases z : j = i
    · subst z
      rw [hc] at e; cases e
      exact ⟨c', by rw [List.getElem?_set_self (List.getElem?_eq_some_iff.mp hc).1], ext.a, ext.look⟩
    · exact ⟨d, by rw [List.getElem?_set_ne z]; exact e, rfl, fun _ _ h => h⟩⟩
  refine ⟨fun a o e => k a o (fun z => by rw [hR a z] at e; cases e) (F.sub a o e), ?_, ?_, ?_, fun p hp => ?_⟩
  · have e3 := F.env.keep (R' := R) (H' := H') (.refl R) fun a o ha e => k a o (hO a ha) e
    have go : ∀ {σ : St} {env : Env} {O : List Addr}, EnvR q R H' ads σ env O → EnvR q R H' (ads.set j c') σ env O := by
      intro σ env O h
      induction h with
      | nil => exact .nil
      | hole _ ih => exact .hole ih
      | slot s _ ih =>
        refine .slot ?_ ih
        cases s with
        | d h => exact .d h
        | c h =>
          obtain ⟨c2, e, f, _⟩ := hle.le _ _ h
          rw [← f]; exact .c e
        | own h => exact .own h
    exact go e3
  · refine StoR.set (j := j) hx (fun i d x hi h1 h2 => ?_) F.sto.length
    refine (F.sto.get h1 h2).keep (.refl R) fun a o ha e => k a o (fun z => ?_) e
    rcases new a z with h | h
    · exact owns_apart ndo h1 hc hi a ha h
    · exact h.1 (List.mem_append_right _ (ownC_in h1 a ha))
  · have n1 := F.nd
    rw [e1] at n1
    rw [e2]
    have o1 : ∀ d, owns (A ++ d :: B) = owns A ++ (ownC d ++ owns B) := fun d => by simp [owns]
    rw [o1] at n1 ⊢
    have inA : ∀ p, p ∈ owns A → p ∈ owns ads := fun p hp => by rw [e1, o1]; simp [hp]
    have inB : ∀ p, p ∈ owns B → p ∈ owns ads := fun p hp => by rw [e1, o1]; simp [hp]
    simp only [List.nodup_append, List.mem_append] at n1 ⊢
    obtain ⟨nO, ⟨nA, ⟨nc, nB, hcB⟩, hAcB⟩, hOw⟩ := n1
    refine ⟨nO, ⟨nA, ⟨nd, nB, fun a ha b hb e => ?_⟩, fun a ha b hb e => ?_⟩, fun a ha b hb e => ?_⟩
    · subst e
      rcases new a ha with h | h
      · exact hcB a h a hb rfl
      · exact h.1 (List.mem_append_right _ (inB a hb))
    · subst e
      rcases hb with hb | hb
      · rcases new a hb with h | h
        · exact hAcB a ha a (.inl h) rfl
        · exact h.1 (List.mem_append_right _ (inA a ha))
      · exact hAcB a ha a (.inr hb) rfl
    · subst e
      rcases hb with hb | hb | hb
      · exact hOw a ha a (.inl hb) rfl
      · exact hO a ha hb
      · exact hOw a ha a (.inr (.inr hb)) rfl
  · rcases List.mem_append.mp hp with h | h
    · exact F.un p (List.mem_append_left _ h)
    · rw [e2] at h
      have o1 : owns (A ++ c' :: B) = owns A ++ (ownC c' ++ owns B) := by simp [owns]
      rw [o1] at h
      rcases List.mem_append.mp h with h | h
      · exact F.un p (List.mem_append_right _ (by rw [e1]; simp [owns] at h ⊢; exact .inl h))
      · rcases List.mem_append.mp h with h | h
        · exact hR p h
        · exact F.un p (List.mem_append_right _ (by rw [e1]; simp [owns] at h ⊢; exact .inr (.inr h)))
theorem Grow.cell {j : Nat} {c c' : CA} {x' : Cell} (g : Grow R0 H0 a0 R H ads) (hc : ads[j]? = some c) (ext : CExt c c') (hx : CellR q R H' c' x') (new : ∀ p, p ∈ ownC c' → p ∈ ownC c ∨ H0 p = none) (k : ∀ p o, p ∉ ownC c' → H p = some o → H' p = some o) : Grow R0 H0 a0 R H' (ads.set j c') := by
  have hle : AdsLe ads (ads.set j c') := ⟨fun i d e => by
    by_cases z : j = i
    · subst z
      rw [hc] at e; cases e
      exact ⟨c', by rw [List.getElem?_set_self (List.getElem?_eq_some_iff.mp hc).1], ext.a, ext.look⟩
    · exact ⟨d, by rw [List.getElem?_set_ne z]; exact e, rfl, fun _ _ h => h⟩⟩
  have inn : ∀ p, p ∈ owns (ads.set j c') → p ∈ owns ads ∨ H0 p = none := fun p hp => by
    obtain ⟨d, hd, hpd⟩ := List.mem_flatMap.mp hp
    obtain ⟨i, hi⟩ := List.mem_iff_getElem?.mp hd
    by_cases z : j = i
    · subst z
      rw [List.getElem?_set_self (List.getElem?_eq_some_iff.mp hc).1] at hi
      cases hi
      rcases new p hpd with h | h
      · exact .inl (ownC_in hc p h)
      · exact .inr h
    · rw [List.getElem?_set_ne z] at hi
      exact .inl (ownC_in hi p hpd)
  have ko : ∀ p o, H0 p = some o → p ∉ owns a0 → p ∉ ownC c' := fun p o e n z => by
    rcases new p z with h | h
    · rcases g.own p (ownC_in hc p h) with h | h
      · exact n h
      · rw [e] at h; cases h
    · rw [e] at h; cases h
  refine ⟨g.le.trans hle, g.rext, fun p o e n => k p o (ko p o e n) (g.keep p o e n), fun p o e => ?_, fun p hp => ?_⟩
  · obtain ⟨o', e'⟩ := g.dom p o e
    by_cases z : p ∈ ownC c'
    · exact hx.dom p z
    · exact ⟨o', k p o' z e'⟩
  · rcases inn p hp with h | h
    · exact g.own p h
    · exact .inr h
end
end VI
set_option Elab.async false
set_option linter.all false
set_option maxRecDepth 100000
/-! V23: statements that write. -/
namespace VI
open PySem PySem.Spec L2 C8
open PyProof.Rows hiding St
section
open AutoSeq1 (wpAny_loadPart')
/-- xs.extend(ys), ys any list object -/
theorem extW (l : Addr) (xs : Array Value) (n : Nat) (b : Addr) (ys : Array Value) (n2 : Nat) (dd : Option Addr) (sl : Array (Option Value)) (h0 : ¬(!xs.isEmpty && Builtin.List.listTooLong (xs.size + ys.size)) = true) (h1 : xs.size ≤ sizeLine) (h2 : xs.size + ys.size ≤ sizeLine + 1) :
    Meets (Builtin.«list.extend» ⟨[.ref l, .ref b], []⟩) (fun _ Rk z => z.heap.get? l = some { cls := .type "list", dict := none, data := .seq xs n, slots := #[] } ∧ z.heap.get? b = some { cls := .type "list", dict := dd, data := .seq ys n2, slots := sl } ∧
      Rk (.ok (.ret Value.none)) { z with heap := z.heap.update l (Obj.mapSeq fun x => x ++ ys), toks := z.toks }) :=
  .of_wp fun prog w A Rk z hh => by
    obtain ⟨hp, g, d, tk, os⟩ := z
    obtain ⟨hl, hb, hh⟩ := hh
    have t1 := AutoSeq1.idx_int
    have t2 := AutoSeq1.sub_tuple_tuple
    have t3 := AutoSeq1.sub_list_list
    have t4 := AutoSeq1.sub_tuple_list
    have t5 := AutoSeq1.sub_list_tuple
    have hz : (xs ++ ys).size ≤ sizeLine + 1 := by rw [Array.size_append]; exact h2
    wp_walk using (wpAny_updateSeq hl rfl (hz := h1) (_hz' := hz)), wpAny_loadPart' hl, wpAny_loadPart' hb
    exact ⟨_, rfl, hh⟩
end
section
variable {X : Cx}
def rExtR (K : PySem.W.Frag) : V → List V → Hp → VK → Prop := fun x vs H Q => ∃ l b xs zs, x = .ref l ∧ vs = [.ref b] ∧ H l = some (.lst xs) ∧ SqL K H b zs ∧ xs.length + zs.length ≤ sizeLine ∧ Q .non (upd H l (.lst (xs ++ zs)))
theorem mt_extR : MtR X "list.extend" (rExtR X.K) := by
  intro pins s σ H x vs v us Q I rx rv h
  obtain ⟨l, b, xs, zs, rfl, rfl, hH, hB, hz, k⟩ := h
  cases rx
  obtain ⟨u, rfl, ru⟩ := rv.one
  cases ru
  obtain ⟨z, its, n, r, hl, e⟩ := I.lstM hH
  obtain ⟨its2, r2, pl2, z2⟩ := I.list hB
  obtain ⟨⟨cls, dd, data, sl⟩, n2, e2, hc2, _, hd2⟩ := pl2
  simp only at hc2 hd2
  subst hc2 hd2
  have hl2 := r2.length
  have hsz : its.toArray.size + its2.toArray.size ≤ sizeLine := by simp only [List.size_toArray]; omega
  have hlong : ¬ (!its.toArray.isEmpty && Builtin.List.listTooLong (its.toArray.size + its2.toArray.size)) = true := by
    rw [notLongL hsz, Bool.and_false]; exact Bool.false_ne_true
  refine call_meets PySem.F.slot_list_extend ⟨_, e, rfl⟩ PySem.F.entry_list_extend (PySem.F.args_list_extend_2 _ _)
    (extW l its.toArray n b its2.toArray n2 dd sl hlong (by simp only [List.size_toArray]; omega) (by omega)) ⟨e, e2, ?_⟩
  exact ⟨.non, _, I.lset (its' := its ++ its2) hH e (by simp) (r.append r2) (by rw [List.length_append]; omega), rfl, k⟩
end
section
variable {call : Nat → List W → Sto → Option (W × Sto)} {cls : Nat → Nat}
section
variable {X : Cx} {k : Nat} {cad : Nat → Addr}
variable {e kx o : Expr} {ca cb ce ck co c : C} {pos p2 apos cpos : Pos} {sts : List Stmt} {st : Stmt} {cs : List Sc} {sc : Sc} {i : Nat} {x : Str}
theorem tyL {K : PySem.W.Frag} {H : Hp} {a : Addr} {vs : List V} (h : H a = some (.lst vs)) : tyV K "list" (.ref a) H := .inl ⟨rfl, vs, .inl (.inl h)⟩
theorem f_list (G : Gd X k) {a : Expr} {pn : Pos} (ha : PE X a (tX X cad call cls ca)) (ns : notStar a = true) (hg : Gl X "list") (hm : X.mg "list" = none) : PE X (.Call (.Name "list" pn) [a] [] pos) (tF (qX X cad) call cls (.b1 .list ca)) := by
  refine PE.weak (pe_callTy (t := tCons _ tNil) call_list_of hg hm (by decide +kernel) (one_arg ha ns) (by decide) (by decide) (star_ns ns) pl_nil) fun σ H Q ⟨R, ads, O, env, S, z, S', F, ev, hfr, kk⟩ => ?_
  simp only [evE] at ev
  obtain ⟨wa, S1, ea, ev⟩ := bnd_inv ev
  obtain ⟨xa, e1, ev⟩ := ob_inv ev
  obtain ⟨y, e2, ev⟩ := ob_inv ev
  cases ev
  refine one F ea fun u H1 R1 a1 g1 F1 w1 => ?_
  have hu := F1.read w1 e1
  unfold b1D at e2
  split at e2 <;> try (rename_i h1; cases h1; done)
  all_goals try cases e2
  · obtain ⟨l, vs, rfl, hl, t⟩ := hu.lst F1.sub
    exact ⟨l, vs, rfl, .inl hl, fun p hp => finF g1 F1 kk hp (.lst t)⟩
  · obtain ⟨l, vs, rfl, hl, t⟩ := hu.tup F1.sub
    exact ⟨l, vs, rfl, .inr (.of hl), fun p hp => finF g1 F1 kk hp (.lst t)⟩
/-! items of own things -/
def notSl : Expr → Bool
  | .Slice _ _ _ _ => false
  | _ => true
theorem sl_plain {b : Expr} (h : notSl b = true) : PlainIx b := by
  intro o i
  cases b <;> first | rfl | cases h
theorem s_put (G : Gd X k) {tp : Pos} (nsl : notSl kx = true) (hi : X.N[i]? = some x) (hv : Vis X.env.scope x) (hd : (x == ("__debug__" : Str)) = false) (hcd : (x == ("__classdict__" : Str)) = false) (he : PE X e (tX X cad call cls ce)) (hk : PE X kx (tX X cad call cls ck)) :
    PS X (.Assign [.Subscript (.Name x p2) kx tp] e pos) (sX X cad call cls (.asg (.ix i ck) ce)) := by
  refine PS.weak (ps_asg he (pg_sub (pe_var hi hv hd hcd) hk (set_put (cad := cad) G.hu) (by intro v; cases kx <;> first | rfl | cases nsl)) (by cases e <;> rfl) (by cases e <;> rfl) rfl) fun D σ H ⟨R0, H0, a0, R, ads, O, env, S, out, S', A, ev, kk⟩ => ?_
  simp only [evS] at ev
  obtain ⟨wa, S1, ea, ev⟩ := bnd_inv ev
  obtain ⟨v, e1, ev⟩ := ob_inv ev
  obtain ⟨wk, S2, ek, ev⟩ := bnd_inv ev
  obtain ⟨kd, e2, ev⟩ := ob_inv ev
  refine one A.full ea fun u H1 R1 a1 g1 F1 w1 => ?_
  have A1 := A.step g1 F1
  have rv1 := Full.puR w1 e1
  split at ev
  · rename_i xo hx
    obtain ⟨y, e3, ev⟩ := ob_inv ev
    cases ev
    obtain ⟨a, _, s1, _, _, _, _, _, _, _⟩ := F1.out hx
    refine ⟨.ref a, s1, one F1 ek fun uk H2 R2 a2 g2 F2 w2 => ?_⟩
    have A2 := A1.step g2 F2
    obtain ⟨a', s2, ow, rn, fin⟩ := A2.mut (y := y) hx
    rw [s1] at s2; cases s2
    refine ⟨R2, a, xo, kd, v, y, rfl, F2.sub, ow, Full.puR w2 e2, rv1.mono (g2.sub F1.sub), e3, fun o' r => ?_⟩
    obtain ⟨O', A3⟩ := fin o' r
    exact kk _ _ _ _ O' ((g1.sub A.full.sub).trans (g2.sub F1.sub)) A3
  · rename_i j hx
    split at ev
    · rename_i xs hS
      obtain ⟨y, e3, ev⟩ := ob_inv ev
      cases ev
      obtain ⟨vi, s1, wi⟩ := F1.env.at hx
      refine ⟨vi, s1, one F1 ek fun uk H2 R2 a2 g2 F2 w2 => ?_⟩
      have A2 := A1.step g2 F2
      have wi2 := wi.grow g2 F1.sub
      cases wi2 with
      | @c _ cc hc =>
        have hcell := F2.sto.get hc hS
        cases hcell with
        | @own a _ ow =>
          refine ⟨R2, a, .list xs, kd, v, y, rfl, F2.sub, ow, Full.puR w2 e2, rv1.mono (g2.sub F1.sub), e3, fun o' r => ?_⟩
          have k1 : ∀ p u, p ∉ ownC ⟨a, []⟩ → H2 p = some u → upd H2 a o' p = some u := fun p u n e => by
            rw [upd_ne (fun z => n (by rw [z]; simp [ownC]))]; exact e
          have hx2 : CellR (qX X cad) R2 (upd H2 a o') ⟨a, []⟩ (.own y) := .own ⟨o', upd_same, r⟩
          have F3 := F2.cell hc (.refl _) hx2 (by simp [ownC]) (fun p hp => .inl hp) k1
          have g3 := A2.grow.cell hc (.refl _) hx2 (fun p hp => .inl hp) k1
          rw [set_id hc] at F3 g3
          exact kk _ _ _ _ O ((g1.sub A.full.sub).trans (g2.sub F1.sub)) ⟨F3, g3, A2.new⟩
    · cases ev
  · cases ev
/-! append, extend -/
theorem few1 {env : PySem.Env} (ns : notStar e = true) : ((backTo cpos (starEach [e] env)).all (fun x => !x.1) && (backToKw cpos (keywordEach [] env)).all (fun x => x.1.isSome)
      && decide (([e] : List Expr).length + ([] : List Keyword).length + (if ([] : List Keyword).isEmpty then 0 else 1) < 30)) = true := by
  rw [star_ns ns]; rfl
theorem ownOf_inv {x : Option (Option Sl)} {d : D} (h : ownOf x = some d) : x = some (some (.own d)) := by
  unfold ownOf at h
  split at h
  · cases h; rfl
  · cases h
theorem appD_inv {x y z : D} (h : appD x y = some z) : ∃ xs, x = .list xs ∧ xs.length < sizeLine ∧ z = .list (xs ++ [y]) := by
  cases x <;> simp only [appD] at h <;> try (cases h; done)
  obtain ⟨h1, h2⟩ := gd_inv h
  cases h2
  exact ⟨_, rfl, of_decide_eq_true h1, rfl⟩
theorem objL {q : Wd} {R : Hp} {a : Addr} {o : HO} {xs : List D} (h : ObjR q R a o (.list xs)) : ∃ vs, o = .lst vs ∧ RpL q R vs xs := by
  cases h with
  | lst t => exact ⟨_, rfl, t⟩
theorem s_app (hi : X.N[i]? = some x) (hv : Vis X.env.scope x) (hd : (x == ("__debug__" : Str)) = false) (hcd : (x == ("__classdict__" : Str)) = false) (he : PE X e (tX X cad call cls ce)) (ns : notStar e = true) (hline : (apos.endLine == cpos.line) = true) :
    PS X (.Expr (.Call (.Attribute (.Name x p2) "append" apos) [e] [] cpos) pos) (sX X cad call cls (.app i ce)) := by
  refine PS.weak (ps_expr (pe_bm PySem.F.plainAttrs_list PySem.F.slot_list_append PySem.F.type_list_append mt_append (pe_var hi hv hd hcd) (one_arg he ns) rfl (few1 ns) hline (star_ns ns) pl_nil) rfl) fun D σ H ⟨R0, H0, a0, R, ads, O, env, S, out, S', A, ev, kk⟩ => ?_
  simp only [evS] at ev
  obtain ⟨xo, e0, ev⟩ := ob_inv ev
  have hx := ownOf_inv e0
  obtain ⟨wa, S1, ea, ev⟩ := bnd_inv ev
  obtain ⟨y, e1, ev⟩ := ob_inv ev
  obtain ⟨z, e2, ev⟩ := ob_inv ev
  cases ev
  obtain ⟨xs, rfl, hl, rfl⟩ := appD_inv e2
  obtain ⟨a, _, s1, ⟨o1, ho1, r1⟩, _⟩ := A.full.out hx
  obtain ⟨vs1, rfl, _⟩ := objL r1
  refine ⟨.ref a, s1, tyL ho1, one A.full ea fun u H1 R1 a1 g1 F1 w1 => ?_⟩
  have A1 := A.step g1 F1
  obtain ⟨a', s2, ⟨o, ho, r⟩, rn, fin⟩ := A1.mut (y := .list (xs ++ [y])) hx
  rw [s1] at s2; cases s2
  obtain ⟨vs, rfl, t⟩ := objL r
  obtain ⟨O', A3⟩ := fin (.lst (vs ++ [u])) (.lst (t.append (.one (Full.puR w1 e1))))
  exact ⟨a, vs, u, rfl, rfl, ho, by rw [t.length]; exact hl, kk _ _ _ _ O' (g1.sub A.full.sub) A3⟩
theorem s_ext (hi : X.N[i]? = some x) (hv : Vis X.env.scope x) (hd : (x == ("__debug__" : Str)) = false) (hcd : (x == ("__classdict__" : Str)) = false) (he : PE X e (tX X cad call cls ce)) (ns : notStar e = true) (hline : (apos.endLine == cpos.line) = true) :
    PS X (.Expr (.Call (.Attribute (.Name x p2) "extend" apos) [e] [] cpos) pos) (sX X cad call cls (.ext i ce)) := by
  refine PS.weak (ps_expr (pe_bm PySem.F.plainAttrs_list PySem.F.slot_list_extend PySem.F.type_list_extend mt_extR (pe_var hi hv hd hcd) (one_arg he ns) rfl (few1 ns) hline (star_ns ns) pl_nil) rfl) fun D σ H ⟨R0, H0, a0, R, ads, O, env, S, out, S', A, ev, kk⟩ => ?_
  simp only [evS] at ev
  obtain ⟨xo, e0, ev⟩ := ob_inv ev
  have hx := ownOf_inv e0
  obtain ⟨wa, S1, ea, ev⟩ := bnd_inv ev
  obtain ⟨y, e1, ev⟩ := ob_inv ev
  obtain ⟨z, e2, ev⟩ := ob_inv ev
  cases ev
  have ⟨xs, ys, h1, h2, hl, h3⟩ : ∃ xs ys, xo = .list xs ∧ y = .list ys ∧ xs.length + ys.length ≤ sizeLine ∧ z = .list (xs ++ ys) := by
    cases xo <;> try (simp only [extD] at e2; cases e2; done)
    cases y <;> try (simp only [extD] at e2; cases e2; done)
    simp only [extD] at e2
    obtain ⟨h1, h2⟩ := gd_inv e2
    cases h2
    exact ⟨_, _, rfl, rfl, of_decide_eq_true h1, rfl⟩
  subst h1 h2 h3
  obtain ⟨a, _, s1, ⟨o1, ho1, r1⟩, _⟩ := A.full.out hx
  obtain ⟨vs1, rfl, _⟩ := objL r1
  refine ⟨.ref a, s1, tyL ho1, one A.full ea fun u H1 R1 a1 g1 F1 w1 => ?_⟩
  have A1 := A.step g1 F1
  obtain ⟨a', s2, ⟨o, ho, r⟩, rn, fin⟩ := A1.mut (y := .list (xs ++ ys)) hx
  rw [s1] at s2; cases s2
  obtain ⟨vs, rfl, t⟩ := objL r
  obtain ⟨b, us, rfl, hb, t2⟩ := (Vd.r (Full.puR w1 e1)).lst F1.sub
  obtain ⟨O', A3⟩ := fin (.lst (vs ++ us)) (.lst (t.append t2))
  exact ⟨a, b, vs, us, rfl, rfl, ho, hb, by rw [t.length, t2.length]; exact hl, kk _ _ _ _ O' (g1.sub A.full.sub) A3⟩
end
end
end VI
set_option Elab.async false
set_option linter.all false
set_option maxRecDepth 100000
/-! V24: fields written, unpacking. -/
namespace VI
open PySem PySem.Spec L2 C8
open PyProof.Rows hiding St
section
variable {q : Wd} {R R' H H' : Hp} {vf : List (Str × V)} {fs : List (Str × Bool × D)} {fl : List (Str × Addr)} {n : Str}
theorem FldR.keep (s : Sub R R') (h : FldR q R H vf fs fl) (k : ∀ b o, b ∈ fl.map (·.2) → H b = some o → H' b = some o) : FldR q R' H' vf fs fl := by
  induction h with
  | nil => exact .nil
  | val z _ ih => exact .val (z.mono s) (ih k)
  | own z _ ih => exact .own (z.keep s fun o e => k _ o (List.mem_cons_self ..) e) (ih fun b o hb => k b o (List.mem_cons_of_mem _ hb))
theorem look_ne {α : Type} {m : Str} {a : α} {r : List (Str × α)} (h : m ≠ n) : ((m, a) :: r).lookup n = r.lookup n := by
  rw [List.lookup_cons]
  have e : (n == m) = false := beq_eq_false_iff_ne.mpr fun z => h z.symm
  rw [e]
theorem look_eq {α : Type} {a : α} {r : List (Str × α)} : ((n, a) :: r).lookup n = some a := by
  rw [List.lookup_cons]
  have e : (n == n) = true := beq_self_eq_true n
  rw [e]
theorem look_mem {l : Addr} : ∀ {fl : List (Str × Addr)}, fl.lookup n = some l → l ∈ fl.map (·.2)
  | [], e => by cases e
  | (m, a) :: fl, e => by
    by_cases c : m = n
    · subst c; rw [look_eq] at e; cases e; simp
    · rw [look_ne c] at e
      exact List.mem_cons_of_mem _ (look_mem e)
theorem FldR.setV {v : V} {x : D} (h : FldR q R H vf fs fl) (hv : Rp q R v x) (no : notOwn fs n = true) : FldR q R H (putF n v vf) (setFld n false x fs) fl := by
  induction h with
  | nil => exact .val hv .nil
  | @val m v' y vf fs fl z t ih =>
    unfold putF setFld
    by_cases e : m = n
    · rw [if_pos e, if_pos e]; exact .val hv t
    · rw [if_neg e, if_neg e]
      refine .val z (ih ?_)
      unfold notOwn at no ⊢
      rw [look_ne e] at no; exact no
  | @own m l y vf fs fl z t ih =>
    unfold putF setFld
    by_cases e : m = n
    · subst e
      unfold notOwn at no
      rw [look_eq] at no; cases no
    · rw [if_neg e, if_neg e]
      refine .own z (ih ?_)
      unfold notOwn at no ⊢
      rw [look_ne e] at no; exact no
theorem FldR.setO {l : Addr} {x : D} (h : FldR q R H vf fs fl) (hv : OwnAt q R H l x) (no : fs.lookup n = Option.none) : FldR q R H (putF n (.ref l) vf) (setFld n true x fs) (fl ++ [(n, l)]) := by
  induction h with
  | nil => exact .own hv .nil
  | @val m v' y vf fs fl z t ih =>
    by_cases e : m = n
    · subst e; rw [look_eq] at no; cases no
    · unfold putF setFld
      rw [if_neg e, if_neg e]
      rw [look_ne e] at no
      exact .val z (ih no)
  | @own m l' y vf fs fl z t ih =>
    by_cases e : m = n
    · subst e; rw [look_eq] at no; cases no
    · unfold putF setFld
      rw [if_neg e, if_neg e]
      rw [look_ne e] at no
      exact .own z (ih no)
theorem FldR.mut {l : Addr} {x z : D} {o : HO} (h : FldR q R H vf fs fl) (e : fs.lookup n = some (true, x)) (e' : fl.lookup n = some l) (nd : (vf.map (·.1)).Nodup) (na : (fl.map (·.2)).Nodup) (r : ObjR q R l o z) : FldR q R (upd H l o) vf (setFld n true z fs) fl := by
  induction h with
  | nil => cases e
  | @val m v' y vf fs fl w t ih =>
    by_cases c : m = n
    · subst c; rw [look_eq] at e; cases e
    · unfold setFld
      rw [if_neg c]
      rw [look_ne c] at e
      exact .val w (ih e e' (List.nodup_cons.mp nd).2 na)
  | @own m l' y vf fs fl w t ih =>
    obtain ⟨na1, na2⟩ := List.nodup_cons.mp (show (l' :: fl.map (·.2)).Nodup from na)
    by_cases c : m = n
    · subst c
      rw [look_eq] at e e'
      cases e; cases e'
      unfold setFld
      rw [if_pos rfl]
      refine .own ⟨o, upd_same, r⟩ (t.keep (.refl R) fun b u hb hu => ?_)
      rw [upd_ne (show b ≠ l from fun y => na1 (y ▸ hb))]; exact hu
    · unfold setFld
      rw [if_neg c]
      rw [look_ne c] at e e'
      have hl := look_mem e'
      refine .own (w.keep (.refl R) fun u hu => ?_) (ih e e' (List.nodup_cons.mp nd).2 na2)
      rw [upd_ne (fun y => na1 (by rw [y]; exact hl))]; exact hu
theorem putF_nd {v : V} : ∀ {vf : List (Str × V)}, (vf.map (·.1)).Nodup → ((putF n v vf).map (·.1)).Nodup
  | [], _ => by simp [putF]
  | (g, x) :: r, h => by
    obtain ⟨h1, h2⟩ := List.nodup_cons.mp (show (g :: r.map (·.1)).Nodup from h)
    unfold putF
    by_cases e : g = n
    · rw [if_pos e]; exact h
    · rw [if_neg e]
      refine List.nodup_cons.mpr ⟨fun z => ?_, putF_nd h2⟩
      have go : ∀ {r : List (Str × V)}, g ∈ (putF n v r).map (·.1) → g ∈ r.map (·.1) ∨ g = n := by
        intro r
        induction r with
        | nil => intro z; simp [putF] at z; exact .inr z
        | cons p r ih =>
          obtain ⟨m, y⟩ := p
          intro z
          unfold putF at z
          by_cases c : m = n
          · rw [if_pos c] at z; exact .inl (by simpa using z)
          · rw [if_neg c] at z
            rcases List.mem_cons.mp (show g ∈ m :: (putF n v r).map (·.1) from z) with z | z
            · exact .inl (by rw [z]; simp)
            · rcases ih z with z | z
              · exact .inl (List.mem_cons_of_mem _ z)
              · exact .inr z
      rcases go z with z | z
      · exact h1 z
      · exact e z
theorem FldR.len {vf : List (Str × V)} {fs : List (Str × Bool × D)} {fl : List (Str × Addr)} (h : FldR q R H vf fs fl) : vf.length = fs.length := by
  induction h with
  | nil => rfl
  | val _ _ ih => exact congrArg Nat.succ ih
  | own _ _ ih => exact congrArg Nat.succ ih
theorem ownC_nd {ads : List CA} {i : Nat} {c : CA} (nd : (owns ads).Nodup) (h : ads[i]? = some c) : (ownC c).Nodup := by
  induction ads generalizing i with
  | nil => simp at h
  | cons x ads ih =>
    obtain ⟨n1, n2, _⟩ := List.nodup_append.mp (show (ownC x ++ owns ads).Nodup from nd)
    cases i with
    | zero => simp at h; subst h; exact n1
    | succ i => exact ih n2 (i := i) (by simpa using h)
end
section
variable {call : Nat → List W → Sto → Option (W × Sto)} {cls : Nat → Nat}
section
variable {X : Cx} {k : Nat} {cad : Nat → Addr}
variable {e o : Expr} {ca cb ce ck co c : C} {pos p2 apos cpos : Pos} {sts : List Stmt} {st : Stmt} {cs : List Sc} {sc : Sc} {i : Nat} {n : Str}
/-- o.n = v, by values -/
def gFld (K : PySem.W.Frag) (to : TE) (f : Str) : TG := fun v σ H Q => to σ H fun x H1 => ∃ a C dx fs, x = .ref a ∧ H1 a = some (.ins C dx fs) ∧ Cls K C ∧ NoAttr K C f ∧ fs.length < 1000 ∧ Q σ (upd H1 a (.ins C dx (putF f v fs)))
theorem pg_fld {to : TE} (ho : PE X o to) : PG X (.Attribute o n pos) (gFld X.K to n) := by
  refine ⟨fun pins s σ H v u Q I r w => ?_⟩
  show wpAny _ _ (do
    let ov ← holding [u] (eval o X.env)
    standAt pos.atName
    holding [u, ov] (setAttr ov n u)
    release [u, ov] []) _ _ _
  refine wpAny_bind (wpAny_holding (thn (ho.run pins s σ H _ I w) fun ov s1 ⟨x, H1, I1, rx, a, C, dx, fs, ex, ea, c, na, l, kk⟩ => ?_))
  subst ex
  obtain rfl : ov = Value.ref a := rx
  refine wpAny_bind (wpAny_standAt (wpAny_bind (wpAny_holding (setattr_ok I1 ea c na l r fun s2 I2 => ?_))))
  exact wpAny_release ⟨σ, _, I2, kk⟩
/-- a field that holds a tree, written -/
theorem At.fld {q : Wd} {R0 H0 R H : Hp} {a0 ads : List CA} {O : List Addr} {σ : St} {env : Env} {S : Sto} {j : Nat} {cc : CA} {cl : Nat} {fs : List (Str × Bool × D)} {v : V} {x : D} (A : At q R0 H0 a0 R H ads O σ env S) (hc : ads[j]? = some cc) (hS : S[j]? = some (.ins cl fs)) (hv : Rp q R v x) (no : notOwn fs n = true) :
    ∃ dx vf, H cc.a = some (.ins (q.cad cl) dx vf) ∧ vf.length = fs.length ∧ At q R0 H0 a0 R (upd H cc.a (.ins (q.cad cl) dx (putF n v vf))) ads O σ env (S.set j (.ins cl (setFld n false x fs))) := by
  have hcell := A.full.sto.get hc hS
  have nd := ownC_nd (List.nodup_append.mp A.full.nd).2.1 hc
  cases hcell with
  | @ins a dx _ vf _ fl hi hn hf =>
    obtain ⟨n1, n2⟩ := List.nodup_cons.mp (show (a :: fl.map (·.2)).Nodup from nd)
    have k1 : ∀ p u, p ∉ ownC ⟨a, fl⟩ → H p = some u → upd H a (.ins (q.cad cl) dx (putF n v vf)) p = some u := fun p u z y => by
      rw [upd_ne (fun w => z (by rw [w]; simp [ownC]))]; exact y
    have hx2 : CellR q R (upd H a (.ins (q.cad cl) dx (putF n v vf))) ⟨a, fl⟩ (.ins cl (setFld n false x fs)) := by
      refine .ins upd_same (putF_nd hn) ((hf.setV hv no).keep (.refl R) fun b u hb hu => ?_)
      rw [upd_ne (show b ≠ a from fun w => n1 (w ▸ hb))]; exact hu
    have F3 := A.full.cell hc (.refl _) hx2 nd (fun p hp => .inl hp) k1
    have g3 := A.grow.cell hc (.refl _) hx2 (fun p hp => .inl hp) k1
    rw [set_id hc] at F3 g3
    exact ⟨dx, vf, hi, hf.len, F3, g3, A.new⟩
theorem s_fld (hc : ∀ cl, Cls X.K (cad cl) ∧ NoAttr X.K (cad cl) n) (ho : PE X o (tX X cad call cls co)) (he : PE X e (tX X cad call cls ce)) : PS X (.Assign [.Attribute o n p2] e pos) (sX X cad call cls (.asg (.fld co n) ce)) := by
  refine PS.weak (ps_fld ho he (by cases e <;> rfl)) fun D σ H ⟨R0, H0, a0, R, ads, O, env, S, out, S', A, ev, kk⟩ => ?_
  simp only [evS] at ev
  obtain ⟨wa, S1, ea, ev⟩ := bnd_inv ev
  obtain ⟨v, e1, ev⟩ := ob_inv ev
  obtain ⟨wo, S2, eo, ev⟩ := bnd_inv ev
  split at ev
  · rename_i j
    split at ev
    · rename_i cl fs hS
      obtain ⟨hh, ev⟩ := gd_inv ev
      cases ev
      rw [Bool.and_eq_true, decide_eq_true_eq] at hh
      refine one A.full ea fun u H1 R1 a1 g1 F1 w1 => one F1 eo fun uo H2 R2 a2 g2 F2 w2 => ?_
      cases w2 with
      | @c _ cc hcc =>
        obtain ⟨dx, vf, h1, h2, A3⟩ := ((A.step g1 F1).step g2 F2).fld (n := n) hcc hS ((Full.puR w1 e1).mono (g2.sub F1.sub)) hh.2
        exact ⟨cc.a, cad cl, dx, vf, rfl, h1, (hc cl).1, (hc cl).2, by rw [h2]; exact hh.1, kk _ _ _ _ O ((g1.sub A.full.sub).trans (g2.sub F1.sub)) A3⟩
    · cases ev
  · cases ev
theorem s_fldO (hc : ∀ cl, Cls X.K (cad cl) ∧ NoAttr X.K (cad cl) n) (ho : PE X o (tX X cad call cls co)) (he : PE X e (tF (qX X cad) call cls ce)) : PS X (.Assign [.Attribute o n p2] e pos) (sX X cad call cls (.asg (.fldO co n) ce)) := by
  refine PS.weak (ps_fld ho he (by cases e <;> rfl)) fun D σ H ⟨R0, H0, a0, R, ads, O, env, S, out, S', A, ev, kk⟩ => ?_
  simp only [evS] at ev
  obtain ⟨wa, S1, ea, ev⟩ := bnd_inv ev
  obtain ⟨v, e1, ev⟩ := ob_inv ev
  obtain ⟨wo, S2, eo, ev⟩ := bnd_inv ev
  have e3 := pu_inv e1
  split at ev
  · rename_i j
    split at ev
    · rename_i cl fs xs hS _
      obtain ⟨hh, ev⟩ := gd_inv ev
      cases ev
      rw [Bool.and_eq_true, decide_eq_true_eq] at hh
      subst e3
      refine ⟨R, ads, O, env, S, _, S1, A.full, ea, rfl, fun l H1 R1 a1 g1 F1 ow rn nO no hn => one F1 eo fun uo H2 R2 a2 g2 F2 w2 => ?_⟩
      have hl1 : ∃ o, H1 l = some o := let ⟨o, e, _⟩ := ow; ⟨o, e⟩
      obtain ⟨o1, hl1⟩ := hl1
      have ow2 : OwnAt (qX X cad) R2 H2 l (.list xs) := ow.keep (g2.sub F1.sub) fun u hu => g2.keep l u hu no
      have rn2 : R2 l = none := (g2.rext l _ hl1).trans rn
      have no2 : l ∉ owns a2 := fun z => by
        rcases g2.own l z with z | z
        · exact no z
        · rw [hl1] at z; cases z
      have h0l : H0 l = none := by
        cases z : H0 l with
        | none => rfl
        | some u => obtain ⟨u', y⟩ := A.grow.dom l u z; rw [hn] at y; cases y
      have A2 := (A.step g1 F1).step g2 F2
      cases w2 with
      | @c _ cc hcc =>
        have hcell := F2.sto.get hcc hS
        have nd := ownC_nd (List.nodup_append.mp F2.nd).2.1 hcc
        cases hcell with
        | @ins a dx _ vf _ fl hi hnn hf =>
          obtain ⟨n1, n2⟩ := List.nodup_cons.mp (show (a :: fl.map (·.2)).Nodup from nd)
          have hla : l ≠ a := fun z => no2 (ownC_in hcc l (by rw [z]; simp [ownC]))
          have hlf : l ∉ fl.map (·.2) := fun z => no2 (ownC_in hcc l (List.mem_cons_of_mem _ z))
          have hno : fs.lookup n = none := by simpa using hh.2
          refine ⟨a, cad cl, dx, vf, rfl, hi, (hc cl).1, (hc cl).2, by rw [hf.len]; exact hh.1, ?_⟩
          have k1 : ∀ p u, p ∉ ownC ⟨a, fl ++ [(n, l)]⟩ → H2 p = some u → upd H2 a (.ins (cad cl) dx (putF n (.ref l) vf)) p = some u := fun p u z y => by
            rw [upd_ne (fun w => z (by rw [w]; simp [ownC]))]; exact y
          have ext : CExt ⟨a, fl⟩ ⟨a, fl ++ [(n, l)]⟩ := by
            refine ⟨rfl, fun m b hb => ?_, fun p hp => ?_⟩
            · show (fl ++ [(n, l)]).lookup m = some b
              rw [List.lookup_append, show fl.lookup m = some b from hb]; rfl
            · simp only [ownC, List.map_append, List.mem_cons, List.mem_append] at hp ⊢
              rcases hp with hp | hp
              · exact .inl hp
              · exact .inr (.inl hp)
          have hx2 : CellR (qX X cad) R2 (upd H2 a (.ins (cad cl) dx (putF n (.ref l) vf))) ⟨a, fl ++ [(n, l)]⟩ (.ins cl (setFld n true (.list xs) fs)) := by
            refine .ins upd_same (putF_nd hnn) ((hf.setO ow2 hno).keep (.refl R2) fun b u hb hu => ?_)
            rw [upd_ne (fun w => ?_)]
            · exact hu
            · subst w
              simp only [List.map_append, List.mem_append, List.map_cons, List.map_nil, List.mem_singleton] at hb
              rcases hb with hb | hb
              · exact n1 hb
              · exact hla hb.symm
          have nd2 : (ownC ⟨a, fl ++ [(n, l)]⟩).Nodup := by
            simp only [ownC, List.map_append, List.map_cons, List.map_nil]
            refine List.nodup_cons.mpr ⟨fun z => ?_, List.nodup_append.mpr ⟨n2, by simp, fun b hb d hd e => ?_⟩⟩
            · rcases List.mem_append.mp z with z | z
              · exact n1 z
              · exact hla (List.mem_singleton.mp z).symm
            · rw [List.mem_singleton.mp hd] at e
              exact hlf (e ▸ hb)
          have mem2 : ∀ p, p ∈ ownC ⟨a, fl ++ [(n, l)]⟩ → p ∈ ownC ⟨a, fl⟩ ∨ p = l := fun p hp => by
            simp only [ownC, List.map_append, List.map_cons, List.map_nil, List.mem_cons, List.mem_append, List.not_mem_nil, or_false] at hp ⊢
            rcases hp with hp | hp | hp
            · exact .inl (.inl hp)
            · exact .inl (.inr hp)
            · exact .inr hp
          have F3 := F2.cell hcc ext hx2 nd2 (fun p hp => (mem2 p hp).imp id fun z => by
            subst z
            exact ⟨fun z => (List.mem_append.mp z).elim nO no2, rn2⟩) k1
          have g3 := A2.grow.cell hcc ext hx2 (fun p hp => (mem2 p hp).imp id fun z => by rw [z]; exact h0l) k1
          exact kk _ _ _ _ O ((g1.sub A.full.sub).trans (g2.sub F1.sub)) ⟨F3, g3, A2.new⟩
    · cases ev
  · cases ev
theorem s_appF (ho : PE X (.Attribute o n p2) (tX X cad call cls (.at co n))) (hb : attributeBase (.Attribute o n p2) "append" X.env (eval (.Attribute o n p2) X.env) = eval (.Attribute o n p2) X.env) (he : PE X e (tX X cad call cls ce)) (ns : notStar e = true) (hline : (apos.endLine == cpos.line) = true) :
    PS X (.Expr (.Call (.Attribute (.Attribute o n p2) "append" apos) [e] [] cpos) pos) (sX X cad call cls (.appF co n ce)) := by
  refine PS.weak (ps_expr (pe_bm PySem.F.plainAttrs_list PySem.F.slot_list_append PySem.F.type_list_append mt_append ho (one_arg he ns) hb (few1 ns) hline (star_ns ns) pl_nil) rfl) fun D σ H ⟨R0, H0, a0, R, ads, O, env, S, out, S', A, ev, kk⟩ => ?_
  simp only [evS] at ev
  obtain ⟨wo, S1, eo, ev⟩ := bnd_inv ev
  split at ev
  · rename_i j
    split at ev
    · rename_i cl0 y0 hf0
      obtain ⟨wa, S2, ea, ev⟩ := bnd_inv ev
      obtain ⟨y, e1, ev⟩ := ob_inv ev
      split at ev
      · rename_i cl fs hS
        split at ev
        · rename_i x hfx
          obtain ⟨z, e2, ev⟩ := ob_inv ev
          cases ev
          obtain ⟨xs, rfl, hl, rfl⟩ := appD_inv e2
          have eat : evE call cls (.at co n) env S = some (.f j n, S1) := by
            simp only [evE]
            rw [eo]
            simp only [bnd_some]
            rw [hf0]
          refine one A.full eat fun u H1 R1 a1 g1 F1 w1 => ?_
          have A1 := A.step g1 F1
          have w1' := w1
          cases w1 with
          | @f _ _ l cc hcc hll =>
            have rd1 : rd (.f j n) env S1 = some (.list y0) := by
              show (match fldOf S1 j n with
                | some (_, true, x) => some x
                | _ => Option.none) = _
              rw [hf0]
            have rdl := F1.read w1' rd1
            obtain ⟨l0, vs0, e0, hl0, _⟩ := rdl.lst F1.sub
            cases e0
            have hty : tyV X.K "list" (.ref l) H1 := .inl ⟨rfl, vs0, hl0⟩
            refine ⟨hty, one F1 ea fun ue H2 R2 a2 g2 F2 w2 => ?_⟩
            have A2 := A1.step g2 F2
            obtain ⟨c2, hc2, ha2, hl2⟩ := g2.le.le _ _ hcc
            have hll2 := hl2 _ _ hll
            have hcell := F2.sto.get hc2 hS
            have nd := ownC_nd (List.nodup_append.mp F2.nd).2.1 hc2
            cases hcell with
            | @ins a dx _ vf _ fl hi hnn hf =>
              obtain ⟨n1, n2⟩ := List.nodup_cons.mp (show (a :: fl.map (·.2)).Nodup from nd)
              obtain ⟨o, hol, r⟩ := hf.own_at hfx hll2 hnn
              obtain ⟨vs, rfl, t⟩ := objL r
              have hlm := look_mem hll2
              have hla : l ≠ a := fun z => n1 (z ▸ hlm)
              refine ⟨l, vs, ue, rfl, rfl, hol, by rw [t.length]; exact hl, ?_⟩
              have k1 : ∀ p u, p ∉ ownC ⟨a, fl⟩ → H2 p = some u → upd H2 l (.lst (vs ++ [ue])) p = some u := fun p u z y => by
                rw [upd_ne (fun w => z (by rw [w]; exact List.mem_cons_of_mem _ hlm))]; exact y
              have hx2 : CellR (qX X cad) R2 (upd H2 l (.lst (vs ++ [ue]))) ⟨a, fl⟩ (.ins cl (setFld n true (.list (xs ++ [y])) fs)) :=
                .ins (by rw [upd_ne (Ne.symm hla)]; exact hi) hnn (hf.mut hfx hll2 hnn n2 (.lst (t.append (.one (Full.puR w2 e1)))))
              have F3 := F2.cell hc2 (.refl _) hx2 nd (fun p hp => .inl hp) k1
              have g3 := A2.grow.cell hc2 (.refl _) hx2 (fun p hp => .inl hp) k1
              rw [set_id hc2] at F3 g3
              exact kk _ _ _ _ O ((g1.sub A.full.sub).trans (g2.sub F1.sub)) ⟨F3, g3, A2.new⟩
        · cases ev
      · cases ev
    · cases ev
  · cases ev
end
end
end VI
set_option Elab.async false
set_option linter.all false
set_option maxRecDepth 100000
/-! V25: return, freezing, for, several names at once, unpacking. -/
namespace VI
open PySem PySem.Spec L2 C8
open PyProof.Rows hiding St
section
variable {q : Wd} {R R' H H' R0 H0 : Hp} {ads ads' a0 : List CA} {O : List Addr} {σ : St} {env : Env} {S : Sto}
inductive SlsR (q : Wd) (R H : Hp) (ads : List CA) : List V → List Sl → List Addr → Prop where
  | nil : SlsR q R H ads [] [] []
  | cons {v : V} {x : Sl} {vs : List V} {xs : List Sl} {N1 N2 : List Addr} : SlR q R H ads v x N1 → SlsR q R H ads vs xs N2 → SlsR q R H ads (v :: vs) (x :: xs) (N1 ++ N2)
theorem SlsR.len {vs : List V} {xs : List Sl} {N : List Addr} (h : SlsR q R H ads vs xs N) : vs.length = xs.length := by
  induction h with
  | nil => rfl
  | cons _ _ ih => exact congrArg Nat.succ ih
def setVs : St → List Nat → List V → St
  | σ, i :: is, v :: vs => setVs (σ.set i (some v)) is vs
  | σ, _, _ => σ
theorem sls_set : ∀ {ts : List Ta} {is : List Nat} {vs : List V} {xs : List Sl} {N O : List Addr} {σ : St} {env env' : Env}, ts.map taSlot = is.map some → Full q R H ads O σ env S → SlsR q R H ads vs xs N → N.Nodup → (∀ a, a ∈ N → a ∉ O ∧ a ∉ owns ads ∧ R a = none) → setAll env ts xs = some env' →
    ∃ O', (∀ a, a ∈ O' → a ∈ O ∨ a ∈ N) ∧ Full q R H ads O' (setVs σ is vs) env' S
  | [], [], vs, xs, N, O, σ, env, env', _, F, h, nd, hN, e => by
    cases h with
    | nil =>
      have e' : some env = some env' := e
      cases e'
      exact ⟨O, fun a h => .inl h, F⟩
    | cons => cases e
  | [], _ :: _, _, _, _, _, _, _, _, h, _, _, _, _, _ => by cases h
  | _ :: _, [], _, _, _, _, _, _, _, h, _, _, _, _, _ => by cases h
  | t :: ts, i :: is, vs, xs, N, O, σ, env, env', ht, F, h, nd, hN, e => by
    cases h with
    | nil => cases e
    | @cons v x vs xs N1 N2 h1 h2 =>
      obtain ⟨e1, e2⟩ := List.cons.inj (show taSlot t :: ts.map taSlot = some i :: is.map some from ht)
      have e' : (ob (taSlot t) fun i => setAll (env.set i (some x)) ts xs) = some env' := e
      rw [e1] at e'
      have e3 : setAll (env.set i (some x)) ts xs = some env' := e'
      obtain ⟨n1, n2, n3⟩ := List.nodup_append.mp nd
      obtain ⟨O1, s1, F1⟩ := F.slot (i := i) (v := some v) (e := some x) (N := N1) (.inr ⟨_, _, rfl, rfl, h1⟩) n1 fun a ha => hN a (List.mem_append_left _ ha)
      obtain ⟨O2, s2, F2⟩ := sls_set (ts := ts) (is := is) e2 F1 h2 n2 (fun a ha => ⟨fun z => by
        rcases s1 a z with z | z
        · exact (hN a (List.mem_append_right _ ha)).1 z
        · exact n3 a z a ha rfl, (hN a (List.mem_append_right _ ha)).2⟩) e3
      refine ⟨O2, fun a ha => ?_, F2⟩
      rcases s2 a ha with z | z
      · rcases s1 a z with z | z
        · exact .inl z
        · exact .inr (List.mem_append_left _ z)
      · exact .inr (List.mem_append_right _ z)
def gNames : List Nat → TGs
  | [] => gNil
  | i :: is => gCons (gName i) (gNames is)
theorem gNames_ok : ∀ {is : List Nat} {vs : List V} {σ : St} {H : Hp} {Q : St → Hp → Prop}, is.length = vs.length → Q (setVs σ is vs) H → gNames is vs σ H Q
  | [], [], _, _, _, _, h => ⟨rfl, h⟩
  | [], _ :: _, _, _, _, e, _ => by cases e
  | _ :: _, [], _, _, _, e, _ => by cases e
  | i :: is, v :: vs, σ, H, Q, e, h => ⟨v, vs, rfl, gNames_ok (Nat.succ.inj e) h⟩
end
section
variable {call : Nat → List W → Sto → Option (W × Sto)} {cls : Nat → Nat}
def tR (q : Wd) (call : Nat → List W → Sto → Option (W × Sto)) (cls : Nat → Nat) (ts : List Ta) (cs : List C) : TA := fun σ H Q =>
  ∃ R ads O env S xs S', Full q R H ads O σ env S ∧ evRs call cls ts cs env S = some (xs, S') ∧
    ∀ vs N H' R' ads', Grow R H ads R' H' ads' → Full q R' H' ads' O σ env S' → SlsR q R' H' ads' vs xs N → N.Nodup → (∀ a, a ∈ N → a ∉ O ∧ a ∉ owns ads' ∧ R' a = none ∧ H a = none) → Q vs H'
section
variable {X : Cx} {k : Nat} {cad : Nat → Addr}
variable {e o tg iter : Expr} {ca cb ce ck co c : C} {pos p2 apos cpos : Pos} {sts : List Stmt} {st : Stmt} {cs : List C} {bs : List Sc} {sc : Sc} {i : Nat} {n : Str} {es : List Expr} {ts : List Ta} {t : Ta}
theorem r_nil : PA X [] (tR (qX X cad) call cls [] []) := PA.weak pa_nil fun σ H Q ⟨R, ads, O, env, S, xs, S', F, ev, k⟩ => by
  simp only [evRs] at ev
  cases ev
  exact k _ _ _ _ _ (.refl _ _ _) F .nil List.nodup_nil fun a h => nomatch h
theorem SlsR.grow {q : Wd} {R H R' H' : Hp} {ads ads' : List CA} (g : Grow R H ads R' H' ads') (s : Sub R H) {vs : List V} {xs : List Sl} {N : List Addr} (h : SlsR q R H ads vs xs N) (n : ∀ a, a ∈ N → a ∉ owns ads) : SlsR q R' H' ads' vs xs N := by
  induction h with
  | nil => exact .nil
  | cons a _ ih => exact .cons (a.grow g s fun b hb => n b (List.mem_append_left _ hb)) (ih fun b hb => n b (List.mem_append_right _ hb))
theorem r_nm (ha : PE X e (tX X cad call cls c)) (ht : PA X es (tR (qX X cad) call cls ts cs)) (ns : notStar e = true) : PA X (e :: es) (tR (qX X cad) call cls (.nm i :: ts) (c :: cs)) := by
  refine PA.weak (pa_cons ha ht (star_ns ns)) fun σ H Q ⟨R, ads, O, env, S, xs, S', F, ev, k⟩ => ?_
  simp only [evRs] at ev
  obtain ⟨wa, S1, ea, ev⟩ := bnd_inv ev
  obtain ⟨xa, e1, ev⟩ := ob_inv ev
  obtain ⟨ys, S2, e2, ev⟩ := bnd_inv ev
  cases ev
  refine one F ea fun u H1 R1 a1 g1 F1 w1 => ⟨R1, a1, O, env, S1, ys, _, F1, e2, fun vs N H2 R2 a2 g2 F2 t2 nd hN => ?_⟩
  have h1 : SlR (qX X cad) R1 H1 a1 u xa [] := by
    cases w1 with
    | d h => cases e1; exact .d h
    | c h => cases e1; exact .c h
    | o h => cases e1
    | f h l => cases e1
  refine k _ N _ _ _ (g1.trans g2) F2 (.cons (N1 := []) (h1.grow g2 F1.sub fun a h => nomatch h) t2) nd fun a ha => ?_
  obtain ⟨z1, z2, z3, z4⟩ := hN a ha
  refine ⟨z1, z2, z3, ?_⟩
  cases z : H a with
  | none => rfl
  | some u => obtain ⟨u', y⟩ := g1.dom a u z; rw [z4] at y; cases y
theorem r_own (ha : PE X e (tF (qX X cad) call cls c)) (ht : PA X es (tR (qX X cad) call cls ts cs)) (ns : notStar e = true) : PA X (e :: es) (tR (qX X cad) call cls (.own i :: ts) (c :: cs)) := by
  refine PA.weak (pa_cons ha ht (star_ns ns)) fun σ H Q ⟨R, ads, O, env, S, xs, S', F, ev, k⟩ => ?_
  simp only [evRs] at ev
  obtain ⟨wa, S1, ea, ev⟩ := bnd_inv ev
  obtain ⟨xa, e1, ev⟩ := ob_inv ev
  obtain ⟨ys, S2, e2, ev⟩ := bnd_inv ev
  cases ev
  have ⟨x, z1, hfr, z2⟩ : ∃ x, wa = .d x ∧ isFresh x = true ∧ xa = .own x := by
    cases wa <;> simp only [rhsOf] at e1 <;> try (cases e1; done)
    obtain ⟨h1, h2⟩ := gd_inv e1
    cases h2
    exact ⟨_, rfl, h1, rfl⟩
  subst z1 z2
  refine ⟨R, ads, O, env, S, x, S1, F, ea, hfr, fun l H1 R1 a1 g1 F1 ow rn nO no hn => ⟨R1, a1, O, env, S1, ys, _, F1, e2, fun vs N H2 R2 a2 g2 F2 t2 nd hN => ?_⟩⟩
  obtain ⟨o1, hl1, _⟩ := id ow
  have hlN : l ∉ N := fun z => by
    have y := (hN l z).2.2.2
    rw [hl1] at y; cases y
  refine k _ ([l] ++ N) _ _ _ (g1.trans g2) F2 (.cons (N1 := [l]) (.own (ow.keep (g2.sub F1.sub) fun u hu => g2.keep l u hu no)) t2) (List.nodup_cons.mpr ⟨hlN, nd⟩) fun a ha => ?_
  rcases List.mem_cons.mp (show a ∈ l :: N from ha) with ha | ha
  · subst ha
    refine ⟨nO, fun z => ?_, (g2.rext a _ hl1).trans rn, hn⟩
    rcases g2.own a z with z | z
    · exact no z
    · rw [hl1] at z; cases z
  · obtain ⟨z1, z2, z3, z4⟩ := hN a ha
    refine ⟨z1, z2, z3, ?_⟩
    cases z : H a with
    | none => rfl
    | some u => obtain ⟨u', y⟩ := g1.dom a u z; rw [z4] at y; cases y
theorem evRs_len : ∀ {ts : List Ta} {cs : List C} {env : Env} {S S' : Sto} {xs : List Sl}, evRs call cls ts cs env S = some (xs, S') → xs.length = cs.length
  | [], [], _, _, _, _, h => by simp only [evRs] at h; cases h; rfl
  | [], _ :: _, _, _, _, _, h => by simp only [evRs] at h; cases h
  | _ :: _, [], _, _, _, _, h => by simp only [evRs] at h; cases h
  | t :: ts, c :: cs, _, _, _, _, h => by
    simp only [evRs] at h
    obtain ⟨wa, S1, ea, h⟩ := bnd_inv h
    obtain ⟨xa, e1, h⟩ := ob_inv h
    obtain ⟨ys, S2, e2, h⟩ := bnd_inv h
    cases h
    exact congrArg Nat.succ (evRs_len e2)
/-- several names behind the values -/
theorem par_rd {is : List Nat} {D : Ends} {σ : St} {H : Hp} {q : Wd} (hts : ts.map taSlot = is.map some) {out : Out} {S' : Sto} {R0 H0 R : Hp} {a0 ads : List CA} {O : List Addr} {env : Env} {S : Sto} (A : At q R0 H0 a0 R H ads O σ env S)
    (ev : (bnd (evRs call cls ts cs env S) fun xs S1 => ob (setAll env ts xs) fun env' => some (Out.nx env', S1)) = some (out, S')) (kk : Post q R0 H0 a0 R D S' out) :
    tR q call cls ts cs σ H fun vs H1 => vs.length = cs.length ∧ D.nx (setVs σ is vs) H1 ∧ ∀ p, H1 p = none → ∀ u, D.nx (setVs σ is vs) (upd H1 p u) := by
  obtain ⟨xs, S1, e1, ev⟩ := bnd_inv ev
  obtain ⟨env', e2, ev⟩ := ob_inv ev
  cases ev
  refine ⟨R, ads, O, env, S, xs, S', A.full, e1, fun vs N H1 R1 a1 g1 F1 t nd hN => ?_⟩
  obtain ⟨O', s1, F2⟩ := sls_set hts F1 t nd (fun a ha => ⟨(hN a ha).1, (hN a ha).2.1, (hN a ha).2.2.1⟩) e2
  have new : ∀ p, p ∈ O' → H0 p = none := fun p hp => by
    rcases s1 p hp with z | z
    · exact A.new p z
    · cases y : H0 p with
      | none => rfl
      | some u => obtain ⟨u', w⟩ := A.grow.dom p u y; rw [(hN p z).2.2.2] at w; cases w
  have A2 : At q R0 H0 a0 R1 H1 a1 O' (setVs σ is vs) env' S' := ⟨F2, A.grow.trans g1, new⟩
  refine ⟨t.len.trans (evRs_len e1), kk _ _ _ _ O' (g1.sub A.full.sub) A2, fun p hp u => ?_⟩
  obtain ⟨F3, g3⟩ := F2.garb (o := u) hp
  exact kk _ _ _ _ O' (g1.sub A.full.sub) ⟨F3, (A.grow.trans g1).trans g3, new⟩
theorem s_par2 (G : Gd X k) {i1 i2 : Nat} {x y : Str} {a b : Expr} {px py pt : Pos} {kt k2 : Nat} {pt2 : Pos} (h1 : X.N[i1]? = some x) (h2 : X.N[i2]? = some y) (hij : i1 ≠ i2)
    (hx : X.env.scope.names.lookup x = some .local) (hy : X.env.scope.names.lookup y = some .local) (ha : PA X [a, b] (tR (qX X cad) call cls ts cs)) (hts : ts.map taSlot = [i1, i2].map some) (hl : cs.length = 2)
    (hw : swappedStores [.Tuple [.Name x px, .Name y py] kt pt] (.Tuple [a, b] k2 pt2) X.env = pure (some [x, y])) :
    PS X (.Assign [.Tuple [.Name x px, .Name y py] kt pt] (.Tuple [a, b] k2 pt2) pos) (sX X cad call cls (.par ts cs)) := by
  refine PS.weak (ps_par G.calm G.nd h1 h2 hij hx hy (PA.weak ha (t' := fun σ H Q => tR (qX X cad) call cls ts cs σ H Q) fun _ _ _ h => h) hw rfl) fun D σ H ⟨R0, H0, a0, R, ads, O, env, S, out, S', A, ev, kk⟩ => ?_
  simp only [evS] at ev
  have z := par_rd hts A ev kk
  obtain ⟨R', ads', O', env', S1, xs, S2, F, e, fin⟩ := z
  refine ⟨R', ads', O', env', S1, xs, S2, F, e, fun vs N H' R2 a2 g F2 t nd hN => ?_⟩
  obtain ⟨z1, z2, _⟩ := fin vs N H' R2 a2 g F2 t nd hN
  rw [hl] at z1
  match vs, z1 with
  | [v, w], _ => exact ⟨v, w, rfl, z2⟩
theorem s_par3 (G : Gd X k) {i1 i2 i3 : Nat} {x y z : Str} {a b c : Expr} {px py pz pt : Pos} {kt k2 : Nat} {pt2 : Pos} (h1 : X.N[i1]? = some x) (h2 : X.N[i2]? = some y) (h3 : X.N[i3]? = some z) (hij : i1 ≠ i2) (hil : i1 ≠ i3) (hjl : i2 ≠ i3)
    (hx : X.env.scope.names.lookup x = some .local) (hy : X.env.scope.names.lookup y = some .local) (hz : X.env.scope.names.lookup z = some .local) (ha : PA X [a, b, c] (tR (qX X cad) call cls ts cs)) (hts : ts.map taSlot = [i1, i2, i3].map some) (hl : cs.length = 3)
    (hw : swappedStores [.Tuple [.Name x px, .Name y py, .Name z pz] kt pt] (.Tuple [a, b, c] k2 pt2) X.env = pure (some [x, y, z])) :
    PS X (.Assign [.Tuple [.Name x px, .Name y py, .Name z pz] kt pt] (.Tuple [a, b, c] k2 pt2) pos) (sX X cad call cls (.par ts cs)) := by
  refine PS.weak (ps_par3 G.calm G.nd h1 h2 h3 hij hil hjl hx hy hz (PA.weak ha (t' := fun σ H Q => tR (qX X cad) call cls ts cs σ H Q) fun _ _ _ h => h) hw rfl) fun D σ H ⟨R0, H0, a0, R, ads, O, env, S, out, S', A, ev, kk⟩ => ?_
  simp only [evS] at ev
  have z := par_rd hts A ev kk
  obtain ⟨R', ads', O', env', S1, xs, S2, F, e, fin⟩ := z
  refine ⟨R', ads', O', env', S1, xs, S2, F, e, fun vs N H' R2 a2 g F2 t nd hN => ?_⟩
  obtain ⟨z1, z2, _⟩ := fin vs N H' R2 a2 g F2 t nd hN
  rw [hl] at z1
  match vs, z1 with
  | [u, v, w], _ => exact ⟨u, v, w, rfl, z2⟩
theorem each_len {env : PySem.Env} : ∀ {es : List Expr}, es.all notStar = true → (assignEach es env).length = es.length ∧ (assignEach es env).findIdx? (·.1) = none ∧ (assignEach es env).map (·.2) = es.map fun e => assign e env
  | [], _ => ⟨rfl, rfl, rfl⟩
  | e :: es, h => by
    rw [List.all_cons, Bool.and_eq_true] at h
    obtain ⟨h1, h2, h3⟩ := each_len (env := env) h.2
    have e1 : assignEach (e :: es) env = (false, assign e env) :: assignEach es env := by
      cases e <;> first | rfl | (exfalso; exact Bool.false_ne_true h.1)
    rw [e1]
    exact ⟨congrArg Nat.succ h1, by rw [List.findIdx?_cons]; simp only [Bool.false_eq_true, if_false]; rw [h2]; rfl, by rw [List.map_cons, List.map_cons, h3]⟩
theorem each_cons {env : PySem.Env} (h : notStar e = true) : (assignEach (e :: es) env).map (·.2) = assign e env :: (assignEach es env).map (·.2) := by
  cases e <;> first | rfl | (exfalso; exact Bool.false_ne_true h)
def notTup : Expr → Bool
  | .Tuple _ _ _ => false
  | _ => true
theorem s_tupA (G : Gd X k) {is : List Nat} {tes : List Expr} {kt k2 : Nat} {pt pt2 : Pos} (hg : PGs X tes (gNames is)) (hn : tes.all notStar = true) (hl : tes.length = is.length) (ha : PA X es (tR (qX X cad) call cls ts cs)) (hts : ts.map taSlot = is.map some) (hcs : cs.length = is.length)
    (hs : shortB cs.length = true) (hw : swappedStores [.Tuple tes kt pt] (.Tuple es k2 pt2) X.env = pure none) :
    PS X (.Assign [.Tuple tes kt pt] (.Tuple es k2 pt2) pos) (sX X cad call cls (.tupA ts cs)) := by
  obtain ⟨n1, n2, _⟩ := each_len (env := X.env) hn
  refine PS.weak (ps_asg (pe_tup ha) (pg_tup G.calm hg n1 n2) rfl hw rfl) fun D σ H ⟨R0, H0, a0, R, ads, O, env, S, out, S', A, ev, kk⟩ => ?_
  simp only [evS] at ev
  obtain ⟨R', ads', O', env', S1, xs, S2, F, e, fin⟩ := par_rd hts A ev kk
  refine ⟨R', ads', O', env', S1, xs, S2, F, e, fun vs N H' R2 a2 g F2 t nd hN => ?_⟩
  obtain ⟨z1, z2, z3⟩ := fin vs N H' R2 a2 g F2 t nd hN
  refine ⟨by rw [z1]; exact short_ok hs, fun p hp => ⟨p, vs, rfl, .inl (.inl upd_same), by rw [z1, hcs, hl], gNames_ok (by rw [z1, hcs]) (z3 p hp _)⟩⟩
/-! unpacking a tree -/
def gTas (K : PySem.W.Frag) (q : Wd) (call : Nat → List W → Sto → Option (W × Sto)) (cls : Nat → Nat) : List Ta → TGs
  | [] => gNil
  | .nm i :: r => gCons (gName i) (gTas K q call cls r)
  | .fld o n :: r => gCons (gFld K (tE q call cls o) n) (gTas K q call cls r)
  | _ :: _ => fun _ _ _ _ => False
theorem tas_ok {K : PySem.W.Frag} {q : Wd} {R0 H0 : Hp} {a0 : List CA} : ∀ {ts : List Ta} {us : List V} {xs : List D} {R H : Hp} {ads : List CA} {O : List Addr} {σ : St} {env env' : Env} {S S' : Sto} {Q : St → Hp → Prop}, (∀ o n, Ta.fld o n ∈ ts → ∀ cl, Cls K (q.cad cl) ∧ NoAttr K (q.cad cl) n) →
    At q R0 H0 a0 R H ads O σ env S → RpL q R us xs → evTas call cls ts xs env S = some (env', S') → (∀ σ' H' R' ads' O', Sub R R' → At q R0 H0 a0 R' H' ads' O' σ' env' S' → Q σ' H') → gTas K q call cls ts us σ H Q
  | [], us, xs, R, H, ads, O, σ, env, env', S, S', Q, hc, A, t, ev, kk => by
    cases t with
    | nil =>
      simp only [evTas] at ev
      cases ev
      exact ⟨rfl, kk _ _ _ _ _ (.refl _) A⟩
    | cons => simp only [evTas] at ev; cases ev
  | .nm i :: ts, us, xs, R, H, ads, O, σ, env, env', S, S', Q, hc, A, t, ev, kk => by
    cases t with
    | nil => simp only [evTas] at ev; cases ev
    | @cons v x us xs h t =>
      simp only [evTas] at ev
      obtain ⟨O', s1, F1⟩ := A.full.put (i := i) (.d h)
      exact ⟨v, us, rfl, tas_ok (fun o n h => hc o n (List.mem_cons_of_mem _ h)) ⟨F1, A.grow, fun p hp => A.new p (s1 p hp)⟩ t ev kk⟩
  | .fld o n :: ts, us, xs, R, H, ads, O, σ, env, env', S, S', Q, hc, A, t, ev, kk => by
    cases t with
    | nil => simp only [evTas] at ev; cases ev
    | @cons v x us xs h t =>
      simp only [evTas] at ev
      obtain ⟨wo, S1, eo, ev⟩ := bnd_inv ev
      split at ev
      · rename_i j
        split at ev
        · rename_i cl fs hS
          obtain ⟨hh, ev⟩ := gd_inv ev
          rw [Bool.and_eq_true, decide_eq_true_eq] at hh
          refine ⟨v, us, rfl, one A.full eo fun uo H1 R1 a1 g1 F1 w1 => ?_⟩
          cases w1 with
          | @c _ cc hcc =>
            have s1 := g1.sub A.full.sub
            obtain ⟨dx, vf, h1, h2, A3⟩ := (A.step g1 F1).fld (n := n) hcc hS (h.mono s1) hh.2
            exact ⟨cc.a, q.cad cl, dx, vf, rfl, h1, (hc o n (List.mem_cons_self ..) cl).1, (hc o n (List.mem_cons_self ..) cl).2, by rw [h2]; exact hh.1,
              tas_ok (fun o n h => hc o n (List.mem_cons_of_mem _ h)) A3 (t.mono s1) ev fun σ' H' R' ads' O' s A' => kk σ' H' R' ads' O' (s1.trans s) A'⟩
        · cases ev
      · cases ev
  | .own i :: ts, us, xs, R, H, ads, O, σ, env, env', S, S', Q, hc, A, t, ev, kk => by
    cases t <;> (simp only [evTas] at ev; cases ev)
  | .fldO o n :: ts, us, xs, R, H, ads, O, σ, env, env', S, S', Q, hc, A, t, ev, kk => by
    cases t <;> (simp only [evTas] at ev; cases ev)
  | .ix i c :: ts, us, xs, R, H, ads, O, σ, env, env', S, S', Q, hc, A, t, ev, kk => by
    cases t <;> (simp only [evTas] at ev; cases ev)
theorem evTas_len : ∀ {ts : List Ta} {xs : List D} {env env' : Env} {S S' : Sto}, evTas call cls ts xs env S = some (env', S') → ts.length = xs.length
  | [], [], _, _, _, _, _ => rfl
  | [], _ :: _, _, _, _, _, e => by simp only [evTas] at e; cases e
  | .nm i :: ts, [], _, _, _, _, e => by simp only [evTas] at e; cases e
  | .nm i :: ts, x :: xs, _, _, _, _, e => by
    simp only [evTas] at e
    exact congrArg Nat.succ (evTas_len e)
  | .fld o n :: ts, [], _, _, _, _, e => by simp only [evTas] at e; cases e
  | .fld o n :: ts, x :: xs, _, _, _, _, e => by
    simp only [evTas] at e
    obtain ⟨wo, S1, eo, e⟩ := bnd_inv e
    split at e
    · split at e
      · obtain ⟨_, e⟩ := gd_inv e
        exact congrArg Nat.succ (evTas_len e)
      · cases e
    · cases e
  | .own i :: ts, xs, _, _, _, _, e => by cases xs <;> (simp only [evTas] at e; cases e)
  | .fldO o n :: ts, xs, _, _, _, _, e => by cases xs <;> (simp only [evTas] at e; cases e)
  | .ix i c :: ts, xs, _, _, _, _, e => by cases xs <;> (simp only [evTas] at e; cases e)
theorem s_unp (G : Gd X k) {tes : List Expr} {kt : Nat} {pt : Pos} (hg : PGs X tes (gTas X.K (qX X cad) call cls ts)) (hn : tes.all notStar = true) (hl : tes.length = ts.length) (he : PE X e (tX X cad call cls ce)) (nt : notTup e = true)
    (hc : ∀ o n, Ta.fld o n ∈ ts → ∀ cl, Cls X.K (cad cl) ∧ NoAttr X.K (cad cl) n) :
    PS X (.Assign [.Tuple tes kt pt] e pos) (sX X cad call cls (.unp ts ce)) := by
  obtain ⟨n1, n2, _⟩ := each_len (env := X.env) hn
  refine PS.weak (ps_asg he (pg_tup G.calm hg n1 n2) (by cases e <;> rfl) (by cases e <;> first | rfl | cases nt) rfl) fun D σ H ⟨R0, H0, a0, R, ads, O, env, S, out, S', A, ev, kk⟩ => ?_
  simp only [evS] at ev
  obtain ⟨wa, S1, ea, ev⟩ := bnd_inv ev
  obtain ⟨xa, e1, ev⟩ := ob_inv ev
  split at ev
  · rename_i xs
    obtain ⟨env', S2, e2, ev⟩ := bnd_inv ev
    cases ev
    refine one A.full ea fun u H1 R1 a1 g1 F1 w1 => ?_
    have r := Full.puR w1 e1
    cases r with
    | @tup b us xs hb t =>
      refine ⟨b, us, rfl, .inl (.inl (F1.sub _ _ hb)), by rw [t.length, hl]; exact (evTas_len e2).symm, ?_⟩
      exact tas_ok hc (A.step g1 F1) t e2 fun σ' H' R' ads' O' s A' => kk σ' H' R' ads' O' ((g1.sub A.full.sub).trans s) A'
  · cases ev
/-! for -/
theorem s_for (G : Gd X k) {body : List Stmt} {ctg : Tg} {cit : VI.It} (hi : PI X tg iter (wX X cad call cls cit)) (hg : PG X tg (gT X.K ctg)) (hb : PSs X body (bX X cad call cls bs)) (hs : ∀ x, foldedSetIterable iter X.env x = pure x) :
    PS X (.For tg iter body [] pos) (sX X cad call cls (.for_ ctg cit bs)) := by
  refine PS.weak (ps_for (by rw [G.nox]; exact PassesOwn.never) G.calm hi hg hb hs) fun D σ H ⟨R0, H0, a0, R, ads, O, env, S, out, S', A, ev, kk⟩ => ?_
  simp only [evS] at ev
  obtain ⟨xs, S1, ea, ev⟩ := bnd_inv ev
  refine ⟨R, ads, O, env, S, xs, S1, A.full, ea, fun J H1 R1 a1 g1 F1 hz hW => ?_⟩
  have sR1 := g1.sub A.full.sub
  refine for_it hW (fun i σi Hi => ∃ Ri ai Oi ei Si, Sub R1 Ri ∧ At (qX X cad) R0 H0 a0 Ri Hi ai Oi σi ei Si ∧ forLoop ctg (fun env' S' => evB call cls bs env' S') (xs.drop i) ei Si = some (out, S')) ?_ ?_ ?_ ?_
  · exact ⟨R1, a1, O, env, S1, .refl _, A.step g1 F1, by simpa using ev⟩
  · rintro i σi Hi _ ⟨Ri, ai, Oi, ei, Si, si, Ai, _⟩
    exact si.trans Ai.full.sub
  · rintro i x σi Hi H' hi ⟨Ri, ai, Oi, ei, Si, si, Ai, hl⟩ hy
    obtain ⟨R2, xd, hx, F2, g2, rx⟩ := hy.in si Ai.full
    rw [List.drop_eq_getElem_cons hi] at hl
    have hxe : xs[i] = xd := by
      have z : xs[i]? = some xs[i] := by simp [hi]
      rw [hx] at z; exact (Option.some.inj z).symm
    rw [hxe] at hl
    unfold forLoop at hl
    obtain ⟨env2, eb, hl⟩ := ob_inv hl
    obtain ⟨o, S3, et, hl⟩ := bnd_inv hl
    have A2 := Ai.step g2 F2
    refine tg_ok (vs := tgSlots ctg) ctg F2 rx eb (fun i h => h) fun σ2 O2 s2 F3 _ => ?_
    have s12 := si.trans (g2.sub Ai.full.sub)
    refine ⟨R0, H0, a0, R2, ai, O2, env2, Si, o, S3, ⟨F3, A2.grow, fun p hp => A2.new p (s2 p hp)⟩, et, ?_⟩
    cases o with
    | nx env3 => exact fun σ' H' R' ads' O' s A' => ⟨R', ads', O', env3, S3, s12.trans s, A', hl⟩
    | rt w =>
      cases hl
      exact kk
  · rintro σi Hi ⟨Ri, ai, Oi, ei, Si, si, Ai, hl⟩
    rw [List.drop_length] at hl
    unfold forLoop at hl
    cases hl
    exact kk _ _ _ _ _ (sR1.trans si) Ai
/-! return -/
def tLkC (t : TE) : TE := fun σ H Q => t σ H fun v H1 => Q v H1 ∨ ∃ d u, v = .ref d ∧ H1 d = some u ∧ Mut (some u) ∧ ∀ od, Q v (upd H1 d (.frz od u))
theorem pe_lkC {t : TE} (h : PE X e t) : PE X e (tLkC t) := ⟨fun pins s σ H Q I w => thn (h.run pins s σ H _ I w) fun u s1 ⟨v, H1, I1, r, kk⟩ => by
  rcases kk with kk | ⟨d, u', ev, hd, mu, kk⟩
  · exact ⟨v, H1, I1, r, kk⟩
  · subst ev
    obtain ⟨od, I2⟩ := I1.lock hd mu
    exact ⟨_, _, I2, r, kk od⟩⟩
theorem s_ret (he : PE X e (tX X cad call cls c)) : PS X (.Return (some e) pos) (sX X cad call cls (.ret c)) := by
  refine PS.weak (ps_ret (pe_lkC he)) fun D σ H ⟨R0, H0, a0, R, ads, O, env, S, out, S', A, ev, kk⟩ => ?_
  simp only [evS] at ev
  obtain ⟨wa, S1, ea, ev⟩ := bnd_inv ev
  refine one A.full ea fun u H1 R1 a1 g1 F1 w1 => ?_
  have A1 := A.step g1 F1
  cases w1 with
  | d h => cases ev; exact .inl (kk _ _ _ _ A1.grow F1.bare (.d h))
  | c h => cases ev; exact .inl (kk _ _ _ _ A1.grow F1.bare (.c h))
  | f h l => cases ev
  | @o i _ h =>
    obtain ⟨x, e1, ev⟩ := ob_inv ev
    cases ev
    have hx := ownOf_inv e1
    obtain ⟨a, ob, h1, h2, mu, _, _, kd, kl, kdict⟩ := A1.frz hx
    rw [h] at h1; cases h1
    rcases kd with ⟨xs, rfl⟩ | ⟨ds, rfl⟩
    · obtain ⟨O', s, rp, A2⟩ := kl xs rfl
      exact .inl (kk _ _ _ _ A2.grow A2.full.bare (.d rp))
    · refine .inr ⟨a, ob, rfl, h2, mu, fun od => ?_⟩
      obtain ⟨O', s, rp, A2⟩ := kdict od ds rfl
      exact kk _ _ _ _ A2.grow A2.full.bare (.d rp)
/-! an own thing goes into R -/
def tLkS (t : TS) : TS := fun D σ H => t D σ H ∨ ∃ d u, H d = some u ∧ Mut (some u) ∧ ∀ od, t D σ (upd H d (.frz od u))
theorem pss_lkS {t : TS} (h : PSs X sts t) : PSs X sts (tLkS t) := ⟨fun pins s σ H D I w => by
  rcases w with w | ⟨d, u, hd, mu, w⟩
  · exact h.run pins s σ H D I w
  · obtain ⟨od, I2⟩ := I.lock hd mu
    exact h.run pins s σ _ D I2 (w od)⟩
theorem b_frz (h : PSs X sts (bX X cad call cls bs)) : PSs X sts (bX X cad call cls (.frz i :: bs)) := by
  refine PSs.weak (pss_lkS h) fun D σ H ⟨R0, H0, a0, R, ads, O, env, S, out, S', A, ev, kk⟩ => ?_
  simp only [evB, evS] at ev
  obtain ⟨o, S1, e1, ev⟩ := bnd_inv ev
  obtain ⟨x, e2, e1⟩ := ob_inv e1
  cases e1
  have hx := ownOf_inv e2
  obtain ⟨a, ob, h1, h2, mu, _, _, kd, kl, kdict⟩ := A.frz hx
  rcases kd with ⟨xs, rfl⟩ | ⟨ds, rfl⟩
  · obtain ⟨O', s, rp, A2⟩ := kl xs rfl
    exact .inl ⟨R0, H0, a0, _, ads, O', _, S, out, S', A2, ev, kk.sub s⟩
  · refine .inr ⟨a, ob, h2, mu, fun od => ?_⟩
    obtain ⟨O', s, rp, A2⟩ := kdict od ds rfl
    exact ⟨R0, H0, a0, _, ads, O', _, S, out, S', A2, ev, kk.sub s⟩
end
end
end VI
set_option Elab.async false
set_option linter.all false
set_option maxRecDepth 100000
/-! V26: what must be seen of the text's shape. -/
namespace VI
open PySem PySem.Spec L2 C8
open PyProof.Rows hiding St
/-- no call without arguments of a name -/
def noSup : Expr → Bool
  | .Call _ [] [] _ => false
  | _ => true
theorem base_ok {o : Expr} {m : Str} {env : PySem.Env} (h : noSup o = true) (whole : Sem Value) : attributeBase o m env whole = whole := by
  unfold attributeBase
  split
  · cases h
  · rfl
theorem star_form {env : PySem.Env} {pos : Pos} : ∀ {es : List Expr}, es.all notStar = true → (backTo pos (starEach es env)).all (fun x => !x.1) = true
  | [], _ => rfl
  | e :: es, h => by
    rw [List.all_cons, Bool.and_eq_true] at h
    rw [star_ns h.1]
    show (true && (backTo pos (starEach es env)).all fun x => !x.1) = true
    rw [star_form h.2]; rfl
theorem mc_form {o : Expr} {m : Str} {apos pos : Pos} {es : List Expr} {env : PySem.Env} (h : noSup o = true) (hs : es.all notStar = true) (hl : decide (es.length < 20) = true) (hline : (apos.endLine == pos.line) = true) : ∃ pl : Sem Bool, eval (.Call (.Attribute o m apos) es [] pos) env = (do
      let ov ← eval o env
      standAt apos.atName
      let (f, first) ← holding [ov] (getMethod ov m pl)
      callWith pos f first (backTo pos (starEach es env)) (backToKw pos (keywordEach [] env))) := by
  have hf : methodCallForm (es.length + ([] : List Keyword).length) (backTo pos (starEach es env)) (backToKw pos (keywordEach [] env)) = true := by
    unfold methodCallForm
    rw [star_form hs]
    have hl' := of_decide_eq_true hl
    show (true && true && decide (es.length + 0 + 0 < 30)) = true
    rw [Bool.true_and, Bool.true_and]
    exact decide_eq_true (by omega)
  have hp : methodCallPos true o env apos pos = pure pos := by
    unfold methodCallPos
    rw [hline]; rfl
  refine ⟨(do return (← importBound o env).getD true), ?_⟩
  rw [arm_eval_Call, base_ok h]
  unfold methodCall
  rw [hf, hp]
  rfl
theorem fold_ok {e : Expr} {env : PySem.Env} (h : (match e with | .Set _ _ _ => false | _ => true) = true) : ∀ x, foldedSetIterable e env x = pure x := by
  intro x
  cases e <;> first | rfl | cases h
/-- a test that is a value -/
def plainT : Expr → Bool
  | .UnaryOp .Not _ _ => false
  | .BoolOp _ _ _ => false
  | .IfExp _ _ _ _ => false
  | .Compare _ _ _ _ => false
  | _ => true
theorem plain_ok {e : Expr} {env : PySem.Env} (h : plainT e = true) : ∀ whole, isTrue e env whole = (do let v ← whole; standAt e.pos; holding [v] (truthy v)) := by
  intro whole
  cases e <;> first | rfl | (cases h; done) | skip
  rename_i op a p
  cases op <;> first | rfl | cases h
/-- no comprehension on the right side -/
def noComp : Expr → Bool
  | .ListComp _ _ _ _ => false
  | .SetComp _ _ _ _ => false
  | .DictComp _ _ _ _ _ => false
  | _ => true
theorem noComp_ok {e : Expr} {t : Option Expr} {l : Nat} {env : PySem.Env} (h : noComp e = true) : swapsWith e t l env = pure false := by
  cases e <;> first | rfl | cases h
section
variable {call : Nat → List W → Sto → Option (W × Sto)} {cls : Nat → Nat}
section
variable {X : Cx} {k : Nat} {cad : Nat → Addr}
variable {a : Expr} {ca : C} {pos : Pos}
theorem s_isNT {pos' : Pos} {j : Nat} (ha : PE X a (tX X cad call cls ca)) : PT X (.Compare a [.Is] [.Constant .none j pos'] pos) (uX X cad call cls (.isN ca)) := by
  refine PT.weak (pt_cmp (pc_isN ha)) fun σ H Q h => ?_
  obtain ⟨R, ads, O, env, S, b, S', F, ev, k⟩ := h
  simp only [evE] at ev
  obtain ⟨wa, S1, ea, ev⟩ := bnd_inv ev
  refine one F ea fun u H1 R1 a1 g1 F1 w1 => ?_
  refine ⟨b, ?_, ?_⟩
  · split at ev
    · cases ev
      rw [show decide (u = .non) = true from w1.isN]
    · rename_i d hd
      cases ev
      have e : decide (u = .non) = false := by
        rw [w1.isN]
        cases d <;> first | rfl | exact absurd rfl hd
      rw [e]
    · cases ev
      cases w1 with
      | @c _ cc h =>
        have e : decide (V.ref cc.a = V.non) = false := by simp
        rw [e]
    · cases ev
  · split at ev <;> first | (cases ev; exact k _ _ _ g1 F1) | cases ev
theorem s_notNT {pos' : Pos} {j : Nat} (ha : PE X a (tX X cad call cls ca)) : PT X (.Compare a [.IsNot] [.Constant .none j pos'] pos) (uX X cad call cls (.notN ca)) := by
  refine PT.weak (pt_cmp (pc_notN ha)) fun σ H Q h => ?_
  obtain ⟨R, ads, O, env, S, b, S', F, ev, k⟩ := h
  simp only [evE] at ev
  obtain ⟨wa, S1, ea, ev⟩ := bnd_inv ev
  refine one F ea fun u H1 R1 a1 g1 F1 w1 => ?_
  refine ⟨b, ?_, ?_⟩
  · split at ev
    · cases ev
      rw [show decide (u = .non) = true from w1.isN]; rfl
    · rename_i d hd
      cases ev
      have e : decide (u = .non) = false := by
        rw [w1.isN]
        cases d <;> first | rfl | exact absurd rfl hd
      rw [e]; rfl
    · cases ev
      cases w1 with
      | @c _ cc h =>
        have e : decide (V.ref cc.a = V.non) = false := by simp
        rw [e]; rfl
    · cases ev
  · split at ev <;> first | (cases ev; exact k _ _ _ g1 F1) | cases ev
end
end
end VI
set_option Elab.async false
set_option linter.all false
set_option maxRecDepth 100000
set_option maxHeartbeats 1000000
/-! V27: the checker of expressions. -/
namespace VI
open PySem PySem.Spec L2 C8
open PyProof.Rows hiding St
inductive FT where
  | fn (x : Str)
  | me (cl : Nat) (m : Str)
  | ini (cl : Nat) (x : Str)
structure TabI where
  bl : List Str
  co : List (Str × V × D)
  ft : List FT
  np : List Nat
  ats : List Str
def TabI.npf (T : TabI) (f : Nat) : Nat := match T.np[f]? with
  | some n => n
  | none => 0
structure CI where
  N : List Str
  sc : Scope
def isVis (sc : Scope) (x : Str) : Bool := match sc.names.lookup x with
  | some .local => true
  | some .cell => true
  | some .free => true
  | _ => false
def isLoc (sc : Scope) (x : Str) : Bool := match sc.names.lookup x with
  | some .local => true
  | some .cell => true
  | _ => false
def isLcl (sc : Scope) (x : Str) : Bool := match sc.names.lookup x with
  | some .local => true
  | _ => false
def isGlo (sc : Scope) (x : Str) : Bool := match sc.names.lookup x with
  | some .globalImplicit => true
  | _ => false
def nmOk (x : Str) : Bool := !(x == ("__debug__" : Str)) && !(x == ("__classdict__" : Str))
def nameB (ci : CI) (i : Nat) (x : Str) : Bool := decide (ci.N[i]? = some x) && isVis ci.sc x && nmOk x
def gB (T : TabI) (ci : CI) (x : Str) : Bool := isGlo ci.sc x && decide (x ∈ T.bl)
def plainB (t : Bool) (e : Expr) : Bool := !t || plainT e
def chkCst : D → Expr → Bool
  | .int i, .Constant (.int j) _ _ => decide (i = j)
  | .str x, .Constant (.str y) _ _ => decide (x = y)
  | .bool b, .Constant (.bool c) _ _ => decide (b = c)
  | .none, .Constant .none _ _ => true
  | _, _ => false
def chkPart : Option Int → Option Expr → Bool
  | none, none => true
  | some i, some (.Constant (.int j) _ _) => decide (i = j)
  | some i, some (.UnaryOp .USub (.Constant (.int j) _ _) _) => decide (i = -j)
  | _, _ => false
def notSet : Expr → Bool
  | .Set _ _ _ => false
  | _ => true
def isTupE : Expr → Bool
  | .Tuple _ _ _ => true
  | _ => false
mutual
def chkTg : Tg → CI → Expr → Bool
  | .nm i, ci, .Name x _ => decide (ci.N[i]? = some x) && isLcl ci.sc x
  | .tp ts, ci, .Tuple es _ _ => es.all notStar && decide (es.length = ts.length) && chkTgs ts ci es
  | _, _, _ => false
def chkTgs : List Tg → CI → List Expr → Bool
  | [], _, [] => true
  | t :: ts, ci, e :: es => chkTg t ci e && chkTgs ts ci es
  | _, _, _ => false
end
def ownOfTg (ci : CI) (tg : Tg) : List (Str × Nat) := (tgSlots tg).map fun i => ((ci.N[i]?).getD "", i)
mutual
def chk (T : TabI) : C → CI → Bool → Expr → Bool
  | .var i, ci, t, e => plainB t e && match e with
    | .Name x _ => nameB ci i x
    | _ => false
  | .cst d, ci, t, e => plainB t e && chkCst d e
  | .glo x d, ci, t, e => plainB t e && match e with
    | .Name y _ => decide (y = x) && isGlo ci.sc x && nmOk x && (T.co.any fun p => decide (p.1 = x) && decide (kV0 d = some p.2.1))
    | _ => false
  | .neg c, ci, t, e => plainB t e && match e with
    | .UnaryOp .USub a _ => chk T c ci false a
    | _ => false
  | .not c, ci, t, e => match e with
    | .UnaryOp .Not a _ => chk T c ci t a
    | _ => false
  | .isN c, ci, t, e => match e with
    | .Compare a [.Is] [.Constant .none _ _] _ => chk T c ci false a
    | _ => false
  | .notN c, ci, t, e => match e with
    | .Compare a [.IsNot] [.Constant .none _ _] _ => chk T c ci false a
    | _ => false
  | .bin op a b, ci, t, e => plainB t e && match e with
    | .BinOp x o y _ => decide (o = opOf op) && chk T a ci false x && chk T b ci false y
    | _ => false
  | .cmp op a b, ci, t, e => match e with
    | .Compare x [o] [y] _ => decide (o = cmpOf op) && !behindInMarks (cmpOf op) y && chk T a ci false x && chk T b ci false y
    | _ => false
  | .chain a op b op' c, ci, t, e => match e with
    | .Compare x [o, o'] [y, z] _ => decide (o = cmpOf op) && decide (o' = cmpOf op') && !lastMarks [cmpOf op, cmpOf op'] [y, z] && chk T a ci false x && chk T b ci false y && chk T c ci false z
    | _ => false
  | .chain3 a op b op' c op'' d, ci, t, e => match e with
    | .Compare x [o, o', o''] [y, z, w] _ => decide (o = cmpOf op) && decide (o' = cmpOf op') && decide (o'' = cmpOf op'') && !lastMarks [cmpOf op, cmpOf op', cmpOf op''] [y, z, w] && chk T a ci false x && chk T b ci false y && chk T c ci false z && chk T d ci false w
    | _ => false
  | .and es, ci, t, e => match e with
    | .BoolOp .And xs _ => !es.isEmpty && chks T es ci t xs
    | _ => false
  | .or es, ci, t, e => match e with
    | .BoolOp .Or xs _ => !es.isEmpty && chks T es ci t xs
    | _ => false
  | .ifx c a b, ci, t, e => plainB t e && match e with
    | .IfExp x y z _ => chk T c ci true x && chk T a ci false y && chk T b ci false z
    | _ => false
  | .ix a b, ci, t, e => plainB t e && match e with
    | .Subscript x y _ => notSl y && chk T a ci false x && chk T b ci false y
    | _ => false
  | .sl a lo hi, ci, t, e => plainB t e && match e with
    | .Subscript x (.Slice l h none _) _ => chkPart lo l && chkPart hi h && chk T a ci false x
    | _ => false
  | .rev a, ci, t, e => plainB t e && match e with
    | .Subscript x (.Slice none none (some (.UnaryOp .USub (.Constant (.int i) _ _) _)) _) _ => decide (i = 1) && chk T a ci false x
    | _ => false
  | .tup cs, ci, t, e => plainB t e && match e with
    | .Tuple es _ _ => es.all notStar && shortB cs.length && chks T cs ci false es
    | _ => false
  | .lst cs, ci, t, e => plainB t e && match e with
    | .List es _ => es.all notStar && shortB cs.length && chks T cs ci false es
    | _ => false
  | .box cs, ci, t, e => plainB t e && match e with
    | .List es _ => es.all notStar && shortB cs.length && chks T cs ci false es
    | _ => false
  | .dct0, ci, t, e => plainB t e && match e with
    | .Dict [] [] _ => true
    | _ => false
  | .dctN a b, ci, t, e => plainB t e && match e with
    | .Dict [some x] [y] _ => chk T a ci false x && chk T b ci false y
    | _ => false
  | .dctS ks cs, ci, t, e => plainB t e && match e with
    | .Dict keys vals _ => keyCs keys ks && decide (keys.length = vals.length) && decide (cs.length = ks.length) && !keys.isEmpty && decide (keys.length ≤ 15) && keys.all (·.isSome) && decide ks.Nodup && chks T cs ci false vals
    | _ => false
  | .isi c ts, ci, t, e => plainB t e && match e with
    | .Call (.Name x _) [a, .Tuple es _ _] [] _ => decide (x = "isinstance") && gB T ci "isinstance" && notStar a && tyNames es ts && shortB ts.length && (ts.all fun y => gB T ci (Str.ofString (tyS y))) && chk T c ci false a
    | _ => false
  | .isi1 c y, ci, t, e => plainB t e && match e with
    | .Call (.Name x _) [a, .Name z _] [] _ => decide (x = "isinstance") && gB T ci "isinstance" && notStar a && decide (z = Str.ofString (tyS y)) && gB T ci (Str.ofString (tyS y)) && chk T c ci false a
    | _ => false
  | .b1 f c, ci, t, e => plainB t e && match e with
    | .Call (.Name x _) [a] [] _ => decide (x = b1n f) && gB T ci (b1n f) && notStar a && chk T c ci false a
    | _ => false
  | .b2 f c d, ci, t, e => plainB t e && match e with
    | .Call (.Name x _) [a, b] [] _ => decide (x = b2n f) && gB T ci (b2n f) && notStar a && notStar b && chk T c ci false a && chk T d ci false b
    | _ => false
  | .srt c, ci, t, e => plainB t e && match e with
    | .Call (.Name x _) [.Call (.Name y _) [a] [] _] [] _ => decide (x = "sorted") && decide (y = "set") && gB T ci "sorted" && gB T ci "set" && notStar a && chk T c ci false a
    | _ => false
  | .lrng c, ci, t, e => plainB t e && match e with
    | .Call (.Name x _) [.Call (.Name y _) [a] [] _] [] _ => decide (x = "list") && decide (y = "range") && gB T ci "list" && gB T ci "range" && notStar a && chk T c ci false a
    | _ => false
  | .get d k x, ci, t, e => plainB t e && match e with
    | .Call (.Attribute o m apos) [a, b] [] pos => decide (m = "get") && notStar a && notStar b && noSup o && decide ((apos.endLine == pos.line) = true) && chk T d ci false o && chk T k ci false a && chk T x ci false b
    | _ => false
  | .fc f cs, ci, t, e => plainB t e && match e with
    | .Call (.Name x _) (a :: es) [] _ => (match T.ft[f]? with
      | some (.fn y) => decide (x = y) && isGlo ci.sc x && nmOk x && decide (cs.length = T.npf f) && (a :: es).all notStar && chks T cs ci false (a :: es)
      | _ => false)
    | _ => false
  | .mc f m c cs, ci, t, e => plainB t e && match e with
    | .Call (.Attribute o n apos) es [] pos => (match T.ft[f]? with
      | some (.me cl y) => decide (n = y) && decide (m = y) && decide (cs.length + 1 = T.npf f) && noSup o && es.all notStar && decide (es.length < 20) && decide ((apos.endLine == pos.line) = true) && chk T c ci false o && chks T cs ci false es
      | _ => false)
    | _ => false
  | .mk f cs, ci, t, e => plainB t e && match e with
    | .Call (.Name x _) (a :: es) [] _ => (match T.ft[f]? with
      | some (.ini cl y) => decide (x = y) && isGlo ci.sc x && nmOk x && decide (cs.length + 1 = T.npf f) && (a :: es).all notStar && chks T cs ci false (a :: es)
      | _ => false)
    | _ => false
  | .at c n, ci, t, e => plainB t e && match e with
    | .Attribute o m _ => decide (m = n) && decide (n ∈ T.ats) && noSup o && chk T c ci false o
    | _ => false
  | .comp ce tg it ct, ci, t, e => plainB t e && match e with
    | .ListComp elt [⟨tg', iter, ifs, 0⟩] scope _ => notSet iter && chkI T it ci tg' iter && blkC ci.N ci.sc scope (ownOfTg ci tg) &&
      chkTg tg ⟨ci.N, relS scope ci.sc⟩ tg' && chkO T ct ⟨ci.N, relS scope ci.sc⟩ ifs && chk T ce ⟨ci.N, relS scope ci.sc⟩ false elt
    | _ => false
def chks (T : TabI) : List C → CI → Bool → List Expr → Bool
  | [], _, _, es => es.isEmpty
  | c :: cs, ci, t, es => match es with
    | [] => false
    | e :: es => chk T c ci t e && chks T cs ci t es
def chkO (T : TabI) : Option C → CI → List Expr → Bool
  | none, _, es => es.isEmpty
  | some c, ci, es => match es with
    | [e] => chk T c ci true e
    | _ => false
def chkI (T : TabI) : VI.It → CI → Expr → Expr → Bool
  | .seq c, ci, _, e => chk T c ci false e
  | .rng c, ci, _, e => match e with
    | .Call (.Name x _) [a] [] _ => decide (x = "range") && gB T ci "range" && notStar a && chk T c ci false a
    | _ => false
  | .enum c, ci, tg, e => match e with
    | .Call (.Name x _) [a] [] _ => decide (x = "enumerate") && gB T ci "enumerate" && notStar a && isTupE tg && chk T c ci false a
    | _ => false
  | .keys c, ci, _, e => chk T c ci false e
  | .items c, ci, tg, e => match e with
    | .Call (.Attribute o m apos) [] [] pos => decide (m = "items") && noSup o && decide ((apos.endLine == pos.line) = true) && isTupE tg && chk T c ci false o
    | _ => false
end
end VI
set_option Elab.async false
set_option linter.all false
set_option maxRecDepth 100000
set_option maxHeartbeats 4000000
/-! V28: what the checker accepts, runs as the evaluator says. -/
namespace VI
open PySem PySem.Spec L2 C8
open PyProof.Rows hiding St
section
variable {call : Nat → List W → Sto → Option (W × Sto)} {cls : Nat → Nat} {cad : Nat → Addr} {T : TabI} {j k : Nat}
def FtOk (X : Cx) (T : TabI) (cad : Nat → Addr) (call : Nat → List W → Sto → Option (W × Sto)) (cls : Nat → Nat) (k : Nat) (f : Nat) : FT → Prop
  | .fn x => Cal X.prog X.w X.K X.mg X.base k x (spOf (qX X cad) (T.npf f) (call f)) []
  | .me cl m => cls f = cl ∧ Met X.prog X.w X.K X.mg X.base k (cad cl) m (spOf (qX X cad) (T.npf f) (call f)) []
  | .ini cl x => cls f = cl ∧ Mak X.prog X.w X.K X.mg X.base k x (cad cl) (spOf (qX X cad) (T.npf f) (call f)) []
structure Cok (X : Cx) (ci : CI) (T : TabI) (cad : Nat → Addr) (call : Nat → List W → Sto → Option (W × Sto)) (cls : Nat → Nat) (j k : Nat) : Prop where
  gd : Gd X j
  kj : k + 1 ≤ j
  N : X.N = ci.N
  sc : X.env.scope = ci.sc
  kind : ci.sc.kind = .function
  bl : ∀ x, x ∈ T.bl → X.mg x = none
  co : ∀ p, p ∈ T.co → ∃ u, X.mg p.1 = some u ∧ RelV p.2.1 u
  ft : ∀ f t, T.ft[f]? = some t → FtOk X T cad call cls k f t
  ats : ∀ n, n ∈ T.ats → ∀ cl, Cls X.K (cad cl) ∧ NoAttr X.K (cad cl) n
section
variable {X : Cx} {ci : CI}
theorem Cok.blk (h : Cok X ci T cad call cls j k) {scope : Scope} (hk : scope.kind = .function) (s : Shared) (H : Hp) (C : Addr) (cl : List (Str × Addr)) (fp : List Addr) : Cok (X.blk s H scope (compEnvC scope cl C X.env) fp) ⟨ci.N, relS scope ci.sc⟩ T cad call cls j k where
  gd := ⟨h.gd.calm, h.gd.nd, h.gd.room, rfl⟩
  kj := h.kj
  N := h.N
  sc := by
    show relS scope X.env.scope = relS scope ci.sc
    rw [h.sc]
  kind := hk
  bl := h.bl
  co := h.co
  ft := h.ft
  ats := h.ats
def Sel (X : Cx) (cad : Nat → Addr) (call : Nat → List W → Sto → Option (W × Sto)) (cls : Nat → Nat) : Bool → Expr → C → Prop
  | true, e, c => PT X e (uX X cad call cls c)
  | false, e, c => PE X e (tX X cad call cls c)
theorem Sel.plain {t : Bool} {e : Expr} {c : C} (hp : plainB t e = true) (h : PE X e (tX X cad call cls c)) : Sel X cad call cls t e c := by
  cases t with
  | false => exact h
  | true => exact s_valT h (plain_ok (by simpa [plainB] using hp))
inductive AllS (X : Cx) (cad : Nat → Addr) (call : Nat → List W → Sto → Option (W × Sto)) (cls : Nat → Nat) (t : Bool) : List Expr → List C → Prop where
  | nil : AllS X cad call cls t [] []
  | cons {e : Expr} {c : C} {es : List Expr} {cs : List C} : Sel X cad call cls t e c → AllS X cad call cls t es cs → AllS X cad call cls t (e :: es) (c :: cs)
theorem AllS.tA {es : List Expr} {cs : List C} (h : AllS X cad call cls false es cs) (hs : es.all notStar = true) : PA X es (tA (qX X cad) call cls cs) := by
  induction h with
  | nil => exact a_nil
  | cons a _ ih =>
    rw [List.all_cons, Bool.and_eq_true] at hs
    exact a_cons a (ih hs.2) hs.1
theorem AllS.tW {es : List Expr} {cs : List C} (h : AllS X cad call cls false es cs) (hs : es.all notStar = true) : PA X es (tW (qX X cad) call cls cs) := by
  induction h with
  | nil => exact w_nil
  | cons a _ ih =>
    rw [List.all_cons, Bool.and_eq_true] at hs
    exact w_cons a (ih hs.2) hs.1
theorem AllS.at {t : Bool} {es : List Expr} {cs : List C} (h : AllS X cad call cls t es cs) : ∀ (i : Nat) (e : Expr) (c : C), es[i]? = some e → cs[i]? = some c → Sel X cad call cls t e c := by
  induction h with
  | nil => intro i e c h; simp at h
  | cons a _ ih =>
    intro i e c h1 h2
    cases i with
    | zero => simp at h1 h2; subst h1; subst h2; exact a
    | succ i => exact ih i e c (by simpa using h1) (by simpa using h2)
theorem AllS.and {t : Bool} {pos : Pos} : ∀ {es : List Expr} {cs : List C}, AllS X cad call cls t es cs → cs.isEmpty = false → Sel X cad call cls t (.BoolOp .And es pos) (.and cs) := by
  cases t with
  | false =>
    intro es cs h
    induction h with
    | nil => intro e; cases e
    | cons a r ih =>
      intro _
      cases r with
      | nil => exact s_and1 a
      | cons b r => exact s_and a (ih rfl)
  | true =>
    have go : ∀ {es : List Expr} {cs : List C}, AllS X cad call cls true es cs → cs.isEmpty = false → PW X (.BoolOp .And es pos) (uX X cad call cls (.and cs)) := by
      intro es cs h
      induction h with
      | nil => intro e; cases e
      | cons a r ih =>
        intro _
        cases r with
        | nil => exact s_and1T a
        | cons b r => exact s_andT a (ih rfl)
    exact fun {_ _} h e => (go h e).pt
theorem AllS.or {t : Bool} {pos : Pos} : ∀ {es : List Expr} {cs : List C}, AllS X cad call cls t es cs → cs.isEmpty = false → Sel X cad call cls t (.BoolOp .Or es pos) (.or cs) := by
  cases t with
  | false =>
    intro es cs h
    induction h with
    | nil => intro e; cases e
    | cons a r ih =>
      intro _
      cases r with
      | nil => exact s_or1 a
      | cons b r => exact s_or a (ih rfl)
  | true =>
    have go : ∀ {es : List Expr} {cs : List C}, AllS X cad call cls true es cs → cs.isEmpty = false → PW X (.BoolOp .Or es pos) (uX X cad call cls (.or cs)) := by
      intro es cs h
      induction h with
      | nil => intro e; cases e
      | cons a r ih =>
        intro _
        cases r with
        | nil => exact s_or1T a
        | cons b r => exact s_orT a (ih rfl)
    exact fun {_ _} h e => (go h e).pt
theorem isVis_ok {sc : Scope} {x : Str} (h : isVis sc x = true) : Vis sc x := by
  unfold isVis at h
  split at h <;> first | exact .inl (by assumption) | exact .inr (.inl (by assumption)) | exact .inr (.inr (by assumption)) | cases h
theorem isLoc_ok {sc : Scope} {x : Str} (h : isLoc sc x = true) : Loc sc x := by
  unfold isLoc at h
  split at h <;> first | exact .inl (by assumption) | exact .inr (by assumption) | cases h
theorem isLcl_ok {sc : Scope} {x : Str} (h : isLcl sc x = true) : sc.names.lookup x = some .local := by
  unfold isLcl at h
  split at h <;> first | assumption | cases h
theorem isGlo_ok {sc : Scope} {x : Str} (h : isGlo sc x = true) : sc.names.lookup x = some .globalImplicit := by
  unfold isGlo at h
  split at h <;> first | assumption | cases h
theorem nmOk_ok {x : Str} (h : nmOk x = true) : (x == ("__debug__" : Str)) = false ∧ (x == ("__classdict__" : Str)) = false := by
  unfold nmOk at h
  rw [Bool.and_eq_true] at h
  exact ⟨by simpa using h.1, by simpa using h.2⟩
theorem Cok.gl (h : Cok X ci T cad call cls j k) {x : Str} (e : isGlo ci.sc x = true) : Gl X x := by
  show X.env.scope.names.lookup x = _
  rw [h.sc]; exact isGlo_ok e
theorem Cok.gb (h : Cok X ci T cad call cls j k) {x : Str} (e : gB T ci x = true) : Gl X x ∧ X.mg x = none := by
  unfold gB at e
  rw [Bool.and_eq_true, decide_eq_true_eq] at e
  exact ⟨h.gl e.1, h.bl x e.2⟩
theorem Cok.nm (h : Cok X ci T cad call cls j k) {i : Nat} {x : Str} (e : nameB ci i x = true) : X.N[i]? = some x ∧ Vis X.env.scope x ∧ (x == ("__debug__" : Str)) = false ∧ (x == ("__classdict__" : Str)) = false := by
  unfold nameB at e
  rw [Bool.and_eq_true, Bool.and_eq_true, decide_eq_true_eq] at e
  obtain ⟨⟨h1, h2⟩, h3⟩ := e
  exact ⟨by rw [h.N]; exact h1, by rw [h.sc]; exact isVis_ok h2, nmOk_ok h3⟩
theorem cst_ok {d : D} {e : Expr} (h : chkCst d e = true) : PE X e (tX X cad call cls (.cst d)) := by
  unfold chkCst at h
  split at h
  · have := of_decide_eq_true h; subst this
    exact s_lit (d := .int _) pe_int rfl fun _ _ => by simp only [evE]
  · have := of_decide_eq_true h; subst this
    exact s_lit (d := .str _) pe_str rfl fun _ _ => by simp only [evE]
  · have := of_decide_eq_true h; subst this
    exact s_lit (d := .bool _) pe_bl rfl fun _ _ => by simp only [evE]
  · exact s_lit (d := .none) pe_non rfl fun _ _ => by simp only [evE]
  · cases h
theorem part_ok {o : Option Int} {e : Option Expr} (h : chkPart o e = true) : PO X e (poC o) := by
  have wk : ∀ {t t' : TO}, PO X e t → (∀ σ H Q, t' σ H Q → t σ H Q) → PO X e t' := fun h k => ⟨fun pins s σ H Q I w => h.run pins s σ H Q I (k σ H Q w)⟩
  unfold chkPart at h
  split at h
  · exact wk po_none fun σ H Q h => h
  · have := of_decide_eq_true h; subst this
    exact wk (po_some pe_int) fun σ H Q h => ⟨_, rfl, h⟩
  · have := of_decide_eq_true h; subst this
    exact wk (po_some (pe_un un_neg pe_int)) fun σ H Q h => ⟨_, rfl, _, rfl, h⟩
  · cases h
theorem notSet_ok {e : Expr} {env : PySem.Env} (h : notSet e = true) : ∀ x, foldedSetIterable e env x = pure x := by
  intro x
  cases e <;> first | rfl | cases h
theorem isTupE_ok {e : Expr} (h : isTupE e = true) : ∃ es k p, e = .Tuple es k p := by
  cases e <;> first | exact ⟨_, _, _, rfl⟩ | cases h
mutual
theorem chkTg_ok : ∀ (t : Tg) {X : Cx} {ci : CI} {e : Expr}, Cok X ci T cad call cls j k → chkTg t ci e = true → PG X e (gT X.K t)
  | .nm i, X, ci, e, hX, h => by
    unfold chkTg at h
    cases e <;> simp only [Bool.false_eq_true] at h <;> try (cases h; done)
    rename_i x p
    rw [Bool.and_eq_true, decide_eq_true_eq] at h
    have hl : X.env.scope.names.lookup x = some .local := by rw [hX.sc]; exact isLcl_ok h.2
    exact pg_name hX.gd.nd (by rw [hX.N]; exact h.1) (.inl hl) (.inr hl)
  | .tp ts, X, ci, e, hX, h => by
    unfold chkTg at h
    cases e <;> simp only [Bool.false_eq_true] at h <;> try (cases h; done)
    rename_i es kk p
    rw [Bool.and_eq_true, Bool.and_eq_true, decide_eq_true_eq] at h
    obtain ⟨⟨h1, h2⟩, h3⟩ := h
    obtain ⟨n1, n2, _⟩ := each_len (env := X.env) h1
    exact pg_tup hX.gd.calm (chkTgs_ok ts hX h1 h3) (n1.trans h2) n2
theorem chkTgs_ok : ∀ (ts : List Tg) {X : Cx} {ci : CI} {es : List Expr}, Cok X ci T cad call cls j k → es.all notStar = true → chkTgs ts ci es = true → PGs X es (gTs X.K ts)
  | [], X, ci, es, hX, hs, h => by
    cases es with
    | nil => exact pgs_nil
    | cons => unfold chkTgs at h; cases h
  | t :: ts, X, ci, es, hX, hs, h => by
    cases es with
    | nil => unfold chkTgs at h; cases h
    | cons e es =>
      unfold chkTgs at h
      rw [Bool.and_eq_true] at h
      rw [List.all_cons, Bool.and_eq_true] at hs
      exact pgs_cons (chkTg_ok t hX h.1) (chkTgs_ok ts hX hs.2 h.2) (each_cons hs.1)
end
end
end
end VI
set_option Elab.async false
set_option linter.all false
set_option maxRecDepth 100000
set_option maxHeartbeats 8000000
/-! V29: soundness of the checker of expressions. -/
namespace VI
open PySem PySem.Spec L2 C8
open PyProof.Rows hiding St
section
variable {call : Nat → List W → Sto → Option (W × Sto)} {cls : Nat → Nat} {cad : Nat → Addr} {T : TabI} {j k : Nat}
theorem and2 {a b : Bool} (h : (a && b) = true) : a = true ∧ b = true := Bool.and_eq_true_iff.mp h
theorem dec {p : Prop} [Decidable p] (h : decide p = true) : p := of_decide_eq_true h
theorem nt {b : Bool} (h : (!b) = true) : b = false := by cases b <;> first | rfl | cases h
theorem nmk_dbg {x : Str} (h : nmOk x = true) : (x == ("__debug__" : Str)) = false := (nmOk_ok h).1
mutual
theorem chk_ok : ∀ (c : C) {ci : CI} {t : Bool} {e : Expr} {X : Cx}, Cok X ci T cad call cls j k → chk T c ci t e = true → Sel X cad call cls t e c
  | .var i, ci, t, e, X, hX, h => by
    unfold chk at h
    obtain ⟨hp, h⟩ := and2 h
    split at h
    · obtain ⟨h1, h2, h3, h4⟩ := hX.nm h
      exact .plain hp (s_var h1 h2 h3 h4)
    · cases h
  | .cst d, ci, t, e, X, hX, h => by
    unfold chk at h
    obtain ⟨hp, h⟩ := and2 h
    exact .plain hp (cst_ok h)
  | .glo x d, ci, t, e, X, hX, h => by
    unfold chk at h
    obtain ⟨hp, h⟩ := and2 h
    split at h
    · obtain ⟨h, h4⟩ := and2 h
      obtain ⟨h, h3⟩ := and2 h
      obtain ⟨h1, h2⟩ := and2 h
      have e := dec h1
      subst e
      obtain ⟨p, hp1, hp2⟩ := List.any_eq_true.mp h4
      obtain ⟨q1, q2⟩ := and2 hp2
      have e := dec q1
      obtain ⟨u, hu, ru⟩ := hX.co p hp1
      rw [e] at hu
      exact .plain hp (s_lit (d := d) (pe_glob (hX.gl h2) hu ru (nmk_dbg h3)) (dec q2) fun _ _ => by simp only [evE])
    · cases h
  | .neg c, ci, t, e, X, hX, h => by
    unfold chk at h
    obtain ⟨hp, h⟩ := and2 h
    split at h
    · exact .plain hp (s_neg (chk_ok c hX h))
    · cases h
  | .not c, ci, t, e, X, hX, h => by
    unfold chk at h
    split at h
    · have z := chk_ok c hX h
      cases t with
      | false => exact s_notV z
      | true => exact s_notT z
    · cases h
  | .isN c, ci, t, e, X, hX, h => by
    unfold chk at h
    split at h
    · have z := chk_ok c hX h
      cases t with
      | false => exact s_isN z
      | true => exact s_isNT z
    · cases h
  | .notN c, ci, t, e, X, hX, h => by
    unfold chk at h
    split at h
    · have z := chk_ok c hX h
      cases t with
      | false => exact s_notN z
      | true => exact s_notNT z
    · cases h
  | .bin op a b, ci, t, e, X, hX, h => by
    unfold chk at h
    obtain ⟨hp, h⟩ := and2 h
    split at h
    · obtain ⟨h, h3⟩ := and2 h
      obtain ⟨h1, h2⟩ := and2 h
      have e := dec h1
      subst e
      exact .plain hp (s_bin (chk_ok a hX h2) (chk_ok b hX h3))
    · cases h
  | .cmp op a b, ci, t, e, X, hX, h => by
    unfold chk at h
    split at h
    · obtain ⟨h, h4⟩ := and2 h
      obtain ⟨h, h3⟩ := and2 h
      obtain ⟨h1, h2⟩ := and2 h
      have e := dec h1
      subst e
      have za := chk_ok a hX h3
      have zb := chk_ok b hX h4
      have hm := nt h2
      cases t with
      | false => exact s_cmp hX.gd za zb hm
      | true => exact s_cmpT hX.gd za zb hm
    · cases h
  | .chain a op b op' c, ci, t, e, X, hX, h => by
    unfold chk at h
    split at h
    · obtain ⟨h, h6⟩ := and2 h
      obtain ⟨h, h5⟩ := and2 h
      obtain ⟨h, h4⟩ := and2 h
      obtain ⟨h, h3⟩ := and2 h
      obtain ⟨h1, h2⟩ := and2 h
      have e := dec h1
      subst e
      have e := dec h2
      subst e
      have za := chk_ok a hX h4
      have zb := chk_ok b hX h5
      have zc := chk_ok c hX h6
      have hm := nt h3
      cases t with
      | false => exact s_chain hX.gd za zb zc hm
      | true => exact s_chainT hX.gd za zb zc hm
    · cases h
  | .chain3 a op b op' c op'' d, ci, t, e, X, hX, h => by
    unfold chk at h
    split at h
    · obtain ⟨h, h8⟩ := and2 h
      obtain ⟨h, h7⟩ := and2 h
      obtain ⟨h, h6⟩ := and2 h
      obtain ⟨h, h5⟩ := and2 h
      obtain ⟨h, h4⟩ := and2 h
      obtain ⟨h, h3⟩ := and2 h
      obtain ⟨h1, h2⟩ := and2 h
      have e := dec h1
      subst e
      have e := dec h2
      subst e
      have e := dec h3
      subst e
      have za := chk_ok a hX h5
      have zb := chk_ok b hX h6
      have zc := chk_ok c hX h7
      have zd := chk_ok d hX h8
      have hm := nt h4
      cases t with
      | false => exact s_chain3 hX.gd za zb zc zd hm
      | true => exact s_chain3T hX.gd za zb zc zd hm
    · cases h
  | .and cs, ci, t, e, X, hX, h => by
    unfold chk at h
    split at h
    · obtain ⟨h1, h2⟩ := and2 h
      exact (chks_ok cs hX h2).and (by simpa using h1)
    · cases h
  | .or cs, ci, t, e, X, hX, h => by
    unfold chk at h
    split at h
    · obtain ⟨h1, h2⟩ := and2 h
      exact (chks_ok cs hX h2).or (by simpa using h1)
    · cases h
  | .ifx c a b, ci, t, e, X, hX, h => by
    unfold chk at h
    obtain ⟨hp, h⟩ := and2 h
    split at h
    · obtain ⟨h, h3⟩ := and2 h
      obtain ⟨h1, h2⟩ := and2 h
      exact .plain hp (s_ifx (chk_ok c hX h1) (chk_ok a hX h2) (chk_ok b hX h3))
    · cases h
  | .ix a b, ci, t, e, X, hX, h => by
    unfold chk at h
    obtain ⟨hp, h⟩ := and2 h
    split at h
    · obtain ⟨h, h3⟩ := and2 h
      obtain ⟨h1, h2⟩ := and2 h
      exact .plain hp (s_ix hX.gd (chk_ok a hX h2) (chk_ok b hX h3) (sl_plain h1))
    · cases h
  | .sl a lo hi, ci, t, e, X, hX, h => by
    unfold chk at h
    obtain ⟨hp, h⟩ := and2 h
    split at h
    · obtain ⟨h, h3⟩ := and2 h
      obtain ⟨h1, h2⟩ := and2 h
      exact .plain hp (s_sl (chk_ok a hX h3) (part_ok h1) (part_ok h2))
    · cases h
  | .rev a, ci, t, e, X, hX, h => by
    unfold chk at h
    obtain ⟨hp, h⟩ := and2 h
    split at h
    · obtain ⟨h1, h2⟩ := and2 h
      have e := dec h1
      subst e
      exact .plain hp (s_rev (chk_ok a hX h2))
    · cases h
  | .tup cs, ci, t, e, X, hX, h => by
    unfold chk at h
    obtain ⟨hp, h⟩ := and2 h
    split at h
    · obtain ⟨h, h3⟩ := and2 h
      obtain ⟨h1, h2⟩ := and2 h
      exact .plain hp (s_tup ((chks_ok cs hX h3).tA h1) h2)
    · cases h
  | .lst cs, ci, t, e, X, hX, h => by
    unfold chk at h
    obtain ⟨hp, h⟩ := and2 h
    split at h
    · obtain ⟨h, h3⟩ := and2 h
      obtain ⟨h1, h2⟩ := and2 h
      exact .plain hp (s_lst ((chks_ok cs hX h3).tA h1) h2)
    · cases h
  | .box cs, ci, t, e, X, hX, h => by
    unfold chk at h
    obtain ⟨hp, h⟩ := and2 h
    split at h
    · obtain ⟨h, h3⟩ := and2 h
      obtain ⟨h1, h2⟩ := and2 h
      exact .plain hp (s_box ((chks_ok cs hX h3).tA h1) h2)
    · cases h
  | .dct0, ci, t, e, X, hX, h => by
    unfold chk at h
    obtain ⟨hp, h⟩ := and2 h
    split at h
    · exact .plain hp s_dct0
    · cases h
  | .dctN a b, ci, t, e, X, hX, h => by
    unfold chk at h
    obtain ⟨hp, h⟩ := and2 h
    split at h
    · obtain ⟨h1, h2⟩ := and2 h
      exact .plain hp (s_dctN hX.gd (chk_ok a hX h1) (chk_ok b hX h2))
    · cases h
  | .dctS ks cs, ci, t, e, X, hX, h => by
    unfold chk at h
    obtain ⟨hp, h⟩ := and2 h
    split at h
    · obtain ⟨h, h8⟩ := and2 h
      obtain ⟨h, h7⟩ := and2 h
      obtain ⟨h, h6⟩ := and2 h
      obtain ⟨h, h5⟩ := and2 h
      obtain ⟨h, h4⟩ := and2 h
      obtain ⟨h, h3⟩ := and2 h
      obtain ⟨h1, h2⟩ := and2 h
      have z := chks_ok cs hX h8
      exact .plain hp (s_dctS h1 (dec h2) (fun i e c a b => z.at i e c a b) (dec h3) (by rintro rfl; cases h4) (dec h5) h6 (dec h7))
    · cases h
  | .isi c ts, ci, t, e, X, hX, h => by
    unfold chk at h
    obtain ⟨hp, h⟩ := and2 h
    split at h
    · obtain ⟨h, h7⟩ := and2 h
      obtain ⟨h, h6⟩ := and2 h
      obtain ⟨h, h5⟩ := and2 h
      obtain ⟨h, h4⟩ := and2 h
      obtain ⟨h, h3⟩ := and2 h
      obtain ⟨h1, h2⟩ := and2 h
      have e := dec h1
      subst e
      exact .plain hp (s_isi (chk_ok c hX h7) h3 (hX.gb h2).1 (hX.gb h2).2 h4 h5 fun t ht => hX.gb (List.all_eq_true.mp h6 t ht))
    · cases h
  | .isi1 c y, ci, t, e, X, hX, h => by
    unfold chk at h
    obtain ⟨hp, h⟩ := and2 h
    split at h
    · obtain ⟨h, h6⟩ := and2 h
      obtain ⟨h, h5⟩ := and2 h
      obtain ⟨h, h4⟩ := and2 h
      obtain ⟨h, h3⟩ := and2 h
      obtain ⟨h1, h2⟩ := and2 h
      have e := dec h1
      subst e
      have e := dec h4
      subst e
      exact .plain hp (s_isi1 (chk_ok c hX h6) h3 (hX.gb h2).1 (hX.gb h2).2 (hX.gb h5).1 (hX.gb h5).2)
    · cases h
  | .b1 f c, ci, t, e, X, hX, h => by
    unfold chk at h
    obtain ⟨hp, h⟩ := and2 h
    split at h
    · obtain ⟨h, h4⟩ := and2 h
      obtain ⟨h, h3⟩ := and2 h
      obtain ⟨h1, h2⟩ := and2 h
      have e := dec h1
      subst e
      exact .plain hp (s_b1 hX.gd (chk_ok c hX h4) h3 (hX.gb h2).1 (hX.gb h2).2)
    · cases h
  | .b2 f c d, ci, t, e, X, hX, h => by
    unfold chk at h
    obtain ⟨hp, h⟩ := and2 h
    split at h
    · obtain ⟨h, h6⟩ := and2 h
      obtain ⟨h, h5⟩ := and2 h
      obtain ⟨h, h4⟩ := and2 h
      obtain ⟨h, h3⟩ := and2 h
      obtain ⟨h1, h2⟩ := and2 h
      have e := dec h1
      subst e
      exact .plain hp (s_b2 hX.gd (chk_ok c hX h5) (chk_ok d hX h6) h3 h4 (hX.gb h2).1 (hX.gb h2).2)
    · cases h
  | .srt c, ci, t, e, X, hX, h => by
    unfold chk at h
    obtain ⟨hp, h⟩ := and2 h
    split at h
    · obtain ⟨h, h6⟩ := and2 h
      obtain ⟨h, h5⟩ := and2 h
      obtain ⟨h, h4⟩ := and2 h
      obtain ⟨h, h3⟩ := and2 h
      obtain ⟨h1, h2⟩ := and2 h
      have e := dec h1
      subst e
      have e := dec h2
      subst e
      exact .plain hp (s_srt hX.gd (chk_ok c hX h6) h5 (hX.gb h3).1 (hX.gb h3).2 (hX.gb h4).1 (hX.gb h4).2)
    · cases h
  | .lrng c, ci, t, e, X, hX, h => by
    unfold chk at h
    obtain ⟨hp, h⟩ := and2 h
    split at h
    · obtain ⟨h, h6⟩ := and2 h
      obtain ⟨h, h5⟩ := and2 h
      obtain ⟨h, h4⟩ := and2 h
      obtain ⟨h, h3⟩ := and2 h
      obtain ⟨h1, h2⟩ := and2 h
      have e := dec h1
      subst e
      have e := dec h2
      subst e
      exact .plain hp (s_lrng hX.gd (chk_ok c hX h6) h5 (hX.gb h3).1 (hX.gb h3).2 (hX.gb h4).1 (hX.gb h4).2)
    · cases h
  | .get d kk x, ci, t, e, X, hX, h => by
    unfold chk at h
    obtain ⟨hp, h⟩ := and2 h
    split at h
    · obtain ⟨h, h8⟩ := and2 h
      obtain ⟨h, h7⟩ := and2 h
      obtain ⟨h, h6⟩ := and2 h
      obtain ⟨h, h5⟩ := and2 h
      obtain ⟨h, h4⟩ := and2 h
      obtain ⟨h, h3⟩ := and2 h
      obtain ⟨h1, h2⟩ := and2 h
      have e := dec h1
      subst e
      refine .plain hp (s_get hX.gd (chk_ok d hX h6) (chk_ok kk hX h7) (chk_ok x hX h8) h2 h3 ⟨base_ok h4 _, ?_, dec h5, ?_⟩)
      · rw [star_ns h2, star_ns h3]; rfl
      · rw [star_ns h2, star_ns h3]; rfl
    · cases h
  | .fc f cs, ci, t, e, X, hX, h => by
    unfold chk at h
    obtain ⟨hp, h⟩ := and2 h
    split at h
    · split at h
      · rename_i y hy
        obtain ⟨h, h6⟩ := and2 h
        obtain ⟨h, h5⟩ := and2 h
        obtain ⟨h, h4⟩ := and2 h
        obtain ⟨h, h3⟩ := and2 h
        obtain ⟨h1, h2⟩ := and2 h
        have e := dec h1
        subst e
        have c := hX.ft f _ hy
        exact .plain hp (s_fc (np := T.npf) c hX.gd.room (Nat.le_of_succ_le hX.kj) (hX.gl h2) ((chks_ok cs hX h6).tW h5) (dec h4) (nmk_dbg h3) h5)
      · cases h
    · cases h
  | .mc f m c cs, ci, t, e, X, hX, h => by
    unfold chk at h
    obtain ⟨hp, h⟩ := and2 h
    split at h
    · split at h
      · rename_i cl y hy
        obtain ⟨h, h9⟩ := and2 h
        obtain ⟨h, h8⟩ := and2 h
        obtain ⟨h, h7⟩ := and2 h
        obtain ⟨h, h6⟩ := and2 h
        obtain ⟨h, h5⟩ := and2 h
        obtain ⟨h, h4⟩ := and2 h
        obtain ⟨h, h3⟩ := and2 h
        obtain ⟨h1, h2⟩ := and2 h
        have e := dec h1
        subst e
        have e := dec h2
        subst e
        obtain ⟨hc, hm⟩ := hX.ft f _ hy
        subst hc
        have za := chks_ok cs hX h9
        obtain ⟨pl, hf⟩ := mc_form (env := X.env) h4 h5 h6 (dec h7)
        cases za with
        | nil => exact .plain hp (s_mc0 (np := T.npf) hm rfl hX.gd.room (Nat.le_of_succ_le hX.kj) (chk_ok c hX h8) (by simpa using dec h3) hf)
        | cons a b => exact .plain hp (s_mc (np := T.npf) hm rfl hX.gd.room (Nat.le_of_succ_le hX.kj) (chk_ok c hX h8) ((AllS.cons a b).tW h5) (dec h3) h5 hf)
      · cases h
    · cases h
  | .mk f cs, ci, t, e, X, hX, h => by
    unfold chk at h
    obtain ⟨hp, h⟩ := and2 h
    split at h
    · split at h
      · rename_i cl y hy
        obtain ⟨h, h6⟩ := and2 h
        obtain ⟨h, h5⟩ := and2 h
        obtain ⟨h, h4⟩ := and2 h
        obtain ⟨h, h3⟩ := and2 h
        obtain ⟨h1, h2⟩ := and2 h
        have e := dec h1
        subst e
        obtain ⟨hc, hm⟩ := hX.ft f _ hy
        subst hc
        exact .plain hp (s_mk (np := T.npf) hm rfl hX.gd.room hX.kj (hX.gl h2) ((chks_ok cs hX h6).tW h5) (dec h4) (nmk_dbg h3) h5)
      · cases h
    · cases h
  | .at c n, ci, t, e, X, hX, h => by
    unfold chk at h
    obtain ⟨hp, h⟩ := and2 h
    split at h
    · obtain ⟨h, h4⟩ := and2 h
      obtain ⟨h, h3⟩ := and2 h
      obtain ⟨h1, h2⟩ := and2 h
      have e := dec h1
      subst e
      exact .plain hp (s_at (chk_ok c hX h4) (base_ok h3 _) (hX.ats _ (dec h2)))
    · cases h
  | .comp ce tg it ct, ci, t, e, X, hX, h => by
    unfold chk at h
    obtain ⟨hp, h⟩ := and2 h
    split at h
    · rename_i scope _ _
      obtain ⟨h, h6⟩ := and2 h
      obtain ⟨h, h5⟩ := and2 h
      obtain ⟨h, h4⟩ := and2 h
      obtain ⟨h, h3⟩ := and2 h
      obtain ⟨h1, h2⟩ := and2 h
      have hb : BlkOk X.N X.env.scope scope (ownOfTg ci tg) := by
        rw [hX.N, hX.sc]; exact blkOk_by h3
      have ho : (ownOfTg ci tg).map (·.2) = tgSlots tg := by
        unfold ownOfTg
        rw [List.map_map]
        exact List.map_id' _
      exact .plain hp (s_comp hX.gd (chkI_ok it hX h2) hb ho (fun s H C cl fp => chkTg_ok tg (hX.blk hb.kind s H C cl fp) h4) (fun s H C cl fp => chkO_ok ct (hX.blk hb.kind s H C cl fp) h5)
        (fun s H C cl fp => chk_ok ce (hX.blk hb.kind s H C cl fp) h6) (notSet_ok h1))
    · cases h
theorem chks_ok : ∀ (cs : List C) {ci : CI} {t : Bool} {es : List Expr} {X : Cx}, Cok X ci T cad call cls j k → chks T cs ci t es = true → AllS X cad call cls t es cs
  | [], ci, t, es, X, hX, h => by
    unfold chks at h
    cases es with
    | nil => exact .nil
    | cons => cases h
  | c :: cs, ci, t, es, X, hX, h => by
    unfold chks at h
    cases es with
    | nil => cases h
    | cons e es =>
      obtain ⟨h1, h2⟩ := and2 h
      exact .cons (chk_ok c hX h1) (chks_ok cs hX h2)
theorem chkO_ok : ∀ (o : Option C) {ci : CI} {es : List Expr} {X : Cx}, Cok X ci T cad call cls j k → chkO T o ci es = true → PTs X es (tTs (qX X cad) call cls o)
  | none, ci, es, X, hX, h => by
    unfold chkO at h
    cases es with
    | nil => exact ts_nil
    | cons => cases h
  | some c, ci, es, X, hX, h => by
    unfold chkO at h
    split at h
    · exact ts_one (chk_ok c hX h)
    · cases h
theorem chkI_ok : ∀ (it : VI.It) {ci : CI} {tg e : Expr} {X : Cx}, Cok X ci T cad call cls j k → chkI T it ci tg e = true → PI X tg e (wX X cad call cls it)
  | .seq c, ci, tg, e, X, hX, h => by
    unfold chkI at h
    exact i_seq (chk_ok c hX h)
  | .rng c, ci, tg, e, X, hX, h => by
    unfold chkI at h
    split at h
    · obtain ⟨h, h4⟩ := and2 h
      obtain ⟨h, h3⟩ := and2 h
      obtain ⟨h1, h2⟩ := and2 h
      have e := dec h1
      subst e
      exact i_rng (chk_ok c hX h4) h3 (hX.gb h2).1 (hX.gb h2).2
    · cases h
  | .enum c, ci, tg, e, X, hX, h => by
    unfold chkI at h
    split at h
    · obtain ⟨h, h5⟩ := and2 h
      obtain ⟨h, h4⟩ := and2 h
      obtain ⟨h, h3⟩ := and2 h
      obtain ⟨h1, h2⟩ := and2 h
      have e := dec h1
      subst e
      obtain ⟨es, kk, p, rfl⟩ := isTupE_ok h4
      exact i_enum (chk_ok c hX h5) h3 (hX.gb h2).1 (hX.gb h2).2
    · cases h
  | .keys c, ci, tg, e, X, hX, h => by
    unfold chkI at h
    exact i_keys (chk_ok c hX h)
  | .items c, ci, tg, e, X, hX, h => by
    unfold chkI at h
    split at h
    · obtain ⟨h, h5⟩ := and2 h
      obtain ⟨h, h4⟩ := and2 h
      obtain ⟨h, h3⟩ := and2 h
      obtain ⟨h1, h2⟩ := and2 h
      have e := dec h1
      subst e
      obtain ⟨es, kk, p, rfl⟩ := isTupE_ok h4
      exact i_items (chk_ok c hX h5) (base_ok h2 _) (dec h3)
    · cases h
end
end
end VI
set_option Elab.async false
set_option linter.all false
set_option maxRecDepth 100000
set_option maxHeartbeats 4000000
/-! V30: the checker of statements. -/
namespace VI
open PySem PySem.Spec L2 C8
open PyProof.Rows hiding St
def semVal {α : Type} : Sem α → Option α
  | .pure a => some a
  | _ => none
theorem semVal_ok {α : Type} {m : Sem α} {a : α} (h : semVal m = some a) : m = pure a := by
  cases m <;> simp only [semVal] at h <;> first | (cases h; rfl) | cases h
def envD (sc : Scope) : PySem.Env := ⟨sc, 0, 0, [], "", none, .none, none, 0⟩
theorem swaps_env {e : Expr} {t : Option Expr} {l : Nat} {env env' : PySem.Env} (h : env.scope = env'.scope) : swapsWith e t l env = swapsWith e t l env' := by
  unfold swapsWith PySem.Env.blockKind PySem.Env.kindOf
  rw [h]
theorem stores_env {ts : List Expr} {e : Expr} {env env' : PySem.Env} (h : env.scope = env'.scope) : swappedStores ts e env = swappedStores ts e env' := by
  unfold swappedStores PySem.Env.blockKind PySem.Env.kindOf
  rw [h]
section
variable (T : TabI)
def chkF (c : C) (ci : CI) (e : Expr) : Bool := match c with
  | .lst cs => (match e with
    | .List es _ => es.all notStar && shortB cs.length && chks T cs ci false es
    | _ => false)
  | .dct0 => (match e with
    | .Dict [] [] _ => true
    | _ => false)
  | .bin .add a b => (match e with
    | .BinOp x o y _ => decide (o = opOf .add) && chk T a ci false x && chk T b ci false y
    | _ => false)
  | .b1 .list c => (match e with
    | .Call (.Name x _) [a] [] _ => decide (x = "list") && gB T ci "list" && notStar a && chk T c ci false a
    | _ => false)
  | _ => false
def chkRs : List Ta → List C → CI → List Expr → Bool
  | [], [], _, [] => true
  | .nm _ :: ts, c :: cs, ci, e :: es => notStar e && chk T c ci false e && chkRs ts cs ci es
  | .own _ :: ts, c :: cs, ci, e :: es => notStar e && chkF T c ci e && chkRs ts cs ci es
  | _, _, _, _ => false
def slots (ts : List Ta) : List Nat := ts.filterMap taSlot
def chkNames : List Nat → CI → List Expr → Bool
  | [], _, [] => true
  | i :: is, ci, .Name x _ :: es => decide (ci.N[i]? = some x) && isLoc ci.sc x && chkNames is ci es
  | _, _, _ => false
def chkTas : List Ta → CI → List Expr → Bool
  | [], _, [] => true
  | .nm i :: ts, ci, .Name x _ :: es => decide (ci.N[i]? = some x) && isLoc ci.sc x && chkTas ts ci es
  | .fld o n :: ts, ci, .Attribute a m _ :: es => decide (m = n) && decide (n ∈ T.ats) && chk T o ci false a && chkTas ts ci es
  | _, _, _ => false
mutual
def chkTgL : Tg → CI → Expr → Bool
  | .nm i, ci, .Name x _ => decide (ci.N[i]? = some x) && isLoc ci.sc x
  | .tp ts, ci, .Tuple es _ _ => es.all notStar && decide (es.length = ts.length) && chkTgLs ts ci es
  | _, _, _ => false
def chkTgLs : List Tg → CI → List Expr → Bool
  | [], _, [] => true
  | t :: ts, ci, e :: es => chkTgL t ci e && chkTgLs ts ci es
  | _, _, _ => false
end
def isComp : C → Bool
  | .comp _ _ _ _ => true
  | _ => false
def chkNm (i : Nat) (c : C) (ci : CI) (x : Str) (px pos : Pos) (e : Expr) : Bool :=
  decide (ci.N[i]? = some x) && isLoc ci.sc x && chk T c ci false e && (noComp e || (isComp c && match semVal (swapsWith e (some (.Name x px)) pos.line (envD ci.sc)) with
    | some true => isLcl ci.sc x
    | some false => true
    | none => false))
mutual
def chkS : Sc → CI → Stmt → Bool
  | .asg (.nm i) c, ci, st => (match st with
    | .Assign [.Name x px] e pos => chkNm T i c ci x px pos e
    | _ => false)
  | .asg (.own i) c, ci, st => (match st with
    | .Assign [.Name x px] e pos => decide (ci.N[i]? = some x) && isLoc ci.sc x && chkF T c ci e && noComp e
    | _ => false)
  | .asg (.ix i k) c, ci, st => (match st with
    | .Assign [.Subscript (.Name x _) kx _] e pos => nameB ci i x && notSl kx && chk T k ci false kx && chk T c ci false e
    | _ => false)
  | .asg (.fld o n) c, ci, st => (match st with
    | .Assign [.Attribute a m _] e _ => decide (m = n) && decide (n ∈ T.ats) && chk T o ci false a && chk T c ci false e
    | _ => false)
  | .asg (.fldO o n) c, ci, st => (match st with
    | .Assign [.Attribute a m _] e _ => decide (m = n) && decide (n ∈ T.ats) && chk T o ci false a && chkF T c ci e
    | _ => false)
  | .par ts cs, ci, st => (match st with
    | .Assign [.Tuple [.Name x px, .Name y py] kt pt] (.Tuple [a, b] k2 pt2) _ => (match slots ts with
      | [i1, i2] => decide (ci.N[i1]? = some x) && decide (ci.N[i2]? = some y) && decide (i1 ≠ i2) && isLcl ci.sc x && isLcl ci.sc y && chkRs T ts cs ci [a, b] && decide (ts.map taSlot = [i1, i2].map some) && decide (cs.length = 2) &&
        decide (semVal (swappedStores [.Tuple [.Name x px, .Name y py] kt pt] (.Tuple [a, b] k2 pt2) (envD ci.sc)) = some (some [x, y]))
      | _ => false)
    | .Assign [.Tuple [.Name x px, .Name y py, .Name z pz] kt pt] (.Tuple [a, b, c] k2 pt2) _ => (match slots ts with
      | [i1, i2, i3] => decide (ci.N[i1]? = some x) && decide (ci.N[i2]? = some y) && decide (ci.N[i3]? = some z) && decide (i1 ≠ i2) && decide (i1 ≠ i3) && decide (i2 ≠ i3) && isLcl ci.sc x && isLcl ci.sc y && isLcl ci.sc z && chkRs T ts cs ci [a, b, c] && decide (ts.map taSlot = [i1, i2, i3].map some) && decide (cs.length = 3) &&
        decide (semVal (swappedStores [.Tuple [.Name x px, .Name y py, .Name z pz] kt pt] (.Tuple [a, b, c] k2 pt2) (envD ci.sc)) = some (some [x, y, z]))
      | _ => false)
    | _ => false)
  | .tupA ts cs, ci, st => (match st with
    | .Assign [.Tuple tes kt pt] (.Tuple es k2 pt2) _ => chkNames (slots ts) ci tes && tes.all notStar && decide (tes.length = (slots ts).length) && chkRs T ts cs ci es && decide (ts.map taSlot = (slots ts).map some) && decide (cs.length = (slots ts).length) && shortB cs.length &&
        decide (semVal (swappedStores [.Tuple tes kt pt] (.Tuple es k2 pt2) (envD ci.sc)) = some none)
    | _ => false)
  | .unp ts c, ci, st => (match st with
    | .Assign [.Tuple tes _ _] e _ => chkTas T ts ci tes && tes.all notStar && decide (tes.length = ts.length) && notTup e && chk T c ci false e
    | _ => false)
  | .expr c, ci, st => (match st with
    | .Expr e _ => noComp e && chk T c ci false e
    | _ => false)
  | .app i c, ci, st => (match st with
    | .Expr (.Call (.Attribute (.Name x _) m apos) [e] [] cpos) _ => decide (m = "append") && nameB ci i x && notStar e && decide ((apos.endLine == cpos.line) = true) && chk T c ci false e
    | _ => false)
  | .appF o n c, ci, st => (match st with
    | .Expr (.Call (.Attribute (.Attribute a l _) m apos) [e] [] cpos) _ => decide (m = "append") && decide (l = n) && decide (n ∈ T.ats) && noSup a && notStar e && decide ((apos.endLine == cpos.line) = true) && chk T o ci false a && chk T c ci false e
    | _ => false)
  | .ext i c, ci, st => (match st with
    | .Expr (.Call (.Attribute (.Name x _) m apos) [e] [] cpos) _ => decide (m = "extend") && nameB ci i x && notStar e && decide ((apos.endLine == cpos.line) = true) && chk T c ci false e
    | _ => false)
  | .ifs t a b, ci, st => (match st with
    | .If e x y _ => chk T t ci true e && chkB a ci x && chkB b ci y
    | _ => false)
  | .for_ tg it body, ci, st => (match st with
    | .For tg' iter b [] _ => notSet iter && chkI T it ci tg' iter && chkTgL tg ci tg' && chkB body ci b
    | _ => false)
  | .ret c, ci, st => (match st with
    | .Return (some e) _ => chk T c ci false e
    | _ => false)
  | .never, _, _ => true
  | .frz _, _, _ => false
def chkB : List Sc → CI → List Stmt → Bool
  | [], _, sts => sts.isEmpty
  | s :: r, ci, sts => (match s with
    | .frz _ => chkB r ci sts
    | _ => (match sts with
      | [] => false
      | st :: sts => chkS s ci st && chkB r ci sts))
end
end
end VI
set_option Elab.async false
set_option linter.all false
set_option maxRecDepth 100000
set_option maxHeartbeats 8000000
/-! V31: soundness of the checker of statements. -/
namespace VI
open PySem PySem.Spec L2 C8
open PyProof.Rows hiding St
section
variable {call : Nat → List W → Sto → Option (W × Sto)} {cls : Nat → Nat} {cad : Nat → Addr} {T : TabI} {j k : Nat}
/-- the context of a def's own body -/
structure Top (X : Cx) (ci : CI) (T : TabI) (cad : Nat → Addr) (call : Nat → List W → Sto → Option (W × Sto)) (cls : Nat → Nat) (j k : Nat) : Prop where
  ok : Cok X ci T cad call cls j k
  fn : ∀ x, X.fn x = true
section
variable {X : Cx} {ci : CI}
theorem envD_sc (h : Cok X ci T cad call cls j k) : X.env.scope = (envD ci.sc).scope := h.sc
theorem chkF_ok {c : C} {e : Expr} (hX : Cok X ci T cad call cls j k) (h : chkF T c ci e = true) : PE X e (tF (qX X cad) call cls c) := by
  unfold chkF at h
  split at h
  · split at h
    · obtain ⟨h, h3⟩ := and2 h
      obtain ⟨h1, h2⟩ := and2 h
      exact f_lst ((chks_ok _ hX h3).tA h1) h2
    · cases h
  · split at h
    · exact f_dct0
    · cases h
  · split at h
    · obtain ⟨h, h3⟩ := and2 h
      obtain ⟨h1, h2⟩ := and2 h
      have e := dec h1
      subst e
      exact f_add (chk_ok _ hX h2) (chk_ok _ hX h3)
    · cases h
  · split at h
    · obtain ⟨h, h4⟩ := and2 h
      obtain ⟨h, h3⟩ := and2 h
      obtain ⟨h1, h2⟩ := and2 h
      have e := dec h1
      subst e
      exact f_list hX.gd (chk_ok _ hX h4) h3 (hX.gb h2).1 (hX.gb h2).2
    · cases h
  · cases h
theorem chkRs_ok (hX : Cok X ci T cad call cls j k) : ∀ {ts : List Ta} {cs : List C} {es : List Expr}, chkRs T ts cs ci es = true → PA X es (tR (qX X cad) call cls ts cs)
  | [], [], [], h => r_nil
  | [], [], _ :: _, h => by simp only [chkRs] at h; cases h
  | [], _ :: _, _, h => by simp only [chkRs] at h; cases h
  | .nm _ :: ts, [], _, h => by simp only [chkRs] at h; cases h
  | .own _ :: ts, [], _, h => by simp only [chkRs] at h; cases h
  | .nm _ :: ts, _ :: _, [], h => by simp only [chkRs] at h; cases h
  | .own _ :: ts, _ :: _, [], h => by simp only [chkRs] at h; cases h
  | .nm _ :: ts, c :: cs, e :: es, h => by
    simp only [chkRs] at h
    obtain ⟨h, h3⟩ := and2 h
    obtain ⟨h1, h2⟩ := and2 h
    exact r_nm (chk_ok c hX h2) (chkRs_ok hX h3) h1
  | .own _ :: ts, c :: cs, e :: es, h => by
    simp only [chkRs] at h
    obtain ⟨h, h3⟩ := and2 h
    obtain ⟨h1, h2⟩ := and2 h
    exact r_own (chkF_ok hX h2) (chkRs_ok hX h3) h1
  | .fld _ _ :: ts, cs, es, h => by simp only [chkRs] at h; cases h
  | .fldO _ _ :: ts, cs, es, h => by simp only [chkRs] at h; cases h
  | .ix _ _ :: ts, cs, es, h => by simp only [chkRs] at h; cases h
theorem pgN (hT : Top X ci T cad call cls j k) {i : Nat} {x : Str} {p : Pos} (h1 : decide (ci.N[i]? = some x) = true) (h2 : isLoc ci.sc x = true) : PG X (.Name x p) (gName i) :=
  pg_name hT.ok.gd.nd (by rw [hT.ok.N]; exact dec h1) (by rw [hT.ok.sc]; exact isLoc_ok h2) (.inl (hT.fn x))
theorem chkNames_ok (hT : Top X ci T cad call cls j k) : ∀ {is : List Nat} {es : List Expr}, chkNames is ci es = true → PGs X es (gNames is)
  | [], [], h => pgs_nil
  | [], _ :: _, h => by simp only [chkNames] at h; cases h
  | i :: is, [], h => by simp only [chkNames] at h; cases h
  | i :: is, e :: es, h => by
    cases e <;> simp only [chkNames] at h <;> try (cases h; done)
    obtain ⟨h, h3⟩ := and2 h
    obtain ⟨h1, h2⟩ := and2 h
    exact pgs_cons (pgN hT h1 h2) (chkNames_ok hT h3) (each_cons rfl)
theorem chkTas_ok (hT : Top X ci T cad call cls j k) : ∀ {ts : List Ta} {es : List Expr}, chkTas T ts ci es = true → PGs X es (gTas X.K (qX X cad) call cls ts) ∧ ∀ o n, Ta.fld o n ∈ ts → ∀ cl, Cls X.K (cad cl) ∧ NoAttr X.K (cad cl) n
  | [], [], h => ⟨pgs_nil, fun o n h => nomatch h⟩
  | [], _ :: _, h => by simp only [chkTas] at h; cases h
  | .nm i :: ts, [], h => by simp only [chkTas] at h; cases h
  | .fld _ _ :: ts, [], h => by simp only [chkTas] at h; cases h
  | .own i :: ts, es, h => by cases es <;> (simp only [chkTas] at h; cases h)
  | .fldO _ _ :: ts, es, h => by cases es <;> (simp only [chkTas] at h; cases h)
  | .ix _ _ :: ts, es, h => by cases es <;> (simp only [chkTas] at h; cases h)
  | .nm i :: ts, e :: es, h => by
    cases e <;> simp only [chkTas] at h <;> try (cases h; done)
    obtain ⟨h, h3⟩ := and2 h
    obtain ⟨h1, h2⟩ := and2 h
    obtain ⟨z1, z2⟩ := chkTas_ok hT h3
    exact ⟨pgs_cons (pgN hT h1 h2) z1 (each_cons rfl), fun o n h => by
      rcases List.mem_cons.mp h with h | h
      · cases h
      · exact z2 o n h⟩
  | .fld o n :: ts, e :: es, h => by
    cases e <;> simp only [chkTas] at h <;> try (cases h; done)
    obtain ⟨h, h4⟩ := and2 h
    obtain ⟨h, h3⟩ := and2 h
    obtain ⟨h1, h2⟩ := and2 h
    have e := dec h1
    subst e
    obtain ⟨z1, z2⟩ := chkTas_ok hT h4
    exact ⟨pgs_cons (pg_fld (chk_ok o hT.ok h3)) z1 (each_cons rfl), fun o n h => by
      rcases List.mem_cons.mp h with h | h
      · cases h; exact hT.ok.ats _ (dec h2)
      · exact z2 o n h⟩
mutual
theorem chkTgL_ok : ∀ (t : Tg) {e : Expr}, Top X ci T cad call cls j k → chkTgL t ci e = true → PG X e (gT X.K t)
  | .nm i, e, hT, h => by
    cases e <;> unfold chkTgL at h <;> try (cases h; done)
    obtain ⟨h1, h2⟩ := and2 h
    exact pgN hT h1 h2
  | .tp ts, e, hT, h => by
    cases e <;> unfold chkTgL at h <;> try (cases h; done)
    obtain ⟨h, h3⟩ := and2 h
    obtain ⟨h1, h2⟩ := and2 h
    obtain ⟨n1, n2, _⟩ := each_len (env := X.env) h1
    exact pg_tup hT.ok.gd.calm (chkTgLs_ok ts hT h1 h3) (n1.trans (dec h2)) n2
theorem chkTgLs_ok : ∀ (ts : List Tg) {es : List Expr}, Top X ci T cad call cls j k → es.all notStar = true → chkTgLs ts ci es = true → PGs X es (gTs X.K ts)
  | [], es, hT, hs, h => by
    cases es with
    | nil => exact pgs_nil
    | cons => unfold chkTgLs at h; cases h
  | t :: ts, es, hT, hs, h => by
    cases es with
    | nil => unfold chkTgLs at h; cases h
    | cons e es =>
      unfold chkTgLs at h
      obtain ⟨h1, h2⟩ := and2 h
      rw [List.all_cons] at hs
      obtain ⟨s1, s2⟩ := and2 hs
      exact pgs_cons (chkTgL_ok t hT h1) (chkTgLs_ok ts hT s2 h2) (each_cons s1)
end
theorem chkNm_ok (hT : Top X ci T cad call cls j k) {i : Nat} {c : C} {x : Str} {px pos : Pos} {e : Expr} (h : chkNm T i c ci x px pos e = true) : PS X (.Assign [.Name x px] e pos) (sX X cad call cls (.asg (.nm i) c)) := by
  have hX := hT.ok
  unfold chkNm at h
  obtain ⟨h, h4⟩ := and2 h
  obtain ⟨h, h3⟩ := and2 h
  obtain ⟨h1, h2⟩ := and2 h
  have hN : X.N[i]? = some x := by rw [hX.N]; exact dec h1
  have hL : Loc X.env.scope x := by rw [hX.sc]; exact isLoc_ok h2
  rcases Bool.or_eq_true_iff.mp h4 with hn | hn
  · exact s_nm hX.gd.nd hN hL (chk_ok c hX h3) (noComp_ok hn) (.inl (hT.fn x))
  · obtain ⟨hc, hq⟩ := and2 hn
    clear hn h4
    split at hq
    · rename_i hv
      have hsw := (swaps_env (e := e) (t := some (.Name x px)) (l := pos.line) (envD_sc hX)).trans (semVal_ok hv)
      clear hv
      cases c with
      | comp ce tg it ct =>
        unfold chk at h3
        obtain ⟨hp, h3⟩ := and2 h3
        split at h3
        · rename_i scope _ _ _
          obtain ⟨h, h6⟩ := and2 h3
          obtain ⟨h, h5⟩ := and2 h
          obtain ⟨h, h4⟩ := and2 h
          obtain ⟨h, h3⟩ := and2 h
          obtain ⟨h1, h2⟩ := and2 h
          have hb : BlkOk X.N X.env.scope scope (ownOfTg ci tg) := by
            rw [hX.N, hX.sc]; exact blkOk_by h3
          have ho : (ownOfTg ci tg).map (·.2) = tgSlots tg := by
            unfold ownOfTg
            rw [List.map_map]
            exact List.map_id' _
          exact s_nmC hX.gd hN (by rw [hX.sc]; exact isLcl_ok hq) hsw (chkI_ok it hX h2) hb ho (fun s H C cl fp => chkTg_ok tg (hX.blk hb.kind s H C cl fp) h4) (fun s H C cl fp => chkO_ok ct (hX.blk hb.kind s H C cl fp) h5)
            (fun s H C cl fp => chk_ok ce (hX.blk hb.kind s H C cl fp) h6) (notSet_ok h1)
        · cases h3
      | _ => cases hc
    · rename_i hv
      have hsw := (swaps_env (e := e) (t := some (.Name x px)) (l := pos.line) (envD_sc hX)).trans (semVal_ok hv)
      exact s_nm hX.gd.nd hN hL (chk_ok c hX h3) hsw (.inl (hT.fn x))
    · cases hq
theorem stores_ok (hX : Cok X ci T cad call cls j k) {ts : List Expr} {e : Expr} {o : Option (List Str)} (h : decide (semVal (swappedStores ts e (envD ci.sc)) = some o) = true) : swappedStores ts e X.env = pure o :=
  (stores_env (envD_sc hX)).trans (semVal_ok (dec h))
mutual
theorem chkS_ok : ∀ (s : Sc) {st : Stmt}, Top X ci T cad call cls j k → chkS T s ci st = true → PS X st (sX X cad call cls s)
  | .asg (.nm i) c, st, hT, h => by
    unfold chkS at h
    split at h
    · exact chkNm_ok hT h
    · cases h
  | .asg (.own i) c, st, hT, h => by
    unfold chkS at h
    split at h
    · obtain ⟨h, h4⟩ := and2 h
      obtain ⟨h, h3⟩ := and2 h
      obtain ⟨h1, h2⟩ := and2 h
      exact s_own hT.ok.gd.nd (by rw [hT.ok.N]; exact dec h1) (by rw [hT.ok.sc]; exact isLoc_ok h2) (chkF_ok hT.ok h3) (noComp_ok h4) (.inl (hT.fn _))
    · cases h
  | .asg (.ix i kk) c, st, hT, h => by
    unfold chkS at h
    split at h
    · obtain ⟨h, h4⟩ := and2 h
      obtain ⟨h, h3⟩ := and2 h
      obtain ⟨h1, h2⟩ := and2 h
      obtain ⟨z1, z2, z3, z4⟩ := hT.ok.nm h1
      exact s_put hT.ok.gd h2 z1 z2 z3 z4 (chk_ok c hT.ok h4) (chk_ok kk hT.ok h3)
    · cases h
  | .asg (.fld o n) c, st, hT, h => by
    unfold chkS at h
    split at h
    · obtain ⟨h, h4⟩ := and2 h
      obtain ⟨h, h3⟩ := and2 h
      obtain ⟨h1, h2⟩ := and2 h
      have e := dec h1
      subst e
      exact s_fld (hT.ok.ats _ (dec h2)) (chk_ok o hT.ok h3) (chk_ok c hT.ok h4)
    · cases h
  | .asg (.fldO o n) c, st, hT, h => by
    unfold chkS at h
    split at h
    · obtain ⟨h, h4⟩ := and2 h
      obtain ⟨h, h3⟩ := and2 h
      obtain ⟨h1, h2⟩ := and2 h
      have e := dec h1
      subst e
      exact s_fldO (hT.ok.ats _ (dec h2)) (chk_ok o hT.ok h3) (chkF_ok hT.ok h4)
    · cases h
  | .par ts cs, st, hT, h => by
    unfold chkS at h
    split at h
    · split at h
      · obtain ⟨h, h9⟩ := and2 h
        obtain ⟨h, h8⟩ := and2 h
        obtain ⟨h, h7⟩ := and2 h
        obtain ⟨h, h6⟩ := and2 h
        obtain ⟨h, h5⟩ := and2 h
        obtain ⟨h, h4⟩ := and2 h
        obtain ⟨h, h3⟩ := and2 h
        obtain ⟨h1, h2⟩ := and2 h
        exact s_par2 hT.ok.gd (by rw [hT.ok.N]; exact dec h1) (by rw [hT.ok.N]; exact dec h2) (dec h3) (by rw [hT.ok.sc]; exact isLcl_ok h4) (by rw [hT.ok.sc]; exact isLcl_ok h5) (chkRs_ok hT.ok h6) (dec h7) (dec h8) (stores_ok hT.ok h9)
      · cases h
    · split at h
      · obtain ⟨h, h13⟩ := and2 h
        obtain ⟨h, h12⟩ := and2 h
        obtain ⟨h, h11⟩ := and2 h
        obtain ⟨h, h10⟩ := and2 h
        obtain ⟨h, h9⟩ := and2 h
        obtain ⟨h, h8⟩ := and2 h
        obtain ⟨h, h7⟩ := and2 h
        obtain ⟨h, h6⟩ := and2 h
        obtain ⟨h, h5⟩ := and2 h
        obtain ⟨h, h4⟩ := and2 h
        obtain ⟨h, h3⟩ := and2 h
        obtain ⟨h1, h2⟩ := and2 h
        exact s_par3 hT.ok.gd (by rw [hT.ok.N]; exact dec h1) (by rw [hT.ok.N]; exact dec h2) (by rw [hT.ok.N]; exact dec h3) (dec h4) (dec h5) (dec h6) (by rw [hT.ok.sc]; exact isLcl_ok h7) (by rw [hT.ok.sc]; exact isLcl_ok h8) (by rw [hT.ok.sc]; exact isLcl_ok h9) (chkRs_ok hT.ok h10) (dec h11) (dec h12) (stores_ok hT.ok h13)
      · cases h
    · cases h
  | .tupA ts cs, st, hT, h => by
    unfold chkS at h
    split at h
    · obtain ⟨h, h8⟩ := and2 h
      obtain ⟨h, h7⟩ := and2 h
      obtain ⟨h, h6⟩ := and2 h
      obtain ⟨h, h5⟩ := and2 h
      obtain ⟨h, h4⟩ := and2 h
      obtain ⟨h, h3⟩ := and2 h
      obtain ⟨h1, h2⟩ := and2 h
      exact s_tupA hT.ok.gd (chkNames_ok hT h1) h2 (dec h3) (chkRs_ok hT.ok h4) (dec h5) (dec h6) h7 (stores_ok hT.ok h8)
    · cases h
  | .unp ts c, st, hT, h => by
    unfold chkS at h
    split at h
    · obtain ⟨h, h5⟩ := and2 h
      obtain ⟨h, h4⟩ := and2 h
      obtain ⟨h, h3⟩ := and2 h
      obtain ⟨h1, h2⟩ := and2 h
      obtain ⟨z1, z2⟩ := chkTas_ok hT h1
      exact s_unp hT.ok.gd z1 h2 (dec h3) (chk_ok c hT.ok h5) h4 z2
    · cases h
  | .expr c, st, hT, h => by
    unfold chkS at h
    split at h
    · obtain ⟨h1, h2⟩ := and2 h
      exact s_expr (chk_ok c hT.ok h2) (noComp_ok h1)
    · cases h
  | .app i c, st, hT, h => by
    unfold chkS at h
    split at h
    · obtain ⟨h, h5⟩ := and2 h
      obtain ⟨h, h4⟩ := and2 h
      obtain ⟨h, h3⟩ := and2 h
      obtain ⟨h1, h2⟩ := and2 h
      have e := dec h1
      subst e
      obtain ⟨z1, z2, z3, z4⟩ := hT.ok.nm h2
      exact s_app z1 z2 z3 z4 (chk_ok c hT.ok h5) h3 (dec h4)
    · cases h
  | .appF o n c, st, hT, h => by
    unfold chkS at h
    split at h
    · obtain ⟨h, h8⟩ := and2 h
      obtain ⟨h, h7⟩ := and2 h
      obtain ⟨h, h6⟩ := and2 h
      obtain ⟨h, h5⟩ := and2 h
      obtain ⟨h, h4⟩ := and2 h
      obtain ⟨h, h3⟩ := and2 h
      obtain ⟨h1, h2⟩ := and2 h
      have e := dec h1
      subst e
      have e := dec h2
      subst e
      exact s_appF (s_at (chk_ok o hT.ok h7) (base_ok h4 _) (hT.ok.ats _ (dec h3))) (base_ok rfl _) (chk_ok c hT.ok h8) h5 (dec h6)
    · cases h
  | .ext i c, st, hT, h => by
    unfold chkS at h
    split at h
    · obtain ⟨h, h5⟩ := and2 h
      obtain ⟨h, h4⟩ := and2 h
      obtain ⟨h, h3⟩ := and2 h
      obtain ⟨h1, h2⟩ := and2 h
      have e := dec h1
      subst e
      obtain ⟨z1, z2, z3, z4⟩ := hT.ok.nm h2
      exact s_ext z1 z2 z3 z4 (chk_ok c hT.ok h5) h3 (dec h4)
    · cases h
  | .ifs t a b, st, hT, h => by
    unfold chkS at h
    split at h
    · obtain ⟨h, h3⟩ := and2 h
      obtain ⟨h1, h2⟩ := and2 h
      exact s_if (chk_ok t hT.ok h1) (chkB_ok a hT h2) (chkB_ok b hT h3)
    · cases h
  | .for_ tg it body, st, hT, h => by
    unfold chkS at h
    split at h
    · obtain ⟨h, h4⟩ := and2 h
      obtain ⟨h, h3⟩ := and2 h
      obtain ⟨h1, h2⟩ := and2 h
      exact s_for hT.ok.gd (chkI_ok it hT.ok h2) (chkTgL_ok tg hT h3) (chkB_ok body hT h4) (notSet_ok h1)
    · cases h
  | .ret c, st, hT, h => by
    unfold chkS at h
    split at h
    · exact s_ret (chk_ok c hT.ok h)
    · cases h
  | .never, st, hT, h => s_never
  | .frz i, st, hT, h => by unfold chkS at h; cases h
theorem chkB_ok : ∀ (b : List Sc) {sts : List Stmt}, Top X ci T cad call cls j k → chkB T b ci sts = true → PSs X sts (bX X cad call cls b)
  | [], sts, hT, h => by
    unfold chkB at h
    cases sts with
    | nil => exact b_nil
    | cons => cases h
  | s :: r, sts, hT, h => by
    unfold chkB at h
    split at h
    · exact b_frz (chkB_ok r hT h)
    · split at h
      · cases h
      · obtain ⟨h1, h2⟩ := and2 h
        exact b_cons (chkS_ok s hT h1) (chkB_ok r hT h2)
end
end
end
end VI
set_option linter.all false
set_option maxRecDepth 100000
namespace VI
open PySem L2
def tabI : TabI := ⟨["isinstance", "list", "tuple", "int", "bool", "str", "len", "all", "any", "sorted", "max", "min", "range", "set", "sum", "abs", "enumerate"], [("ANY", .str "any", .str "any"), ("KEYS", .str "keys", .str "keys"), ("REST", .str "rest", .str "rest"), ("EVER", .int (1000000000), .int (1000000000)), ("QUADRUPLE", .int (4), .int (4)), ("NEVER", .int (-1), .int (-1)), ("TRIPLE", .int (3), .int (3))],
  [.fn "frozen", .fn "is_whole", .fn "is_number", .fn "are_enough", .fn "keys_believed", .fn "rest_believed", .fn "zone_of", .fn "begin_of", .fn "end_of", .fn "may_tell", .fn "joined", .fn "behind", .fn "step_between", .ini 1 "Copies", .me 1 "site", .me 1 "rule", .me 1 "told", .me 1 "numbers", .me 1 "window", .me 1 "trusts", .me 1 "keys", .me 1 "rests", .me 1 "with_trust", .me 1 "all_keys", .me 1 "believes", .me 1 "with_keys", .me 1 "all_rests", .me 1 "trusts_behind", .ini 2 "Path", .me 2 "place", .me 2 "site", .me 2 "newest", .me 2 "last_life", .me 2 "goes_on", .me 2 "is_held", .me 2 "believes", .me 2 "one_server_tells", .me 2 "fits", .me 2 "takes", .fn "is_path", .fn "path_of", .fn "has_one_way", .fn "is_enough", .fn "is_enough_in", .fn "last_held", .fn "last_made", .fn "last_genuine", .fn "last_trust", .fn "trust_behind", .fn "shows_genuine", .fn "shows_made", .fn "shows_trust", .fn "_law_box", .fn "_law_take", .fn "_law_pick", .fn "_law_told", .fn "_law_covers", .fn "_law_keys_ok", .fn "_law_rest_ok", .fn "_law_one_server", .fn "_law_most", .fn "_law_holds", .fn "_law_got", .fn "_law_rest_can", .fn "_law_trusts", .fn "_law_one_way", .fn "_law_made_by", .fn "_law_uses", .fn "_law_way", .fn "_law_row", .fn "_law_begin_of", .fn "_law_without", .fn "_law_changed", .fn "_law_zone", .fn "_law_world", .fn "_law_world_of", .fn "_law_ways", .fn "_law_made_ways", .fn "_law_keys_of", .fn "_law_shown", .fn "_law_right", .fn "law"],
  [1, 1, 1, 3, 3, 4, 2, 2, 2, 3, 1, 4, 3, 2, 2, 1, 3, 2, 3, 2, 2, 2, 4, 2, 4, 5, 2, 2, 2, 1, 1, 1, 1, 1, 2, 2, 3, 2, 2, 4, 2, 3, 3, 4, 2, 3, 3, 3, 3, 5, 5, 4, 2, 2, 2, 3, 3, 3, 4, 2, 1, 3, 1, 5, 2, 3, 3, 4, 6, 1, 3, 2, 2, 4, 3, 3, 5, 5, 2, 5, 1, 1], ["own_answers", "own_keys", "own_rests", "own_rule", "own_trust", "own_trusts", "own_zones"]⟩
def stOf : List Stmt := [
  top 2,
  top 3,
  top 4,
  top 6,
  top 7,
  top 8,
  top 12,
  top 13,
  top 14,
  top 15,
  top 20,
  top 21,
  top 22,
  inClass (top 23) 0,
  inClass (top 23) 1,
  inClass (top 23) 2,
  inClass (top 23) 3,
  inClass (top 23) 4,
  inClass (top 23) 5,
  inClass (top 23) 6,
  inClass (top 23) 7,
  inClass (top 23) 8,
  inClass (top 23) 9,
  inClass (top 23) 10,
  inClass (top 23) 11,
  inClass (top 23) 12,
  inClass (top 23) 13,
  inClass (top 23) 14,
  inClass (top 26) 0,
  inClass (top 26) 1,
  inClass (top 26) 2,
  inClass (top 26) 3,
  inClass (top 26) 4,
  inClass (top 26) 5,
  inClass (top 26) 6,
  inClass (top 26) 7,
  inClass (top 26) 8,
  inClass (top 26) 9,
  inClass (top 26) 10,
  top 27,
  top 28,
  top 32,
  top 33,
  top 34,
  top 35,
  top 36,
  top 37,
  top 38,
  top 39,
  top 40,
  top 41,
  top 42,
  top 44,
  top 45,
  top 46,
  top 47,
  top 48,
  top 49,
  top 50,
  top 51,
  top 52,
  top 53,
  top 54,
  top 55,
  top 56,
  top 57,
  top 58,
  top 59,
  top 60,
  top 61,
  top 62,
  top 63,
  top 64,
  top 65,
  top 66,
  top 67,
  top 68,
  top 69,
  top 70,
  top 71,
  top 72,
  top 73]
def nmOf : List (List Str) := [nm_frozen, nm_is_whole, nm_is_number, nm_are_enough, nm_keys_believed, nm_rest_believed, nm_zone_of, nm_begin_of, nm_end_of, nm_may_tell, nm_joined, nm_behind, nm_step_between, nm_Copies_init, nm_Copies_site, nm_Copies_rule, nm_Copies_told, nm_Copies_numbers, nm_Copies_window, nm_Copies_trusts, nm_Copies_keys, nm_Copies_rests, nm_Copies_with_trust, nm_Copies_all_keys, nm_Copies_believes, nm_Copies_with_keys, nm_Copies_all_rests, nm_Copies_trusts_behind, nm_Path_init, nm_Path_place, nm_Path_site, nm_Path_newest, nm_Path_last_life, nm_Path_goes_on, nm_Path_is_held, nm_Path_believes, nm_Path_one_server_tells, nm_Path_fits, nm_Path_takes, nm_is_path, nm_path_of, nm_has_one_way, nm_is_enough, nm_is_enough_in, nm_last_held, nm_last_made, nm_last_genuine, nm_last_trust, nm_trust_behind, nm_shows_genuine, nm_shows_made, nm_shows_trust, nm__law_box, nm__law_take, nm__law_pick, nm__law_told, nm__law_covers, nm__law_keys_ok, nm__law_rest_ok, nm__law_one_server, nm__law_most, nm__law_holds, nm__law_got, nm__law_rest_can, nm__law_trusts, nm__law_one_way, nm__law_made_by, nm__law_uses, nm__law_way, nm__law_row, nm__law_begin_of, nm__law_without, nm__law_changed, nm__law_zone, nm__law_world, nm__law_world_of, nm__law_ways, nm__law_made_ways, nm__law_keys_of, nm__law_shown, nm__law_right, nm_law]
end VI
set_option Elab.async false
set_option linter.all false
set_option maxRecDepth 100000
set_option maxHeartbeats 4000000
/-! V33: every def keeps its promise. -/
namespace VI
open PySem PySem.Spec L2 C8
open PyProof.Rows hiding St
section
variable {q : Wd} {R H R0 H0 : Hp} {ads a0 : List CA} {S : Sto}
theorem StoR.take : ∀ {ads : List CA} {S : Sto} (n : Nat), StoR q R H ads S → StoR q R H (ads.take n) (S.take n)
  | _, _, 0, _ => .nil
  | _, _, _ + 1, .nil => .nil
  | _, _, n + 1, .cons c t => .cons c (StoR.take n t)
theorem owns_take {ads : List CA} {n : Nat} : ∀ p, p ∈ owns (ads.take n) → p ∈ owns ads := fun p h => by
  obtain ⟨c, hc, hp⟩ := List.mem_flatMap.mp h
  exact List.mem_flatMap.mpr ⟨c, List.mem_of_mem_take hc, hp⟩
theorem Full.take (n : Nat) (F : Full q R H ads [] [] [] S) : Full q R H (ads.take n) [] [] [] (S.take n) := by
  refine ⟨F.sub, .nil, F.sto.take n, ?_, fun a h => F.un a (by simpa using owns_take a (by simpa using h))⟩
  have nd : (owns ads).Nodup := by simpa using F.nd
  have e : owns ads = owns (ads.take n) ++ owns (ads.drop n) := by
    rw [← List.take_append_drop n ads]
    unfold owns
    rw [List.flatMap_append, List.take_append_drop]
  rw [e] at nd
  simpa using (List.nodup_append.mp nd).1
theorem Grow.take {n : Nat} (g : Grow R0 H0 a0 R H ads) (h : a0.length ≤ n) : Grow R0 H0 a0 R H (ads.take n) := by
  refine ⟨⟨fun i c e => ?_⟩, g.rext, g.keep, g.dom, fun p hp => g.own p (owns_take p hp)⟩
  obtain ⟨c', e1, e2⟩ := g.le.le i c e
  have hi : i < n := Nat.lt_of_lt_of_le (List.getElem?_eq_some_iff.mp e).1 h
  exact ⟨c', by rw [List.getElem?_take_of_lt hi]; exact e1, e2⟩
theorem envOf_ok : ∀ {vs : List V} {ws : List W} {n : Nat} {env : Env}, WsR q R ads vs ws → ws.length ≤ n → envOf n ws = some env → EnvR q R H ads (vs.map some ++ List.replicate (n - vs.length) none) env []
  | _, _, n, env, .nil, _, e => by
    have e' : some (List.replicate n none) = some env := e
    cases e'
    show EnvR q R H ads (List.replicate (n - 0) none) (List.replicate n none) []
    rw [Nat.sub_zero]
    induction n with
    | zero => exact .nil
    | succ n ih => exact .hole (ih (Nat.zero_le _) rfl)
  | _, _, n, env, .cons (v := v) (w := w) (vs := vs) (ws := ws) h t, hn, e => by
    have e' : (ob (slOf w) fun x => (envOf (n - 1) ws).map (some x :: ·)) = some env := e
    obtain ⟨x, e1, e2⟩ := ob_inv e'
    obtain ⟨env', e3, e4⟩ := Option.map_eq_some_iff.mp e2
    cases e4
    rw [List.length_cons] at hn
    have ih := envOf_ok (n := n - 1) t (by omega) e3
    have hx : SlR q R H ads v x [] := by
      cases h with
      | d h => cases e1; exact .d h
      | c h => cases e1; exact .c h
      | o h => cases e1
      | f h l => cases e1
    have hl : n - (v :: vs).length = n - 1 - vs.length := by rw [List.length_cons]; omega
    rw [hl]
    exact .slot (O1 := []) hx ih
end
def strip : List Stmt → List Stmt
  | .Expr (.Constant (.str _) _ _) _ :: r => r
  | r => r
theorem strip_ok {X : Cx} {cad : Nat → Addr} {call : Nat → List W → Sto → Option (W × Sto)} {cls : Nat → Nat} {sts : List Stmt} {cs : List Sc} (h : PSs X (strip sts) (bX X cad call cls cs)) : PSs X sts (bX X cad call cls cs) := by
  unfold strip at h
  split at h
  · exact b_doc h
  · exact h
section
variable {P : Program} {w : World} {K : PySem.W.Frag} {mg : Str → Option Value} {base : Heap} {cad : Nat → Addr} {T : TabI} {call : Nat → List W → Sto → Option (W × Sto)} {cls : Nat → Nat}
theorem fin_ok {q : Wd} {R H R' H' : Hp} {ads ads' : List CA} {S S1 S' : Sto} {w wr : W} {v : V} {Q : VK} (e : fin S.length wr S1 = (w, S')) (hl : ads.length = S.length) (g : Grow R H ads R' H' ads') (F : Full q R' H' ads' [] [] [] S1) (hw : WR q R' ads' [] v wr)
    (k : ∀ v H' R' ads', Grow R H ads R' H' ads' → Full q R' H' ads' [] [] [] S' → WR q R' ads' [] v w → Q v H') : Q v H' := by
  cases hw with
  | d h =>
    have e' : (W.d _, S1.take S.length) = (w, S') := e
    cases e'
    exact k _ _ _ _ (g.take (Nat.le_of_eq hl)) (F.take _) (.d h)
  | c h =>
    have e' : (W.c _, S1) = (w, S') := e
    cases e'
    exact k _ _ _ _ g F (.c h)
  | o h => simp at h
  | f h l =>
    have e' : (W.f _ _, S1) = (w, S') := e
    cases e'
    exact k _ _ _ _ g F (.f h l)
/-- a def by its body -/
theorem def_ok {x qual : Str} {st : Stmt} {f : Addr} {fd : FuncData} {N : List Str} {fi : FI} {j k : Nat} (F : FunD K x qual (defArgs st) (defBody st) (defScope st) [] [] f fd) (hs : scC N (N.take fi.np) (defScope st) = true) (hn : N.length = fi.n) (hp : fi.np ≤ fi.n)
    (hb : chkB T fi.body ⟨N, defScope st⟩ (strip (defBody st)) = true) (kj : k + 1 ≤ j) (hbl : ∀ x, x ∈ T.bl → mg x = none) (hco : ∀ p, p ∈ T.co → ∃ u, mg p.1 = some u ∧ RelV p.2.1 u)
    (hft : ∀ (f : Nat) (t : FT), T.ft[f]? = some t → match t with
      | .fn x => Cal P w K mg base k x (spOf ⟨P, w, K, cad⟩ (T.npf f) (call f)) []
      | .me cl m => cls f = cl ∧ Met P w K mg base k (cad cl) m (spOf ⟨P, w, K, cad⟩ (T.npf f) (call f)) []
      | .ini cl x => cls f = cl ∧ Mak P w K mg base k x (cad cl) (spOf ⟨P, w, K, cad⟩ (T.npf f) (call f)) [])
    (hat : ∀ n, n ∈ T.ats → ∀ cl, Cls K (cad cl) ∧ NoAttr K (cad cl) n) :
    FnOk P w K mg base C8.CX0 (j + 1) f fd (N.take fi.np) (spOf ⟨P, w, K, cad⟩ fi.np (runF call cls fi)) := by
  have hS := fnScope_by hs
  refine F.ok hS (fun vs H Q E h => ?_) fun cdv A outer s H vs Q E hr h => ?_
  · obtain ⟨R, ads, S, ws, w, S', _, t, hl, _⟩ := h
    rw [t.length, hl, List.length_take, hn]
    exact (Nat.min_eq_left hp).symm
  · obtain ⟨R, ads, S, ws, w', S', F0, t, hl, ev, kk⟩ := h
    refine ⟨bX (cxOf C8.CX0 P w K mg base N qual (defScope st) f cdv A outer s H E).nox cad call cls fi.body, PSs.nox (strip_ok ?_), ?_⟩
    · refine chkB_ok (T := T) (ci := ⟨N, defScope st⟩) (j := j) (k := k) fi.body ⟨⟨⟨rfl, hS.nd, hr, rfl⟩, kj, rfl, rfl, hS.kind, hbl, hco, fun g t ht => ?_, hat⟩, fun _ => rfl⟩ hb
      have z := hft g t ht
      cases t with
      | fn x => exact z
      | me cl m => exact z
      | ini cl x => exact z
    · obtain ⟨_, ev⟩ := gd_inv ev
      obtain ⟨env, e1, ev⟩ := ob_inv ev
      obtain ⟨o, S1, e2, ev⟩ := bnd_inv ev
      have hE : EnvR ⟨P, w, K, cad⟩ R H ads (L2.start N vs) env [] := by
        unfold L2.start
        rw [hn]
        exact envOf_ok t (by rw [hl]; exact hp) e1
      have hF : Full ⟨P, w, K, cad⟩ R H ads [] (L2.start N vs) env S := ⟨F0.sub, hE, F0.sto, F0.nd, F0.un⟩
      refine ⟨R, H, ads, R, ads, [], env, S, o, S1, ⟨hF, .refl _ _ _, fun p hp => nomatch hp⟩, e2, ?_⟩
      have hal := F0.sto.length
      cases o with
      | nx env' => exact fun σ' H' R' ads' O' _ A' => fin_ok (Option.some.inj ev) hal A'.grow A'.full.bare (.d .non) kk
      | rt wr => exact fun v H' R' ads' g F' hw => fin_ok (Option.some.inj ev) hal g F' hw kk
end
end VI
set_option Elab.async false
set_option linter.all false
set_option maxRecDepth 1000000
set_option maxHeartbeats 4000000
/-! V34: all defs, by the levels. -/
namespace VI
open PySem PySem.Spec L2 C8
open PyProof.Rows hiding St
def clsT (f : Nat) : Nat := match fns[f]? with
  | some fi => fi.cl
  | none => 0
/-- what is looked at of a def's text -/
def oneB (i : Nat) : Bool := match fns[i]?, stOf[i]?, nmOf[i]? with
  | some f, some st, some N => chkB tabI f.body ⟨N, defScope st⟩ (strip (defBody st)) && scC N (N.take f.np) (defScope st) && decide (N.length = f.n) && decide (f.np ≤ f.n) && decide (tabI.npf i = f.np) && (match tabI.ft[i]? with
    | some (.fn _) => true
    | some (.me cl _) => decide (f.cl = cl)
    | some (.ini cl _) => decide (f.cl = cl)
    | none => false)
  | _, _, _ => false
theorem stat : (List.range 82).all oneB = true := by decide +kernel
theorem fns_len : fns.length = 82 := by decide +kernel
structure HF (P : Program) (w : World) (K : PySem.W.Frag) (mg : Str → Option Value) (cad ad : Nat → Addr) (fdd : Nat → FuncData) : Prop where
  fn : ∀ i st, stOf[i]? = some st → ∃ nm ql, FunD K nm ql (defArgs st) (defBody st) (defScope st) [] [] (ad i) (fdd i)
  bd : ∀ i N fi, nmOf[i]? = some N → fns[i]? = some fi → Binds K (fdd i) (N.take fi.np) []
  fts : ∀ (i : Nat) (t : FT), tabI.ft[i]? = some t → match t with
    | .fn x => mg x = some (.ref (ad i))
    | .me cl m => Cls K (cad cl) ∧ Meth K (cad cl) m (ad i)
    | .ini cl x => Mk K (cad cl) (ad i) ∧ mg x = some (.ref (cad cl))
  bl : ∀ x, x ∈ tabI.bl → mg x = none
  co : ∀ p, p ∈ tabI.co → ∃ u, mg p.1 = some u ∧ RelV p.2.1 u
  ats : ∀ n, n ∈ tabI.ats → ∀ cl, Cls K (cad cl) ∧ NoAttr K (cad cl) n
theorem ft_len : tabI.ft.length = 82 := by decide +kernel
section
variable {P : Program} {w : World} {K : PySem.W.Frag} {mg : Str → Option Value} {base : Heap} {cad ad : Nat → Addr} {fdd : Nat → FuncData}
theorem one_inv {i : Nat} (hi : i < 82) : ∃ f st N, fns[i]? = some f ∧ stOf[i]? = some st ∧ nmOf[i]? = some N ∧ chkB tabI f.body ⟨N, defScope st⟩ (strip (defBody st)) = true ∧ scC N (N.take f.np) (defScope st) = true ∧ N.length = f.n ∧ f.np ≤ f.n ∧ tabI.npf i = f.np ∧
    ∃ t, tabI.ft[i]? = some t ∧ match t with
      | .fn _ => True
      | .me cl _ => f.cl = cl
      | .ini cl _ => f.cl = cl := by
  have h := List.all_eq_true.mp stat i (List.mem_range.mpr hi)
  unfold oneB at h
  split at h
  · rename_i f st N h1 h2 h3
    obtain ⟨h, z6⟩ := and2 h
    obtain ⟨h, z5⟩ := and2 h
    obtain ⟨h, z4⟩ := and2 h
    obtain ⟨h, z3⟩ := and2 h
    obtain ⟨z1, z2⟩ := and2 h
    refine ⟨f, st, N, h1, h2, h3, z1, z2, dec z3, dec z4, dec z5, ?_⟩
    split at z6
    · rename_i h4; exact ⟨_, h4, trivial⟩
    · rename_i h4; exact ⟨_, h4, dec z6⟩
    · rename_i h4; exact ⟨_, h4, dec z6⟩
    · cases z6
  · cases h
theorem all_ok (h : HF P w K mg cad ad fdd) : ∀ (k i : Nat) (fi : FI) (N : List Str), fns[i]? = some fi → nmOf[i]? = some N → FnOk P w K mg base C8.CX0 (2 * k) (ad i) (fdd i) (N.take fi.np) (spOf ⟨P, w, K, cad⟩ (tabI.npf i) (sem fns k i)) := by
  intro k
  induction k with
  | zero =>
    intro i fi N h1 h2
    have no : ∀ {vs H Q E}, ¬ spOf ⟨P, w, K, cad⟩ (tabI.npf i) (sem fns 0 i) vs H Q E := fun ⟨_, _, _, _, _, _, _, _, _, ev, _⟩ => by
      unfold sem at ev; cases ev
    exact ⟨fun vs H Q E z => absurd z no, fun A outer s H args us vs Q E _ _ _ _ z => absurd z no⟩
  | succ k ih =>
    intro i fi N h1 h2
    have hi : i < 82 := by
      have := (List.getElem?_eq_some_iff.mp h1).1
      rwa [fns_len] at this
    obtain ⟨f, st, N', e1, e2, e3, z1, z2, z3, z4, z5, _⟩ := one_inv hi
    rw [h1] at e1; cases e1
    rw [h2] at e3; cases e3
    obtain ⟨nm, ql, F⟩ := h.fn i st e2
    have es : sem fns (k + 1) i = runF (sem fns k) clsT fi := by
      funext ws S
      conv => lhs; unfold sem
      rw [h1]
      rfl
    rw [es, z5]
    refine def_ok (T := tabI) (cad := cad) (k := 2 * k) F z2 z3 z4 z1 (Nat.le_refl _) h.bl h.co (fun g t ht => ?_) h.ats
    have hg : g < 82 := by
      have := (List.getElem?_eq_some_iff.mp ht).1
      rwa [ft_len] at this
    obtain ⟨f', st', N'', e1', e2', e3', _, _, _, _, _, t', ht', hcl⟩ := one_inv hg
    rw [ht] at ht'; cases ht'
    have F' := ih g f' N'' e1' e3' 
    have b := h.bd g N'' f' e3' e1'
    have hx := h.fts g t ht
    obtain ⟨nm', ql', F2⟩ := h.fn g st' e2'
    cases t with
    | fn x => exact ⟨ad g, fdd g, _, [], F', hx, F2.kp, b, .nil⟩
    | me cl m =>
      refine ⟨?_, ad g, fdd g, _, [], hx.1, hx.2, F', b, .nil⟩
      unfold clsT
      rw [e1']; exact hcl
    | ini cl x =>
      refine ⟨?_, ad g, fdd g, _, [], hx.1, F', hx.2, b, .nil⟩
      unfold clsT
      rw [e1']; exact hcl
end
end VI
set_option Elab.async false
set_option linter.all false
set_option maxRecDepth 100000
namespace VI
open PySem PySem.Spec L2
open PyProof.Rows hiding St
/-- how a def's arguments are bound -/
def BD (st : Stmt) (ps : List Str) : Prop := ∀ (x ql : Str) (body : List Stmt) (sc : Scope) (kV doc pm : Value) (an : Option Addr) (cdv ct : Value) (us : List Value), us.length = ps.length →
  bindArgs (PySem.W.fnOf x ql (defArgs st) body sc .none kV doc pm an cdv ct) ⟨us, []⟩ = pure (ps.zip us)
theorem bd0 : BD (top 2) ["thing"] := fun _ _ _ _ _ _ _ _ _ _ us hl => match us, hl with | [_], _ => by kernel_rfl
theorem bd1 : BD (top 3) ["thing"] := fun _ _ _ _ _ _ _ _ _ _ us hl => match us, hl with | [_], _ => by kernel_rfl
theorem bd2 : BD (top 4) ["thing"] := fun _ _ _ _ _ _ _ _ _ _ us hl => match us, hl with | [_], _ => by kernel_rfl
theorem bd3 : BD (top 6) ["ways", "trust", "rule"] := fun _ _ _ _ _ _ _ _ _ _ us hl => match us, hl with | [_, _, _], _ => by kernel_rfl
theorem bd4 : BD (top 7) ["version", "trust", "rule"] := fun _ _ _ _ _ _ _ _ _ _ us hl => match us, hl with | [_, _, _], _ => by kernel_rfl
theorem bd5 : BD (top 8) ["version", "keyed", "trust", "rule"] := fun _ _ _ _ _ _ _ _ _ _ us hl => match us, hl with | [_, _, _, _], _ => by kernel_rfl
theorem bd6 : BD (top 12) ["world", "number"] := fun _ _ _ _ _ _ _ _ _ _ us hl => match us, hl with | [_, _], _ => by kernel_rfl
theorem bd7 : BD (top 13) ["zone", "version"] := fun _ _ _ _ _ _ _ _ _ _ us hl => match us, hl with | [_, _], _ => by kernel_rfl
theorem bd8 : BD (top 14) ["zone", "version"] := fun _ _ _ _ _ _ _ _ _ _ us hl => match us, hl with | [_, _], _ => by kernel_rfl
theorem bd9 : BD (top 15) ["zone", "version", "time"] := fun _ _ _ _ _ _ _ _ _ _ us hl => match us, hl with | [_, _, _], _ => by kernel_rfl
theorem bd10 : BD (top 20) ["stretches"] := fun _ _ _ _ _ _ _ _ _ _ us hl => match us, hl with | [_], _ => by kernel_rfl
theorem bd11 : BD (top 21) ["stretches", "life", "step", "window"] := fun _ _ _ _ _ _ _ _ _ _ us hl => match us, hl with | [_, _, _, _], _ => by kernel_rfl
theorem bd12 : BD (top 22) ["is_one_server", "early", "late"] := fun _ _ _ _ _ _ _ _ _ _ us hl => match us, hl with | [_, _, _], _ => by kernel_rfl
theorem bd13 : BD (inClass (top 23) 0) ["self", "world"] := fun _ _ _ _ _ _ _ _ _ _ us hl => match us, hl with | [_, _], _ => by kernel_rfl
theorem bd14 : BD (inClass (top 23) 1) ["self", "place"] := fun _ _ _ _ _ _ _ _ _ _ us hl => match us, hl with | [_, _], _ => by kernel_rfl
theorem bd15 : BD (inClass (top 23) 2) ["self"] := fun _ _ _ _ _ _ _ _ _ _ us hl => match us, hl with | [_], _ => by kernel_rfl
theorem bd16 : BD (inClass (top 23) 3) ["self", "place", "number"] := fun _ _ _ _ _ _ _ _ _ _ us hl => match us, hl with | [_, _, _], _ => by kernel_rfl
theorem bd17 : BD (inClass (top 23) 4) ["self", "place"] := fun _ _ _ _ _ _ _ _ _ _ us hl => match us, hl with | [_, _], _ => by kernel_rfl
theorem bd18 : BD (inClass (top 23) 5) ["self", "place", "number"] := fun _ _ _ _ _ _ _ _ _ _ us hl => match us, hl with | [_, _, _], _ => by kernel_rfl
theorem bd19 : BD (inClass (top 23) 6) ["self", "place"] := fun _ _ _ _ _ _ _ _ _ _ us hl => match us, hl with | [_, _], _ => by kernel_rfl
theorem bd20 : BD (inClass (top 23) 7) ["self", "place"] := fun _ _ _ _ _ _ _ _ _ _ us hl => match us, hl with | [_, _], _ => by kernel_rfl
theorem bd21 : BD (inClass (top 23) 8) ["self", "place"] := fun _ _ _ _ _ _ _ _ _ _ us hl => match us, hl with | [_, _], _ => by kernel_rfl
theorem bd22 : BD (inClass (top 23) 9) ["self", "place", "trust", "window"] := fun _ _ _ _ _ _ _ _ _ _ us hl => match us, hl with | [_, _, _, _], _ => by kernel_rfl
theorem bd23 : BD (inClass (top 23) 10) ["self", "place"] := fun _ _ _ _ _ _ _ _ _ _ us hl => match us, hl with | [_, _], _ => by kernel_rfl
theorem bd24 : BD (inClass (top 23) 11) ["self", "place", "pair", "number"] := fun _ _ _ _ _ _ _ _ _ _ us hl => match us, hl with | [_, _, _, _], _ => by kernel_rfl
theorem bd25 : BD (inClass (top 23) 12) ["self", "place", "pair", "number", "is_one_server"] := fun _ _ _ _ _ _ _ _ _ _ us hl => match us, hl with | [_, _, _, _, _], _ => by kernel_rfl
theorem bd26 : BD (inClass (top 23) 13) ["self", "place"] := fun _ _ _ _ _ _ _ _ _ _ us hl => match us, hl with | [_, _], _ => by kernel_rfl
theorem bd27 : BD (inClass (top 23) 14) ["self", "place"] := fun _ _ _ _ _ _ _ _ _ _ us hl => match us, hl with | [_, _], _ => by kernel_rfl
theorem bd28 : BD (inClass (top 26) 0) ["self", "world"] := fun _ _ _ _ _ _ _ _ _ _ us hl => match us, hl with | [_, _], _ => by kernel_rfl
theorem bd29 : BD (inClass (top 26) 1) ["self"] := fun _ _ _ _ _ _ _ _ _ _ us hl => match us, hl with | [_], _ => by kernel_rfl
theorem bd30 : BD (inClass (top 26) 2) ["self"] := fun _ _ _ _ _ _ _ _ _ _ us hl => match us, hl with | [_], _ => by kernel_rfl
theorem bd31 : BD (inClass (top 26) 3) ["self"] := fun _ _ _ _ _ _ _ _ _ _ us hl => match us, hl with | [_], _ => by kernel_rfl
theorem bd32 : BD (inClass (top 26) 4) ["self"] := fun _ _ _ _ _ _ _ _ _ _ us hl => match us, hl with | [_], _ => by kernel_rfl
theorem bd33 : BD (inClass (top 26) 5) ["self"] := fun _ _ _ _ _ _ _ _ _ _ us hl => match us, hl with | [_], _ => by kernel_rfl
theorem bd34 : BD (inClass (top 26) 6) ["self", "time"] := fun _ _ _ _ _ _ _ _ _ _ us hl => match us, hl with | [_, _], _ => by kernel_rfl
theorem bd35 : BD (inClass (top 26) 7) ["self", "number"] := fun _ _ _ _ _ _ _ _ _ _ us hl => match us, hl with | [_, _], _ => by kernel_rfl
theorem bd36 : BD (inClass (top 26) 8) ["self", "time", "number"] := fun _ _ _ _ _ _ _ _ _ _ us hl => match us, hl with | [_, _, _], _ => by kernel_rfl
theorem bd37 : BD (inClass (top 26) 9) ["self", "thing"] := fun _ _ _ _ _ _ _ _ _ _ us hl => match us, hl with | [_, _], _ => by kernel_rfl
theorem bd38 : BD (inClass (top 26) 10) ["self", "thing"] := fun _ _ _ _ _ _ _ _ _ _ us hl => match us, hl with | [_, _], _ => by kernel_rfl
theorem bd39 : BD (top 27) ["world", "thing", "zone", "part"] := fun _ _ _ _ _ _ _ _ _ _ us hl => match us, hl with | [_, _, _, _], _ => by kernel_rfl
theorem bd40 : BD (top 28) ["world", "thing"] := fun _ _ _ _ _ _ _ _ _ _ us hl => match us, hl with | [_, _], _ => by kernel_rfl
theorem bd41 : BD (top 32) ["key", "trust", "rule"] := fun _ _ _ _ _ _ _ _ _ _ us hl => match us, hl with | [_, _, _], _ => by kernel_rfl
theorem bd42 : BD (top 33) ["key", "trust", "rule"] := fun _ _ _ _ _ _ _ _ _ _ us hl => match us, hl with | [_, _, _], _ => by kernel_rfl
theorem bd43 : BD (top 34) ["key", "version", "trust", "rule"] := fun _ _ _ _ _ _ _ _ _ _ us hl => match us, hl with | [_, _, _, _], _ => by kernel_rfl
theorem bd44 : BD (top 35) ["times", "life"] := fun _ _ _ _ _ _ _ _ _ _ us hl => match us, hl with | [_, _], _ => by kernel_rfl
theorem bd45 : BD (top 36) ["copies", "zone", "key"] := fun _ _ _ _ _ _ _ _ _ _ us hl => match us, hl with | [_, _, _], _ => by kernel_rfl
theorem bd46 : BD (top 37) ["copies", "zone", "key"] := fun _ _ _ _ _ _ _ _ _ _ us hl => match us, hl with | [_, _, _], _ => by kernel_rfl
theorem bd47 : BD (top 38) ["world", "zone", "key"] := fun _ _ _ _ _ _ _ _ _ _ us hl => match us, hl with | [_, _, _], _ => by kernel_rfl
theorem bd48 : BD (top 39) ["world", "zone", "answers"] := fun _ _ _ _ _ _ _ _ _ _ us hl => match us, hl with | [_, _, _], _ => by kernel_rfl
theorem bd49 : BD (top 40) ["world", "zone", "key", "answers", "time"] := fun _ _ _ _ _ _ _ _ _ _ us hl => match us, hl with | [_, _, _, _, _], _ => by kernel_rfl
theorem bd50 : BD (top 41) ["world", "zone", "key", "answers", "made"] := fun _ _ _ _ _ _ _ _ _ _ us hl => match us, hl with | [_, _, _, _, _], _ => by kernel_rfl
theorem bd51 : BD (top 42) ["world", "zone", "key", "thing"] := fun _ _ _ _ _ _ _ _ _ _ us hl => match us, hl with | [_, _, _, _], _ => by kernel_rfl
theorem bd52 : BD (top 44) ["_law_script", "_law_k"] := fun _ _ _ _ _ _ _ _ _ _ us hl => match us, hl with | [_, _], _ => by kernel_rfl
theorem bd53 : BD (top 45) ["_law_box_here", "_law_below"] := fun _ _ _ _ _ _ _ _ _ _ us hl => match us, hl with | [_, _], _ => by kernel_rfl
theorem bd54 : BD (top 46) ["_law_box_here", "_law_some"] := fun _ _ _ _ _ _ _ _ _ _ us hl => match us, hl with | [_, _], _ => by kernel_rfl
theorem bd55 : BD (top 47) ["_law_zone_so", "_law_number", "_law_at"] := fun _ _ _ _ _ _ _ _ _ _ us hl => match us, hl with | [_, _, _], _ => by kernel_rfl
theorem bd56 : BD (top 48) ["_law_ways_here", "_law_trust_so", "_law_rule_so"] := fun _ _ _ _ _ _ _ _ _ _ us hl => match us, hl with | [_, _, _], _ => by kernel_rfl
theorem bd57 : BD (top 49) ["_law_told_so", "_law_trust_so", "_law_rule_so"] := fun _ _ _ _ _ _ _ _ _ _ us hl => match us, hl with | [_, _, _], _ => by kernel_rfl
theorem bd58 : BD (top 50) ["_law_told_so", "_law_mine", "_law_trust_so", "_law_rule_so"] := fun _ _ _ _ _ _ _ _ _ _ us hl => match us, hl with | [_, _, _, _], _ => by kernel_rfl
theorem bd59 : BD (top 51) ["_law_early", "_law_late"] := fun _ _ _ _ _ _ _ _ _ _ us hl => match us, hl with | [_, _], _ => by kernel_rfl
theorem bd60 : BD (top 52) ["_law_world_so"] := fun _ _ _ _ _ _ _ _ _ _ us hl => match us, hl with | [_], _ => by kernel_rfl
theorem bd61 : BD (top 53) ["_law_times", "_law_life", "_law_at"] := fun _ _ _ _ _ _ _ _ _ _ us hl => match us, hl with | [_, _, _], _ => by kernel_rfl
theorem bd62 : BD (top 54) ["_law_world_so"] := fun _ _ _ _ _ _ _ _ _ _ us hl => match us, hl with | [_], _ => by kernel_rfl
theorem bd63 : BD (top 55) ["_law_world_so", "_law_zone_so", "_law_keys_so", "_law_number", "_law_at"] := fun _ _ _ _ _ _ _ _ _ _ us hl => match us, hl with | [_, _, _, _, _], _ => by kernel_rfl
theorem bd64 : BD (top 56) ["_law_zone_so", "_law_rest_so"] := fun _ _ _ _ _ _ _ _ _ _ us hl => match us, hl with | [_, _], _ => by kernel_rfl
theorem bd65 : BD (top 57) ["_law_key_so", "_law_trust_so", "_law_rule_so"] := fun _ _ _ _ _ _ _ _ _ _ us hl => match us, hl with | [_, _, _], _ => by kernel_rfl
theorem bd66 : BD (top 58) ["_law_key_so", "_law_trust_so", "_law_rule_so"] := fun _ _ _ _ _ _ _ _ _ _ us hl => match us, hl with | [_, _, _], _ => by kernel_rfl
theorem bd67 : BD (top 59) ["_law_key_so", "_law_told_so", "_law_trust_so", "_law_rule_so"] := fun _ _ _ _ _ _ _ _ _ _ us hl => match us, hl with | [_, _, _, _], _ => by kernel_rfl
theorem bd68 : BD (top 60) ["_law_world_so", "_law_got_here", "_law_place", "_law_part", "_law_pair", "_law_moment"] := fun _ _ _ _ _ _ _ _ _ _ us hl => match us, hl with | [_, _, _, _, _, _], _ => by kernel_rfl
theorem bd69 : BD (top 61) ["_law_some"] := fun _ _ _ _ _ _ _ _ _ _ us hl => match us, hl with | [_], _ => by kernel_rfl
theorem bd70 : BD (top 62) ["_law_box_here", "_law_trust_so", "_law_is_last"] := fun _ _ _ _ _ _ _ _ _ _ us hl => match us, hl with | [_, _, _], _ => by kernel_rfl
theorem bd71 : BD (top 63) ["_law_some", "_law_number"] := fun _ _ _ _ _ _ _ _ _ _ us hl => match us, hl with | [_, _], _ => by kernel_rfl
theorem bd72 : BD (top 64) ["_law_box_here", "_law_told_so"] := fun _ _ _ _ _ _ _ _ _ _ us hl => match us, hl with | [_, _], _ => by kernel_rfl
theorem bd73 : BD (top 65) ["_law_box_here", "_law_trust_so", "_law_is_last", "_law_many"] := fun _ _ _ _ _ _ _ _ _ _ us hl => match us, hl with | [_, _, _, _], _ => by kernel_rfl
theorem bd74 : BD (top 66) ["_law_box_here", "_law_most_zones", "_law_many"] := fun _ _ _ _ _ _ _ _ _ _ us hl => match us, hl with | [_, _, _], _ => by kernel_rfl
theorem bd75 : BD (top 67) ["_law_box_here", "_law_count", "_law_many"] := fun _ _ _ _ _ _ _ _ _ _ us hl => match us, hl with | [_, _, _], _ => by kernel_rfl
theorem bd76 : BD (top 68) ["_law_world_so", "_law_got_here", "_law_place", "_law_key_so", "_law_moment"] := fun _ _ _ _ _ _ _ _ _ _ us hl => match us, hl with | [_, _, _, _, _], _ => by kernel_rfl
theorem bd77 : BD (top 69) ["_law_world_so", "_law_got_here", "_law_place", "_law_trust_so", "_law_moment"] := fun _ _ _ _ _ _ _ _ _ _ us hl => match us, hl with | [_, _, _, _, _], _ => by kernel_rfl
theorem bd78 : BD (top 70) ["_law_world_so", "_law_place"] := fun _ _ _ _ _ _ _ _ _ _ us hl => match us, hl with | [_, _], _ => by kernel_rfl
theorem bd79 : BD (top 71) ["_law_world_so", "_law_place", "_law_key_so", "_law_ways_here", "_law_last"] := fun _ _ _ _ _ _ _ _ _ _ us hl => match us, hl with | [_, _, _, _, _], _ => by kernel_rfl
theorem bd80 : BD (top 72) ["_law_box_here"] := fun _ _ _ _ _ _ _ _ _ _ us hl => match us, hl with | [_], _ => by kernel_rfl
theorem bd81 : BD (top 73) ["_law_script"] := fun _ _ _ _ _ _ _ _ _ _ us hl => match us, hl with | [_], _ => by kernel_rfl
theorem bdA (i : Nat) (st : Stmt) (N : List Str) (fi : FI) (hi : i < 82) (h1 : stOf[i]? = some st) (h2 : nmOf[i]? = some N) (h3 : fns[i]? = some fi) : BD st (N.take fi.np) := by
  match i, hi with
  | 0, _ => cases h1; cases h2; cases h3; exact bd0
  | 1, _ => cases h1; cases h2; cases h3; exact bd1
  | 2, _ => cases h1; cases h2; cases h3; exact bd2
  | 3, _ => cases h1; cases h2; cases h3; exact bd3
  | 4, _ => cases h1; cases h2; cases h3; exact bd4
  | 5, _ => cases h1; cases h2; cases h3; exact bd5
  | 6, _ => cases h1; cases h2; cases h3; exact bd6
  | 7, _ => cases h1; cases h2; cases h3; exact bd7
  | 8, _ => cases h1; cases h2; cases h3; exact bd8
  | 9, _ => cases h1; cases h2; cases h3; exact bd9
  | 10, _ => cases h1; cases h2; cases h3; exact bd10
  | 11, _ => cases h1; cases h2; cases h3; exact bd11
  | 12, _ => cases h1; cases h2; cases h3; exact bd12
  | 13, _ => cases h1; cases h2; cases h3; exact bd13
  | 14, _ => cases h1; cases h2; cases h3; exact bd14
  | 15, _ => cases h1; cases h2; cases h3; exact bd15
  | 16, _ => cases h1; cases h2; cases h3; exact bd16
  | 17, _ => cases h1; cases h2; cases h3; exact bd17
  | 18, _ => cases h1; cases h2; cases h3; exact bd18
  | 19, _ => cases h1; cases h2; cases h3; exact bd19
  | 20, _ => cases h1; cases h2; cases h3; exact bd20
  | 21, _ => cases h1; cases h2; cases h3; exact bd21
  | 22, _ => cases h1; cases h2; cases h3; exact bd22
  | 23, _ => cases h1; cases h2; cases h3; exact bd23
  | 24, _ => cases h1; cases h2; cases h3; exact bd24
  | 25, _ => cases h1; cases h2; cases h3; exact bd25
  | 26, _ => cases h1; cases h2; cases h3; exact bd26
  | 27, _ => cases h1; cases h2; cases h3; exact bd27
  | 28, _ => cases h1; cases h2; cases h3; exact bd28
  | 29, _ => cases h1; cases h2; cases h3; exact bd29
  | 30, _ => cases h1; cases h2; cases h3; exact bd30
  | 31, _ => cases h1; cases h2; cases h3; exact bd31
  | 32, _ => cases h1; cases h2; cases h3; exact bd32
  | 33, _ => cases h1; cases h2; cases h3; exact bd33
  | 34, _ => cases h1; cases h2; cases h3; exact bd34
  | 35, _ => cases h1; cases h2; cases h3; exact bd35
  | 36, _ => cases h1; cases h2; cases h3; exact bd36
  | 37, _ => cases h1; cases h2; cases h3; exact bd37
  | 38, _ => cases h1; cases h2; cases h3; exact bd38
  | 39, _ => cases h1; cases h2; cases h3; exact bd39
  | 40, _ => cases h1; cases h2; cases h3; exact bd40
  | 41, _ => cases h1; cases h2; cases h3; exact bd41
  | 42, _ => cases h1; cases h2; cases h3; exact bd42
  | 43, _ => cases h1; cases h2; cases h3; exact bd43
  | 44, _ => cases h1; cases h2; cases h3; exact bd44
  | 45, _ => cases h1; cases h2; cases h3; exact bd45
  | 46, _ => cases h1; cases h2; cases h3; exact bd46
  | 47, _ => cases h1; cases h2; cases h3; exact bd47
  | 48, _ => cases h1; cases h2; cases h3; exact bd48
  | 49, _ => cases h1; cases h2; cases h3; exact bd49
  | 50, _ => cases h1; cases h2; cases h3; exact bd50
  | 51, _ => cases h1; cases h2; cases h3; exact bd51
  | 52, _ => cases h1; cases h2; cases h3; exact bd52
  | 53, _ => cases h1; cases h2; cases h3; exact bd53
  | 54, _ => cases h1; cases h2; cases h3; exact bd54
  | 55, _ => cases h1; cases h2; cases h3; exact bd55
  | 56, _ => cases h1; cases h2; cases h3; exact bd56
  | 57, _ => cases h1; cases h2; cases h3; exact bd57
  | 58, _ => cases h1; cases h2; cases h3; exact bd58
  | 59, _ => cases h1; cases h2; cases h3; exact bd59
  | 60, _ => cases h1; cases h2; cases h3; exact bd60
  | 61, _ => cases h1; cases h2; cases h3; exact bd61
  | 62, _ => cases h1; cases h2; cases h3; exact bd62
  | 63, _ => cases h1; cases h2; cases h3; exact bd63
  | 64, _ => cases h1; cases h2; cases h3; exact bd64
  | 65, _ => cases h1; cases h2; cases h3; exact bd65
  | 66, _ => cases h1; cases h2; cases h3; exact bd66
  | 67, _ => cases h1; cases h2; cases h3; exact bd67
  | 68, _ => cases h1; cases h2; cases h3; exact bd68
  | 69, _ => cases h1; cases h2; cases h3; exact bd69
  | 70, _ => cases h1; cases h2; cases h3; exact bd70
  | 71, _ => cases h1; cases h2; cases h3; exact bd71
  | 72, _ => cases h1; cases h2; cases h3; exact bd72
  | 73, _ => cases h1; cases h2; cases h3; exact bd73
  | 74, _ => cases h1; cases h2; cases h3; exact bd74
  | 75, _ => cases h1; cases h2; cases h3; exact bd75
  | 76, _ => cases h1; cases h2; cases h3; exact bd76
  | 77, _ => cases h1; cases h2; cases h3; exact bd77
  | 78, _ => cases h1; cases h2; cases h3; exact bd78
  | 79, _ => cases h1; cases h2; cases h3; exact bd79
  | 80, _ => cases h1; cases h2; cases h3; exact bd80
  | 81, _ => cases h1; cases h2; cases h3; exact bd81
  | n + 82, hi => exact absurd hi (by omega)
end VI
set_option Elab.async false
set_option linter.all false
set_option maxRecDepth 1000000
set_option maxHeartbeats 0
/-! V37: from the head's facts to the law. -/
namespace VI
open PySem PySem.Spec L2
open PyProof.Rows hiding St
def clN (cl : Nat) : Str := if cl = 1 then "Copies" else "Path"
def cadK (K : PySem.W.Frag) (cl : Nat) : Addr := He.ga K (clN cl)
def adK (K : PySem.W.Frag) (i : Nat) : Addr := match fn[i]? with
  | some d => He.fAd K d.at_
  | none => 0
def gloF (x : Str) : He.Fa → Bool
  | .glo y => decide (y = x)
  | _ => false
def freeF (x : Str) : He.Fa → Bool
  | .free y => decide (y = x)
  | _ => false
def clsF (x : Str) : He.Fa → Bool
  | .cls y => decide (y = x)
  | _ => false
def mkrF (x : Str) : He.Fa → Bool
  | .mkr y => decide (y = x)
  | _ => false
def methF (x m : Str) : He.Fa → Bool
  | .meth y l => decide (y = x) && decide (l = m)
  | _ => false
def noatF (x m : Str) : He.Fa → Bool
  | .noat y l => decide (y = x) && decide (l = m)
  | _ => false
def conF (p : Str × V × D) : He.Fa → Bool
  | .int x i => decide (x = p.1) && decide (p.2.1 = .int i)
  | .str x z => decide (x = p.1) && decide (p.2.1 = .str z)
  | _ => false
def hfB (i : Nat) : Bool := match tabI.ft[i]?, fn[i]? with
  | some (.fn x), some d => decide (d.at_ = (x, none)) && fa.any (gloF x)
  | some (.me cl m), some d => decide (d.at_ = (clN cl, some m)) && fa.any (clsF (clN cl)) && fa.any (methF (clN cl) m)
  | some (.ini cl x), some d => decide (d.at_ = (clN cl, some ("__init__" : Str))) && decide (x = clN cl) && fa.any (mkrF (clN cl)) && fa.any (gloF (clN cl))
  | _, _ => false
theorem hf_stat : ((List.range 82).all hfB && (tabI.bl.all fun x => fa.any (freeF x)) && (tabI.co.all fun p => fa.any (conF p)) && (tabI.ats.all fun n => fa.any (clsF "Copies") && fa.any (clsF "Path") && fa.any (noatF "Copies" n) && fa.any (noatF "Path" n))) = true := by decide +kernel
theorem fn_rows : fn.map (fun d => (d.params, d.body, d.scope, d.dfl, d.kwd)) = stOf.map fun st => (defArgs st, defBody st, defScope st, [], []) := rfl
section
variable {P : Program} {w : World} {K : PySem.W.Frag} {h : Heap} {mg : Str → Option Value}
theorem fact_of (c : He.SaysD fa fn K) {f : He.Fa} (hf : f ∈ fa) : f.ok K = true := by
  obtain ⟨i, hi⟩ := List.mem_iff_getElem?.mp hf
  exact c.fact i hi
theorem glo_of (X : K.In h) (G : h.Ns mainGlobals mg) (c : He.SaysD fa fn K) {x : Str} (e : fa.any (gloF x) = true) : mg x = some (.ref (He.ga K x)) := by
  obtain ⟨f, hf, hx⟩ := List.any_eq_true.mp e
  unfold gloF at hx
  split at hx
  · have z := dec hx
    subst z
    exact He.glo_ok X G (fact_of c hf)
  · cases hx
theorem free_of (X : K.In h) (G : h.Ns mainGlobals mg) (c : He.SaysD fa fn K) {x : Str} (e : fa.any (freeF x) = true) : mg x = none := by
  obtain ⟨f, hf, hx⟩ := List.any_eq_true.mp e
  unfold freeF at hx
  split at hx
  · have z := dec hx
    subst z
    exact He.free_ok X G (fact_of c hf)
  · cases hx
theorem cls_of (c : He.SaysD fa fn K) {x : Str} (e : fa.any (clsF x) = true) : Cls K (He.ga K x) := by
  obtain ⟨f, hf, hx⟩ := List.any_eq_true.mp e
  unfold clsF at hx
  split at hx
  · have z := dec hx
    subst z
    exact He.cls_ok (fact_of c hf)
  · cases hx
theorem mkr_of (c : He.SaysD fa fn K) {x : Str} (e : fa.any (mkrF x) = true) : Mk K (He.ga K x) (He.ma K (He.ga K x) "__init__") := by
  obtain ⟨f, hf, hx⟩ := List.any_eq_true.mp e
  unfold mkrF at hx
  split at hx
  · have z := dec hx
    subst z
    exact He.mkr_ok (fact_of c hf)
  · cases hx
theorem meth_of (c : He.SaysD fa fn K) {x m : Str} (e : fa.any (methF x m) = true) : Meth K (He.ga K x) m (He.ma K (He.ga K x) m) := by
  obtain ⟨f, hf, hx⟩ := List.any_eq_true.mp e
  unfold methF at hx
  split at hx
  · obtain ⟨z1, z2⟩ := and2 hx
    have z := dec z1
    subst z
    have z := dec z2
    subst z
    exact He.meth_ok (fact_of c hf)
  · cases hx
theorem noat_of (c : He.SaysD fa fn K) {x m : Str} (e : fa.any (noatF x m) = true) : NoAttr K (He.ga K x) m := by
  obtain ⟨f, hf, hx⟩ := List.any_eq_true.mp e
  unfold noatF at hx
  split at hx
  · obtain ⟨z1, z2⟩ := and2 hx
    have z := dec z1
    subst z
    have z := dec z2
    subst z
    exact He.noat_ok (fact_of c hf)
  · cases hx
theorem con_of (X : K.In h) (G : h.Ns mainGlobals mg) (c : He.SaysD fa fn K) {p : Str × V × D} (e : fa.any (conF p) = true) : ∃ u, mg p.1 = some u ∧ RelV p.2.1 u := by
  obtain ⟨f, hf, hx⟩ := List.any_eq_true.mp e
  unfold conF at hx
  split at hx
  · obtain ⟨z1, z2⟩ := and2 hx
    obtain ⟨t, ht⟩ := He.int_ok X G (fact_of c hf)
    rw [← dec z1, dec z2]
    exact ⟨_, ht, t, rfl⟩
  · obtain ⟨z1, z2⟩ := and2 hx
    obtain ⟨t, ht⟩ := He.str_ok X G (fact_of c hf)
    rw [← dec z1, dec z2]
    exact ⟨_, ht, t, rfl⟩
  · cases hx
theorem hf_of (X : K.In h) (G : h.Ns mainGlobals mg) (c : He.SaysD fa fn K) : ∃ fdd, HF P w K mg (cadK K) (adK K) fdd := by
  obtain ⟨s1, s4⟩ := and2 hf_stat
  obtain ⟨s1, s3⟩ := and2 s1
  obtain ⟨s1, s2⟩ := and2 s1
  have row : ∀ (i : Nat) (st : Stmt), stOf[i]? = some st → ∃ d, fn[i]? = some d ∧ d.params = defArgs st ∧ d.body = defBody st ∧ d.scope = defScope st ∧ d.dfl = [] ∧ d.kwd = [] := fun i st hst => by
    have e := congrArg (fun l => l[i]?) fn_rows
    simp only [List.getElem?_map, hst, Option.map_some] at e
    obtain ⟨d, hd, e2⟩ := Option.map_eq_some_iff.mp e
    simp only [Prod.mk.injEq] at e2
    exact ⟨d, hd, e2.1, e2.2.1, e2.2.2.1, e2.2.2.2.1, e2.2.2.2.2⟩
  have ex : ∀ i : Nat, ∃ fd : FuncData, ∀ st, stOf[i]? = some st → ∃ nm ql, FunD K nm ql (defArgs st) (defBody st) (defScope st) [] [] (adK K i) fd := fun i => by
    cases hst : stOf[i]? with
    | none =>
      obtain ⟨fd, _⟩ := c.def_ 0 (d := fn0[0]) rfl
      exact ⟨fd, fun st z => nomatch z⟩
    | some st =>
      obtain ⟨d, hd, e1, e2, e3, e4, e5⟩ := row i st hst
      obtain ⟨fd, F⟩ := c.def_ i hd
      refine ⟨fd, fun st' z => ?_⟩
      cases z
      refine ⟨d.name, d.qual, ?_⟩
      have ha : adK K i = He.fAd K d.at_ := by unfold adK; rw [hd]
      have hv : d.dvs K = [] := by unfold He.DefD.dvs; rw [e4]; rfl
      have hk : d.kws K = [] := by unfold He.DefD.kws; rw [e5]; rfl
      rw [e1, e2, e3, hv, hk] at F
      rw [ha]; exact F
  obtain ⟨fdd, hfd⟩ := Classical.axiomOfChoice ex
  refine ⟨fdd, fun i st hst => hfd i st hst, fun i N fi h2 h3 => ?_, fun i t ht => ?_, fun x hx => free_of X G c (List.all_eq_true.mp s2 x hx), fun p hp => con_of X G c (List.all_eq_true.mp s3 p hp), fun n hn cl => ?_⟩
  · have hi : i < 82 := by
      have := (List.getElem?_eq_some_iff.mp h3).1
      rwa [fns_len] at this
    obtain ⟨f, st, N', e1, e2, e3, _⟩ := one_inv hi
    obtain ⟨nm, ql, F⟩ := hfd i st e2
    exact F.bindsN fun kV doc pm an cdv ct us hl => bdA i st N fi hi e2 h2 h3 nm ql _ _ kV doc pm an cdv ct us hl
  · have hi : i < 82 := by
      have := (List.getElem?_eq_some_iff.mp ht).1
      rwa [ft_len] at this
    have z := List.all_eq_true.mp s1 i (List.mem_range.mpr hi)
    unfold hfB at z
    rw [ht] at z
    cases hd : fn[i]? with
    | none => rw [hd] at z; cases t <;> cases z
    | some d =>
      rw [hd] at z
      have ha : adK K i = He.fAd K d.at_ := by unfold adK; rw [hd]
      cases t with
      | fn x =>
        obtain ⟨z1, z2⟩ := and2 z
        have e := dec z1
        show mg x = some (.ref (adK K i))
        rw [ha, e]
        exact glo_of X G c z2
      | me cl m =>
        obtain ⟨z, z3⟩ := and2 z
        obtain ⟨z1, z2⟩ := and2 z
        have e := dec z1
        refine ⟨cls_of c z2, ?_⟩
        rw [ha, e]
        exact meth_of c z3
      | ini cl x =>
        obtain ⟨z, z4⟩ := and2 z
        obtain ⟨z, z3⟩ := and2 z
        obtain ⟨z1, z2⟩ := and2 z
        have e := dec z1
        have e2 := dec z2
        subst e2
        refine ⟨?_, glo_of X G c z4⟩
        rw [ha, e]
        exact mkr_of c z3
  · have z := List.all_eq_true.mp s4 n hn
    obtain ⟨z, z4⟩ := and2 z
    obtain ⟨z, z3⟩ := and2 z
    obtain ⟨z1, z2⟩ := and2 z
    unfold cadK clN
    by_cases hc : cl = 1
    · rw [if_pos hc]; exact ⟨cls_of c z1, noat_of c z3⟩
    · rw [if_neg hc]; exact ⟨cls_of c z2, noat_of c z4⟩
end
/-- the law holds if the evaluator says so -/
def AtLaw : Prop := ∀ ns : List Int, ns.length ≤ 63 → ∃ S', sem fns 20 81 [.d (.list (ns.map .int))] [] = some (.d (.bool true), S')
theorem facts (ev : AtLaw) {P : Program} {w : World} {K : PySem.W.Frag} {h : Heap} {mg : Str → Option Value} {f : Addr} (X : K.In h) (G : h.Ns mainGlobals mg) (hfa : mg ("law" : Str) = some (.ref f)) (c : He.SaysD fa fn K) :
    ∃ (fd : FuncData) (sp : Sp), (∀ (s : Shared) (v : Value), BindsTo s fd ⟨[v], []⟩ [("_law_script", v)]) ∧ (∀ (H : Hp) (a : Addr) (ns : List Int), ns.length ≤ 63 → Only H → SqL K H a (ns.map V.int) → sp [.ref a] H (fun v _ => v = .bl true) fun _ _ _ => False) ∧
      ∀ base : Heap, K.In base → base.Ns mainGlobals mg → FnOk P w K mg base L2.CX0 40 f fd ["_law_script"] sp := by
  obtain ⟨fdd, hf⟩ := hf_of (P := P) (w := w) X G c
  have hz := hf.fts 81 (.fn "law") rfl
  have e : mg ("law" : Str) = some (.ref (adK K 81)) := hz
  rw [hfa] at e
  cases e
  obtain ⟨nm, ql, F⟩ := hf.fn 81 _ rfl
  refine ⟨fdd 81, spOf ⟨P, w, K, cadK K⟩ (tabI.npf 81) (sem fns 20 81), fun s v => ?_, fun H a ns hl hO hS => ?_, fun base _ _ => ?_⟩
  · exact F.bindsA (ps := ["_law_script"]) (fun kV doc pm an cdv ct us hl => bdA 81 _ nm_law ⟨2, 1, 0, cd_law⟩ (by decide) rfl rfl rfl nm ql _ _ kV doc pm an cdv ct us hl) s [v] rfl
  · obtain ⟨S', es⟩ := ev ns hl
    refine ⟨H, [], [], [.d (.list (ns.map .int))], .d (.bool true), S', ⟨fun _ _ e => e, .nil, .nil, List.nodup_nil, fun a h => nomatch h⟩, .cons (.d (.lst hS ?_)) .nil, rfl, es, fun v H' R' ads' g F' w' => ?_⟩
    · clear hl hO hS es
      induction ns with
      | nil => exact .nil
      | cons n ns ih => exact .cons (.int n) ih
    · cases w' with
      | d h => cases h; rfl
  · exact all_ok hf 20 81 _ _ rfl rfl
open PySem.W PySem.Calls in
theorem holds_of (ev : AtLaw) : PySem.Challenge.rw_keyturns_k27_whole_shown_at_the_last_mom.Holds := by
  w_on; o_law
  refine HandSHeadRun.head_any (r := OpenLaw.row PySem.Challenge.rw_keyturns_k27_whole_shown_at_the_last_mom) (q := view (OpenLaw.row PySem.Challenge.rw_keyturns_k27_whole_shown_at_the_last_mom).prog [73]) (H := hk) (ob := obH) (M := 4000) (loose := loose) (d := HandSHeadRun.topDef (OpenLaw.row PySem.Challenge.rw_keyturns_k27_whole_shown_at_the_last_mom).prog 73) (kwd := []) obH_eq
    (by kernel_rfl) (fun s => by kernel_rfl) run (by kernel_rfl) (by kernel_rfl) (by kernel_rfl) (by rfl) (by first | assumption | decide +kernel) (by decide +kernel) ⟨rfl, rfl, rfl, rfl, rfl, by decide +kernel⟩ ?hw ?hc
  case hw => w_witness2
  case hc =>
    refine L2.walk_ofE (l := PySem.Challenge.rw_keyturns_k27_whole_shown_at_the_last_mom) (n := 63) (k := 40) (x := "_law_script") (CX := L2.CX0) rfl (by decide) (by kernel_rfl) ⟨rfl, by decide, by decide⟩ ?F (fun _ _ _ _ z => z)
    intro w mg f h Y G hmg0
    obtain ⟨K, KX, c⟩ := Y
    have hmg : mg ("law" : PySem.Str) = some (.ref f) := by
      have e : (HandSHeadRun.topDef (OpenLaw.row PySem.Challenge.rw_keyturns_k27_whole_shown_at_the_last_mom).prog 73).name = ("law" : PySem.Str) := by kernel_rfl
      rw [← e]
      exact hmg0
    obtain ⟨fd, sp, hb, hsp, hF⟩ := facts ev (P := (PySem.Challenge.rw_keyturns_k27_whole_shown_at_the_last_mom).prog) (w := w) KX G hmg c
    exact ⟨K, fd, sp, KX, hb, hsp, hF⟩
end VI
set_option Elab.async false
set_option linter.all false
set_option maxRecDepth 100000
/-! M1: the typed world, its trees, small facts. -/
namespace VI.M
open PySem
abbrev Key := Int × Int
structure Ver where
  keys : List Key
  heads : List Int
  trust : Option (List Key)
  marks : List Int
  gone : List Int
structure Zone where
  line : List (Int × Ver)
  servers : Int
  tries : Int
  lag : Int
  kl : Int
  rl : Int
structure Wld where
  zones : List Zone
  anchors : List Key
  each : Bool
def eT (t : List Key) : D := .tuple (t.map enP)
def eN (l : List Int) : D := .tuple (l.map enI)
def eO : Option (List Key) → D
  | none => .none
  | some t => eT t
def eV (v : Ver) : D := .tuple [eT v.keys, eN v.heads, eO v.trust, eN v.marks, eN v.gone]
def eL (p : Int × Ver) : D := .tuple [.int p.1, eV p.2]
def eZ (z : Zone) : D := .tuple [.tuple (z.line.map eL), .int z.servers, .int z.tries, .int z.lag, .int z.kl, .int z.rl]
def eR (each : Bool) : D := .str (if each then "each" else "any")
def eW (w : Wld) : D := .tuple [.tuple (w.zones.map eZ), eT w.anchors, eR w.each]
def clsT (f : Nat) : Nat := match fns[f]? with
  | some gi => gi.cl
  | none => 0
theorem semS {f : Nat} {fi : FI} (h : fns[f]? = some fi) (k : Nat) (ws : List W) (S : Sto) : sem fns (k + 1) f ws S = runF (sem fns k) clsT fi ws S := by
  conv => lhs; unfold sem
  rw [h]
  rfl
/-! ### the evaluator, one step each -/
section
set_option autoImplicit true
variable {call : Nat → List W → Sto → Option (W × Sto)} {env : Env} {S : Sto}
@[simp] theorem E_var : evE call clsT (.var i) env S = (match env[i]? with
    | some (some sl) => some (slW i sl, S)
    | _ => none) := by first | (simp only [evE]; done) | (simp only [evE]; rfl)
@[simp] theorem E_cst : evE call clsT (.cst x) env S = (some (.d x, S)) := by first | (simp only [evE]; done) | (simp only [evE]; rfl)
@[simp] theorem E_glo : evE call clsT (.glo nm x) env S = (some (.d x, S)) := by first | (simp only [evE]; done) | (simp only [evE]; rfl)
@[simp] theorem E_neg : evE call clsT (.neg e) env S = (bnd (evE call clsT e env S) fun w S1 => ob (pu w) fun x => match x with
    | .int i => some (.d (.int (-i)), S1)
    | _ => none) := by first | (simp only [evE]; done) | (simp only [evE]; rfl)
@[simp] theorem E_not : evE call clsT (.not e) env S = (bnd (evE call clsT e env S) fun w S1 => ob (pu w) fun x => ob (boolOf x) fun b => some (.d (.bool (!b)), S1)) := by first | (simp only [evE]; done) | (simp only [evE]; rfl)
@[simp] theorem E_isN : evE call clsT (.isN e) env S = (bnd (evE call clsT e env S) fun w S1 => match w with
    | .d .none => some (.d (.bool true), S1)
    | .d _ => some (.d (.bool false), S1)
    | .c _ => some (.d (.bool false), S1)
    | _ => none) := by first | (simp only [evE]; done) | (simp only [evE]; rfl)
@[simp] theorem E_notN : evE call clsT (.notN e) env S = (bnd (evE call clsT e env S) fun w S1 => match w with
    | .d .none => some (.d (.bool false), S1)
    | .d _ => some (.d (.bool true), S1)
    | .c _ => some (.d (.bool true), S1)
    | _ => none) := by first | (simp only [evE]; done) | (simp only [evE]; rfl)
@[simp] theorem E_bin : evE call clsT (.bin op a b) env S = (bnd (evE call clsT a env S) fun u S1 => bnd (evE call clsT b env S1) fun v S2 => ob (rd u env S2) fun x => ob (pu v) fun y => ob (binD op x y) fun z => some (.d z, S2)) := by first | (simp only [evE]; done) | (simp only [evE]; rfl)
@[simp] theorem E_cmp : evE call clsT (.cmp op a b) env S = (bnd (evE call clsT a env S) fun u S1 => bnd (evE call clsT b env S1) fun v S2 => ob (pu u) fun x => ob (pu v) fun y => ob (cmpD op x y) fun z => some (.d (.bool z), S2)) := by first | (simp only [evE]; done) | (simp only [evE]; rfl)
@[simp] theorem E_and : evE call clsT (.and es) env S = (evAnd call clsT es env S) := by first | (simp only [evE]; done) | (simp only [evE]; rfl)
@[simp] theorem E_or : evE call clsT (.or es) env S = (evOr call clsT es env S) := by first | (simp only [evE]; done) | (simp only [evE]; rfl)
@[simp] theorem E_ifx : evE call clsT (.ifx t a b) env S = (bnd (evE call clsT t env S) fun w S1 => ob (pu w) fun x => ob (boolOf x) fun k => match k with
    | true => evE call clsT a env S1
    | false => evE call clsT b env S1) := by first | (simp only [evE]; done) | (simp only [evE]; rfl)
@[simp] theorem E_ix : evE call clsT (.ix a b) env S = (bnd (evE call clsT a env S) fun u S1 => bnd (evE call clsT b env S1) fun v S2 => ob (rd u env S2) fun x => ob (pu v) fun y => ob (ixD x y) fun z => some (.d z, S2)) := by first | (simp only [evE]; done) | (simp only [evE]; rfl)
@[simp] theorem E_sl : evE call clsT (.sl a lo hi) env S = (bnd (evE call clsT a env S) fun u S1 => ob (pu u) fun x => ob (slD x lo hi) fun z => some (.d z, S1)) := by first | (simp only [evE]; done) | (simp only [evE]; rfl)
@[simp] theorem E_rev : evE call clsT (.rev a) env S = (bnd (evE call clsT a env S) fun u S1 => ob (pu u) fun x => ob (revD x) fun z => some (.d z, S1)) := by first | (simp only [evE]; done) | (simp only [evE]; rfl)
@[simp] theorem E_tup : evE call clsT (.tup es) env S = (bnd (evEs call clsT es env S) fun xs S1 => some (.d (.tuple xs), S1)) := by first | (simp only [evE]; done) | (simp only [evE]; rfl)
@[simp] theorem E_lst : evE call clsT (.lst es) env S = (bnd (evEs call clsT es env S) fun xs S1 => some (.d (.list xs), S1)) := by first | (simp only [evE]; done) | (simp only [evE]; rfl)
@[simp] theorem E_dct0 : evE call clsT (.dct0) env S = (some (.d (.dict []), S)) := by first | (simp only [evE]; done) | (simp only [evE]; rfl)
@[simp] theorem E_dctN : evE call clsT (.dctN k v) env S = (bnd (evE call clsT k env S) fun u S1 => bnd (evE call clsT v env S1) fun w S2 => ob (pu u) fun x => ob (pu w) fun y => match kOf x with
    | some (.inr _) => some (.d (.dict [(x, y)]), S2)
    | _ => none) := by first | (simp only [evE]; done) | (simp only [evE]; rfl)
@[simp] theorem E_dctS : evE call clsT (.dctS ks vs) env S = (bnd (evEs call clsT vs env S) fun xs S1 => gd (decide (xs.length = ks.length)) (some (.d (.dict ((ks.map fun k => PyData.str k).zip xs)), S1))) := by first | (simp only [evE]; done) | (simp only [evE]; rfl)
@[simp] theorem E_isi : evE call clsT (.isi e ts) env S = (bnd (evE call clsT e env S) fun u S1 => ob (pu u) fun x => gd (notDict x) (some (.d (.bool (ts.any fun t => isTy t x)), S1))) := by first | (simp only [evE]; done) | (simp only [evE]; rfl)
@[simp] theorem E_isi1 : evE call clsT (.isi1 e t) env S = (bnd (evE call clsT e env S) fun u S1 => ob (pu u) fun x => gd (notDict x) (some (.d (.bool (isTy t x)), S1))) := by first | (simp only [evE]; done) | (simp only [evE]; rfl)
@[simp] theorem E_b1 : evE call clsT (.b1 f e) env S = (bnd (evE call clsT e env S) fun u S1 => ob (rd u env S1) fun x => ob (b1D f x) fun z => some (.d z, S1)) := by first | (simp only [evE]; done) | (simp only [evE]; rfl)
@[simp] theorem E_b2 : evE call clsT (.b2 f a b) env S = (bnd (evE call clsT a env S) fun u S1 => bnd (evE call clsT b env S1) fun v S2 => ob (pu u) fun x => ob (pu v) fun y => ob (b2D f x y) fun z => some (.d z, S2)) := by first | (simp only [evE]; done) | (simp only [evE]; rfl)
@[simp] theorem E_srt : evE call clsT (.srt e) env S = (bnd (evE call clsT e env S) fun u S1 => ob (pu u) fun x => ob (srtD x) fun z => some (.d z, S1)) := by first | (simp only [evE]; done) | (simp only [evE]; rfl)
@[simp] theorem E_lrng : evE call clsT (.lrng e) env S = (bnd (evE call clsT e env S) fun u S1 => ob (pu u) fun x => ob (itemsOf 1 x) fun z => some (.d (.list z), S1)) := by first | (simp only [evE]; done) | (simp only [evE]; rfl)
@[simp] theorem E_get : evE call clsT (.get d k x) env S = (bnd (evE call clsT d env S) fun u S1 => ob (rd u env S1) fun d0 => gd (!notDict d0) <| bnd (evE call clsT k env S1) fun v S2 => bnd (evE call clsT x env S2) fun w S3 => ob (rd u env S3) fun dd => ob (pu v) fun kk => ob (pu w) fun xx => match dd with
    | .dict kvs => ob (dGetD kvs kk xx) fun z => some (.d z, S3)
    | _ => none) := by first | (simp only [evE]; done) | (simp only [evE]; rfl)
@[simp] theorem E_fc : evE call clsT (.fc f es) env S = (bnd (evWs call clsT es env S) fun ws S1 => call f ws S1) := by first | (simp only [evE]; done) | (simp only [evE]; rfl)
@[simp] theorem E_mc : evE call clsT (.mc f m o es) env S = (bnd (evE call clsT o env S) fun u S1 => match u with
    | .c i => match S1[i]? with
      | some (.ins cl fs) => gd (decide (cl = clsT f) && (fs.lookup m).isNone) (bnd (evWs call clsT es env S1) fun ws S2 => call f (.c i :: ws) S2)
      | _ => none
    | _ => none) := by first | (simp only [evE]; done) | (simp only [evE]; rfl)
@[simp] theorem E_mk : evE call clsT (.mk f es) env S = (bnd (evWs call clsT es env S) fun ws S1 => bnd (call f (.c S1.length :: ws) (S1 ++ [.ins (clsT f) []])) fun u S2 => match u with
    | .d .none => some (.c S1.length, S2)
    | _ => none) := by first | (simp only [evE]; done) | (simp only [evE]; rfl)
@[simp] theorem E_at : evE call clsT (.at e n) env S = (bnd (evE call clsT e env S) fun u S1 => match u with
    | .c i => match fldOf S1 i n with
      | some (_, true, _) => some (.f i n, S1)
      | some (_, false, x) => some (.d x, S1)
      | none => none
    | _ => none) := by first | (simp only [evE]; done) | (simp only [evE]; rfl)
@[simp] theorem E_box : evE call clsT (.box es) env S = (bnd (evEs call clsT es env S) fun xs S1 => some (.c S1.length, S1 ++ [.own (.list xs)])) := by first | (simp only [evE]; done) | (simp only [evE]; rfl)
@[simp] theorem S_asg : evS call clsT (.asg (.ix i k) e) env S = (bnd (evE call clsT e env S) fun w S1 => ob (pu w) fun v => bnd (evE call clsT k env S1) fun u S2 => ob (pu u) fun kk => match env[i]? with
    | some (some (.own x)) => ob (putOwn x kk v) fun y => some (.nx (env.set i (some (.own y))), S2)
    | some (some (.c j)) => (match S2[j]? with
      | some (.own (.list xs)) => ob (putOwn (.list xs) kk v) fun y => some (.nx env, S2.set j (.own y))
      | _ => none)
    | _ => none) := by first | (simp only [evS]; done) | (simp only [evS]; rfl)
@[simp] theorem S_asg2 : evS call clsT (.asg (.fld o n) e) env S = (bnd (evE call clsT e env S) fun w S1 => ob (pu w) fun v => bnd (evE call clsT o env S1) fun u S2 => match u with
    | .c j => (match S2[j]? with
      | some (.ins cl fs) => gd (decide (fs.length < 1000) && notOwn fs n) (some (.nx env, S2.set j (.ins cl (setFld n false v fs))))
      | _ => none)
    | _ => none) := by first | (simp only [evS]; done) | (simp only [evS]; rfl)
@[simp] theorem S_asg3 : evS call clsT (.asg (.fldO o n) e) env S = (bnd (evE call clsT e env S) fun w S1 => ob (pu w) fun v => bnd (evE call clsT o env S1) fun u S2 => match u with
    | .c j => (match S2[j]?, v with
      | some (.ins cl fs), .list xs => gd (decide (fs.length < 1000) && (fs.lookup n).isNone) (some (.nx env, S2.set j (.ins cl (setFld n true (.list xs) fs))))
      | _, _ => none)
    | _ => none) := by first | (simp only [evS]; done) | (simp only [evS]; rfl)
@[simp] theorem S_asg4 : evS call clsT (.asg (.nm i) e) env S = (bnd (evE call clsT e env S) fun w S1 => ob (rhsOf (.nm i) w) fun x => some (.nx (env.set i (some x)), S1)) := by first | (simp only [evS]; done) | (simp only [evS]; rfl)
@[simp] theorem S_asg5 : evS call clsT (.asg (.own i) e) env S = (bnd (evE call clsT e env S) fun w S1 => ob (rhsOf (.own i) w) fun x => some (.nx (env.set i (some x)), S1)) := by first | (simp only [evS]; done) | (simp only [evS]; rfl)
@[simp] theorem S_par : evS call clsT (.par ts es) env S = (bnd (evRs call clsT ts es env S) fun xs S1 => ob (setAll env ts xs) fun env' => some (.nx env', S1)) := by first | (simp only [evS]; done) | (simp only [evS]; rfl)
@[simp] theorem S_tupA : evS call clsT (.tupA ts es) env S = (bnd (evRs call clsT ts es env S) fun xs S1 => ob (setAll env ts xs) fun env' => some (.nx env', S1)) := by first | (simp only [evS]; done) | (simp only [evS]; rfl)
@[simp] theorem S_unp : evS call clsT (.unp ts e) env S = (bnd (evE call clsT e env S) fun w S1 => ob (pu w) fun x => match x with
    | .tuple xs => bnd (evTas call clsT ts xs env S1) fun env' S2 => some (.nx env', S2)
    | _ => none) := by first | (simp only [evS]; done) | (simp only [evS]; rfl)
@[simp] theorem S_expr : evS call clsT (.expr e) env S = (bnd (evE call clsT e env S) fun _ S1 => some (.nx env, S1)) := by first | (simp only [evS]; done) | (simp only [evS]; rfl)
@[simp] theorem S_app : evS call clsT (.app i e) env S = (ob (ownOf env[i]?) fun x => bnd (evE call clsT e env S) fun w S1 => ob (pu w) fun y => ob (appD x y) fun z => some (.nx (env.set i (some (.own z))), S1)) := by first | (simp only [evS]; done) | (simp only [evS]; rfl)
@[simp] theorem S_appF : evS call clsT (.appF o n e) env S = (bnd (evE call clsT o env S) fun u S1 => match u with
    | .c j => (match fldOf S1 j n with
      | some (_, true, .list _) => bnd (evE call clsT e env S1) fun w S2 => ob (pu w) fun y => (match S2[j]? with
        | some (.ins cl fs) => (match fs.lookup n with
          | some (true, x) => ob (appD x y) fun z => some (.nx env, S2.set j (.ins cl (setFld n true z fs)))
          | _ => none)
        | _ => none)
      | _ => none)
    | _ => none) := by first | (simp only [evS]; done) | (simp only [evS]; rfl)
@[simp] theorem S_ext : evS call clsT (.ext i e) env S = (ob (ownOf env[i]?) fun x => bnd (evE call clsT e env S) fun w S1 => ob (pu w) fun y => ob (extD x y) fun z => some (.nx (env.set i (some (.own z))), S1)) := by first | (simp only [evS]; done) | (simp only [evS]; rfl)
@[simp] theorem S_ifs : evS call clsT (.ifs t a b) env S = (bnd (evE call clsT t env S) fun w S1 => ob (pu w) fun x => ob (boolOf x) fun k => match k with
    | true => evB call clsT a env S1
    | false => evB call clsT b env S1) := by first | (simp only [evS]; done) | (simp only [evS]; rfl)
@[simp] theorem S_ret : evS call clsT (.ret e) env S = (bnd (evE call clsT e env S) fun w S1 => match w with
    | .d x => some (.rt (.d x), S1)
    | .c i => some (.rt (.c i), S1)
    | .o i => ob (ownOf env[i]?) fun x => some (.rt (.d x), S1)
    | .f _ _ => none) := by first | (simp only [evS]; done) | (simp only [evS]; rfl)
@[simp] theorem S_frz : evS call clsT (.frz i) env S = (ob (ownOf env[i]?) fun x => some (.nx (env.set i (some (.d x))), S)) := by first | (simp only [evS]; done) | (simp only [evS]; rfl)
@[simp] theorem E_chain : evE call clsT (.chain a op b op2 c) env S = (bnd (evE call clsT a env S) fun u S1 => bnd (evE call clsT b env S1) fun v S2 => ob (pu u) fun x => ob (pu v) fun y => ob (cmpD op x y) fun z => match z with
    | true => bnd (evE call clsT c env S2) fun w S3 => ob (pu w) fun q => ob (cmpD op2 y q) fun z' => some (.d (.bool z'), S3)
    | false => some (.d (.bool false), S2)) := by first | (simp only [evE]; done) | (simp only [evE]; rfl)
@[simp] theorem E_chain3 : evE call clsT (.chain3 a op b op2 c op3 d) env S = (bnd (evE call clsT a env S) fun u S1 => bnd (evE call clsT b env S1) fun v S2 => ob (pu u) fun x => ob (pu v) fun y => ob (cmpD op x y) fun z => match z with
    | true => bnd (evE call clsT c env S2) fun w S3 => ob (pu w) fun q => ob (cmpD op2 y q) fun z' => match z' with
      | true => bnd (evE call clsT d env S3) fun w' S4 => ob (pu w') fun q' => ob (cmpD op3 q q') fun z'' => some (.d (.bool z''), S4)
      | false => some (.d (.bool false), S3)
    | false => some (.d (.bool false), S2)) := by first | (simp only [evE]; done) | (simp only [evE]; rfl)
@[simp] theorem Es_nil : evEs call clsT [] env S = some ([], S) := by first | (simp only [evEs]; done) | (simp only [evEs]; rfl)
@[simp] theorem Es_cons : evEs call clsT (e :: es) env S = (bnd (evE call clsT e env S) fun w S1 => ob (pu w) fun x => bnd (evEs call clsT es env S1) fun xs S2 => some (x :: xs, S2)) := by first | (simp only [evEs]; done) | (simp only [evEs]; rfl)
@[simp] theorem Ws_nil : evWs call clsT [] env S = some ([], S) := by first | (simp only [evWs]; done) | (simp only [evWs]; rfl)
@[simp] theorem Ws_cons : evWs call clsT (e :: es) env S = (bnd (evE call clsT e env S) fun w S1 => ob (argW w) fun w' => bnd (evWs call clsT es env S1) fun ws S2 => some (w' :: ws, S2)) := by first | (simp only [evWs]; done) | (simp only [evWs]; rfl)
@[simp] theorem And_one : evAnd call clsT [e] env S = (bnd (evE call clsT e env S) fun w S1 => ob (pu w) fun x => some (.d x, S1)) := by first | (simp only [evAnd]; done) | (simp only [evAnd]; rfl)
@[simp] theorem And_two : evAnd call clsT (e :: e2 :: es) env S = (bnd (evE call clsT e env S) fun w S1 => ob (pu w) fun x => ob (boolOf x) fun b => match b with
    | true => evAnd call clsT (e2 :: es) env S1
    | false => some (.d (.bool false), S1)) := by first | (simp only [evAnd]; done) | (simp only [evAnd]; rfl)
@[simp] theorem Or_one : evOr call clsT [e] env S = (bnd (evE call clsT e env S) fun w S1 => ob (pu w) fun x => some (.d x, S1)) := by first | (simp only [evOr]; done) | (simp only [evOr]; rfl)
@[simp] theorem Or_two : evOr call clsT (e :: e2 :: es) env S = (bnd (evE call clsT e env S) fun w S1 => ob (pu w) fun x => ob (boolOf x) fun b => match b with
    | true => some (.d (.bool true), S1)
    | false => evOr call clsT (e2 :: es) env S1) := by first | (simp only [evOr]; done) | (simp only [evOr]; rfl)
@[simp] theorem T_none : evT call clsT none env S = some (true, S) := by first | (simp only [evT]; done) | (simp only [evT]; rfl)
@[simp] theorem T_some : evT call clsT (some e) env S = (bnd (evE call clsT e env S) fun w S1 => ob (pu w) fun x => ob (boolOf x) fun b => some (b, S1)) := by first | (simp only [evT]; done) | (simp only [evT]; rfl)
@[simp] theorem Rs_nil : evRs call clsT [] [] env S = some ([], S) := by first | (simp only [evRs]; done) | (simp only [evRs]; rfl)
@[simp] theorem Rs_cons : evRs call clsT (t :: ts) (e :: es) env S = (bnd (evE call clsT e env S) fun w S1 => ob (rhsOf t w) fun x => bnd (evRs call clsT ts es env S1) fun xs S2 => some (x :: xs, S2)) := by first | (simp only [evRs]; done) | (simp only [evRs]; rfl)
@[simp] theorem SA_nil : setAll env [] [] = some env := by first | (simp only [setAll]; done) | (simp only [setAll]; rfl)
@[simp] theorem SA_cons (t : Ta) (ts : List Ta) (x : Sl) (xs : List Sl) : setAll env (t :: ts) (x :: xs) = (ob (taSlot t) fun i => setAll (env.set i (some x)) ts xs) := by first | (simp only [setAll]; done) | (simp only [setAll]; rfl)
@[simp] theorem ta_nm (i : Nat) : taSlot (.nm i) = some i := rfl
@[simp] theorem ta_own (i : Nat) : taSlot (.own i) = some i := rfl
@[simp] theorem B_nil : evB call clsT [] env S = some (.nx env, S) := by first | (simp only [evB]; done) | (simp only [evB]; rfl)
@[simp] theorem B_cons : evB call clsT (s :: r) env S = (bnd (evS call clsT s env S) fun o S1 => match o with
    | .nx env' => evB call clsT r env' S1
    | .rt w => some (.rt w, S1)) := by first | (simp only [evB]; done) | (simp only [evB]; rfl)
theorem S_for : evS call clsT (.for_ tg it body) env S = (bnd (evIt call clsT it env S) fun xs S1 => forLoop tg (fun env' S' => evB call clsT body env' S') xs env S1) := by first | (simp only [evS]; done) | (simp only [evS]; rfl)
theorem E_comp : evE call clsT (.comp e tg it t) env S = (bnd (evIt call clsT it env S) fun xs S1 => bnd (compLoop tg (fun env' S' => evT call clsT t env' S') (fun env' S' => evE call clsT e env' S') (wipeE env (tgSlots tg)) xs S1) fun ys S2 => some (.d (.list ys), S2)) := by first | (simp only [evE]; done) | (simp only [evE]; rfl)
@[simp] theorem I_seq : evIt call clsT (.seq e) env S = (bnd (evE call clsT e env S) fun w S1 => ob (pu w) fun x => ob (itemsOf 0 x) fun xs => some (xs, S1)) := by first | (simp only [evIt]; done) | (simp only [evIt]; rfl)
@[simp] theorem I_rng : evIt call clsT (.rng e) env S = (bnd (evE call clsT e env S) fun w S1 => ob (pu w) fun x => ob (itemsOf 1 x) fun xs => some (xs, S1)) := by first | (simp only [evIt]; done) | (simp only [evIt]; rfl)
@[simp] theorem I_enum : evIt call clsT (.enum e) env S = (bnd (evE call clsT e env S) fun w S1 => ob (pu w) fun x => ob (itemsOf 2 x) fun xs => some (xs, S1)) := by first | (simp only [evIt]; done) | (simp only [evIt]; rfl)
@[simp] theorem I_keys : evIt call clsT (.keys e) env S = (bnd (evE call clsT e env S) fun w S1 => ob (pu w) fun x => ob (itemsOf 3 x) fun xs => some (xs, S1)) := by first | (simp only [evIt]; done) | (simp only [evIt]; rfl)
@[simp] theorem I_items : evIt call clsT (.items e) env S = (bnd (evE call clsT e env S) fun w S1 => ob (pu w) fun x => ob (itemsOf 4 x) fun xs => some (xs, S1)) := by first | (simp only [evIt]; done) | (simp only [evIt]; rfl)
end
/-! ### items -/
theorem atI_nat {α : Type} (xs : List α) (n : Nat) : L2.atI xs (n : Int) = xs[n]? := by
  unfold L2.atI L2.ixN
  rw [if_pos (Int.natCast_nonneg n)]
  by_cases h : n < xs.length
  · rw [if_pos (by omega)]
    show xs[((n : Int)).toNat]? = xs[n]?
    rw [Int.toNat_natCast]
  · rw [if_neg (by omega), List.getElem?_eq_none (by omega)]
    rfl
theorem atI_suc {α : Type} (xs : List α) (n : Nat) : L2.atI xs ((n : Int) + 1) = xs[n + 1]? := by
  have e : (n : Int) + 1 = ((n + 1 : Nat) : Int) := by omega
  rw [e, atI_nat]
@[simp] theorem atI0 {α : Type} (a : α) (r : List α) : L2.atI (a :: r) 0 = some a := atI_nat (a :: r) 0
@[simp] theorem atI1 {α : Type} (a b : α) (r : List α) : L2.atI (a :: b :: r) 1 = some b := atI_nat (a :: b :: r) 1
@[simp] theorem atI2 {α : Type} (a b c : α) (r : List α) : L2.atI (a :: b :: c :: r) 2 = some c := atI_nat (a :: b :: c :: r) 2
@[simp] theorem atI3 {α : Type} (a b c d : α) (r : List α) : L2.atI (a :: b :: c :: d :: r) 3 = some d := atI_nat (a :: b :: c :: d :: r) 3
@[simp] theorem atI4 {α : Type} (a b c d e : α) (r : List α) : L2.atI (a :: b :: c :: d :: e :: r) 4 = some e := atI_nat (a :: b :: c :: d :: e :: r) 4
@[simp] theorem atI5 {α : Type} (a b c d e f : α) (r : List α) : L2.atI (a :: b :: c :: d :: e :: f :: r) 5 = some f := atI_nat (a :: b :: c :: d :: e :: f :: r) 5
theorem atI_last {α : Type} (xs : List α) (x : α) : L2.atI (xs ++ [x]) (-1) = some x := by
  unfold L2.atI L2.ixN
  rw [if_neg (by omega), if_pos (by simp; omega)]
  show (xs ++ [x])[((-1 : Int) + ((xs ++ [x]).length : Nat)).toNat]? = some x
  have e : ((-1 : Int) + ((xs ++ [x]).length : Nat)).toNat = xs.length := by simp; omega
  rw [e, List.getElem?_append_right (Nat.le_refl _)]
  simp
/-! ### loops -/
theorem comp_map {α : Type} {tg : Tg} {t : Env → Sto → Option (Bool × Sto)} {e : Env → Sto → Option (W × Sto)} {env : Env} {enc : α → D} {p : α → Bool} {g : α → D} {S : Sto} : ∀ {xs : List α},
    (∀ x, x ∈ xs → ∃ env', bindTg tg (enc x) env = some env' ∧ t env' S = some (p x, S) ∧ (p x = true → e env' S = some (.d (g x), S))) → compLoop tg t e env (xs.map enc) S = some ((xs.filter p).map g, S)
  | [], _ => rfl
  | x :: xs, h => by
    obtain ⟨env', h1, h2, h3⟩ := h x (List.mem_cons_self ..)
    have ih := comp_map (xs := xs) fun y hy => h y (List.mem_cons_of_mem _ hy)
    rw [List.map_cons]
    unfold compLoop
    rw [h1, ob_some, h2, bnd_some]
    cases hp : p x with
    | true =>
      rw [List.filter_cons_of_pos hp, List.map_cons]
      simp only [h3 hp, bnd_some, pu, ob_some, ih]
    | false =>
      rw [List.filter_cons_of_neg (by rw [hp]; exact Bool.false_ne_true)]
      exact ih
theorem for_inv {α : Type} {tg : Tg} {body : Env → Sto → Option (Out × Sto)} {enc : α → D} (P : List α → Env → Sto → Prop) (R : W → Sto → Prop) : ∀ (xs done : List α) {env : Env} {S : Sto}, P done env S →
    (∀ dn x rest env S, done ++ xs = dn ++ x :: rest → P dn env S → ∃ env1, bindTg tg (enc x) env = some env1 ∧ ((∃ env2 S2, body env1 S = some (.nx env2, S2) ∧ P (dn ++ [x]) env2 S2) ∨ ∃ w S2, body env1 S = some (.rt w, S2) ∧ R w S2)) →
    (∃ env' S', forLoop tg body (xs.map enc) env S = some (.nx env', S') ∧ P (done ++ xs) env' S') ∨ ∃ w S', forLoop tg body (xs.map enc) env S = some (.rt w, S') ∧ R w S'
  | [], done, env, S, h0, _ => .inl ⟨env, S, rfl, by rw [List.append_nil]; exact h0⟩
  | x :: xs, done, env, S, h0, hs => by
    obtain ⟨env1, h1, h2⟩ := hs done x xs env S rfl h0
    rw [List.map_cons]
    unfold forLoop
    rw [h1, ob_some]
    rcases h2 with ⟨env2, S2, h2, h3⟩ | ⟨w, S2, h2, h3⟩
    · rw [h2, bnd_some]
      have e : done ++ x :: xs = (done ++ [x]) ++ xs := by simp
      rw [e]
      exact for_inv P R xs (done ++ [x]) h3 fun dn y rest env S hd hp => hs dn y rest env S (by rw [e]; exact hd) hp
    · rw [h2, bnd_some]
      exact .inr ⟨w, S2, rfl, h3⟩
/-- .. that never returns -/
theorem for_nx {α : Type} {tg : Tg} {body : Env → Sto → Option (Out × Sto)} {enc : α → D} (P : List α → Env → Sto → Prop) {xs : List α} {env : Env} {S : Sto} (h0 : P [] env S)
    (hs : ∀ dn x rest env S, xs = dn ++ x :: rest → P dn env S → ∃ env1 env2 S2, bindTg tg (enc x) env = some env1 ∧ body env1 S = some (.nx env2, S2) ∧ P (dn ++ [x]) env2 S2) :
    ∃ env' S', forLoop tg body (xs.map enc) env S = some (.nx env', S') ∧ P xs env' S' := by
  rcases for_inv P (fun _ _ => False) xs [] h0 fun dn x rest env S hd hp => by
    obtain ⟨env1, env2, S2, h1, h2, h3⟩ := hs dn x rest env S hd hp
    exact ⟨env1, h1, .inl ⟨env2, S2, h2, h3⟩⟩ with h | ⟨_, _, _, h⟩
  · exact h
  · exact h.elim
/-! ### equality, shape -/
def ShO (d : D) (n : Nat) : Prop := d.canLay0 = true ∧ d.depth ≤ n
theorem ShO.shaped {d : D} {n : Nat} (h : ShO d n) (hn : n ≤ 64) : SeqAt.shaped d = true := by
  unfold SeqAt.shaped
  rw [h.1, Bool.true_and]
  exact decide_eq_true (Nat.le_trans h.2 hn)
theorem ShO.int (i : Int) : ShO (.int i) 0 := ⟨rfl, Nat.le_refl _⟩
theorem all_sh {α : Type} {f : α → D} {n : Nat} : ∀ {l : List α}, (∀ x, x ∈ l → ShO (f x) n) → PyData.canLayAll0 (l.map f) = true ∧ PyData.depthAll (l.map f) ≤ n
  | [], _ => ⟨rfl, Nat.zero_le _⟩
  | x :: l, h => by
    obtain ⟨h1, h2⟩ := h x (List.mem_cons_self ..)
    obtain ⟨h3, h4⟩ := all_sh (l := l) fun y hy => h y (List.mem_cons_of_mem _ hy)
    rw [List.map_cons]
    exact ⟨by rw [PyData.canLayAll0, h1, h3]; rfl, by rw [PyData.depthAll]; exact Nat.max_le.mpr ⟨h2, h4⟩⟩
theorem ShO.tup {α : Type} {f : α → D} {n : Nat} {l : List α} (h : ∀ x, x ∈ l → ShO (f x) n) : ShO (.tuple (l.map f)) (n + 1) := by
  obtain ⟨h1, h2⟩ := all_sh h
  exact ⟨by rw [PyData.canLay0]; exact h1, by rw [PyData.depth]; omega⟩
theorem ShO.lst {α : Type} {f : α → D} {n : Nat} {l : List α} (h : ∀ x, x ∈ l → ShO (f x) n) : ShO (.list (l.map f)) (n + 1) := by
  obtain ⟨h1, h2⟩ := all_sh h
  exact ⟨by rw [PyData.canLay0]; exact h1, by rw [PyData.depth]; omega⟩
theorem ShO.mono {d : D} {n m : Nat} (h : ShO d n) (hm : n ≤ m) : ShO d m := ⟨h.1, Nat.le_trans h.2 hm⟩
theorem ShO.p (p : Key) : ShO (enP p) 1 := by
  have h := ShO.tup (f := fun i : Int => PyData.int i) (n := 0) (l := [p.1, p.2]) fun x _ => ShO.int x
  exact h
theorem eqvAll_map {α : Type} [DecidableEq α] {f : α → D} (h : ∀ x y, PyData.eqv (f x) (f y) = decide (x = y)) : ∀ (xs ys : List α), PyData.eqvAll (xs.map f) (ys.map f) = decide (xs = ys)
  | [], [] => rfl
  | [], y :: ys => by rw [List.map_nil, List.map_cons, PyData.eqvAll]; simp
  | x :: xs, [] => by rw [List.map_nil, List.map_cons, PyData.eqvAll]; simp
  | x :: xs, y :: ys => by
    rw [List.map_cons, List.map_cons, PyData.eqvAll, h, eqvAll_map h xs ys]
    by_cases e1 : x = y <;> by_cases e2 : xs = ys <;> simp [e1, e2]
theorem eqv_int (a b : Int) : PyData.eqv (.int a) (.int b) = decide (a = b) := by
  rw [PyData.eqv]
  by_cases h : a = b
  · rw [h]; simp
  · rw [decide_eq_false h]; exact beq_eq_false_iff_ne.mpr h
theorem eqv_p (a b : Key) : PyData.eqv (enP a) (enP b) = decide (a = b) := by
  obtain ⟨a1, a2⟩ := a
  obtain ⟨b1, b2⟩ := b
  show PyData.eqv (.tuple ([a1, a2].map enI)) (.tuple ([b1, b2].map enI)) = _
  rw [PyData.eqv, eqvAll_map (f := enI) eqv_int]
  by_cases h1 : a1 = b1 <;> by_cases h2 : a2 = b2 <;> simp [h1, h2]
theorem eqv_T (a b : List Key) : PyData.eqv (eT a) (eT b) = decide (a = b) := by
  unfold eT
  rw [PyData.eqv, eqvAll_map eqv_p]
theorem any_eqv {α : Type} [DecidableEq α] {f : α → D} (h : ∀ x y, PyData.eqv (f x) (f y) = decide (x = y)) (x : α) (l : List α) : ((l.map f).any fun z => PyData.eqv z (f x)) = decide (x ∈ l) := by
  induction l with
  | nil => rfl
  | cons y l ih =>
    rw [List.map_cons, List.any_cons, ih, h]
    by_cases e : y = x
    · subst e; simp
    · have e' : ¬ x = y := fun z => e z.symm
      by_cases m : x ∈ l <;> simp [e, e', m]
theorem d_eq (x y : D) : cmpD .eq x y = gd (SeqAt.shaped x && SeqAt.shaped y) (some (PyData.eqv x y)) := rfl
theorem d_ne (x y : D) : cmpD .ne x y = gd (SeqAt.shaped x && SeqAt.shaped y) (some (!PyData.eqv x y)) := rfl
theorem d_inT (x : D) (ys : List D) : cmpD .isin x (.tuple ys) = gd (SeqAt.shaped x && SeqAt.shaped (.tuple ys)) (some (ys.any fun z => PyData.eqv z x)) := rfl
theorem d_inL (x : D) (ys : List D) : cmpD .isin x (.list ys) = gd (SeqAt.shaped x && SeqAt.shaped (.list ys)) (some (ys.any fun z => PyData.eqv z x)) := rfl
theorem d_niT (x : D) (ys : List D) : cmpD .notin x (.tuple ys) = gd (SeqAt.shaped x && SeqAt.shaped (.tuple ys)) (some (!ys.any fun z => PyData.eqv z x)) := rfl
theorem d_niL (x : D) (ys : List D) : cmpD .notin x (.list ys) = gd (SeqAt.shaped x && SeqAt.shaped (.list ys)) (some (!ys.any fun z => PyData.eqv z x)) := rfl
theorem shI (a : Int) : SeqAt.shaped (.int a) = true := (ShO.int a).shaped (by omega)
theorem shP (a : Key) : SeqAt.shaped (enP a) = true := (ShO.p a).shaped (by omega)
theorem shN (l : List Int) : SeqAt.shaped (.tuple (l.map enI)) = true := (ShO.tup (f := enI) (n := 0) (l := l) fun x _ => ShO.int x).shaped (by omega)
theorem shNL (l : List Int) : SeqAt.shaped (.list (l.map enI)) = true := (ShO.lst (f := enI) (n := 0) (l := l) fun x _ => ShO.int x).shaped (by omega)
theorem shTT (l : List Key) : SeqAt.shaped (.tuple (l.map enP)) = true := (ShO.tup (f := enP) (n := 1) (l := l) fun x _ => ShO.p x).shaped (by omega)
@[simp] theorem c_eqI (a b : Int) : cmpD .eq (.int a) (.int b) = some (decide (a = b)) := by rw [d_eq, shI, shI, eqv_int]; rfl
@[simp] theorem c_neI (a b : Int) : cmpD .ne (.int a) (.int b) = some (!decide (a = b)) := by rw [d_ne, shI, shI, eqv_int]; rfl
@[simp] theorem c_lt (a b : Int) : cmpD .lt (.int a) (.int b) = some (decide (a < b)) := rfl
@[simp] theorem c_le (a b : Int) : cmpD .le (.int a) (.int b) = some (decide (a ≤ b)) := rfl
@[simp] theorem c_gt (a b : Int) : cmpD .gt (.int a) (.int b) = some (decide (b < a)) := rfl
@[simp] theorem c_ge (a b : Int) : cmpD .ge (.int a) (.int b) = some (decide (b ≤ a)) := rfl
theorem any_I (a : Int) (l : List Int) : ((l.map enI).any fun z => PyData.eqv z (.int a)) = decide (a ∈ l) := any_eqv (f := enI) eqv_int a l
@[simp] theorem c_inN (a : Int) (l : List Int) : cmpD .isin (.int a) (eN l) = some (decide (a ∈ l)) := by rw [eN, d_inT, shI, shN, any_I]; rfl
@[simp] theorem c_niN (a : Int) (l : List Int) : cmpD .notin (.int a) (eN l) = some (!decide (a ∈ l)) := by rw [eN, d_niT, shI, shN, any_I]; rfl
@[simp] theorem c_inL (a : Int) (l : List Int) : cmpD .isin (.int a) (.list (l.map enI)) = some (decide (a ∈ l)) := by rw [d_inL, shI, shNL, any_I]; rfl
@[simp] theorem c_niL (a : Int) (l : List Int) : cmpD .notin (.int a) (.list (l.map enI)) = some (!decide (a ∈ l)) := by rw [d_niL, shI, shNL, any_I]; rfl
@[simp] theorem c_inT (a : Key) (l : List Key) : cmpD .isin (enP a) (eT l) = some (decide (a ∈ l)) := by rw [eT, d_inT, shP, shTT, any_eqv eqv_p]; exact congrArg some (decide_eq_decide.mpr Iff.rfl)
theorem shT (l : List Key) : ShO (eT l) 2 := ShO.tup fun x _ => ShO.p x
@[simp] theorem c_eqT (a b : List Key) : cmpD .eq (eT a) (eT b) = some (decide (a = b)) := by rw [d_eq, (shT a).shaped (by omega), (shT b).shaped (by omega), eqv_T]; rfl
@[simp] theorem c_neT (a b : List Key) : cmpD .ne (eT a) (eT b) = some (!decide (a = b)) := by rw [d_ne, (shT a).shaped (by omega), (shT b).shaped (by omega), eqv_T]; rfl
@[simp] theorem c_eqR (b : Bool) : cmpD .eq (eR b) (.str "any") = some (!b) := by cases b <;> decide +kernel
/-! ### one step each -/
@[simp] theorem rd_d (x : D) (env : Env) (S : Sto) : rd (.d x) env S = some x := rfl
@[simp] theorem rd_o (i : Nat) (env : Env) (S : Sto) : rd (.o i) env S = ownOf env[i]? := rfl
@[simp] theorem ownOf_s (x : D) : ownOf (some (some (.own x))) = some x := rfl
@[simp] theorem pu_d (x : D) : pu (.d x) = some x := rfl
@[simp] theorem argW_d (x : D) : argW (.d x) = some (.d x) := rfl
@[simp] theorem argW_c (i : Nat) : argW (.c i) = some (.c i) := rfl
@[simp] theorem boolOf_b (b : Bool) : boolOf (.bool b) = some b := rfl
@[simp] theorem slW_d (i : Nat) (x : D) : slW i (.d x) = .d x := rfl
@[simp] theorem slW_c (i j : Nat) : slW i (.c j) = .c j := rfl
@[simp] theorem slW_o (i : Nat) (x : D) : slW i (.own x) = .o i := rfl
@[simp] theorem slOf_d (x : D) : slOf (.d x) = some (.d x) := rfl
@[simp] theorem slOf_c (i : Nat) : slOf (.c i) = some (.c i) := rfl
@[simp] theorem rhs_nm (i : Nat) (w : W) : rhsOf (.nm i) w = slOf w := rfl
@[simp] theorem rhs_own (i : Nat) (x : D) : rhsOf (.own i) (.d x) = gd (isFresh x) (some (.own x)) := rfl
@[simp] theorem fr_l (xs : List D) : isFresh (.list xs) = true := rfl
@[simp] theorem fr_d : isFresh (.dict []) = true := rfl
@[simp] theorem fin_d (n : Nat) (x : D) (S : Sto) : fin n (.d x) S = (.d x, S.take n) := rfl
@[simp] theorem fin_c (n i : Nat) (S : Sto) : fin n (.c i) S = (.c i, S) := rfl
@[simp] theorem b_add (a b : Int) : binD .add (.int a) (.int b) = some (.int (a + b)) := rfl
@[simp] theorem b_sub (a b : Int) : binD .sub (.int a) (.int b) = some (.int (a - b)) := rfl
theorem b_addL (xs ys : List D) : binD .add (.list xs) (.list ys) = gd (decide (xs.length + ys.length ≤ sizeLine)) (some (.list (xs ++ ys))) := rfl
@[simp] theorem l_lenL (xs : List D) : b1D .len (.list xs) = some (.int xs.length) := rfl
@[simp] theorem l_lenT (xs : List D) : b1D .len (.tuple xs) = some (.int xs.length) := rfl
@[simp] theorem l_all (xs : List D) : b1D .all (.list xs) = (asBools xs).map fun bs => .bool (bs.all id) := rfl
@[simp] theorem l_any (xs : List D) : b1D .any (.list xs) = (asBools xs).map fun bs => .bool (bs.any id) := rfl
@[simp] theorem l_tup (xs : List D) : b1D .tuple (.list xs) = some (.tuple xs) := rfl
@[simp] theorem l_tupT (xs : List D) : b1D .tuple (.tuple xs) = some (.tuple xs) := rfl
@[simp] theorem l_list (xs : List D) : b1D .list (.list xs) = some (.list xs) := rfl
@[simp] theorem l_listT (xs : List D) : b1D .list (.tuple xs) = some (.list xs) := rfl
@[simp] theorem l_max (a b : Int) : b2D .max (.int a) (.int b) = some (.int (if b > a then b else a)) := rfl
@[simp] theorem l_min (a b : Int) : b2D .min (.int a) (.int b) = some (.int (if b < a then b else a)) := rfl
theorem ix_L (xs : List D) (i : Int) : ixD (.list xs) (.int i) = L2.atI xs i := rfl
theorem ix_T (xs : List D) (i : Int) : ixD (.tuple xs) (.int i) = L2.atI xs i := rfl
@[simp] theorem z0 (z : Zone) : ixD (eZ z) (.int 0) = some (.tuple (z.line.map eL)) := atI0 _ _
@[simp] theorem z1 (z : Zone) : ixD (eZ z) (.int 1) = some (.int z.servers) := atI1 _ _ _
@[simp] theorem z2 (z : Zone) : ixD (eZ z) (.int 2) = some (.int z.tries) := atI2 _ _ _ _
@[simp] theorem z3 (z : Zone) : ixD (eZ z) (.int 3) = some (.int z.lag) := atI3 _ _ _ _ _
@[simp] theorem z4 (z : Zone) : ixD (eZ z) (.int 4) = some (.int z.kl) := atI4 _ _ _ _ _ _
@[simp] theorem z5 (z : Zone) : ixD (eZ z) (.int 5) = some (.int z.rl) := atI5 _ _ _ _ _ _ _
@[simp] theorem v0 (v : Ver) : ixD (eV v) (.int 0) = some (eT v.keys) := atI0 _ _
@[simp] theorem v1 (v : Ver) : ixD (eV v) (.int 1) = some (eN v.heads) := atI1 _ _ _
@[simp] theorem v2 (v : Ver) : ixD (eV v) (.int 2) = some (eO v.trust) := atI2 _ _ _ _
@[simp] theorem v3 (v : Ver) : ixD (eV v) (.int 3) = some (eN v.marks) := atI3 _ _ _ _ _
@[simp] theorem v4 (v : Ver) : ixD (eV v) (.int 4) = some (eN v.gone) := atI4 _ _ _ _ _ _
@[simp] theorem w0 (w : Wld) : ixD (eW w) (.int 0) = some (.tuple (w.zones.map eZ)) := atI0 _ _
@[simp] theorem w1 (w : Wld) : ixD (eW w) (.int 1) = some (eT w.anchors) := atI1 _ _ _
@[simp] theorem w2 (w : Wld) : ixD (eW w) (.int 2) = some (eR w.each) := atI2 _ _ _ _
@[simp] theorem p0 (p : Key) : ixD (enP p) (.int 0) = some (.int p.1) := atI0 _ _
@[simp] theorem p1 (p : Key) : ixD (enP p) (.int 1) = some (.int p.2) := atI1 _ _ _
@[simp] theorem q0 (p : Int × Ver) : ixD (eL p) (.int 0) = some (.int p.1) := atI0 _ _
@[simp] theorem q1 (p : Int × Ver) : ixD (eL p) (.int 1) = some (eV p.2) := atI1 _ _ _
theorem ix_nat (xs : List D) (n : Nat) : ixD (.tuple xs) (.int (n : Int)) = xs[n]? := atI_nat xs n
theorem ix_suc (xs : List D) (n : Nat) : ixD (.tuple xs) (.int ((n : Int) + 1)) = xs[n + 1]? := atI_suc xs n
@[simp] theorem len_eT (l : List Key) : b1D .len (eT l) = some (.int l.length) := by
  show some (PyData.int ((l.map enP).length : Nat)) = _
  rw [List.length_map]
end VI.M
set_option Elab.async false
set_option linter.all false
set_option maxRecDepth 100000
/-! M2: the small defs. -/
namespace VI.M
open PySem
def bgn (z : Zone) (n : Nat) : Int := match z.line[n]? with
  | some p => p.1
  | none => 0
def endO (z : Zone) (n : Nat) : Option Int := match z.line[n + 1]? with
  | some p => some (p.1 + z.lag)
  | none => none
def eOI : Option Int → D
  | some i => .int i
  | none => .none
def told (z : Zone) (n : Nat) (t : Int) : Bool := decide (n < z.line.length) && decide (bgn z n ≤ t) && (match endO z n with
  | some e => decide (t < e)
  | none => true)
theorem begin_ok {z : Zone} {n : Nat} (h : n < z.line.length) (k : Nat) (S : Sto) : sem fns (k + 1) 7 [.d (eZ z), .d (.int n)] S = some (.d (.int (bgn z n)), S) := by
  rw [semS rfl]
  simp [runF, envOf, cd_begin_of, ix_nat, h, bgn]
theorem end_ok {z : Zone} {n : Nat} (h : n < z.line.length) (k : Nat) (S : Sto) : sem fns (k + 1) 8 [.d (eZ z), .d (.int n)] S = some (.d (eOI (endO z n)), S) := by
  rw [semS rfl]
  by_cases h2 : n + 1 < z.line.length
  · have h3 : (n : Int) + 1 < (z.line.length : Int) := by omega
    simp [runF, envOf, cd_end_of, ix_nat, ix_suc, h, h3, endO, h2, eOI]
  · have h3 : ¬ (n : Int) + 1 < (z.line.length : Int) := by omega
    simp [runF, envOf, cd_end_of, ix_nat, ix_suc, h, h3, endO, h2, eOI]
theorem may_ok {z : Zone} {n : Nat} {t : Int} (k : Nat) (S : Sto) : sem fns (k + 2) 9 [.d (eZ z), .d (.int n), .d (.int t)] S = some (.d (.bool (told z n t)), S) := by
  rw [semS rfl]
  by_cases h : n < z.line.length
  · have h3 : (n : Int) < (z.line.length : Int) := by omega
    by_cases h4 : bgn z n ≤ t
    · cases he : endO z n with
      | none => simp [runF, envOf, cd_may_tell, begin_ok h, end_ok h, told, h, h3, h4, he, eOI, Int.not_lt.mpr h4]
      | some e => simp [runF, envOf, cd_may_tell, begin_ok h, end_ok h, told, h, h3, h4, he, eOI, Int.not_lt.mpr h4]
    · simp [runF, envOf, cd_may_tell, begin_ok h, end_ok h, told, h, h3, h4, Int.not_le.mp h4]
  · have h3 : ¬ (n : Int) < (z.line.length : Int) := by omega
    simp [runF, envOf, cd_may_tell, told, h, h3]
theorem told_ok {z : Zone} {n : Nat} {t : Int} (h : n < z.line.length) (k : Nat) (S : Sto) : sem fns (k + 1) 55 [.d (eZ z), .d (.int n), .d (.int t)] S = some (.d (.bool (told z n t)), S) := by
  rw [semS rfl]
  have hb : bgn z n = (z.line[n]).1 := by simp [bgn, h]
  by_cases h4 : bgn z n ≤ t
  · have h5 : (z.line[n]).1 ≤ t := by rw [← hb]; exact h4
    by_cases h2 : n + 1 < z.line.length
    · have h3 : ¬ (n : Int) + 1 = (z.line.length : Int) := by omega
      simp [runF, envOf, cd__law_told, ix_nat, ix_suc, h, h3, endO, h2, told, h4, Int.not_lt.mpr h5]
    · have h3 : (n : Int) + 1 = (z.line.length : Int) := by omega
      simp [runF, envOf, cd__law_told, ix_nat, ix_suc, h, h3, endO, h2, told, h4, Int.not_lt.mpr h5]
  · have h5 : t < (z.line[n]).1 := by rw [← hb]; omega
    simp [runF, envOf, cd__law_told, ix_nat, ix_suc, h, told, h4, h5]
end VI.M
set_option Elab.async false
set_option linter.all false
set_option maxRecDepth 100000
/-! M3: frozen, belief. -/
namespace VI.M
open PySem
inductive Fz : Nat → D → Prop where
  | int (n : Nat) (i : Int) : Fz n (.int i)
  | str (n : Nat) (x : Str) : Fz n (.str x)
  | non (n : Nat) : Fz n .none
  | tup {n : Nat} {xs : List D} : (∀ x, x ∈ xs → Fz n x) → Fz (n + 1) (.tuple xs)
theorem Fz.mono {n m : Nat} {x : D} (h : Fz n x) (hm : n ≤ m) : Fz m x := by
  induction h generalizing m with
  | int => exact .int _ _
  | str => exact .str _ _
  | non => exact .non _
  | @tup n xs _ ih =>
    cases m with
    | zero => omega
    | succ m => exact .tup fun x hx => ih x hx (by omega)
@[simp] theorem it_T (xs : List D) : itemsOf 0 (.tuple xs) = some xs := rfl
@[simp] theorem it_L (xs : List D) : itemsOf 0 (.list xs) = some xs := rfl
theorem comp_id {tg : Tg} {t : Env → Sto → Option (Bool × Sto)} {e : Env → Sto → Option (W × Sto)} {env : Env} {S : Sto} {xs : List D} (h : ∀ x, x ∈ xs → ∃ env', bindTg tg x env = some env' ∧ t env' S = some (true, S) ∧ e env' S = some (.d x, S)) : compLoop tg t e env xs S = some (xs, S) := by
  have z := comp_map (enc := fun x : D => x) (p := fun _ => true) (g := fun x => x) (xs := xs) (tg := tg) (t := t) (e := e) (env := env) (S := S) fun x hx => by
    obtain ⟨env', h1, h2, h3⟩ := h x hx
    exact ⟨env', h1, h2, fun _ => h3⟩
  rw [List.filter_eq_self.mpr fun _ _ => rfl, List.map_id'] at z
  exact z
theorem comp_ok {α : Type} {enc : α → D} {xs : List α} {p : α → Bool} {g : α → D} {call : Nat → List W → Sto → Option (W × Sto)} {e : C} {tg : Tg} {it : It} {t : Option C} {env : Env} {S : Sto} (hi : evIt call clsT it env S = some (xs.map enc, S))
    (h : ∀ x, x ∈ xs → ∃ env', bindTg tg (enc x) (wipeE env (tgSlots tg)) = some env' ∧ evT call clsT t env' S = some (p x, S) ∧ (p x = true → evE call clsT e env' S = some (.d (g x), S))) :
    evE call clsT (.comp e tg it t) env S = some (.d (.list ((xs.filter p).map g)), S) := by
  rw [E_comp, hi]
  show bnd (compLoop tg _ _ _ (xs.map enc) S) _ = _
  rw [comp_map h]; rfl
theorem comp_all {α : Type} {enc : α → D} {xs : List α} {g : α → D} {call : Nat → List W → Sto → Option (W × Sto)} {e : C} {tg : Tg} {it : It} {env : Env} {S : Sto} (hi : evIt call clsT it env S = some (xs.map enc, S))
    (h : ∀ x, x ∈ xs → ∃ env', bindTg tg (enc x) (wipeE env (tgSlots tg)) = some env' ∧ evE call clsT e env' S = some (.d (g x), S)) :
    evE call clsT (.comp e tg it none) env S = some (.d (.list (xs.map g)), S) := by
  have z := comp_ok (p := fun _ => true) (t := none) hi fun x hx => by
    obtain ⟨env', h1, h2⟩ := h x hx
    exact ⟨env', h1, rfl, fun _ => h2⟩
  rw [List.filter_eq_self.mpr fun _ _ => rfl] at z
  exact z
theorem frozen_ok {n : Nat} {x : D} (h : Fz n x) : ∀ (k : Nat) (S : Sto), sem fns (k + n + 1) 0 [.d x] S = some (.d x, S) := by
  induction h with
  | int n i => intro k S; rw [semS rfl]; simp [runF, envOf, cd_frozen, notDict, isTy]
  | str n i => intro k S; rw [semS rfl]; simp [runF, envOf, cd_frozen, notDict, isTy]
  | non n => intro k S; rw [semS rfl]; simp [runF, envOf, cd_frozen, notDict, isTy]
  | @tup n xs hx ih =>
    intro k S
    rw [semS rfl]
    have hl : evE (sem fns (k + (n + 1))) clsT (.comp (.fc 0 [.var 1]) (.nm 1) (.seq (.var 0)) none) [some (.d (.tuple xs)), none] S = some (.d (.list xs), S) := by
      have z := comp_all (enc := fun x : D => x) (g := fun x => x) (xs := xs) (call := sem fns (k + (n + 1))) (e := .fc 0 [.var 1]) (tg := .nm 1) (it := .seq (.var 0)) (env := [some (.d (.tuple xs)), none]) (S := S) (by simp) fun x hx' => ⟨_, rfl, by
        have e := ih x hx' k S
        simp [wipeE, tgSlots]
        exact e⟩
      rw [List.map_id'] at z
      exact z
    simp [runF, envOf, cd_frozen, notDict, isTy, hl]
theorem fzP (p : Key) : Fz 1 (enP p) := .tup fun x hx => by
  simp at hx
  rcases hx with rfl | rfl <;> exact .int _ _
theorem fzT (l : List Key) : Fz 2 (eT l) := .tup fun x hx => by
  obtain ⟨p, _, rfl⟩ := List.mem_map.mp hx
  exact fzP p
theorem fzN (l : List Int) : Fz 1 (eN l) := .tup fun x hx => by
  obtain ⟨p, _, rfl⟩ := List.mem_map.mp hx
  exact .int _ _
theorem fzO (o : Option (List Key)) : Fz 2 (eO o) := by
  cases o with
  | none => exact .non _
  | some t => exact fzT t
theorem fzV (v : Ver) : Fz 3 (eV v) := .tup fun x hx => by
  simp at hx
  rcases hx with rfl | rfl | rfl | rfl | rfl
  · exact fzT _
  · exact (fzN _).mono (by omega)
  · exact fzO _
  · exact (fzN _).mono (by omega)
  · exact (fzN _).mono (by omega)
theorem fzL (p : Int × Ver) : Fz 4 (eL p) := .tup fun x hx => by
  simp at hx
  rcases hx with rfl | rfl
  · exact .int _ _
  · exact fzV _
theorem fzZ (z : Zone) : Fz 6 (eZ z) := .tup fun x hx => by
  simp at hx
  rcases hx with rfl | rfl | rfl | rfl | rfl | rfl
  · refine .tup fun y hy => ?_
    obtain ⟨p, _, rfl⟩ := List.mem_map.mp hy
    exact fzL p
  all_goals exact .int _ _
theorem fzW (w : Wld) : Fz 8 (eW w) := .tup fun x hx => by
  simp at hx
  rcases hx with rfl | rfl | rfl
  · refine .tup fun y hy => ?_
    obtain ⟨p, _, rfl⟩ := List.mem_map.mp hy
    exact fzZ p
  · exact (fzT _).mono (by omega)
  · exact .str _ _
/-! ### belief -/
def enough (ws : List Int) (t : List Key) (each : Bool) : Bool := if each then t.all fun k => decide (k.2 ∈ ws) else !ws.isEmpty
theorem asBools_map {α : Type} (f : α → Bool) : ∀ l : List α, asBools (l.map fun x => PyData.bool (f x)) = some (l.map f)
  | [] => rfl
  | x :: l => by
    rw [List.map_cons, List.map_cons]
    show (asBools (l.map fun x => PyData.bool (f x))).map (f x :: ·) = _
    rw [asBools_map f l]; rfl
theorem all_id {α : Type} (f : α → Bool) (l : List α) : (l.map f).all id = l.all f := by
  induction l with
  | nil => rfl
  | cons x l ih => rw [List.map_cons, List.all_cons, List.all_cons, ih]; rfl
theorem filter_true {α : Type} (l : List α) : l.filter (fun _ => true) = l := List.filter_eq_self.mpr fun _ _ => rfl
theorem enough_ok {ws : List Int} {t : List Key} {each : Bool} (k : Nat) (S : Sto) : sem fns (k + 1) 3 [.d (.list (ws.map enI)), .d (eT t), .d (eR each)] S = some (.d (.bool (enough ws t each)), S) := by
  rw [semS rfl]
  cases each with
  | false =>
    have h : decide (0 < ws.length) = !ws.isEmpty := by cases ws <;> simp
    simp [runF, envOf, cd_are_enough, enough, h]
  | true =>
    have hl : evE (sem fns k) clsT (.comp (.cmp .isin (.ix (.var 3) (.cst (.int 1))) (.var 0)) (.nm 3) (.seq (.var 1)) none) [some (.d (.list (ws.map enI))), some (.d (eT t)), some (.d (eR true)), none] S = some (.d (.list (t.map fun q => .bool (decide (q.2 ∈ ws)))), S) :=
      comp_all (enc := enP) (by simp [eT]) fun q hq => ⟨_, rfl, by simp [wipeE, tgSlots]⟩
    simp [runF, envOf, cd_are_enough, enough, hl, asBools_map, all_id]
theorem eqv_nil (l : List Int) : PyData.eqv (.list (l.map enI)) (.list []) = decide (l = []) := by
  have h := eqvAll_map (f := enI) eqv_int l []
  show PyData.eqvAll (l.map enI) [] = _
  simpa using h
theorem c_neNil (l : List Int) : cmpD .ne (.list (l.map enI)) (.list []) = some (!decide (l = [])) := by
  rw [d_ne, shNL, show SeqAt.shaped (.list []) = true from by decide +kernel, eqv_nil]; rfl
theorem covers_ok {ws : List Int} {t : List Key} {each : Bool} (k : Nat) (S : Sto) : sem fns (k + 1) 56 [.d (.list (ws.map enI)), .d (eT t), .d (eR each)] S = some (.d (.bool (enough ws t each)), S) := by
  rw [semS rfl]
  cases each with
  | false =>
    have h : (!decide (ws = [])) = !ws.isEmpty := by cases ws <;> simp
    simp [runF, envOf, cd__law_covers, enough, c_neNil, h]
  | true =>
    have hl : evE (sem fns k) clsT (.comp (.cmp .isin (.ix (.var 3) (.cst (.int 1))) (.var 0)) (.nm 3) (.seq (.var 1)) none) [some (.d (.list (ws.map enI))), some (.d (eT t)), some (.d (eR true)), none] S = some (.d (.list (t.map fun q => .bool (decide (q.2 ∈ ws)))), S) :=
      comp_all (enc := enP) (by simp [eT]) fun q hq => ⟨_, rfl, by simp [wipeE, tgSlots]⟩
    simp [runF, envOf, cd__law_covers, enough, hl, asBools_map, all_id]
end VI.M
set_option Elab.async false
set_option linter.all false
set_option maxRecDepth 100000
/-! M4: what a version believes; zone_of, step_between. -/
namespace VI.M
open PySem
section
set_option autoImplicit true
variable {call : Nat → List W → Sto → Option (W × Sto)} {env : Env} {S : Sto}
@[simp] theorem Ta_nil : evTas call clsT [] [] env S = some (env, S) := by rw [evTas]
@[simp] theorem Ta_nm : evTas call clsT (.nm i :: ts) (x :: xs) env S = evTas call clsT ts xs (env.set i (some (.d x))) S := by rw [evTas]
@[simp] theorem Ta_fld : evTas call clsT (.fld o n :: ts) (x :: xs) env S = (bnd (evE call clsT o env S) fun u S1 => match u with
    | .c j => (match S1[j]? with
      | some (.ins cl fs) => gd (decide (fs.length < 1000) && notOwn fs n) (evTas call clsT ts xs env (S1.set j (.ins cl (setFld n false x fs))))
      | _ => none)
    | _ => none) := by first | (rw [evTas]; done) | (rw [evTas]; rfl)
end
def kB (v : Ver) (q : Key) : Bool := decide (q ∈ v.keys) && (decide (q.1 ∈ v.heads) && !decide (q.1 ∈ v.gone))
def keysB (v : Ver) (t : List Key) (each : Bool) : Bool := enough ((t.filter (kB v)).map (·.2)) t each
def rB (v s : Ver) (q : Key) : Bool := decide (q.1 ∈ v.marks) && !decide (q.1 ∈ s.gone)
def restB (v s : Ver) (t : List Key) (each : Bool) : Bool := enough ((s.keys.filter (rB v s)).map (·.2)) t each
theorem maps_eq (l : List Key) : (l.map fun q => PyData.int q.2) = (l.map (·.2)).map enI := by rw [List.map_map]; rfl
theorem keys_ok {v : Ver} {t : List Key} {each : Bool} (k : Nat) (S : Sto) : sem fns (k + 2) 57 [.d (eV v), .d (eT t), .d (eR each)] S = some (.d (.bool (keysB v t each)), S) := by
  rw [semS rfl]
  have hl : evE (sem fns (k + 1)) clsT (.comp (.ix (.var 9) (.cst (.int 1))) (.nm 9) (.seq (.var 1)) (some (.and [(.cmp .isin (.var 9) (.var 4)), (.cmp .isin (.ix (.var 9) (.cst (.int 0))) (.var 5)), (.cmp .notin (.ix (.var 9) (.cst (.int 0))) (.var 8))])))
      [some (.d (eV v)), some (.d (eT t)), some (.d (eR each)), none, some (.d (eT v.keys)), some (.d (eN v.heads)), some (.d (eO v.trust)), some (.d (eN v.marks)), some (.d (eN v.gone)), none] S = some (.d (.list ((t.filter (kB v)).map fun q => .int q.2)), S) :=
    comp_ok (enc := enP) (by simp [eT]) fun q hq => ⟨_, rfl, by
      by_cases h1 : q ∈ v.keys <;> by_cases h2 : q.1 ∈ v.heads <;> simp [wipeE, tgSlots, kB, h1, h2], fun _ => by simp [wipeE, tgSlots]⟩
  rw [maps_eq] at hl
  have hu : evS (sem fns (k + 1)) clsT (.unp [(.nm 4), (.nm 5), (.nm 6), (.nm 7), (.nm 8)] (.var 0)) [some (.d (eV v)), some (.d (eT t)), some (.d (eR each)), none, none, none, none, none, none, none] S
      = some (.nx [some (.d (eV v)), some (.d (eT t)), some (.d (eR each)), none, some (.d (eT v.keys)), some (.d (eN v.heads)), some (.d (eO v.trust)), some (.d (eN v.marks)), some (.d (eN v.gone)), none], S) := by simp [eV]
  simp [runF, envOf, cd__law_keys_ok, hl, hu, covers_ok, keysB, -S_unp, -List.map_map]
theorem fzeV (v : Ver) (k : Nat) (S : Sto) : sem fns (k + 4) 0 [.d (eV v)] S = some (.d (eV v), S) := frozen_ok (fzV v) k S
theorem fzeT (t : List Key) (k : Nat) (S : Sto) : sem fns (k + 3) 0 [.d (eT t)] S = some (.d (eT t), S) := frozen_ok (fzT t) k S
theorem keysBel_ok {v : Ver} {t : List Key} {each : Bool} (k : Nat) (S : Sto) : sem fns (k + 6) 4 [.d (eV v), .d (eT t), .d (eR each)] S = some (.d (.bool (keysB v t each)), S) := by
  rw [semS rfl]
  have hl : evE (sem fns (k + 5)) clsT (.comp (.ix (.var 10) (.cst (.int 1))) (.nm 10) (.seq (.var 3)) (some (.and [(.cmp .isin (.var 10) (.var 5)), (.cmp .isin (.ix (.var 10) (.cst (.int 0))) (.var 6)), (.cmp .notin (.ix (.var 10) (.cst (.int 0))) (.var 9))])))
      [some (.d (eV v)), some (.d (eT t)), some (.d (eR each)), some (.d (eT t)), none, some (.d (eT v.keys)), some (.d (eN v.heads)), some (.d (eO v.trust)), some (.d (eN v.marks)), some (.d (eN v.gone)), none] S = some (.d (.list ((t.filter (kB v)).map fun q => .int q.2)), S) :=
    comp_ok (enc := enP) (by simp [eT]) fun q hq => ⟨_, rfl, by
      by_cases h1 : q ∈ v.keys <;> by_cases h2 : q.1 ∈ v.heads <;> simp [wipeE, tgSlots, kB, h1, h2], fun _ => by simp [wipeE, tgSlots]⟩
  rw [maps_eq] at hl
  have h0 := fzeV v (k + 1) S
  have hu : evS (sem fns (k + 5)) clsT (.unp [(.nm 5), (.nm 6), (.nm 7), (.nm 8), (.nm 9)] (.fc 0 [(.var 0)])) [some (.d (eV v)), some (.d (eT t)), some (.d (eR each)), none, none, none, none, none, none, none, none] S
      = some (.nx [some (.d (eV v)), some (.d (eT t)), some (.d (eR each)), none, none, some (.d (eT v.keys)), some (.d (eN v.heads)), some (.d (eO v.trust)), some (.d (eN v.marks)), some (.d (eN v.gone)), none], S) := by
    simp [h0]
    simp [eV]
  simp [runF, envOf, cd_keys_believed, hl, hu, fzeT t (k + 2) S, enough_ok, keysB, -S_unp, -List.map_map]
theorem restBel_ok {v s : Ver} {t : List Key} {each : Bool} (k : Nat) (S : Sto) : sem fns (k + 6) 5 [.d (eV v), .d (eV s), .d (eT t), .d (eR each)] S = some (.d (.bool (restB v s t each)), S) := by
  rw [semS rfl]
  have hl : evE (sem fns (k + 5)) clsT (.comp (.ix (.var 8) (.cst (.int 1))) (.nm 8) (.seq (.var 6)) (some (.and [(.cmp .isin (.ix (.var 8) (.cst (.int 0))) (.var 5)), (.cmp .notin (.ix (.var 8) (.cst (.int 0))) (.var 7))])))
      [some (.d (eV v)), some (.d (eV s)), some (.d (eT t)), some (.d (eR each)), none, some (.d (eN v.marks)), some (.d (eT s.keys)), some (.d (eN s.gone)), none] S = some (.d (.list ((s.keys.filter (rB v s)).map fun q => .int q.2)), S) :=
    comp_ok (enc := enP) (by simp [eT]) fun q hq => ⟨_, rfl, by
      by_cases h1 : q.1 ∈ s.gone <;> by_cases h2 : q.1 ∈ v.marks <;> simp [wipeE, tgSlots, rB, h1, h2], fun _ => by simp [wipeE, tgSlots]⟩
  rw [maps_eq] at hl
  simp [runF, envOf, cd_rest_believed, hl, fzeV v (k + 1) S, fzeV s (k + 1) S, fzeT t (k + 2) S, enough_ok, restB, -List.map_map]
theorem rest_ok {v s : Ver} {t : List Key} {each : Bool} (k : Nat) (S : Sto) : sem fns (k + 2) 58 [.d (eV v), .d (eV s), .d (eT t), .d (eR each)] S = some (.d (.bool (restB v s t each)), S) := by
  rw [semS rfl]
  have hl : evE (sem fns (k + 1)) clsT (.comp (.ix (.var 5) (.cst (.int 1))) (.nm 5) (.seq (.ix (.var 1) (.cst (.int 0)))) (some (.and [(.cmp .notin (.ix (.var 5) (.cst (.int 0))) (.ix (.var 1) (.cst (.int 4)))), (.cmp .isin (.ix (.var 5) (.cst (.int 0))) (.ix (.var 0) (.cst (.int 3))))])))
      [some (.d (eV v)), some (.d (eV s)), some (.d (eT t)), some (.d (eR each)), none, none] S = some (.d (.list ((s.keys.filter (rB v s)).map fun q => .int q.2)), S) :=
    comp_ok (enc := enP) (by simp [eT]) fun q hq => ⟨_, rfl, by
      by_cases h1 : q.1 ∈ s.gone <;> by_cases h2 : q.1 ∈ v.marks <;> simp [wipeE, tgSlots, rB, h1, h2], fun _ => by simp [wipeE, tgSlots]⟩
  rw [maps_eq] at hl
  simp [runF, envOf, cd__law_rest_ok, hl, covers_ok, restB, -List.map_map]
def stepB (one : Bool) (e l : Nat) : Option Int := if !one || decide (e = l) then some 0 else if e < l then some 1 else none
theorem step_ok {one : Bool} {e l : Nat} (k : Nat) (S : Sto) : sem fns (k + 1) 12 [.d (.bool one), .d (.int e), .d (.int l)] S = some (.d (eOI (stepB one e l)), S) := by
  rw [semS rfl]
  cases one
  · simp [runF, envOf, cd_step_between, stepB, eOI]
  · by_cases h : e = l
    · subst h; simp [runF, envOf, cd_step_between, stepB, eOI]
    · have h' : ¬ (e : Int) = (l : Int) := by omega
      by_cases h2 : e < l
      · have h3 : (e : Int) < (l : Int) := by omega
        simp [runF, envOf, cd_step_between, stepB, eOI, h, h', h2, h3]
      · have h3 : ¬ (e : Int) < (l : Int) := by omega
        simp [runF, envOf, cd_step_between, stepB, eOI, h, h', h2, h3]
end VI.M
set_option Elab.async false
set_option linter.all false
set_option maxRecDepth 100000
/-! M5: stretches of time: joined, behind. -/
namespace VI.M
open PySem
def Cov (s : List Key) (t : Int) : Prop := ∃ p, p ∈ s ∧ p.1 ≤ t ∧ t ≤ p.2
def NE (s : List Key) : Prop := ∀ p, p ∈ s → p.1 ≤ p.2
theorem leP_trans (a b c : Key) (h1 : leP a b = true) (h2 : leP b c = true) : leP a c = true := by
  simp [leP] at h1 h2 ⊢; omega
theorem leP_total (a b : Key) : (leP a b || leP b a) = true := by
  simp [leP]; omega
theorem leP_fst {a b : Key} (h : leP a b = true) : a.1 ≤ b.1 := by
  simp [leP] at h; omega
theorem srtP_sorted (s : List Key) : (srtP s).Pairwise fun a b => a.1 ≤ b.1 :=
  (List.pairwise_mergeSort (le := leP) leP_trans leP_total s).imp fun h => leP_fst h
theorem mem_srtP {s : List Key} {p : Key} : p ∈ srtP s ↔ p ∈ s := (List.mergeSort_perm s leP).mem_iff
theorem len_srtP (s : List Key) : (srtP s).length = s.length := List.length_mergeSort s
def jn (acc : List Key) (p : Key) : List Key := match acc.getLast? with
  | some l => if p.1 ≤ l.2 + 1 then acc.dropLast ++ [(l.1, if p.2 > l.2 then p.2 else l.2)] else acc ++ [p]
  | none => [p]
def joinB (s : List Key) : List Key := (srtP s).foldl jn []
theorem asPairs_map (s : List Key) : asPairs (s.map enP) = some s := by
  induction s with
  | nil => rfl
  | cons p s ih =>
    rw [List.map_cons]
    show (match enP p with | .tuple [.int a, .int b] => (asPairs (s.map enP)).map ((a, b) :: ·) | _ => none) = _
    rw [ih]; rfl
theorem jn_len (acc : List Key) (p : Key) : (jn acc p).length ≤ acc.length + 1 := by
  unfold jn
  cases h : acc.getLast? with
  | none => simp
  | some l =>
    have h1 : 0 < acc.length := by cases acc with
      | nil => simp at h
      | cons => simp
    simp only
    split <;> simp <;> omega
theorem fold_len (l acc : List Key) : (l.foldl jn acc).length ≤ acc.length + l.length := by
  induction l generalizing acc with
  | nil => simp
  | cons p l ih =>
    have := ih (jn acc p); have := jn_len acc p
    simp only [List.foldl_cons, List.length_cons]; omega
theorem snoc_cases (l : List Key) : l = [] ∨ ∃ a x, l = a ++ [x] := by
  rcases List.eq_nil_or_concat l with h | ⟨a, x, h⟩
  · exact .inl h
  · exact .inr ⟨a, x, by rw [h]; simp⟩
theorem put_last (xs : List D) (x v : D) : putOwn (.list (xs ++ [x])) (.int (-1)) v = some (.list (xs ++ [v])) := by
  have e : L2.ixN (xs ++ [x]).length (-1) = some xs.length := by
    unfold L2.ixN
    rw [if_neg (by omega), if_pos (by simp; omega)]
    congr 1
    simp; omega
  show ob (L2.ixN (xs ++ [x]).length (-1)) _ = _
  rw [e]
  simp [ob]
theorem app_ok {xs : List D} (h : xs.length < sizeLine) (y : D) : appD (.list xs) y = some (.list (xs ++ [y])) := by
  simp [appD, gd, h]
theorem joined_ok {s : List Key} (hs : s.length < sizeLine) (k : Nat) (S : Sto) : sem fns (k + 1) 10 [.d (.list (s.map enP))] S = some (.d (.list ((joinB s).map enP)), S) := by
  rw [semS rfl]
  have hl : ∃ env' S', evS (sem fns k) clsT (.for_ (.tp [(.nm 2), (.nm 3)]) (.seq (.b1 .sorted (.var 0))) [(.ifs (.and [(.cmp .gt (.b1 .len (.var 1)) (.cst (.int 0))), (.cmp .le (.var 2) (.bin .add (.ix (.ix (.var 1) (.neg (.cst (.int 1)))) (.cst (.int 1))) (.cst (.int 1))))]) [(.asg (.ix 1 (.neg (.cst (.int 1)))) (.tup [(.ix (.ix (.var 1) (.neg (.cst (.int 1)))) (.cst (.int 0))), (.b2 .max (.ix (.ix (.var 1) (.neg (.cst (.int 1)))) (.cst (.int 1))) (.var 3))]))] [(.app 1 (.tup [(.var 2), (.var 3)]))])])
      [some (.d (.list (s.map enP))), some (.own (.list [])), none, none] S = some (.nx env', S') ∧ (S' = S ∧ ∃ a b, env' = [some (.d (.list (s.map enP))), some (.own (.list ((joinB s).map enP))), a, b]) := by
    have hi : evIt (sem fns k) clsT (.seq (.b1 .sorted (.var 0))) [some (.d (.list (s.map enP))), some (.own (.list [])), none, none] S = some ((srtP s).map enP, S) := by
      simp [b1D, asPairs_map]
    rw [S_for, hi]
    refine for_nx (fun dn env' S' => S' = S ∧ ∃ a b, env' = [some (.d (.list (s.map enP))), some (.own (.list ((dn.foldl jn []).map enP))), a, b]) ⟨rfl, _, _, rfl⟩ fun dn p rest env1 S1 hd hp => ?_
    obtain ⟨rfl, a, b, rfl⟩ := hp
    have hlen : (dn.foldl jn []).length < sizeLine := by
      have h1 := fold_len dn []
      have h2 := len_srtP s
      rw [hd] at h2
      simp at h1 h2
      omega
    rw [List.foldl_append, List.foldl_cons, List.foldl_nil]
    generalize dn.foldl jn [] = acc at hlen ⊢
    refine ⟨_, _, _, rfl, ?_, rfl, some (.d (.int p.1)), some (.d (.int p.2)), rfl⟩
    rcases snoc_cases acc with rfl | ⟨c, l, rfl⟩
    · simp [appD, gd, jn, sizeLine]; rfl
    · have e1 : ixD (.list ((c ++ [l]).map enP)) (.int (-1)) = some (enP l) := by
        rw [List.map_append]; exact atI_last _ _
      simp at e1 hlen
      by_cases h : p.1 ≤ l.2 + 1
      · simp [e1, h, jn]
        rw [put_last]; rfl
      · simp [e1, h, jn]
        rw [app_ok (by simpa using hlen)]; simp; rfl
  obtain ⟨env', S', h1, rfl, a, b, rfl⟩ := hl
  simp [runF, envOf, cd_joined, h1]
/-- what joined says: the same times -/
def Lo (acc : List Key) (b : Int) : Prop := ∀ q, q ∈ acc → q.1 ≤ b
theorem cov_app (a b : List Key) (t : Int) : Cov (a ++ b) t ↔ Cov a t ∨ Cov b t := by
  unfold Cov
  constructor
  · rintro ⟨p, hp, h⟩
    rcases List.mem_append.mp hp with h1 | h1
    · exact .inl ⟨p, h1, h⟩
    · exact .inr ⟨p, h1, h⟩
  · rintro (⟨p, hp, h⟩ | ⟨p, hp, h⟩)
    · exact ⟨p, List.mem_append.mpr (.inl hp), h⟩
    · exact ⟨p, List.mem_append.mpr (.inr hp), h⟩
theorem cov_one (p : Key) (t : Int) : Cov [p] t ↔ p.1 ≤ t ∧ t ≤ p.2 := by simp [Cov]
theorem cov_cons (p : Key) (l : List Key) (t : Int) : Cov (p :: l) t ↔ (p.1 ≤ t ∧ t ≤ p.2) ∨ Cov l t := by
  simp [Cov]
theorem jn_spec {acc : List Key} {p : Key} (hn : NE acc) (hp : p.1 ≤ p.2) (hl : Lo acc p.1) : NE (jn acc p) ∧ Lo (jn acc p) p.1 ∧ jn acc p ≠ [] ∧ ∀ t, Cov (jn acc p) t ↔ Cov acc t ∨ (p.1 ≤ t ∧ t ≤ p.2) := by
  rcases snoc_cases acc with rfl | ⟨c, l, rfl⟩
  · refine ⟨fun q hq => ?_, fun q hq => ?_, by simp [jn], fun t => ?_⟩
    · simp [jn] at hq; subst hq; exact hp
    · simp [jn] at hq; subst hq; omega
    · show Cov [p] t ↔ _
      rw [cov_one]; simp [Cov]
  · have h1 := hn l (by simp)
    have h2 := hl l (by simp)
    by_cases h : p.1 ≤ l.2 + 1
    · have e : jn (c ++ [l]) p = c ++ [(l.1, if p.2 > l.2 then p.2 else l.2)] := by simp [jn, h]
      rw [e]
      refine ⟨fun q hq => ?_, fun q hq => ?_, by simp, fun t => ?_⟩
      · rcases List.mem_append.mp hq with hq | hq
        · exact hn q (List.mem_append.mpr (.inl hq))
        · simp at hq; subst hq; simp only; split <;> omega
      · rcases List.mem_append.mp hq with hq | hq
        · exact hl q (List.mem_append.mpr (.inl hq))
        · simp at hq; subst hq; exact h2
      · rw [cov_app, cov_app, cov_one, cov_one, or_assoc]
        refine or_congr Iff.rfl ?_
        simp only
        split <;> constructor <;> intro z <;> omega
    · have e : jn (c ++ [l]) p = c ++ [l] ++ [p] := by simp [jn, h]
      rw [e]
      refine ⟨fun q hq => ?_, fun q hq => ?_, by simp, fun t => ?_⟩
      · rcases List.mem_append.mp hq with hq | hq
        · exact hn q hq
        · simp at hq; subst hq; exact hp
      · rcases List.mem_append.mp hq with hq | hq
        · exact hl q hq
        · simp at hq; subst hq; omega
      · rw [cov_app, cov_one]
theorem fold_spec : ∀ (l acc : List Key), NE l → NE acc → (l.Pairwise fun a b => a.1 ≤ b.1) → (∀ p, p ∈ l → Lo acc p.1) → NE (l.foldl jn acc) ∧ (∀ t, Cov (l.foldl jn acc) t ↔ Cov acc t ∨ Cov l t)
  | [], acc, _, hn, _, _ => ⟨hn, fun t => by simp [Cov]⟩
  | p :: l, acc, hl, hn, hs, ha => by
    obtain ⟨h1, h2, _, h4⟩ := jn_spec hn (hl p (List.mem_cons_self ..)) (ha p (List.mem_cons_self ..))
    rw [List.pairwise_cons] at hs
    obtain ⟨h5, h6⟩ := fold_spec l (jn acc p) (fun q hq => hl q (List.mem_cons_of_mem _ hq)) h1 hs.2 fun q hq r hr => Int.le_trans (h2 r hr) (hs.1 q hq)
    refine ⟨h5, fun t => ?_⟩
    rw [List.foldl_cons, h6, h4, cov_cons, or_assoc]
theorem joinB_spec {s : List Key} (h : NE s) : NE (joinB s) ∧ ∀ t, Cov (joinB s) t ↔ Cov s t := by
  obtain ⟨h1, h2⟩ := fold_spec (srtP s) [] (fun p hp => h p (mem_srtP.mp hp)) (fun _ hq => by cases hq) (srtP_sorted s) fun _ _ _ hq => by cases hq
  refine ⟨h1, fun t => (h2 t).trans ?_⟩
  unfold Cov
  constructor
  · rintro (⟨_, hp, _⟩ | ⟨p, hp, z⟩)
    · cases hp
    · exact ⟨p, mem_srtP.mp hp, z⟩
  · rintro ⟨p, hp, z⟩
    exact .inr ⟨p, mem_srtP.mpr hp, z⟩
theorem joinB_len (s : List Key) : (joinB s).length ≤ s.length := by
  have h := fold_len (srtP s) []
  rw [len_srtP] at h
  simpa [joinB] using h
/-! behind -/
def behF (life step : Int) (w p : Key) : Key := (if p.1 + step > w.1 then p.1 + step else w.1, if p.2 + life - 1 < w.2 then p.2 + life - 1 else w.2)
def behB (s : List Key) (life step : Int) (w : Key) : List Key := if step ≥ life then [] else (s.map (behF life step w)).filter fun p => decide (p.1 ≤ p.2)
theorem map_enP {α : Type} (f : α → Key) (s : List α) : (s.map fun p => enP (f p)) = (s.map f).map enP := by rw [List.map_map]; rfl
theorem behB_spec {s : List Key} {life step : Int} {w : Key} (h : NE s) : NE (behB s life step w) ∧ ∀ t, Cov (behB s life step w) t ↔ (w.1 ≤ t ∧ t ≤ w.2) ∧ ∃ e, Cov s e ∧ e + step ≤ t ∧ t < e + life := by
  unfold behB
  by_cases hs : step ≥ life
  · rw [if_pos hs]
    refine ⟨fun _ hp => (by cases hp), fun t => ⟨fun ⟨_, hp, _⟩ => (by cases hp), fun ⟨_, e, _, h1, h2⟩ => (by omega)⟩⟩
  · rw [if_neg hs]
    refine ⟨fun p hp => by simpa using (List.mem_filter.mp hp).2, fun t => ⟨?_, ?_⟩⟩
    · rintro ⟨p, hp, h1, h2⟩
      obtain ⟨hp, _⟩ := List.mem_filter.mp hp
      obtain ⟨q, hq, rfl⟩ := List.mem_map.mp hp
      have hq1 := h q hq
      simp only [behF] at h1 h2
      refine ⟨by split at h1 <;> split at h2 <;> omega, ?_⟩
      have h3 : q.1 + step ≤ t := by split at h1 <;> omega
      have h4 : t ≤ q.2 + life - 1 := by split at h2 <;> omega
      by_cases h5 : q.2 + step ≤ t
      · exact ⟨q.2, ⟨q, hq, by omega, by omega⟩, h5, by omega⟩
      · exact ⟨t - step, ⟨q, hq, by omega, by omega⟩, by omega, by omega⟩
    · rintro ⟨⟨hw1, hw2⟩, e, ⟨q, hq, h1, h2⟩, h3, h4⟩
      refine ⟨_, List.mem_filter.mpr ⟨List.mem_map.mpr ⟨q, hq, rfl⟩, ?_⟩, ?_, ?_⟩
      · refine decide_eq_true ?_
        simp only [behF]
        split <;> split <;> omega
      · simp only [behF]; split <;> omega
      · simp only [behF]; split <;> omega
theorem behind_ok {s : List Key} {life step : Int} {w : Key} (k : Nat) (S : Sto) : sem fns (k + 1) 11 [.d (.list (s.map enP)), .d (.int life), .d (.int step), .d (enP w)] S = some (.d (.list ((behB s life step w).map enP)), S) := by
  rw [semS rfl]
  by_cases h : step ≥ life
  · have h' : life ≤ step := h
    simp [runF, envOf, cd_behind, h', behB]
  · have h' : ¬ life ≤ step := h
    have hl : evE (sem fns k) clsT (.comp (.tup [(.b2 .max (.ix (.var 3) (.cst (.int 0))) (.bin .add (.var 5) (.var 2))), (.b2 .min (.ix (.var 3) (.cst (.int 1))) (.bin .sub (.bin .add (.var 6) (.var 1)) (.cst (.int 1))))]) (.tp [(.nm 5), (.nm 6)]) (.seq (.var 0)) none)
        [some (.d (.list (s.map enP))), some (.d (.int life)), some (.d (.int step)), some (.d (enP w)), none, none, none] S = some (.d (.list (s.map fun p => enP (behF life step w p))), S) :=
      comp_all (enc := enP) (by simp) fun q hq => ⟨_, rfl, by simp [wipeE, tgSlots, tgsSlots]; rfl⟩
    have hl2 (u : List Key) : evE (sem fns k) clsT (.comp (.tup [(.var 5), (.var 6)]) (.tp [(.nm 5), (.nm 6)]) (.seq (.var 4)) (some (.cmp .le (.var 5) (.var 6))))
        [some (.d (.list (s.map enP))), some (.d (.int life)), some (.d (.int step)), some (.d (enP w)), some (.d (.list (u.map enP))), none, none] S = some (.d (.list ((u.filter fun p => decide (p.1 ≤ p.2)).map enP)), S) :=
      comp_ok (enc := enP) (by simp) fun q hq => ⟨_, rfl, by simp [wipeE, tgSlots, tgsSlots], fun _ => by simp [wipeE, tgSlots, tgsSlots]; rfl⟩
    rw [map_enP (behF life step w)] at hl
    simp [runF, envOf, cd_behind, h', hl, hl2, behB, -List.map_map]
end VI.M
set_option Elab.async false
set_option linter.all false
set_option maxRecDepth 100000
/-! M6: Copies, the small methods. -/
namespace VI.M
open PySem
def copF (w : Wld) (ts ks rs : List D) : List (Str × Bool × D) := [("own_zones", false, .tuple (w.zones.map eZ)), ("own_rule", false, eR w.each), ("own_trusts", true, .list ts), ("own_keys", true, .list ks), ("own_rests", true, .list rs)]
def Cop (S : Sto) (i : Nat) (w : Wld) (ts ks rs : List D) : Prop := S[i]? = some (.ins 1 (copF w ts ks rs))
section
variable {S : Sto} {i : Nat} {w : Wld} {ts ks rs : List D} {p : Nat}
theorem fo_zones (h : Cop S i w ts ks rs) : fldOf S i "own_zones" = some (1, false, .tuple (w.zones.map eZ)) := by unfold fldOf; rw [h]; rfl
theorem fo_rule (h : Cop S i w ts ks rs) : fldOf S i "own_rule" = some (1, false, eR w.each) := by unfold fldOf; rw [h]; rfl
theorem fo_trusts (h : Cop S i w ts ks rs) : fldOf S i "own_trusts" = some (1, true, .list ts) := by unfold fldOf; rw [h]; rfl
theorem fo_keys (h : Cop S i w ts ks rs) : fldOf S i "own_keys" = some (1, true, .list ks) := by unfold fldOf; rw [h]; rfl
theorem fo_rests (h : Cop S i w ts ks rs) : fldOf S i "own_rests" = some (1, true, .list rs) := by unfold fldOf; rw [h]; rfl
theorem site_ok (h : Cop S i w ts ks rs) (hp : p < w.zones.length) (k : Nat) : sem fns (k + 1) 14 [.c i, .d (.int p)] S = some (.d (eZ w.zones[p]), S) := by
  rw [semS rfl]
  simp [runF, envOf, cd_Copies_site, fo_zones h, ix_nat, hp]
theorem rule_ok (h : Cop S i w ts ks rs) (k : Nat) : sem fns (k + 1) 15 [.c i] S = some (.d (eR w.each), S) := by
  rw [semS rfl]
  simp [runF, envOf, cd_Copies_rule, fo_rule h]
theorem ctold_ok (h : Cop S i w ts ks rs) (hp : p < w.zones.length) {n : Nat} (hn : n < w.zones[p].line.length) (k : Nat) : sem fns (k + 1) 16 [.c i, .d (.int p), .d (.int n)] S = some (.d (eV w.zones[p].line[n].2), S) := by
  rw [semS rfl]
  simp [runF, envOf, cd_Copies_told, fo_zones h, ix_nat, hp, hn]
theorem ix_natL (xs : List D) (n : Nat) : ixD (.list xs) (.int (n : Int)) = xs[n]? := atI_nat xs n
theorem numbers_ok (h : Cop S i w ts ks rs) (hp : p < w.zones.length) (hb : w.zones[p].line.length ≤ 1000) (k : Nat) : sem fns (k + 1) 17 [.c i, .d (.int p)] S = some (.d (.list ((List.range w.zones[p].line.length).map fun (n : Nat) => .int (n : Int))), S) := by
  rw [semS rfl]
  have e : itemsOf 1 (.int (w.zones[p].line.length : Int)) = some ((List.range w.zones[p].line.length).map fun (n : Nat) => PyData.int (n : Int)) := by
    show gd (decide _ && decide _) _ = _
    rw [decide_eq_true (by omega), decide_eq_true (by omega)]
    rfl
  simp [runF, envOf, cd_Copies_numbers, fo_zones h, ix_nat, hp, e]
def winB (z : Zone) (n : Nat) : Key := (bgn z n, match endO z n with
  | none => 1000000000
  | some e => e - 1)
theorem window_ok (h : Cop S i w ts ks rs) (hp : p < w.zones.length) {n : Nat} (hn : n < w.zones[p].line.length) (k : Nat) : sem fns (k + 2) 18 [.c i, .d (.int p), .d (.int n)] S = some (.d (enP (winB w.zones[p] n)), S) := by
  rw [semS rfl]
  cases he : endO w.zones[p] n with
  | none => simp [runF, envOf, cd_Copies_window, fo_zones h, ix_nat, hp, begin_ok hn, end_ok hn, he, eOI, winB]; rfl
  | some e => simp [runF, envOf, cd_Copies_window, fo_zones h, ix_nat, hp, begin_ok hn, end_ok hn, he, eOI, winB]; rfl
theorem trusts_ok (h : Cop S i w ts ks rs) {x : D} (hx : ts[p]? = some x) (k : Nat) : sem fns (k + 1) 19 [.c i, .d (.int p)] S = some (.d x, S) := by
  rw [semS rfl]
  simp [runF, envOf, cd_Copies_trusts, fo_trusts h, ix_natL, hx, rd]
theorem keys_get (h : Cop S i w ts ks rs) {x : D} (hx : ks[p]? = some x) (k : Nat) : sem fns (k + 1) 20 [.c i, .d (.int p)] S = some (.d x, S) := by
  rw [semS rfl]
  simp [runF, envOf, cd_Copies_keys, fo_keys h, ix_natL, hx, rd]
theorem rests_get (h : Cop S i w ts ks rs) {x : D} (hx : rs[p]? = some x) (k : Nat) : sem fns (k + 1) 21 [.c i, .d (.int p)] S = some (.d x, S) := by
  rw [semS rfl]
  simp [runF, envOf, cd_Copies_rests, fo_rests h, ix_natL, hx, rd]
end
end VI.M
set_option Elab.async false
set_option linter.all false
set_option maxRecDepth 100000
/-! M7: typed dicts. -/
namespace VI.M
open PySem
structure KeyOk {α : Type} (kf : α → D) (tup : Bool) : Prop where
  kind : ∀ a, ∃ q, kOf (kf a) = some q ∧ (match q with | .inr _ => tup = true | .inl _ => tup = false)
  inj : ∀ a b, kOf (kf a) = kOf (kf b) → a = b
def eD {α β : Type} (kf : α → D) (vf : β → D) (l : List (α × β)) : List (D × D) := l.map fun q => (kf q.1, vf q.2)
def upd {α β : Type} [DecidableEq α] (l : List (α × β)) (a : α) (b : β) : List (α × β) := if a ∈ l.map (·.1) then l.map fun q => if q.1 = a then (q.1, b) else q else l ++ [(a, b)]
section
variable {α β : Type} [DecidableEq α] {kf : α → D} {vf : β → D} {tup : Bool}
theorem homog_ok (h : KeyOk kf tup) (l : List (α × β)) (a : α) {q : KT} (hq : kOf (kf a) = some q) : homog (eD kf vf l) q = true := by
  unfold homog eD
  rw [List.all_map, List.all_eq_true]
  rintro x _
  obtain ⟨q1, h1, h2⟩ := h.kind x.1
  obtain ⟨q2, h3, h4⟩ := h.kind a
  rw [hq] at h3
  cases h3
  show (match kOf (kf x.1) with | some q' => sameK q' q | none => false) = true
  rw [h1]
  cases q1 <;> cases q <;> simp_all [sameK]
theorem find_ok (h : KeyOk kf tup) (a : α) : ∀ l : List (α × β), dFind (eD kf vf l) (kf a) = (l.find? fun q => decide (q.1 = a)).map fun q => vf q.2
  | [] => rfl
  | q :: l => by
    have ih := find_ok h a l
    unfold dFind eD at ih ⊢
    rw [List.map_cons, List.find?_cons, List.find?_cons]
    by_cases e : q.1 = a
    · have e2 : kOf (kf q.1) = kOf (kf a) := by rw [e]
      rw [decide_eq_true e, decide_eq_true e2]; rfl
    · have e2 : ¬ kOf (kf q.1) = kOf (kf a) := fun z => e (h.inj _ _ z)
      rw [decide_eq_false e, decide_eq_false e2]; exact ih
theorem dGet_ok (h : KeyOk kf tup) (l : List (α × β)) (a : α) : dGet (eD kf vf l) (kf a) = (l.find? fun q => decide (q.1 = a)).map fun q => vf q.2 := by
  obtain ⟨q, hq, _⟩ := h.kind a
  unfold dGet
  rw [hq]
  show gd (homog (eD kf vf l) q) _ = _
  rw [homog_ok h l a hq, find_ok h a l]; rfl
theorem dGetD_ok (h : KeyOk kf tup) (l : List (α × β)) (a : α) (x : D) : dGetD (eD kf vf l) (kf a) x = some (((l.find? fun q => decide (q.1 = a)).map fun q => vf q.2).getD x) := by
  obtain ⟨q, hq, _⟩ := h.kind a
  unfold dGetD
  rw [hq]
  show gd (homog (eD kf vf l) q) _ = _
  rw [homog_ok h l a hq, find_ok h a l]; rfl
theorem has_ok (h : KeyOk kf tup) (l : List (α × β)) (a : α) : dHas (eD kf vf l) (kf a) = decide (a ∈ l.map (·.1)) := by
  unfold dHas eD
  rw [List.any_map]
  induction l with
  | nil => rfl
  | cons q l ih =>
    rw [List.any_cons, ih]
    by_cases e : q.1 = a
    · simp [e]
    · have e2 : ¬ kOf (kf q.1) = kOf (kf a) := fun z => e (h.inj _ _ z)
      have e3 : ¬ a = q.1 := fun z => e z.symm
      by_cases m : a ∈ l.map (·.1) <;> simp_all
theorem dPut_ok (h : KeyOk kf tup) {l : List (α × β)} (hl : l.length < sizeLine) (a : α) (b : β) : dPut (eD kf vf l) (kf a) (vf b) = some (eD kf vf (upd l a b)) := by
  obtain ⟨q, hq, _⟩ := h.kind a
  unfold dPut
  rw [hq]
  show gd (homog (eD kf vf l) q && decide ((eD kf vf l).length < sizeLine)) _ = _
  rw [homog_ok h l a hq, decide_eq_true (by simpa [eD] using hl)]
  show some (dPutL (eD kf vf l) (kf a) (vf b)) = _
  congr 1
  unfold dPutL upd
  rw [has_ok h l a]
  by_cases m : a ∈ l.map (·.1)
  · rw [if_pos (decide_eq_true m), if_pos m]
    unfold eD
    rw [List.map_map, List.map_map]
    refine List.map_congr_left fun x _ => ?_
    show (if kOf (kf x.1) = kOf (kf a) then (kf x.1, vf b) else (kf x.1, vf x.2)) = _
    by_cases e : x.1 = a
    · rw [if_pos (by rw [e])]; simp [e]
    · rw [if_neg fun z => e (h.inj _ _ z)]; simp [e]
  · rw [if_neg (by simpa using m), if_neg m]
    simp [eD]
end
end VI.M
set_option Elab.async false
set_option linter.all false
set_option maxRecDepth 100000
/-! M8: the three kinds of keys. -/
namespace VI.M
open PySem
def nkP (p : Key) : NestedKey := .tup [.num p.1, .num p.2]
theorem keyNs_map {α : Type} {f : α → D} {g : α → NestedKey} (h : ∀ x, keyN (f x) = some (g x)) : ∀ l : List α, keyNs (l.map f) = some (l.map g)
  | [] => by rw [List.map_nil, keyNs]; rfl
  | x :: l => by
    rw [List.map_cons, keyNs, h, keyNs_map h l]; rfl
theorem keyN_p (p : Key) : keyN (enP p) = some (nkP p) := by
  unfold enP
  simp [keyN, keyNs, nkP]
theorem keyN_T (t : List Key) : keyN (eT t) = some (.tup (t.map nkP)) := by
  unfold eT
  rw [keyN, keyNs_map keyN_p]; rfl
theorem nkP_inj {a b : Key} (h : nkP a = nkP b) : a = b := by
  unfold nkP at h
  simp at h
  exact Prod.ext h.1 h.2
theorem map_inj {α β : Type} {f : α → β} (h : ∀ a b, f a = f b → a = b) : ∀ {l m : List α}, l.map f = m.map f → l = m
  | [], [], _ => rfl
  | [], _ :: _, e => by simp at e
  | _ :: _, [], e => by simp at e
  | x :: l, y :: m, e => by
    rw [List.map_cons, List.map_cons, List.cons.injEq] at e
    rw [h _ _ e.1, map_inj h e.2]
theorem depP (t : List Key) : NestedKey.depthAll (t.map nkP) ≤ 2 := by
  induction t with
  | nil => simp [NestedKey.depthAll]
  | cons p t ih =>
    rw [List.map_cons, NestedKey.depthAll]
    refine Nat.max_le.mpr ⟨?_, ih⟩
    simp [nkP, NestedKey.depth, NestedKey.depthAll]
theorem kOf_T (t : List Key) : kOf (eT t) = some (.inr (.tup (t.map nkP))) := by
  have h : keyNs (t.map enP) = some (t.map nkP) := keyNs_map keyN_p t
  show (keyNs (t.map enP)).bind _ = _
  rw [h]
  show gd (decide _) _ = _
  rw [decide_eq_true (by simp only [NestedKey.depth]; have := depP t; omega)]; rfl
theorem kT : KeyOk eT true := ⟨fun t => ⟨_, kOf_T t, rfl⟩, fun a b h => by
  rw [kOf_T, kOf_T] at h
  simp at h
  exact map_inj (fun _ _ => nkP_inj) h⟩
theorem kN : KeyOk (fun n : Nat => PyData.int (n : Int)) false := ⟨fun n => ⟨_, rfl, rfl⟩, fun a b h => by
  simp [kOf] at h
  omega⟩
def eNT (q : Nat × List Key) : D := .tuple [.int (q.1 : Int), eT q.2]
theorem kOf_NT (q : Nat × List Key) : kOf (eNT q) = some (.inr (.tup [.num q.1, .tup (q.2.map nkP)])) := by
  have h : keyNs [.int (q.1 : Int), eT q.2] = some [.num q.1, .tup (q.2.map nkP)] := by
    rw [keyNs, keyNs, keyN_T, keyN, keyNs]
  show (keyNs [.int (q.1 : Int), eT q.2]).bind _ = _
  rw [h]
  show gd (decide _) _ = _
  rw [decide_eq_true (by simp only [NestedKey.depth, NestedKey.depthAll]; have := depP q.2; omega)]; rfl
theorem kNT : KeyOk eNT true := ⟨fun q => ⟨_, kOf_NT q, rfl⟩, fun a b h => by
  rw [kOf_NT, kOf_NT] at h
  simp at h
  exact Prod.ext (by omega) (map_inj (fun _ _ => nkP_inj) h.2)⟩
end VI.M
set_option Elab.async false
set_option linter.all false
set_option maxRecDepth 100000
/-! M9: Copies, with_trust, believes, with_keys. -/
namespace VI.M
open PySem
def vL (s : List Key) : D := .list (s.map enP)
def vO : Option (List Key) → D
  | none => .none
  | some s => vL s
def getA {α β : Type} [DecidableEq α] (l : List (α × β)) (a : α) : Option β := (l.find? fun q => decide (q.1 = a)).map (·.2)
theorem dGet_A {α β : Type} [DecidableEq α] {kf : α → D} {vf : β → D} {tup : Bool} (h : KeyOk kf tup) (l : List (α × β)) (a : α) : dGet (eD kf vf l) (kf a) = (getA l a).map vf := by
  rw [dGet_ok h]; unfold getA; rw [Option.map_map]; rfl
def wtB (got : Option (List Key)) (rl : Int) (win : Key) : List Key := match got with
  | none => [win]
  | some s => behB s rl 0 win
def wkB (o : Option Int) (s : List Key) (kl : Int) (win : Key) : List Key := match o with
  | none => []
  | some st => behB s kl st win
abbrev TD := List (List Key × Option (List Key))
abbrev KD := List ((Nat × List Key) × List Key)
abbrev RD := List (Nat × List Key)
def dT (d : TD) : D := .dict (eD eT vO d)
def dK (d : KD) : D := .dict (eD eNT vL d)
def dR (d : RD) : D := .dict (eD (fun n : Nat => PyData.int (n : Int)) vL d)
theorem ix_dT (d : TD) (t : List Key) : ixD (dT d) (eT t) = (getA d t).map vO := dGet_A kT d t
theorem ix_dK (d : KD) (q : Nat × List Key) : ixD (dK d) (eNT q) = (getA d q).map vL := dGet_A kNT d q
theorem ix_dR (d : RD) (n : Nat) : ixD (dR d) (.int (n : Int)) = (getA d n).map vL := dGet_A kN d n
section
variable {S : Sto} {i : Nat} {w : Wld} {ts ks rs : List D} {p : Nat}
theorem with_trust_ok (h : Cop S i w ts ks rs) {d : TD} (hd : ts[p]? = some (dT d)) {t : List Key} {got : Option (List Key)} (hg : getA d t = some got) {z : Zone} (hz : ∀ s, got = some s → ixD (.tuple (w.zones.map eZ)) (.int ((p : Int) - 1)) = some (eZ z)) {win : Key} (k : Nat) :
    sem fns (k + 2) 22 [.c i, .d (.int p), .d (eT t), .d (enP win)] S = some (.d (vL (wtB got z.rl win)), S) := by
  rw [semS rfl]
  cases got with
  | none => simp [runF, envOf, cd_Copies_with_trust, fo_trusts h, ix_natL, hd, rd, ix_dT, hg, vO, wtB, vL]
  | some s =>
    have e := hz s rfl
    simp [runF, envOf, cd_Copies_with_trust, fo_trusts h, fo_zones h, ix_natL, hd, rd, ix_dT, hg, vO, wtB, e, vL, behind_ok]
theorem cbel_ok (h : Cop S i w ts ks rs) (hp : p < w.zones.length) {e n : Nat} (he : e < w.zones[p].line.length) (hn : n < w.zones[p].line.length) {t : List Key} (k : Nat) :
    sem fns (k + 7) 24 [.c i, .d (.int p), .d (eNT (e, t)), .d (.int n)] S = some (.d (.bool (restB w.zones[p].line[n].2 w.zones[p].line[e].2 t w.each)), S) := by
  rw [semS rfl]
  have c0 : clsT 24 = 1 := rfl
  have c1 : clsT 16 = 1 := rfl
  have h' : S[i]? = some (.ins 1 (copF w ts ks rs)) := h
  have lk : (copF w ts ks rs).lookup ("told" : Str) = none := rfl
  simp [runF, envOf, cd_Copies_believes, h', c1, lk, fo_rule h, ctold_ok h hp he, ctold_ok h hp hn, restBel_ok, eNT]
theorem with_keys_ok (h : Cop S i w ts ks rs) (hp : p < w.zones.length) {e n : Nat} (he : e < w.zones[p].line.length) (hn : n < w.zones[p].line.length) {t : List Key} {d : KD} (hd : ks[p]? = some (dK d)) {s : List Key} (hs : getA d (e, t) = some s) {one : Bool} (k : Nat) :
    sem fns (k + 3) 25 [.c i, .d (.int p), .d (eNT (e, t)), .d (.int n), .d (.bool one)] S = some (.d (vL (wkB (stepB one e n) s w.zones[p].kl (winB w.zones[p] n))), S) := by
  rw [semS rfl]
  have c1 : clsT 18 = 1 := rfl
  have h' : S[i]? = some (.ins 1 (copF w ts ks rs)) := h
  have lk : (copF w ts ks rs).lookup ("window" : Str) = none := rfl
  have e0 : ixD (eNT (e, t)) (.int 0) = some (.int e) := atI0 _ _
  cases hst : stepB one e n with
  | none => simp [runF, envOf, cd_Copies_with_keys, e0, step_ok, hst, eOI, vL, wkB]
  | some st => simp [runF, envOf, cd_Copies_with_keys, e0, step_ok, hst, eOI, vL, wkB, fo_keys h, fo_zones h, ix_natL, ix_nat, hp, hd, rd, ix_dK, hs, h', c1, lk, window_ok h hp hn, behind_ok]
end
end VI.M
set_option Elab.async false
set_option linter.all false
set_option maxRecDepth 100000
/-! M10: Copies, all_keys. -/
namespace VI.M
open PySem
theorem getA_mem {α β : Type} [DecidableEq α] {a : α} {b : β} : ∀ {l : List (α × β)}, (l.map (·.1)).Nodup → (a, b) ∈ l → getA l a = some b
  | [], _, h => by cases h
  | q :: l, hn, h => by
    unfold getA
    rw [List.find?_cons]
    rw [List.map_cons, List.nodup_cons] at hn
    rcases List.mem_cons.mp h with h | h
    · subst h; simp
    · have e : q.1 ≠ a := fun e => hn.1 (by rw [e]; exact List.mem_map.mpr ⟨_, h, rfl⟩)
      rw [decide_eq_false e]
      exact getA_mem hn.2 h
theorem upd_new {α β : Type} [DecidableEq α] {l : List (α × β)} {a : α} (h : a ∉ l.map (·.1)) (b : β) : upd l a b = l ++ [(a, b)] := by
  unfold upd; rw [if_neg h]
def verO (z : Zone) (n : Nat) : Ver := match z.line[n]? with
  | some p => p.2
  | none => ⟨[], [], none, [], []⟩
theorem verO_eq {z : Zone} {n : Nat} (h : n < z.line.length) : verO z n = (z.line[n]).2 := by simp [verO, h]
def akT (z : Zone) (rl : Int) (n : Nat) (q : List Key × Option (List Key)) : List Key := joinB (wtB q.2 rl (winB z n))
def akF (z : Zone) (each : Bool) (rl : Int) (n : Nat) (q : List Key × Option (List Key)) : Option ((Nat × List Key) × List Key) := if keysB (verO z n) q.1 each = true ∧ akT z rl n q ≠ [] then some ((n, q.1), akT z rl n q) else none
def rowK (z : Zone) (d : TD) (each : Bool) (rl : Int) (n : Nat) : KD := d.filterMap (akF z each rl n)
theorem akF_key {z : Zone} {each : Bool} {rl : Int} {n : Nat} {q : List Key × Option (List Key)} {r : (Nat × List Key) × List Key} (h : akF z each rl n q = some r) : r.1 = (n, q.1) := by
  unfold akF at h
  split at h
  · simp at h; rw [← h]
  · cases h
def akBody : List Sc := [(.ifs (.fc 4 [(.mc 16 "told" (.var 0) [(.var 1), (.var 3)]), (.var 4), (.at (.var 0) "own_rule")]) [(.asg (.nm 5) (.fc 10 [(.mc 22 "with_trust" (.var 0) [(.var 1), (.var 4), (.mc 18 "window" (.var 0) [(.var 1), (.var 3)])])])), (.ifs (.cmp .gt (.b1 .len (.var 5)) (.cst (.int 0))) [(.asg (.ix 2 (.tup [(.var 3), (.var 4)])) (.var 5))] [])] [])]
section
variable {S : Sto} {i : Nat} {w : Wld} {ts ks rs : List D} {p : Nat}
theorem wtB_len {got : Option (List Key)} {rl : Int} {win : Key} (h : ∀ s, got = some s → s.length < sizeLine) : (wtB got rl win).length < sizeLine := by
  cases got with
  | none => simp [wtB, sizeLine]
  | some s =>
    have := h s rfl
    show (behB s rl 0 win).length < _
    unfold behB
    split
    · simp [sizeLine]
    · refine Nat.lt_of_le_of_lt (List.length_filter_le ..) ?_
      simpa using this
theorem ak_turn (h : Cop S i w ts ks rs) (hp : p < w.zones.length) {d : TD} (hd : ts[p]? = some (dT d)) {z : Zone} (hz : ∀ q, q ∈ d → ∀ s, q.2 = some s → ixD (.tuple (w.zones.map eZ)) (.int ((p : Int) - 1)) = some (eZ z) ∧ s.length < sizeLine)
    (hnd : (d.map (·.1)).Nodup) {n : Nat} (hn : n < w.zones[p].line.length) {q : List Key × Option (List Key)} (hq : q ∈ d) {acc : KD} (ha : acc.length < sizeLine) (hk : (n, q.1) ∉ acc.map (·.1)) (a5 : Option Sl) (k : Nat) :
    ∃ b5, evB (sem fns (k + 6)) clsT akBody [some (.c i), some (.d (.int p)), some (.own (dK acc)), some (.d (.int n)), some (.d (eT q.1)), a5] S
      = some (.nx [some (.c i), some (.d (.int p)), some (.own (dK (acc ++ (akF w.zones[p] w.each z.rl n q).toList))), some (.d (.int n)), some (.d (eT q.1)), b5], S) := by
  have c1 : clsT 16 = 1 := rfl
  have c2 : clsT 22 = 1 := rfl
  have c3 : clsT 18 = 1 := rfl
  have h' : S[i]? = some (.ins 1 (copF w ts ks rs)) := h
  have lk1 : (copF w ts ks rs).lookup ("told" : Str) = none := rfl
  have lk2 : (copF w ts ks rs).lookup ("with_trust" : Str) = none := rfl
  have lk3 : (copF w ts ks rs).lookup ("window" : Str) = none := rfl
  have ev := verO_eq hn
  have hg : getA d q.1 = some q.2 := getA_mem hnd hq
  have hj : ∀ env, env = [some (Sl.c i), some (.d (.int p)), some (.own (dK acc)), some (.d (.int n)), some (.d (eT q.1)), a5] → evE (sem fns (k + 6)) clsT (.fc 10 [(.mc 22 "with_trust" (.var 0) [(.var 1), (.var 4), (.mc 18 "window" (.var 0) [(.var 1), (.var 3)])])]) env S = some (.d (.list ((akT w.zones[p] z.rl n q).map enP)), S) := by
    intro env he
    subst he
    have hw := with_trust_ok h hd hg (z := z) (fun s hs => (hz q hq s hs).1) (win := winB w.zones[p] n) (k + 4)
    have hjo := joined_ok (s := wtB q.2 z.rl (winB w.zones[p] n)) (wtB_len fun s hs => (hz q hq s hs).2) (k + 5) S
    simp [h', c2, c3, lk2, lk3, window_ok h hp hn, hw]
    exact hjo
  by_cases hb : keysB (verO w.zones[p] n) q.1 w.each = true
  · have hb' : keysB (w.zones[p].line[n]).2 q.1 w.each = true := by rw [← ev]; exact hb
    by_cases ht : akT w.zones[p] z.rl n q = []
    · refine ⟨some (.d (.list [])), ?_⟩
      have e : akF w.zones[p] w.each z.rl n q = none := by unfold akF; rw [if_neg fun x => x.2 ht]
      rw [ht] at hj
      simp [akBody, h', c1, lk1, ctold_ok h hp hn, fo_rule h, keysBel_ok, hb', e, -E_fc, E_fc (f := 4), hj]
    · refine ⟨some (.d (.list ((akT w.zones[p] z.rl n q).map enP))), ?_⟩
      have e : akF w.zones[p] w.each z.rl n q = some ((n, q.1), akT w.zones[p] z.rl n q) := by unfold akF; rw [if_pos ⟨hb, ht⟩]
      have hl : 0 < (akT w.zones[p] z.rl n q).length := List.length_pos_iff.mpr ht
      have hpu : putOwn (dK acc) (.tuple [.int n, eT q.1]) (.list ((akT w.zones[p] z.rl n q).map enP)) = some (dK (acc ++ [((n, q.1), akT w.zones[p] z.rl n q)])) := by
        show ob (dPut (eD eNT vL acc) (eNT (n, q.1)) (vL (akT w.zones[p] z.rl n q))) _ = _
        rw [dPut_ok kNT ha, upd_new hk]; rfl
      simp [akBody, h', c1, lk1, ctold_ok h hp hn, fo_rule h, keysBel_ok, hb', e, -E_fc, E_fc (f := 4), hj, hl, hpu]
  · have hb' : keysB (w.zones[p].line[n]).2 q.1 w.each = false := by rw [← ev]; simpa using hb
    have e : akF w.zones[p] w.each z.rl n q = none := by unfold akF; rw [if_neg fun x => hb x.1]
    refine ⟨a5, ?_⟩
    simp [akBody, h', c1, lk1, ctold_ok h hp hn, fo_rule h, keysBel_ok, hb', e]
end
end VI.M
set_option Elab.async false
set_option linter.all false
set_option maxRecDepth 100000
/-! M11: Copies, all_keys, the loops. -/
namespace VI.M
open PySem
def allK (z : Zone) (d : TD) (each : Bool) (rl : Int) : KD := (List.range z.line.length).flatMap (rowK z d each rl)
theorem fm_snoc {α β : Type} (f : α → Option β) (l : List α) (x : α) : (l ++ [x]).filterMap f = l.filterMap f ++ (f x).toList := by
  rw [List.filterMap_append]
  congr 1
theorem rowK_key {z : Zone} {d : TD} {each : Bool} {rl : Int} {n : Nat} {r : (Nat × List Key) × List Key} (h : r ∈ rowK z d each rl n) : ∃ q, q ∈ d ∧ r.1 = (n, q.1) := by
  obtain ⟨q, hq, e⟩ := List.mem_filterMap.mp h
  exact ⟨q, hq, akF_key e⟩
section
variable {S : Sto} {i : Nat} {w : Wld} {ts ks rs : List D} {p : Nat}
theorem ak_inner (h : Cop S i w ts ks rs) (hp : p < w.zones.length) {d : TD} (hd : ts[p]? = some (dT d)) {z : Zone} (hz : ∀ q, q ∈ d → ∀ s, q.2 = some s → ixD (.tuple (w.zones.map eZ)) (.int ((p : Int) - 1)) = some (eZ z) ∧ s.length < sizeLine)
    (hnd : (d.map (·.1)).Nodup) (hdl : d.length ≤ 1000) {n : Nat} (hn : n < w.zones[p].line.length) {acc : KD} (ha : acc.length ≤ n * 1000) (hb : n ≤ 1000) (hk : ∀ r, r ∈ acc → r.1.1 < n) (a4 a5 : Option Sl) (k : Nat) :
    ∃ b4 b5, evS (sem fns (k + 6)) clsT (.for_ (.nm 4) (.keys (.ix (.at (.var 0) "own_trusts") (.var 1))) akBody) [some (.c i), some (.d (.int p)), some (.own (dK acc)), some (.d (.int n)), a4, a5] S
      = some (.nx [some (.c i), some (.d (.int p)), some (.own (dK (acc ++ rowK w.zones[p] d w.each z.rl n))), some (.d (.int n)), b4, b5], S) := by
  have hi : evIt (sem fns (k + 6)) clsT (.keys (.ix (.at (.var 0) "own_trusts") (.var 1))) [some (.c i), some (.d (.int p)), some (.own (dK acc)), some (.d (.int n)), a4, a5] S = some (d.map fun q => eT q.1, S) := by
    have e : itemsOf 3 (dT d) = some (d.map fun q => eT q.1) := by
      show some ((eD eT vO d).map (·.1)) = _
      unfold eD; rw [List.map_map]; rfl
    simp [fo_trusts h, ix_natL, hd, rd, e]
  rw [S_for, hi]
  have z1 := for_nx (tg := .nm 4) (body := fun env' S' => evB (sem fns (k + 6)) clsT akBody env' S') (enc := fun q : List Key × Option (List Key) => eT q.1) (xs := d) (S := S) (env := [some (.c i), some (.d (.int p)), some (.own (dK acc)), some (.d (.int n)), a4, a5])
    (fun dn env' S' => S' = S ∧ ∃ b4 b5, env' = [some (.c i), some (.d (.int p)), some (.own (dK (acc ++ dn.filterMap (akF w.zones[p] w.each z.rl n)))), some (.d (.int n)), b4, b5])
    ⟨rfl, a4, a5, by simp⟩ fun dn q rest env1 S1 hdq hp1 => by
      obtain ⟨rfl, b4, b5, rfl⟩ := hp1
      have hq : q ∈ d := by rw [hdq]; simp
      have hlen : (acc ++ dn.filterMap (akF w.zones[p] w.each z.rl n)).length < sizeLine := by
        have h1 := List.length_filterMap_le (akF w.zones[p] w.each z.rl n) dn
        have h2 : dn.length ≤ d.length := by rw [hdq]; simp
        rw [List.length_append]; unfold sizeLine; omega
      have hk2 : (n, q.1) ∉ (acc ++ dn.filterMap (akF w.zones[p] w.each z.rl n)).map (·.1) := by
        intro hm
        obtain ⟨r, hr, er⟩ := List.mem_map.mp hm
        rcases List.mem_append.mp hr with hr | hr
        · have := hk r hr; rw [er] at this; simp at this
        · obtain ⟨q2, hq2, e2⟩ := List.mem_filterMap.mp hr
          have e3 := akF_key e2
          rw [er] at e3
          rw [hdq, List.map_append, List.map_cons] at hnd
          have := (List.nodup_append.mp hnd).2.2 q2.1 (List.mem_map.mpr ⟨q2, hq2, rfl⟩) q.1 (List.mem_cons_self ..)
          simp at e3
          exact this e3.symm
      obtain ⟨c5, hc⟩ := ak_turn h hp hd hz hnd hn hq hlen hk2 b5 k
      refine ⟨_, _, _, rfl, hc, rfl, some (.d (eT q.1)), c5, ?_⟩
      rw [fm_snoc, List.append_assoc]
  obtain ⟨env', S', h1, rfl, b4, b5, rfl⟩ := z1
  exact ⟨b4, b5, h1⟩
theorem all_keys_ok (h : Cop S i w ts ks rs) (hp : p < w.zones.length) {d : TD} (hd : ts[p]? = some (dT d)) {z : Zone} (hz : ∀ q, q ∈ d → ∀ s, q.2 = some s → ixD (.tuple (w.zones.map eZ)) (.int ((p : Int) - 1)) = some (eZ z) ∧ s.length < sizeLine)
    (hnd : (d.map (·.1)).Nodup) (hdl : d.length ≤ 1000) (hb : w.zones[p].line.length ≤ 1000) (k : Nat) :
    sem fns (k + 7) 23 [.c i, .d (.int p)] S = some (.d (dK (allK w.zones[p] d w.each z.rl)), S) := by
  rw [semS rfl]
  have c1 : clsT 17 = 1 := rfl
  have h' : S[i]? = some (.ins 1 (copF w ts ks rs)) := h
  have lk1 : (copF w ts ks rs).lookup ("numbers" : Str) = none := rfl
  have hi : evIt (sem fns (k + 6)) clsT (.seq (.mc 17 "numbers" (.var 0) [(.var 1)])) [some (.c i), some (.d (.int p)), some (.own (.dict [])), none, none, none] S = some ((List.range w.zones[p].line.length).map fun (n : Nat) => .int (n : Int), S) := by
    simp [h', c1, lk1, numbers_ok h hp hb]
  have z1 := for_nx (tg := .nm 3) (body := fun env' S' => evB (sem fns (k + 6)) clsT [(.for_ (.nm 4) (.keys (.ix (.at (.var 0) "own_trusts") (.var 1))) akBody)] env' S') (enc := fun n : Nat => PyData.int (n : Int)) (xs := List.range w.zones[p].line.length) (S := S) (env := [some (.c i), some (.d (.int p)), some (.own (.dict [])), none, none, none])
    (fun dn env' S' => S' = S ∧ ∃ b3 b4 b5, env' = [some (.c i), some (.d (.int p)), some (.own (dK (dn.flatMap (rowK w.zones[p] d w.each z.rl)))), b3, b4, b5])
    ⟨rfl, none, none, none, rfl⟩ fun dn n rest env1 S1 hdq hp1 => by
      obtain ⟨rfl, b3, b4, b5, rfl⟩ := hp1
      have hdn : dn = List.range n ∧ n < w.zones[p].line.length := by
        have e1 : (List.range w.zones[p].line.length)[dn.length]? = some n := by rw [hdq]; simp
        have e2 : dn.length < w.zones[p].line.length := by
          have := congrArg List.length hdq; simp at this; omega
        rw [List.getElem?_range e2] at e1
        simp at e1
        refine ⟨?_, by omega⟩
        have e3 := congrArg (List.take dn.length) hdq
        rw [List.take_left, List.take_range, Nat.min_eq_left (by omega), e1] at e3
        exact e3.symm
      obtain ⟨rfl, hn⟩ := hdn
      have hk : ∀ r, r ∈ (List.range n).flatMap (rowK w.zones[p] d w.each z.rl) → r.1.1 < n := by
        intro r hr
        obtain ⟨m, hm, hr⟩ := List.mem_flatMap.mp hr
        obtain ⟨q, _, e⟩ := rowK_key hr
        rw [e]; exact List.mem_range.mp hm
      have hl : ((List.range n).flatMap (rowK w.zones[p] d w.each z.rl)).length ≤ n * 1000 := by
        clear hk hdq hn hi
        induction n with
        | zero => simp
        | succ n ih =>
          rw [List.range_succ, List.flatMap_append, List.length_append]
          have h1 : (rowK w.zones[p] d w.each z.rl n).length ≤ d.length := List.length_filterMap_le _ _
          simp only [List.flatMap_cons, List.flatMap_nil, List.append_nil]
          omega
      obtain ⟨c4, c5, hc⟩ := ak_inner h hp hd hz hnd hdl hn hl (by omega) hk b4 b5 k
      refine ⟨_, [some (.c i), some (.d (.int p)), some (.own (dK ((List.range n ++ [n]).flatMap (rowK w.zones[p] d w.each z.rl)))), some (.d (.int n)), c4, c5], S1, rfl, ?_, rfl, _, c4, c5, rfl⟩
      rw [List.flatMap_append]
      simp [hc]
  obtain ⟨env', S', h1, rfl, b3, b4, b5, rfl⟩ := z1
  have hf : evS (sem fns (k + 6)) clsT (.for_ (.nm 3) (.seq (.mc 17 "numbers" (.var 0) [(.var 1)])) [(.for_ (.nm 4) (.keys (.ix (.at (.var 0) "own_trusts") (.var 1))) akBody)]) [some (.c i), some (.d (.int p)), some (.own (.dict [])), none, none, none] S' = some (.nx [some (.c i), some (.d (.int p)), some (.own (dK (allK w.zones[p] d w.each z.rl))), b3, b4, b5], S') := by
    rw [S_for, hi]; exact h1
  unfold akBody at hf
  simp [runF, envOf, cd_Copies_all_keys, hf]
end
end VI.M
set_option Elab.async false
set_option linter.all false
set_option maxRecDepth 100000
/-! M12: Copies, all_rests. -/
namespace VI.M
open PySem
def arF (z : Zone) (each : Bool) (n : Nat) (r : (Nat × List Key) × List Key) : List Key := if restB (verO z n) (verO z r.1.1) r.1.2 each = true then wkB (stepB (decide (z.servers = 1)) r.1.1 n) r.2 z.kl (winB z n) else []
def restRow (z : Zone) (d : KD) (each : Bool) (n : Nat) : List Key := d.flatMap (arF z each n)
def arG (z : Zone) (d : KD) (each : Bool) (n : Nat) : Option (Nat × List Key) := if restRow z d each n ≠ [] then some (n, joinB (restRow z d each n)) else none
def restAll (z : Zone) (d : KD) (each : Bool) : RD := (List.range z.line.length).filterMap (arG z d each)
def arBody : List Sc := [(.ifs (.mc 24 "believes" (.var 0) [(.var 1), (.var 5), (.var 3)]) [(.ext 4 (.mc 25 "with_keys" (.var 0) [(.var 1), (.var 5), (.var 3), (.cmp .eq (.ix (.ix (.at (.var 0) "own_zones") (.var 1)) (.cst (.int 1))) (.cst (.int 1)))]))] [])]
section
variable {S : Sto} {i : Nat} {w : Wld} {ts ks rs : List D} {p : Nat}
theorem ar_turn (h : Cop S i w ts ks rs) (hp : p < w.zones.length) {d : KD} (hd : ks[p]? = some (dK d)) (hnd : (d.map (·.1)).Nodup) {n : Nat} (hn : n < w.zones[p].line.length) {r : (Nat × List Key) × List Key} (hr : r ∈ d) (he : r.1.1 < w.zones[p].line.length)
    {acc : List Key} (ha : acc.length + (arF w.zones[p] w.each n r).length ≤ sizeLine) (a2 : Option Sl) (k : Nat) :
    evB (sem fns (k + 7)) clsT arBody [some (.c i), some (.d (.int p)), a2, some (.d (.int n)), some (.own (vL acc)), some (.d (eNT r.1))] S
      = some (.nx [some (.c i), some (.d (.int p)), a2, some (.d (.int n)), some (.own (vL (acc ++ arF w.zones[p] w.each n r))), some (.d (eNT r.1))], S) := by
  have c1 : clsT 24 = 1 := rfl
  have c2 : clsT 25 = 1 := rfl
  have h' : S[i]? = some (.ins 1 (copF w ts ks rs)) := h
  have lk1 : (copF w ts ks rs).lookup ("believes" : Str) = none := rfl
  have lk2 : (copF w ts ks rs).lookup ("with_keys" : Str) = none := rfl
  obtain ⟨⟨e, t⟩, s⟩ := r
  have hg : getA d (e, t) = some s := getA_mem hnd hr
  have hb := cbel_ok h hp (e := e) he hn (t := t) k
  rw [← verO_eq hn, ← verO_eq (n := e) he] at hb
  have hw := with_keys_ok h hp (e := e) he hn (t := t) hd hg (one := decide (w.zones[p].servers = 1)) (k + 4)
  by_cases hx : restB (verO w.zones[p] n) (verO w.zones[p] e) t w.each = true
  · have ex : arF w.zones[p] w.each n ((e, t), s) = wkB (stepB (decide (w.zones[p].servers = 1)) e n) s w.zones[p].kl (winB w.zones[p] n) := by unfold arF; rw [if_pos hx]
    rw [← ex] at hw
    generalize arF w.zones[p] w.each n ((e, t), s) = u at hw ha ⊢
    have hxt : extD (vL acc) (vL u) = some (vL (acc ++ u)) := by
      show gd (decide ((acc.map enP).length + (u.map enP).length ≤ sizeLine)) _ = _
      rw [decide_eq_true (by simpa using ha)]
      simp [vL]
    simp [arBody, h', c1, c2, lk1, lk2, hb, hx, fo_zones h, ix_nat, hp, hw, hxt]
  · have hx' : restB (verO w.zones[p] n) (verO w.zones[p] e) t w.each = false := by simpa using hx
    have ex : arF w.zones[p] w.each n ((e, t), s) = [] := by unfold arF; rw [if_neg hx]
    rw [ex]
    simp [arBody, h', c1, lk1, hb, hx']
theorem ar_inner (h : Cop S i w ts ks rs) (hp : p < w.zones.length) {d : KD} (hd : ks[p]? = some (dK d)) (hnd : (d.map (·.1)).Nodup) {n : Nat} (hn : n < w.zones[p].line.length) (he : ∀ r, r ∈ d → r.1.1 < w.zones[p].line.length)
    (hl : (restRow w.zones[p] d w.each n).length ≤ sizeLine) (a2 a5 : Option Sl) (k : Nat) :
    ∃ b5, evS (sem fns (k + 7)) clsT (.for_ (.nm 5) (.keys (.ix (.at (.var 0) "own_keys") (.var 1))) arBody) [some (.c i), some (.d (.int p)), a2, some (.d (.int n)), some (.own (.list [])), a5] S
      = some (.nx [some (.c i), some (.d (.int p)), a2, some (.d (.int n)), some (.own (vL (restRow w.zones[p] d w.each n))), b5], S) := by
  have hi : evIt (sem fns (k + 7)) clsT (.keys (.ix (.at (.var 0) "own_keys") (.var 1))) [some (.c i), some (.d (.int p)), a2, some (.d (.int n)), some (.own (.list [])), a5] S = some (d.map fun r => eNT r.1, S) := by
    have e : itemsOf 3 (dK d) = some (d.map fun q => eNT q.1) := by
      show some ((eD eNT vL d).map (·.1)) = _
      unfold eD; rw [List.map_map]; rfl
    simp [fo_keys h, ix_natL, hd, rd, e]
  rw [S_for, hi]
  have z1 := for_nx (tg := .nm 5) (body := fun env' S' => evB (sem fns (k + 7)) clsT arBody env' S') (enc := fun q : (Nat × List Key) × List Key => eNT q.1) (xs := d) (S := S) (env := [some (.c i), some (.d (.int p)), a2, some (.d (.int n)), some (.own (.list [])), a5])
    (fun dn env' S' => S' = S ∧ ∃ b5, env' = [some (.c i), some (.d (.int p)), a2, some (.d (.int n)), some (.own (vL (restRow w.zones[p] dn w.each n))), b5])
    ⟨rfl, a5, rfl⟩ fun dn r rest env1 S1 hdq hp1 => by
      obtain ⟨rfl, b5, rfl⟩ := hp1
      have hr : r ∈ d := by rw [hdq]; simp
      have hlen : (restRow w.zones[p] dn w.each n).length + (arF w.zones[p] w.each n r).length ≤ sizeLine := by
        rw [hdq] at hl
        unfold restRow at hl ⊢
        rw [List.flatMap_append, List.flatMap_cons, List.length_append, List.length_append] at hl
        omega
      have ht := ar_turn h hp hd hnd hn hr (he r hr) hlen a2 k
      have e : restRow w.zones[p] (dn ++ [r]) w.each n = restRow w.zones[p] dn w.each n ++ arF w.zones[p] w.each n r := by
        unfold restRow; rw [List.flatMap_append]; simp
      rw [← e] at ht
      exact ⟨_, _, _, rfl, ht, rfl, _, rfl⟩
  obtain ⟨env', S', h1, rfl, b5, rfl⟩ := z1
  exact ⟨b5, h1⟩
end
end VI.M
set_option Elab.async false
set_option linter.all false
set_option maxRecDepth 100000
/-! M13: Copies, all_rests, the outer loop. -/
namespace VI.M
open PySem
theorem range_split {m n : Nat} {dn rest : List Nat} (h : List.range m = dn ++ n :: rest) : dn = List.range n ∧ n < m := by
  have e1 : (List.range m)[dn.length]? = some n := by rw [h]; simp
  have e2 : dn.length < m := by
    have := congrArg List.length h; simp at this; omega
  rw [List.getElem?_range e2] at e1
  simp at e1
  refine ⟨?_, by omega⟩
  have e3 := congrArg (List.take dn.length) h
  rw [List.take_left, List.take_range, Nat.min_eq_left (by omega), e1] at e3
  exact e3.symm
theorem arG_key {z : Zone} {d : KD} {each : Bool} {n : Nat} {r : Nat × List Key} (h : arG z d each n = some r) : r.1 = n := by
  unfold arG at h
  split at h
  · simp at h; rw [← h]
  · cases h
def arOut : List Sc := [(.asg (.own 4) (.lst [])), (.for_ (.nm 5) (.keys (.ix (.at (.var 0) "own_keys") (.var 1))) arBody), (.frz 4), (.ifs (.cmp .gt (.b1 .len (.var 4)) (.cst (.int 0))) [(.asg (.ix 2 (.var 3)) (.fc 10 [(.var 4)]))] [])]
section
variable {S : Sto} {i : Nat} {w : Wld} {ts ks rs : List D} {p : Nat}
theorem ar_row (h : Cop S i w ts ks rs) (hp : p < w.zones.length) {d : KD} (hd : ks[p]? = some (dK d)) (hnd : (d.map (·.1)).Nodup) {n : Nat} (hn : n < w.zones[p].line.length) (he : ∀ r, r ∈ d → r.1.1 < w.zones[p].line.length)
    (hl : (restRow w.zones[p] d w.each n).length < sizeLine) {acc : RD} (ha : acc.length < sizeLine) (hk : n ∉ acc.map (·.1)) (a4 a5 : Option Sl) (k : Nat) :
    ∃ b4 b5, evB (sem fns (k + 7)) clsT arOut [some (.c i), some (.d (.int p)), some (.own (dR acc)), some (.d (.int n)), a4, a5] S
      = some (.nx [some (.c i), some (.d (.int p)), some (.own (dR (acc ++ (arG w.zones[p] d w.each n).toList))), some (.d (.int n)), b4, b5], S) := by
  obtain ⟨b5, h1⟩ := ar_inner h hp hd hnd hn he (Nat.le_of_lt hl) (some (.own (dR acc))) a5 k
  by_cases hx : restRow w.zones[p] d w.each n = []
  · have ex : arG w.zones[p] d w.each n = none := by unfold arG; rw [if_neg fun x => x hx]
    rw [hx] at h1
    refine ⟨some (.d (.list [])), b5, ?_⟩
    rw [ex]
    simp [arOut, h1, vL]
  · have ex : arG w.zones[p] d w.each n = some (n, joinB (restRow w.zones[p] d w.each n)) := by unfold arG; rw [if_pos hx]
    rw [ex]
    have hj := joined_ok (s := restRow w.zones[p] d w.each n) hl (k + 6) S
    have hlen : 0 < (restRow w.zones[p] d w.each n).length := List.length_pos_iff.mpr hx
    generalize restRow w.zones[p] d w.each n = u at h1 hj hlen ⊢
    have hpu : putOwn (dR acc) (.int n) (.list ((joinB u).map enP)) = some (dR (acc ++ [(n, joinB u)])) := by
      show ob (dPut (eD (fun n : Nat => PyData.int (n : Int)) vL acc) (PyData.int (n : Int)) (vL (joinB u))) _ = _
      have := dPut_ok (vf := vL) kN ha n (joinB u)
      rw [this, upd_new hk]; rfl
    refine ⟨some (.d (.list (u.map enP))), b5, ?_⟩
    simp [arOut, h1, vL, hlen, hj, hpu]
theorem all_rests_ok (h : Cop S i w ts ks rs) (hp : p < w.zones.length) {d : KD} (hd : ks[p]? = some (dK d)) (hnd : (d.map (·.1)).Nodup) (he : ∀ r, r ∈ d → r.1.1 < w.zones[p].line.length)
    (hl : ∀ n, (restRow w.zones[p] d w.each n).length < sizeLine) (hb : w.zones[p].line.length ≤ 1000) (k : Nat) :
    sem fns (k + 8) 26 [.c i, .d (.int p)] S = some (.d (dR (if p + 1 < w.zones.length then restAll w.zones[p] d w.each else [])), S) := by
  rw [semS rfl]
  have c1 : clsT 17 = 1 := rfl
  have h' : S[i]? = some (.ins 1 (copF w ts ks rs)) := h
  have lk1 : (copF w ts ks rs).lookup ("numbers" : Str) = none := rfl
  by_cases hx : p + 1 < w.zones.length
  · have hx' : (p : Int) + 1 < (w.zones.length : Int) := by omega
    have hi : evIt (sem fns (k + 7)) clsT (.seq (.ifx (.cmp .lt (.bin .add (.var 1) (.cst (.int 1))) (.b1 .len (.at (.var 0) "own_zones"))) (.mc 17 "numbers" (.var 0) [(.var 1)]) (.lst []))) [some (.c i), some (.d (.int p)), some (.own (.dict [])), none, none, none] S = some ((List.range w.zones[p].line.length).map fun (n : Nat) => .int (n : Int), S) := by
      simp [h', c1, lk1, fo_zones h, hx', numbers_ok h hp hb]
    have z1 := for_nx (tg := .nm 3) (body := fun env' S' => evB (sem fns (k + 7)) clsT arOut env' S') (enc := fun n : Nat => PyData.int (n : Int)) (xs := List.range w.zones[p].line.length) (S := S) (env := [some (.c i), some (.d (.int p)), some (.own (.dict [])), none, none, none])
      (fun dn env' S' => S' = S ∧ ∃ b3 b4 b5, env' = [some (.c i), some (.d (.int p)), some (.own (dR (dn.filterMap (arG w.zones[p] d w.each)))), b3, b4, b5])
      ⟨rfl, none, none, none, rfl⟩ fun dn n rest env1 S1 hdq hp1 => by
        obtain ⟨rfl, b3, b4, b5, rfl⟩ := hp1
        obtain ⟨rfl, hn⟩ := range_split hdq
        have hk : n ∉ ((List.range n).filterMap (arG w.zones[p] d w.each)).map (·.1) := by
          intro hm
          obtain ⟨r, hr, er⟩ := List.mem_map.mp hm
          obtain ⟨m, hm, e⟩ := List.mem_filterMap.mp hr
          have e2 := arG_key e
          have e3 := List.mem_range.mp hm
          omega
        have hlen : ((List.range n).filterMap (arG w.zones[p] d w.each)).length < sizeLine := by
          have h1 := List.length_filterMap_le (arG w.zones[p] d w.each) (List.range n)
          simp at h1
          unfold sizeLine; omega
        obtain ⟨c4, c5, hc⟩ := ar_row h hp hd hnd hn he (hl n) hlen hk b4 b5 k
        rw [← fm_snoc] at hc
        exact ⟨_, _, _, rfl, hc, rfl, _, c4, c5, rfl⟩
    obtain ⟨env', S', h1, rfl, b3, b4, b5, rfl⟩ := z1
    have hf : evS (sem fns (k + 7)) clsT (.for_ (.nm 3) (.seq (.ifx (.cmp .lt (.bin .add (.var 1) (.cst (.int 1))) (.b1 .len (.at (.var 0) "own_zones"))) (.mc 17 "numbers" (.var 0) [(.var 1)]) (.lst []))) arOut) [some (.c i), some (.d (.int p)), some (.own (.dict [])), none, none, none] S' = some (.nx [some (.c i), some (.d (.int p)), some (.own (dR (restAll w.zones[p] d w.each))), b3, b4, b5], S') := by
      rw [S_for, hi]; exact h1
    unfold arOut arBody at hf
    rw [if_pos hx]
    simp [runF, envOf, cd_Copies_all_rests, hf]
  · have hx' : ¬ (p : Int) + 1 < (w.zones.length : Int) := by omega
    rw [if_neg hx]
    have hf : evS (sem fns (k + 7)) clsT (.for_ (.nm 3) (.seq (.ifx (.cmp .lt (.bin .add (.var 1) (.cst (.int 1))) (.b1 .len (.at (.var 0) "own_zones"))) (.mc 17 "numbers" (.var 0) [(.var 1)]) (.lst []))) arOut) [some (.c i), some (.d (.int p)), some (.own (.dict [])), none, none, none] S = some (.nx [some (.c i), some (.d (.int p)), some (.own (.dict [])), none, none, none], S) := by
      rw [S_for]
      simp [fo_zones h, hx', forLoop]
    unfold arOut arBody at hf
    simp [runF, envOf, cd_Copies_all_rests, hf, dR, eD]
end
end VI.M
set_option Elab.async false
set_option linter.all false
set_option maxRecDepth 100000
/-! M14: Copies, trusts_behind. -/
namespace VI.M
open PySem
def oldS (acc : TD) (t : List Key) : List Key := match getA acc t with
  | some (some s) => s
  | _ => []
def tbStep (z : Zone) (acc : TD) (q : Nat × List Key) : TD := match (verO z q.1).trust with
  | some t => if t = [] then acc else upd acc t (some (joinB (oldS acc t ++ q.2)))
  | none => acc
def trustsB (z : Zone) (d : RD) : TD := d.foldl (tbStep z) []
theorem getA_in {α β : Type} [DecidableEq α] {l : List (α × β)} {a : α} {b : β} (h : getA l a = some b) : (a, b) ∈ l := by
  unfold getA at h
  obtain ⟨q, hq, e⟩ := Option.map_eq_some_iff.mp h
  have h1 := List.mem_of_find?_eq_some hq
  have h2 := List.find?_some hq
  simp at h2
  subst h2; subst e; exact h1
theorem mem_upd {α β : Type} [DecidableEq α] {l : List (α × β)} {a : α} {b : β} {q : α × β} (h : q ∈ upd l a b) : q ∈ l ∨ q = (a, b) := by
  unfold upd at h
  split at h
  · obtain ⟨r, hr, e⟩ := List.mem_map.mp h
    split at e
    · rename_i hx; right; rw [← e, hx]
    · left; rw [← e]; exact hr
  · rcases List.mem_append.mp h with h | h
    · exact .inl h
    · right; simpa using h
theorem len_upd {α β : Type} [DecidableEq α] (l : List (α × β)) (a : α) (b : β) : (upd l a b).length ≤ l.length + 1 := by
  unfold upd; split <;> simp
@[simp] theorem c_neT0 (t : List Key) : cmpD .ne (eT t) (.tuple []) = some (!decide (t = [])) := c_neT t []
theorem get_old {acc : TD} (hs : ∀ q, q ∈ acc → ∃ s, q.2 = some s) (t : List Key) : dGetD (eD eT vO acc) (eT t) (.list []) = some (vL (oldS acc t)) := by
  rw [dGetD_ok kT]
  unfold oldS
  have e : ((acc.find? fun q => decide (q.1 = t)).map fun q => vO q.2) = (getA acc t).map vO := by unfold getA; rw [Option.map_map]; rfl
  rw [e]
  cases hg : getA acc t with
  | none => rfl
  | some o =>
    obtain ⟨s, hs⟩ := hs _ (getA_in hg)
    simp at hs
    subst hs; rfl
def tbBody : List Sc := [(.asg (.nm 5) (.ix (.mc 16 "told" (.var 0) [(.var 1), (.var 3)]) (.cst (.int 2)))), (.ifs (.cmp .ne (.var 5) (.tup [])) [(.asg (.ix 2 (.var 5)) (.fc 10 [(.bin .add (.get (.var 2) (.var 5) (.lst [])) (.var 4))]))] [])]
section
variable {S : Sto} {i : Nat} {w : Wld} {ts ks rs : List D} {p : Nat}
theorem tb_turn (h : Cop S i w ts ks rs) (hp : p < w.zones.length) {n : Nat} (hn : n < w.zones[p].line.length) {t : List Key} (ht : (verO w.zones[p] n).trust = some t) {u : List Key} {acc : TD} (hs : ∀ q, q ∈ acc → ∃ s, q.2 = some s)
    (hl : ∀ t, (oldS acc t).length + u.length < sizeLine) (ha : acc.length < sizeLine) (a5 : Option Sl) (k : Nat) :
    ∃ b5, evB (sem fns (k + 2)) clsT tbBody [some (.c i), some (.d (.int p)), some (.own (dT acc)), some (.d (.int n)), some (.d (vL u)), a5] S
      = some (.nx [some (.c i), some (.d (.int p)), some (.own (dT (tbStep w.zones[p] acc (n, u)))), some (.d (.int n)), some (.d (vL u)), b5], S) := by
  have c1 : clsT 16 = 1 := rfl
  have h' : S[i]? = some (.ins 1 (copF w ts ks rs)) := h
  have lk1 : (copF w ts ks rs).lookup ("told" : Str) = none := rfl
  have hto := ctold_ok h hp hn (k + 1)
  rw [← verO_eq hn] at hto
  have hv : ixD (eV (verO w.zones[p] n)) (.int 2) = some (eT t) := by rw [v2, ht]; rfl
  refine ⟨some (.d (eT t)), ?_⟩
  unfold tbStep
  rw [ht]
  by_cases hx : t = []
  · simp only [if_pos hx]
    simp [tbBody, h', c1, lk1, hto, hv, hx]
  · simp only [if_neg hx]
    have hj := joined_ok (s := oldS acc t ++ u) (by rw [List.length_append]; exact hl t) (k + 1) S
    have hg : ∀ x, evE (sem fns (k + 2)) clsT (.get (.var 2) (.var 5) (.lst [])) [some (.c i), some (.d (.int p)), some (.own (dT acc)), some (.d (.int n)), x, some (.d (eT t))] S = some (.d (vL (oldS acc t)), S) := by
      intro x
      have e := get_old hs t
      simp [dT, notDict, e]
    have hb : binD .add (vL (oldS acc t)) (vL u) = some (.list ((oldS acc t ++ u).map enP)) := by
      unfold vL
      rw [b_addL, decide_eq_true (by have := hl t; simp; omega), List.map_append]; rfl
    have hpu : putOwn (dT acc) (eT t) (.list ((joinB (oldS acc t ++ u)).map enP)) = some (dT (upd acc t (some (joinB (oldS acc t ++ u))))) := by
      show ob (dPut (eD eT vO acc) (eT t) (vO (some (joinB (oldS acc t ++ u))))) _ = _
      rw [dPut_ok kT ha]; rfl
    simp [tbBody, h', c1, lk1, hto, hv, hx, hg, hb, hj, hpu, -E_get, -List.map_append]
end
end VI.M
set_option Elab.async false
set_option linter.all false
set_option maxRecDepth 100000
/-! M15: Copies, trusts_behind, the loop. -/
namespace VI.M
open PySem
def totR (d : RD) : Nat := (d.map (·.2.length)).sum
theorem tb_inv (z : Zone) : ∀ d : RD, (∀ q, q ∈ trustsB z d → ∃ s, q.2 = some s ∧ s.length ≤ totR d) ∧ (trustsB z d).length ≤ d.length := by
  intro d
  induction hn : d.length generalizing d with
  | zero => cases d with
    | nil => exact ⟨fun _ h => (by cases h), Nat.le_refl _⟩
    | cons => simp at hn
  | succ m ih =>
    rcases List.eq_nil_or_concat d with rfl | ⟨dn, q, rfl⟩
    · simp at hn
    · have hm : dn.length = m := by simpa using hn
      obtain ⟨h1, h2⟩ := ih dn hm
      have e : trustsB z (dn.concat q) = tbStep z (trustsB z dn) q := by unfold trustsB; simp
      have et : totR (dn.concat q) = totR dn + q.2.length := by unfold totR; simp
      rw [e, et]
      unfold tbStep
      cases (verO z q.1).trust with
      | none =>
        refine ⟨fun r hr => by obtain ⟨s, h3, h4⟩ := h1 r hr; exact ⟨s, h3, by omega⟩, ?_⟩
        show (trustsB z dn).length ≤ _
        omega
      | some t =>
        by_cases hx : t = []
        · simp only [if_pos hx]
          exact ⟨fun r hr => by obtain ⟨s, h3, h4⟩ := h1 r hr; exact ⟨s, h3, by omega⟩, by omega⟩
        · simp only [if_neg hx]
          refine ⟨fun r hr => ?_, by have := len_upd (trustsB z dn) t (some (joinB (oldS (trustsB z dn) t ++ q.2))); omega⟩
          rcases mem_upd hr with hr | rfl
          · obtain ⟨s, h3, h4⟩ := h1 r hr; exact ⟨s, h3, by omega⟩
          · refine ⟨_, rfl, ?_⟩
            have h5 := joinB_len (oldS (trustsB z dn) t ++ q.2)
            rw [List.length_append] at h5
            have h6 : (oldS (trustsB z dn) t).length ≤ totR dn := by
              unfold oldS
              cases hg : getA (trustsB z dn) t with
              | none => simp
              | some o =>
                obtain ⟨s, h7, h8⟩ := h1 _ (getA_in hg)
                simp at h7
                subst h7; exact h8
            omega
section
variable {S : Sto} {i : Nat} {w : Wld} {ts ks rs : List D} {p : Nat}
theorem trusts_behind_ok (h : Cop S i w ts ks rs) (hp : p < w.zones.length) {d : RD} (hd : rs[p]? = some (dR d)) (hv : ∀ q, q ∈ d → q.1 < w.zones[p].line.length ∧ ∃ t, (verO w.zones[p] q.1).trust = some t) (hl : totR d < sizeLine) (hdl : d.length < sizeLine) (k : Nat) :
    sem fns (k + 3) 27 [.c i, .d (.int p)] S = some (.d (dT (trustsB w.zones[p] d)), S) := by
  rw [semS rfl]
  have hi : evIt (sem fns (k + 2)) clsT (.items (.ix (.at (.var 0) "own_rests") (.var 1))) [some (.c i), some (.d (.int p)), some (.own (.dict [])), none, none, none] S = some (d.map fun q => .tuple [.int (q.1 : Int), vL q.2], S) := by
    have e : itemsOf 4 (dR d) = some (d.map fun q => .tuple [.int (q.1 : Int), vL q.2]) := by
      show some ((eD (fun n : Nat => PyData.int (n : Int)) vL d).map _) = _
      unfold eD; rw [List.map_map]; rfl
    simp [fo_rests h, ix_natL, hd, rd, e]
  have z1 := for_nx (tg := .tp [(.nm 3), (.nm 4)]) (body := fun env' S' => evB (sem fns (k + 2)) clsT tbBody env' S') (enc := fun q : Nat × List Key => .tuple [.int (q.1 : Int), vL q.2]) (xs := d) (S := S) (env := [some (.c i), some (.d (.int p)), some (.own (.dict [])), none, none, none])
    (fun dn env' S' => S' = S ∧ ∃ b3 b4 b5, env' = [some (.c i), some (.d (.int p)), some (.own (dT (trustsB w.zones[p] dn))), b3, b4, b5])
    ⟨rfl, none, none, none, rfl⟩ fun dn q rest env1 S1 hdq hp1 => by
      obtain ⟨rfl, b3, b4, b5, rfl⟩ := hp1
      have hq : q ∈ d := by rw [hdq]; simp
      obtain ⟨hn, t, ht⟩ := hv q hq
      obtain ⟨i1, i2⟩ := tb_inv w.zones[p] dn
      have hle : dn.length ≤ d.length := by rw [hdq]; simp
      have htot : totR dn + q.2.length ≤ totR d := by
        rw [hdq]; unfold totR
        rw [List.map_append, List.map_cons, List.sum_append, List.sum_cons]
        omega
      obtain ⟨c5, hc⟩ := tb_turn h hp hn ht (u := q.2) (acc := trustsB w.zones[p] dn) (fun r hr => by obtain ⟨s, h3, _⟩ := i1 r hr; exact ⟨s, h3⟩)
        (fun t => by
          have h6 : (oldS (trustsB w.zones[p] dn) t).length ≤ totR dn := by
            unfold oldS
            cases hg : getA (trustsB w.zones[p] dn) t with
            | none => simp
            | some o =>
              obtain ⟨s, h7, h8⟩ := i1 _ (getA_in hg)
              simp at h7
              subst h7; exact h8
          omega) (by omega) b5 k
      have e : trustsB w.zones[p] (dn ++ [q]) = tbStep w.zones[p] (trustsB w.zones[p] dn) q := by unfold trustsB; simp
      rw [← e] at hc
      exact ⟨_, _, _, rfl, hc, rfl, _, _, c5, rfl⟩
  obtain ⟨env', S', h1, rfl, b3, b4, b5, rfl⟩ := z1
  have hf : evS (sem fns (k + 2)) clsT (.for_ (.tp [(.nm 3), (.nm 4)]) (.items (.ix (.at (.var 0) "own_rests") (.var 1))) tbBody) [some (.c i), some (.d (.int p)), some (.own (.dict [])), none, none, none] S' = some (.nx [some (.c i), some (.d (.int p)), some (.own (dT (trustsB w.zones[p] d))), b3, b4, b5], S') := by
    rw [S_for, hi]; exact h1
  unfold tbBody at hf
  simp [runF, envOf, cd_Copies_trusts_behind, hf]
end
end VI.M
set_option Elab.async false
set_option linter.all false
set_option maxRecDepth 100000
/-! M16: Copies, the start: one place. -/
namespace VI.M
open PySem
def zO (w : Wld) (p : Nat) : Zone := match w.zones[p]? with
  | some z => z
  | none => ⟨[], 0, 0, 0, 0, 0⟩
theorem zO_eq {w : Wld} {p : Nat} (h : p < w.zones.length) : zO w p = w.zones[p] := by simp [zO, h]
def kdOf (w : Wld) (p : Nat) (td : TD) : KD := allK (zO w p) td w.each (zO w (p - 1)).rl
def rdOf (w : Wld) (p : Nat) (kd : KD) : RD := if p + 1 < w.zones.length then restAll (zO w p) kd w.each else []
def tdAt (w : Wld) : Nat → TD
  | 0 => [(w.anchors, none)]
  | p + 1 => trustsB (zO w p) (rdOf w p (kdOf w p (tdAt w p)))
def kdAt (w : Wld) (p : Nat) : KD := kdOf w p (tdAt w p)
def rdAt (w : Wld) (p : Nat) : RD := rdOf w p (kdAt w p)
structure CpOk (w : Wld) (p : Nat) : Prop where
  ln : (zO w p).line.length ≤ 1000
  nd : ((tdAt w p).map (·.1)).Nodup
  tl : (tdAt w p).length ≤ 1000
  ts : ∀ q, q ∈ tdAt w p → ∀ s, q.2 = some s → 1 ≤ p ∧ s.length < sizeLine
  kn : ((kdAt w p).map (·.1)).Nodup
  kr : ∀ n, (restRow (zO w p) (kdAt w p) w.each n).length < sizeLine
  tr : totR (rdAt w p) < sizeLine
  rl : (rdAt w p).length < sizeLine
  tv : ∀ q, q ∈ rdAt w p → ∃ t, (verO (zO w p) q.1).trust = some t
theorem kd_lt {w : Wld} {p : Nat} {r : (Nat × List Key) × List Key} (h : r ∈ kdAt w p) : r.1.1 < (zO w p).line.length := by
  obtain ⟨n, hn, hr⟩ := List.mem_flatMap.mp h
  obtain ⟨q, _, e⟩ := rowK_key hr
  rw [e]; exact List.mem_range.mp hn
theorem rd_lt {w : Wld} {p : Nat} {r : Nat × List Key} (h : r ∈ rdAt w p) : r.1 < (zO w p).line.length := by
  unfold rdAt rdOf at h
  split at h
  · obtain ⟨n, hn, hr⟩ := List.mem_filterMap.mp h
    rw [arG_key hr]; exact List.mem_range.mp hn
  · cases h
section
variable {S : Sto} {i : Nat} {w : Wld} {ts ks rs : List D} {p : Nat} {call : Nat → List W → Sto → Option (W × Sto)} {env : Env} {e : C} {y : D}
theorem appF_keys (h : Cop S i w ts ks rs) (hl : ks.length < sizeLine) (h0 : env[0]? = some (some (.c i))) (he : evE call clsT e env S = some (.d y, S)) : evS call clsT (.appF (.var 0) "own_keys" e) env S = some (.nx env, S.set i (.ins 1 (copF w ts (ks ++ [y]) rs))) := by
  have h' : S[i]? = some (.ins 1 (copF w ts ks rs)) := h
  have lk : (copF w ts ks rs).lookup ("own_keys" : Str) = some (true, .list ks) := rfl
  have st : setFld "own_keys" true (.list (ks ++ [y])) (copF w ts ks rs) = copF w ts (ks ++ [y]) rs := rfl
  simp [h0, fo_keys h, he, h', lk, app_ok hl, st]
theorem appF_rests (h : Cop S i w ts ks rs) (hl : rs.length < sizeLine) (h0 : env[0]? = some (some (.c i))) (he : evE call clsT e env S = some (.d y, S)) : evS call clsT (.appF (.var 0) "own_rests" e) env S = some (.nx env, S.set i (.ins 1 (copF w ts ks (rs ++ [y])))) := by
  have h' : S[i]? = some (.ins 1 (copF w ts ks rs)) := h
  have lk : (copF w ts ks rs).lookup ("own_rests" : Str) = some (true, .list rs) := rfl
  have st : setFld "own_rests" true (.list (rs ++ [y])) (copF w ts ks rs) = copF w ts ks (rs ++ [y]) := rfl
  simp [h0, fo_rests h, he, h', lk, app_ok hl, st]
theorem appF_trusts (h : Cop S i w ts ks rs) (hl : ts.length < sizeLine) (h0 : env[0]? = some (some (.c i))) (he : evE call clsT e env S = some (.d y, S)) : evS call clsT (.appF (.var 0) "own_trusts" e) env S = some (.nx env, S.set i (.ins 1 (copF w (ts ++ [y]) ks rs))) := by
  have h' : S[i]? = some (.ins 1 (copF w ts ks rs)) := h
  have lk : (copF w ts ks rs).lookup ("own_trusts" : Str) = some (true, .list ts) := rfl
  have st : setFld "own_trusts" true (.list (ts ++ [y])) (copF w ts ks rs) = copF w (ts ++ [y]) ks rs := rfl
  simp [h0, fo_trusts h, he, h', lk, app_ok hl, st]
theorem cop_set {ts' ks' rs' : List D} (h : Cop S i w ts ks rs) : Cop (S.set i (.ins 1 (copF w ts' ks' rs'))) i w ts' ks' rs' := by
  have hi : i < S.length := by
    rcases Nat.lt_or_ge i S.length with x | x
    · exact x
    · have h' : S[i]? = some (.ins 1 (copF w ts ks rs)) := h
      rw [List.getElem?_eq_none x] at h'; cases h'
  show (S.set i _)[i]? = _
  simp [hi]
def tsTo (w : Wld) (n : Nat) : List D := (List.range n).map fun p => dT (tdAt w p)
def ksTo (w : Wld) (n : Nat) : List D := (List.range n).map fun p => dK (kdAt w p)
def rsTo (w : Wld) (n : Nat) : List D := (List.range n).map fun p => dR (rdAt w p)
theorem rng_snoc {α : Type} (f : Nat → α) (n : Nat) : (List.range (n + 1)).map f = (List.range n).map f ++ [f n] := by rw [List.range_succ, List.map_append]; rfl
theorem rng_get {α : Type} (f : Nat → α) (n : Nat) : ((List.range (n + 1)).map f)[n]? = some (f n) := by simp
def ciBody : List Sc := [(.appF (.var 0) "own_keys" (.mc 23 "all_keys" (.var 0) [(.var 2)])), (.appF (.var 0) "own_rests" (.mc 26 "all_rests" (.var 0) [(.var 2)])), (.appF (.var 0) "own_trusts" (.mc 27 "trusts_behind" (.var 0) [(.var 2)]))]
theorem ci_turn (h : Cop S i w (tsTo w (p + 1)) (ksTo w p) (rsTo w p)) (hp : p < w.zones.length) (hp2 : p ≤ 1000) (ho : CpOk w p) (a1 a3 : Option Sl) (k : Nat) :
    evB (sem fns (k + 8)) clsT ciBody [some (.c i), a1, some (.d (.int p)), a3] S = some (.nx [some (.c i), a1, some (.d (.int p)), a3], S.set i (.ins 1 (copF w (tsTo w (p + 2)) (ksTo w (p + 1)) (rsTo w (p + 1))))) := by
  have ez := zO_eq hp
  have h1 := all_keys_ok h hp (d := tdAt w p) (rng_get _ p) (z := zO w (p - 1)) (fun q hq s hs => by
    obtain ⟨g1, g2⟩ := ho.ts q hq s hs
    refine ⟨?_, g2⟩
    have e1 : ((p : Int) - 1) = ((p - 1 : Nat) : Int) := by omega
    have hp' : p - 1 < w.zones.length := by omega
    rw [e1, ix_nat, zO_eq hp']
    simp [hp']) ho.nd ho.tl (by rw [← ez]; exact ho.ln) (k + 1)
  rw [← ez] at h1
  have c1 : clsT 23 = 1 := rfl
  have c2 : clsT 26 = 1 := rfl
  have c3 : clsT 27 = 1 := rfl
  have lk1 : ∀ ts ks rs, (copF w ts ks rs).lookup ("all_keys" : Str) = none := fun _ _ _ => rfl
  have lk2 : ∀ ts ks rs, (copF w ts ks rs).lookup ("all_rests" : Str) = none := fun _ _ _ => rfl
  have lk3 : ∀ ts ks rs, (copF w ts ks rs).lookup ("trusts_behind" : Str) = none := fun _ _ _ => rfl
  have a1' := appF_keys (call := sem fns (k + 8)) (env := [some (.c i), a1, some (.d (.int p)), a3]) (e := .mc 23 "all_keys" (.var 0) [(.var 2)]) (y := dK (kdAt w p)) h (by simp [ksTo, sizeLine]; omega) rfl (by
    have h' : S[i]? = some (.ins 1 (copF w (tsTo w (p + 1)) (ksTo w p) (rsTo w p))) := h
    simp [h', c1, lk1]; exact h1)
  have hK : ksTo w p ++ [dK (kdAt w p)] = ksTo w (p + 1) := (rng_snoc _ p).symm
  rw [hK] at a1'
  have g2 := cop_set (ts' := tsTo w (p + 1)) (ks' := ksTo w (p + 1)) (rs' := rsTo w p) h
  generalize hS2 : S.set i (.ins 1 (copF w (tsTo w (p + 1)) (ksTo w (p + 1)) (rsTo w p))) = S2 at a1' g2
  have h2 := all_rests_ok g2 hp (d := kdAt w p) (rng_get _ p) ho.kn (fun r hr => by rw [← ez]; exact kd_lt hr) (fun n => by rw [← ez]; exact ho.kr n) (by rw [← ez]; exact ho.ln) k
  rw [← ez] at h2
  have a2' := appF_rests (call := sem fns (k + 8)) (env := [some (.c i), a1, some (.d (.int p)), a3]) (e := .mc 26 "all_rests" (.var 0) [(.var 2)]) (y := dR (rdAt w p)) g2 (by simp [rsTo, sizeLine]; omega) rfl (by
    have h' : S2[i]? = some (.ins 1 (copF w (tsTo w (p + 1)) (ksTo w (p + 1)) (rsTo w p))) := g2
    simp [h', c2, lk2]; exact h2)
  have hR : rsTo w p ++ [dR (rdAt w p)] = rsTo w (p + 1) := (rng_snoc _ p).symm
  rw [hR] at a2'
  have g3 := cop_set (ts' := tsTo w (p + 1)) (ks' := ksTo w (p + 1)) (rs' := rsTo w (p + 1)) g2
  generalize hS3 : S2.set i (.ins 1 (copF w (tsTo w (p + 1)) (ksTo w (p + 1)) (rsTo w (p + 1)))) = S3 at a2' g3
  have h3 := trusts_behind_ok g3 hp (d := rdAt w p) (rng_get _ p) (fun q hq => by rw [← ez]; exact ⟨rd_lt hq, ho.tv q hq⟩) ho.tr ho.rl (k + 5)
  rw [← ez] at h3
  have a3' := appF_trusts (call := sem fns (k + 8)) (env := [some (.c i), a1, some (.d (.int p)), a3]) (e := .mc 27 "trusts_behind" (.var 0) [(.var 2)]) (y := dT (tdAt w (p + 1))) g3 (by simp [tsTo, sizeLine]; omega) rfl (by
    have h' : S3[i]? = some (.ins 1 (copF w (tsTo w (p + 1)) (ksTo w (p + 1)) (rsTo w (p + 1)))) := g3
    simp [h', c3, lk3]; exact h3)
  have hT : tsTo w (p + 1) ++ [dT (tdAt w (p + 1))] = tsTo w (p + 2) := (rng_snoc _ (p + 1)).symm
  rw [hT] at a3'
  simp only [ciBody, B_cons, B_nil, a1', a2', a3', bnd_some]
  rw [← hS3, ← hS2, List.set_set, List.set_set]
end
end VI.M
set_option Elab.async false
set_option linter.all false
set_option maxRecDepth 100000
/-! M17: Copies, the start. -/
namespace VI.M
open PySem
theorem gl (S0 : Sto) (x : Cell) : (S0 ++ [x])[S0.length]? = some x := by simp
theorem sl (S0 : Sto) (x y : Cell) : (S0 ++ [x]).set S0.length y = S0 ++ [y] := by simp
theorem cinit_ok {w : Wld} (hw : ∀ p, p < w.zones.length → CpOk w p) (hl : w.zones.length ≤ 1000) (S0 : Sto) (k : Nat) :
    sem fns (k + 10) 13 [.c S0.length, .d (eW w)] (S0 ++ [.ins 1 []]) = some (.d .none, S0 ++ [.ins 1 (copF w (tsTo w (w.zones.length + 1)) (ksTo w w.zones.length) (rsTo w w.zones.length))]) := by
  rw [semS rfl]
  have hfz := frozen_ok (fzW w) k (S0 ++ [.ins 1 []])
  have hu : evS (sem fns (k + 9)) clsT (.unp [(.fld (.var 0) "own_zones"), (.nm 3), (.fld (.var 0) "own_rule")] (.fc 0 [(.var 1)])) [some (.c S0.length), some (.d (eW w)), none, none] (S0 ++ [.ins 1 []])
      = some (.nx [some (.c S0.length), some (.d (eW w)), none, some (.d (eT w.anchors))], S0 ++ [.ins 1 [("own_zones", false, .tuple (w.zones.map eZ)), ("own_rule", false, eR w.each)]]) := by
    have e : eW w = .tuple [.tuple (w.zones.map eZ), eT w.anchors, eR w.each] := rfl
    have n1 : notOwn [] ("own_zones" : Str) = true := rfl
    have n2 : ∀ x : D, notOwn [("own_zones", false, x)] ("own_rule" : Str) = true := fun _ => rfl
    have s1 : ∀ x : D, setFld ("own_zones" : Str) false x [] = ([("own_zones", false, x)] : List (Str × Bool × D)) := fun _ => rfl
    have s2 : ∀ x y : D, setFld ("own_rule" : Str) false y [("own_zones", false, x)] = ([("own_zones", false, x), ("own_rule", false, y)] : List (Str × Bool × D)) := fun _ _ => rfl
    simp [hfz]
    simp [e, gl, sl, n1, n2, s1, s2]
  have h2 : evS (sem fns (k + 9)) clsT (.asg (.fldO (.var 0) "own_trusts") (.lst [(.dctN (.var 3) (.cst .none))])) [some (.c S0.length), some (.d (eW w)), none, some (.d (eT w.anchors))] (S0 ++ [.ins 1 [("own_zones", false, .tuple (w.zones.map eZ)), ("own_rule", false, eR w.each)]])
      = some (.nx [some (.c S0.length), some (.d (eW w)), none, some (.d (eT w.anchors))], S0 ++ [.ins 1 [("own_zones", false, .tuple (w.zones.map eZ)), ("own_rule", false, eR w.each), ("own_trusts", true, .list [dT [(w.anchors, none)]])]]) := by
    have n1 : ∀ x y : Bool × D, List.lookup ("own_trusts" : Str) [(("own_zones" : Str), x), ("own_rule", y)] = none := fun _ _ => rfl
    have s1 : ∀ (x y : Bool × D) (z : D), setFld ("own_trusts" : Str) true z [("own_zones", x), ("own_rule", y)] = ([("own_zones", x), ("own_rule", y), ("own_trusts", true, z)] : List (Str × Bool × D)) := fun _ _ _ => rfl
    simp [kOf_T, gl, sl, n1, s1]
    rfl
  have h3 : evS (sem fns (k + 9)) clsT (.asg (.fldO (.var 0) "own_keys") (.lst [])) [some (.c S0.length), some (.d (eW w)), none, some (.d (eT w.anchors))] (S0 ++ [.ins 1 [("own_zones", false, .tuple (w.zones.map eZ)), ("own_rule", false, eR w.each), ("own_trusts", true, .list [dT [(w.anchors, none)]])]])
      = some (.nx [some (.c S0.length), some (.d (eW w)), none, some (.d (eT w.anchors))], S0 ++ [.ins 1 [("own_zones", false, .tuple (w.zones.map eZ)), ("own_rule", false, eR w.each), ("own_trusts", true, .list [dT [(w.anchors, none)]]), ("own_keys", true, .list [])]]) := by
    have n1 : ∀ x y u : Bool × D, List.lookup ("own_keys" : Str) [(("own_zones" : Str), x), ("own_rule", y), ("own_trusts", u)] = none := fun _ _ _ => rfl
    have s1 : ∀ (x y u : Bool × D) (z : D), setFld ("own_keys" : Str) true z [("own_zones", x), ("own_rule", y), ("own_trusts", u)] = ([("own_zones", x), ("own_rule", y), ("own_trusts", u), ("own_keys", true, z)] : List (Str × Bool × D)) := fun _ _ _ _ => rfl
    simp [gl, sl, n1, s1]
  have h4 : evS (sem fns (k + 9)) clsT (.asg (.fldO (.var 0) "own_rests") (.lst [])) [some (.c S0.length), some (.d (eW w)), none, some (.d (eT w.anchors))] (S0 ++ [.ins 1 [("own_zones", false, .tuple (w.zones.map eZ)), ("own_rule", false, eR w.each), ("own_trusts", true, .list [dT [(w.anchors, none)]]), ("own_keys", true, .list [])]])
      = some (.nx [some (.c S0.length), some (.d (eW w)), none, some (.d (eT w.anchors))], S0 ++ [.ins 1 (copF w (tsTo w 1) (ksTo w 0) (rsTo w 0))]) := by
    have n1 : ∀ x y u v : Bool × D, List.lookup ("own_rests" : Str) [(("own_zones" : Str), x), ("own_rule", y), ("own_trusts", u), ("own_keys", v)] = none := fun _ _ _ _ => rfl
    have s1 : ∀ (x y u v : Bool × D) (z : D), setFld ("own_rests" : Str) true z [("own_zones", x), ("own_rule", y), ("own_trusts", u), ("own_keys", v)] = ([("own_zones", x), ("own_rule", y), ("own_trusts", u), ("own_keys", v), ("own_rests", true, z)] : List (Str × Bool × D)) := fun _ _ _ _ _ => rfl
    simp [gl, sl, n1, s1]
    rfl
  have h5 : ∃ env' S', evS (sem fns (k + 9)) clsT (.for_ (.nm 2) (.rng (.b1 .len (.at (.var 0) "own_zones"))) ciBody) [some (.c S0.length), some (.d (eW w)), none, some (.d (eT w.anchors))] (S0 ++ [.ins 1 (copF w (tsTo w 1) (ksTo w 0) (rsTo w 0))]) = some (.nx env', S')
      ∧ (S' = S0 ++ [.ins 1 (copF w (tsTo w (w.zones.length + 1)) (ksTo w w.zones.length) (rsTo w w.zones.length))] ∧ ∃ a, env' = [some (.c S0.length), some (.d (eW w)), a, some (.d (eT w.anchors))]) := by
    have hc0 : Cop (S0 ++ [.ins 1 (copF w (tsTo w 1) (ksTo w 0) (rsTo w 0))]) S0.length w (tsTo w 1) (ksTo w 0) (rsTo w 0) := gl _ _
    have hi : evIt (sem fns (k + 9)) clsT (.rng (.b1 .len (.at (.var 0) "own_zones"))) [some (.c S0.length), some (.d (eW w)), none, some (.d (eT w.anchors))] (S0 ++ [.ins 1 (copF w (tsTo w 1) (ksTo w 0) (rsTo w 0))]) = some ((List.range w.zones.length).map fun (n : Nat) => .int (n : Int), S0 ++ [.ins 1 (copF w (tsTo w 1) (ksTo w 0) (rsTo w 0))]) := by
      have e : itemsOf 1 (.int (w.zones.length : Int)) = some ((List.range w.zones.length).map fun (n : Nat) => PyData.int (n : Int)) := by
        show gd (decide _ && decide _) _ = _
        rw [decide_eq_true (by omega), decide_eq_true (by omega)]
        rfl
      simp [fo_zones hc0, e]
    rw [S_for, hi]
    have z1 := for_nx (tg := .nm 2) (body := fun env' S' => evB (sem fns (k + 9)) clsT ciBody env' S') (enc := fun n : Nat => PyData.int (n : Int)) (xs := List.range w.zones.length) (S := S0 ++ [.ins 1 (copF w (tsTo w 1) (ksTo w 0) (rsTo w 0))]) (env := [some (.c S0.length), some (.d (eW w)), none, some (.d (eT w.anchors))])
      (fun dn env' S' => S' = S0 ++ [.ins 1 (copF w (tsTo w (dn.length + 1)) (ksTo w dn.length) (rsTo w dn.length))] ∧ ∃ a, env' = [some (.c S0.length), some (.d (eW w)), a, some (.d (eT w.anchors))])
      ⟨rfl, none, rfl⟩ fun dn n rest env1 S1 hdq hp1 => by
        obtain ⟨rfl, a, rfl⟩ := hp1
        obtain ⟨rfl, hn⟩ := range_split hdq
        rw [List.length_range]
        have hc := ci_turn (i := S0.length) (gl S0 _) hn (by omega) (hw n hn) (some (.d (eW w))) (some (.d (eT w.anchors))) (k + 1)
        rw [sl] at hc
        exact ⟨_, _, _, rfl, hc, by simp, _, rfl⟩
    rw [List.length_range] at z1
    exact z1
  obtain ⟨env', S', h6, rfl, a, rfl⟩ := h5
  unfold ciBody at h6
  simp [runF, envOf, cd_Copies_init, hu, h2, h3, h4, h6, -S_unp, -S_asg3, -S_appF]
  exact List.take_of_length_le (by simp)
end VI.M
set_option Elab.async false
set_option linter.all false
set_option maxRecDepth 100000
/-! M18: Path, the small methods. -/
namespace VI.M
open PySem
def pthF (w : Wld) (tr : D) (an : List D) : List (Str × Bool × D) := [("own_zones", false, .tuple (w.zones.map eZ)), ("own_trust", false, tr), ("own_rule", false, eR w.each), ("own_answers", true, .list an)]
def Pth (S : Sto) (i : Nat) (w : Wld) (tr : D) (an : List D) : Prop := S[i]? = some (.ins 2 (pthF w tr an))
section
variable {S : Sto} {i : Nat} {w : Wld} {tr : D} {an : List D}
theorem po_zones (h : Pth S i w tr an) : fldOf S i "own_zones" = some (2, false, .tuple (w.zones.map eZ)) := by unfold fldOf; rw [h]; rfl
theorem po_trust (h : Pth S i w tr an) : fldOf S i "own_trust" = some (2, false, tr) := by unfold fldOf; rw [h]; rfl
theorem po_rule (h : Pth S i w tr an) : fldOf S i "own_rule" = some (2, false, eR w.each) := by unfold fldOf; rw [h]; rfl
theorem po_ans (h : Pth S i w tr an) : fldOf S i "own_answers" = some (2, true, .list an) := by unfold fldOf; rw [h]; rfl
def pDiv (n : Nat) : Nat := n / 2
def pPart (n : Nat) : D := .str (if n % 2 = 0 then "keys" else "rest")
def ePl (n : Nat) : D := .tuple [.int (pDiv n : Int), pPart n]
theorem place_ok (h : Pth S i w tr an) (k : Nat) : sem fns (k + 1) 29 [.c i] S = some (.d (ePl an.length), S) := by
  rw [semS rfl]
  have e1 : binD .fdiv (.int (an.length : Int)) (.int 2) = some (.int (pDiv an.length : Int)) := by
    show some (PyData.int _) = _
    congr 2
  have e2 : ∃ m : Int, binD .mod (.int (an.length : Int)) (.int 2) = some (.int m) ∧ ixD (.tuple [.str "keys", .str "rest"]) (.int m) = some (pPart an.length) := by
    refine ⟨((an.length % 2 : Nat) : Int), rfl, ?_⟩
    rw [ix_nat]
    unfold pPart
    rcases Nat.mod_two_eq_zero_or_one an.length with e | e <;> rw [e] <;> rfl
  obtain ⟨m, e3, e4⟩ := e2
  simp [runF, envOf, cd_Path_place, po_ans h, rd, e1, e3, e4, ePl]
theorem newest_ok {x : D} (h : Pth S i w tr (an ++ [x])) (k : Nat) : sem fns (k + 1) 31 [.c i] S = some (.d x, S) := by
  rw [semS rfl]
  have e : ixD (.list (an ++ [x])) (.int (-1)) = some x := atI_last _ _
  simp [runF, envOf, cd_Path_newest, po_ans h, rd, e]
end
theorem pinit_ok {w : Wld} (S0 : Sto) (k : Nat) :
    sem fns (k + 10) 28 [.c S0.length, .d (eW w)] (S0 ++ [.ins 2 []]) = some (.d .none, S0 ++ [.ins 2 (pthF w (eT w.anchors) [])]) := by
  rw [semS rfl]
  have hfz := frozen_ok (fzW w) k (S0 ++ [.ins 2 []])
  have hu : evS (sem fns (k + 9)) clsT (.unp [(.fld (.var 0) "own_zones"), (.fld (.var 0) "own_trust"), (.fld (.var 0) "own_rule")] (.fc 0 [(.var 1)])) [some (.c S0.length), some (.d (eW w))] (S0 ++ [.ins 2 []])
      = some (.nx [some (.c S0.length), some (.d (eW w))], S0 ++ [.ins 2 [("own_zones", false, .tuple (w.zones.map eZ)), ("own_trust", false, eT w.anchors), ("own_rule", false, eR w.each)]]) := by
    have e : eW w = .tuple [.tuple (w.zones.map eZ), eT w.anchors, eR w.each] := rfl
    have n1 : notOwn [] ("own_zones" : Str) = true := rfl
    have n2 : ∀ x : D, notOwn [("own_zones", false, x)] ("own_trust" : Str) = true := fun _ => rfl
    have n3 : ∀ x y : D, notOwn [("own_zones", false, x), ("own_trust", false, y)] ("own_rule" : Str) = true := fun _ _ => rfl
    have s1 : ∀ x : D, setFld ("own_zones" : Str) false x [] = ([("own_zones", false, x)] : List (Str × Bool × D)) := fun _ => rfl
    have s2 : ∀ x y : D, setFld ("own_trust" : Str) false y [("own_zones", false, x)] = ([("own_zones", false, x), ("own_trust", false, y)] : List (Str × Bool × D)) := fun _ _ => rfl
    have s3 : ∀ x y u : D, setFld ("own_rule" : Str) false u [("own_zones", false, x), ("own_trust", false, y)] = ([("own_zones", false, x), ("own_trust", false, y), ("own_rule", false, u)] : List (Str × Bool × D)) := fun _ _ _ => rfl
    simp [hfz]
    simp [e, gl, sl, n1, n2, n3, s1, s2, s3]
  have h4 : evS (sem fns (k + 9)) clsT (.asg (.fldO (.var 0) "own_answers") (.lst [])) [some (.c S0.length), some (.d (eW w))] (S0 ++ [.ins 2 [("own_zones", false, .tuple (w.zones.map eZ)), ("own_trust", false, eT w.anchors), ("own_rule", false, eR w.each)]])
      = some (.nx [some (.c S0.length), some (.d (eW w))], S0 ++ [.ins 2 (pthF w (eT w.anchors) [])]) := by
    have n1 : ∀ x y u : Bool × D, List.lookup ("own_answers" : Str) [(("own_zones" : Str), x), ("own_trust", y), ("own_rule", u)] = none := fun _ _ _ => rfl
    have s1 : ∀ (x y u : Bool × D) (z : D), setFld ("own_answers" : Str) true z [("own_zones", x), ("own_trust", y), ("own_rule", u)] = ([("own_zones", x), ("own_trust", y), ("own_rule", u), ("own_answers", true, z)] : List (Str × Bool × D)) := fun _ _ _ _ => rfl
    simp [gl, sl, n1, s1]
    rfl
  simp [runF, envOf, cd_Path_init, hu, h4, -S_unp, -S_asg3]
  exact List.take_of_length_le (by simp)
end VI.M
set_option Elab.async false
set_option linter.all false
set_option maxRecDepth 100000
/-! M19: Path, more methods. -/
namespace VI.M
open PySem
theorem pl0 (n : Nat) : ixD (ePl n) (.int 0) = some (.int (pDiv n : Int)) := atI0 _ _
theorem pl1 (n : Nat) : ixD (ePl n) (.int 1) = some (pPart n) := atI1 _ _ _
theorem part_rest (n : Nat) : cmpD .eq (pPart n) (.str "rest") = some (decide (n % 2 = 1)) := by
  unfold pPart
  rcases Nat.mod_two_eq_zero_or_one n with e | e <;> rw [e] <;> decide +kernel
theorem part_keys (n : Nat) : cmpD .eq (pPart n) (.str "keys") = some (decide (n % 2 = 0)) := by
  unfold pPart
  rcases Nat.mod_two_eq_zero_or_one n with e | e <;> rw [e] <;> decide +kernel
section
variable {S : Sto} {i : Nat} {w : Wld} {tr : D} {an : List D}
theorem psite_ok (h : Pth S i w tr an) (hp : pDiv an.length < w.zones.length) (k : Nat) : sem fns (k + 2) 30 [.c i] S = some (.d (eZ w.zones[pDiv an.length]), S) := by
  rw [semS rfl]
  have c1 : clsT 29 = 2 := rfl
  have h' : S[i]? = some (.ins 2 (pthF w tr an)) := h
  have lk : (pthF w tr an).lookup ("place" : Str) = none := rfl
  simp [runF, envOf, cd_Path_site, po_zones h, h', c1, lk, place_ok h, pl0, ix_nat, hp]
theorem goes_on_ok (h : Pth S i w tr an) (ht : pDiv an.length < w.zones.length → ∃ t, tr = eT t ∧ t ≠ []) (k : Nat) : sem fns (k + 2) 33 [.c i] S = some (.d (.bool (decide (pDiv an.length < w.zones.length))), S) := by
  rw [semS rfl]
  have c1 : clsT 29 = 2 := rfl
  have h' : S[i]? = some (.ins 2 (pthF w tr an)) := h
  have lk : (pthF w tr an).lookup ("place" : Str) = none := rfl
  by_cases hx : pDiv an.length < w.zones.length
  · obtain ⟨t, rfl, hne⟩ := ht hx
    simp [runF, envOf, cd_Path_goes_on, po_zones h, po_trust h, h', c1, lk, place_ok h, pl0, hx, hne]
  · simp [runF, envOf, cd_Path_goes_on, po_zones h, po_trust h, h', c1, lk, place_ok h, pl0, hx]
end
end VI.M
set_option Elab.async false
set_option linter.all false
set_option maxRecDepth 100000
/-! M20: Path, last_life, is_held, goes_on for every trust. -/
namespace VI.M
open PySem
section
variable {S : Sto} {i : Nat} {w : Wld} {tr : D} {an : List D}
theorem goes_on_all {t : List Key} (h : Pth S i w (eT t) an) (k : Nat) : sem fns (k + 2) 33 [.c i] S = some (.d (.bool (decide (pDiv an.length < w.zones.length) && !decide (t = []))), S) := by
  rw [semS rfl]
  have c1 : clsT 29 = 2 := rfl
  have h' : S[i]? = some (.ins 2 (pthF w (eT t) an)) := h
  have lk : (pthF w (eT t) an).lookup ("place" : Str) = none := rfl
  by_cases hx : pDiv an.length < w.zones.length
  · simp [runF, envOf, cd_Path_goes_on, po_zones h, po_trust h, h', c1, lk, place_ok h, pl0, hx]
  · simp [runF, envOf, cd_Path_goes_on, po_zones h, po_trust h, h', c1, lk, place_ok h, pl0, hx]
def lifeB (w : Wld) (m : Nat) : Int := if m % 2 = 1 then (zO w (pDiv m)).kl else (zO w (pDiv m - 1)).rl
theorem last_life_ok (h : Pth S i w tr an) (hp : pDiv an.length < w.zones.length) (h1 : 1 ≤ an.length) (k : Nat) : sem fns (k + 2) 32 [.c i] S = some (.d (.int (lifeB w an.length)), S) := by
  rw [semS rfl]
  have c1 : clsT 29 = 2 := rfl
  have h' : S[i]? = some (.ins 2 (pthF w tr an)) := h
  have lk : (pthF w tr an).lookup ("place" : Str) = none := rfl
  have hu : ∀ e : Env, e = [some (.c i), none, none] → evS (sem fns (k + 1)) clsT (.unp [(.nm 1), (.nm 2)] (.mc 29 "place" (.var 0) [])) e S = some (.nx [some (.c i), some (.d (.int (pDiv an.length : Int))), some (.d (pPart an.length))], S) := by
    rintro _ rfl
    simp [h', c1, lk, place_ok h]
    simp [ePl]
  by_cases hx : an.length % 2 = 1
  · simp [runF, envOf, cd_Path_last_life, hu, part_rest, hx, po_zones h, ix_nat, hp, lifeB, zO_eq hp, -S_unp]
  · have e1 : ((pDiv an.length : Int) - 1) = ((pDiv an.length - 1 : Nat) : Int) := by unfold pDiv; omega
    have hp' : pDiv an.length - 1 < w.zones.length := by omega
    simp [runF, envOf, cd_Path_last_life, hu, part_rest, hx, po_zones h, e1, ix_nat, hp', lifeB, zO_eq hp', -S_unp]
end
end VI.M
set_option Elab.async false
set_option linter.all false
set_option maxRecDepth 100000
/-! M21: Path, is_held, one_server_tells. -/
namespace VI.M
open PySem
section
variable {S : Sto} {i : Nat} {w : Wld} {tr : D} {an : List D}
theorem is_held0 (h : Pth S i w tr []) (t : Int) (k : Nat) : sem fns (k + 1) 34 [.c i, .d (.int t)] S = some (.d (.bool true), S) := by
  rw [semS rfl]
  simp [runF, envOf, cd_Path_is_held, po_ans h, rd]
theorem is_held_ok {s n : Int} (h : Pth S i w tr (an ++ [enP (s, n)])) (hp : pDiv (an.length + 1) < w.zones.length) (t : Int) (k : Nat) : sem fns (k + 3) 34 [.c i, .d (.int t)] S = some (.d (.bool (decide (s ≤ t) && decide (t < s + lifeB w (an.length + 1)))), S) := by
  rw [semS rfl]
  have c1 : clsT 31 = 2 := rfl
  have c2 : clsT 32 = 2 := rfl
  have h' : S[i]? = some (.ins 2 (pthF w tr (an ++ [enP (s, n)]))) := h
  have lk1 : (pthF w tr (an ++ [enP (s, n)])).lookup ("newest" : Str) = none := rfl
  have lk2 : (pthF w tr (an ++ [enP (s, n)])).lookup ("last_life" : Str) = none := rfl
  have hll := last_life_ok h (by simpa using hp) (by simp) k
  simp only [List.length_append, List.length_cons, List.length_nil] at hll
  have e0 : ¬ ((an.length : Int) + 1 = 0) := by omega
  by_cases hx : s ≤ t
  · have e : decide (t ≤ s + lifeB w (an.length + 1) - 1) = decide (t < s + lifeB w (an.length + 1)) := decide_eq_decide.mpr (by omega)
    simp [runF, envOf, cd_Path_is_held, po_ans h, rd, h', c1, c2, lk1, lk2, newest_ok h, p0, hll, hx, e0]
    omega
  · simp [runF, envOf, cd_Path_is_held, po_ans h, rd, h', c1, c2, lk1, lk2, newest_ok h, p0, hll, hx, e0]
end
end VI.M
set_option Elab.async false
set_option linter.all false
set_option maxRecDepth 100000
/-! M22: Path, one_server_tells. -/
namespace VI.M
open PySem
def ostB (e l : Nat) (s t : Int) : Bool := decide (e = l) && decide (s ≤ t) || decide (e < l) && decide (s + 1 ≤ t)
section
variable {S : Sto} {i : Nat} {w : Wld} {tr : D} {an : List D}
theorem ost_ok {s : Int} {e : Nat} (h : Pth S i w tr (an ++ [enP (s, (e : Int))])) (t : Int) (l : Nat) (k : Nat) : sem fns (k + 2) 36 [.c i, .d (.int t), .d (.int l)] S = some (.d (.bool (ostB e l s t)), S) := by
  rw [semS rfl]
  have c1 : clsT 31 = 2 := rfl
  have h' : S[i]? = some (.ins 2 (pthF w tr (an ++ [enP (s, (e : Int))]))) := h
  have lk1 : (pthF w tr (an ++ [enP (s, (e : Int))])).lookup ("newest" : Str) = none := rfl
  rcases Nat.lt_trichotomy e l with hx | hx | hx
  · have hs : stepB true e l = some 1 := by
      unfold stepB; rw [if_neg (by simp; omega), if_pos hx]
    have e1 : ¬ e = l := by omega
    by_cases ht : s + 1 ≤ t
    · simp [runF, envOf, cd_Path_one_server_tells, h', c1, lk1, newest_ok h, p0, p1, step_ok, hs, eOI, ostB, hx, e1, ht]
    · simp [runF, envOf, cd_Path_one_server_tells, h', c1, lk1, newest_ok h, p0, p1, step_ok, hs, eOI, ostB, hx, e1, ht]
  · subst hx
    have hs : stepB true e e = some 0 := by simp [stepB]
    by_cases ht : s ≤ t
    · simp [runF, envOf, cd_Path_one_server_tells, h', c1, lk1, newest_ok h, p0, p1, step_ok, hs, eOI, ostB, ht]
    · simp [runF, envOf, cd_Path_one_server_tells, h', c1, lk1, newest_ok h, p0, p1, step_ok, hs, eOI, ostB, ht]
  · have hs : stepB true e l = none := by
      unfold stepB; rw [if_neg (by simp; omega), if_neg (by omega)]
    have e1 : ¬ e = l := by omega
    have e2 : ¬ e < l := by omega
    simp [runF, envOf, cd_Path_one_server_tells, h', c1, lk1, newest_ok h, p0, p1, step_ok, hs, eOI, ostB, e1, e2]
end
end VI.M
set_option Elab.async false
set_option linter.all false
set_option maxRecDepth 100000
/-! M23: Path, believes. -/
namespace VI.M
open PySem
section
variable {S : Sto} {i : Nat} {w : Wld} {an : List D} {t : List Key}
theorem pbel_keys (h : Pth S i w (eT t) an) (he : an.length % 2 = 0) (hp : pDiv an.length < w.zones.length) {n : Nat} (hn : n < w.zones[pDiv an.length].line.length) (k : Nat) :
    sem fns (k + 7) 35 [.c i, .d (.int n)] S = some (.d (.bool (keysB w.zones[pDiv an.length].line[n].2 t w.each)), S) := by
  rw [semS rfl]
  have c1 : clsT 29 = 2 := rfl
  have c2 : clsT 30 = 2 := rfl
  have h' : S[i]? = some (.ins 2 (pthF w (eT t) an)) := h
  have lk1 : (pthF w (eT t) an).lookup ("place" : Str) = none := rfl
  have lk2 : (pthF w (eT t) an).lookup ("site" : Str) = none := rfl
  simp [runF, envOf, cd_Path_believes, h', c1, c2, lk1, lk2, psite_ok h hp, place_ok h, pl1, part_keys, he, ix_nat, hn, po_trust h, po_rule h, keysBel_ok]
theorem pbel_rest {s : Int} {e : Nat} (h : Pth S i w (eT t) (an ++ [enP (s, (e : Int))])) (ho : an.length % 2 = 0) (hp : pDiv (an.length + 1) < w.zones.length) {n : Nat} (hn : n < w.zones[pDiv (an.length + 1)].line.length) (he : e < w.zones[pDiv (an.length + 1)].line.length) (k : Nat) :
    sem fns (k + 7) 35 [.c i, .d (.int n)] S = some (.d (.bool (restB w.zones[pDiv (an.length + 1)].line[n].2 w.zones[pDiv (an.length + 1)].line[e].2 t w.each)), S) := by
  rw [semS rfl]
  have c1 : clsT 29 = 2 := rfl
  have c2 : clsT 30 = 2 := rfl
  have c3 : clsT 31 = 2 := rfl
  have h' : S[i]? = some (.ins 2 (pthF w (eT t) (an ++ [enP (s, (e : Int))]))) := h
  have lk1 : (pthF w (eT t) (an ++ [enP (s, (e : Int))])).lookup ("place" : Str) = none := rfl
  have lk2 : (pthF w (eT t) (an ++ [enP (s, (e : Int))])).lookup ("site" : Str) = none := rfl
  have lk3 : (pthF w (eT t) (an ++ [enP (s, (e : Int))])).lookup ("newest" : Str) = none := rfl
  have hs := psite_ok h (by simpa using hp) (k + 4)
  have hpl := place_ok h (k + 5)
  simp only [List.length_append, List.length_cons, List.length_nil, Nat.zero_add] at hs hpl
  have hm : ¬ (an.length + 1) % 2 = 0 := by omega
  simp [runF, envOf, cd_Path_believes, h', c1, c2, c3, lk1, lk2, lk3, hs, hpl, newest_ok h, pl1, part_keys, hm, ix_nat, hn, he, po_trust h, po_rule h, restBel_ok]
end
end VI.M
set_option Elab.async false
set_option linter.all false
set_option maxRecDepth 100000
/-! M24: numbers, fits. -/
namespace VI.M
open PySem
theorem whole_ok (a : Int) (k : Nat) (S : Sto) : sem fns (k + 1) 1 [.d (.int a)] S = some (.d (.bool true), S) := by
  rw [semS rfl]
  simp [runF, envOf, cd_is_whole, notDict, isTy]
theorem number_ok (a : Int) (k : Nat) (S : Sto) : sem fns (k + 2) 2 [.d (.int a)] S = some (.d (.bool (decide (0 ≤ a))), S) := by
  rw [semS rfl]
  simp [runF, envOf, cd_is_number, whole_ok]
/-- an answer as the law and the caller write it -/
def eQ (t : Int) (p : Nat) (r : Bool) (n : Nat) : D := .tuple [.int t, .int (p : Int), .str (if r then "rest" else "keys"), .int (n : Int)]
theorem qx0 (t : Int) (p : Nat) (r : Bool) (n : Nat) : ixD (eQ t p r n) (.int 0) = some (.int t) := atI0 _ _
theorem qx1 (t : Int) (p : Nat) (r : Bool) (n : Nat) : ixD (eQ t p r n) (.int 1) = some (.int (p : Int)) := atI1 _ _ _
theorem qx2 (t : Int) (p : Nat) (r : Bool) (n : Nat) : ixD (eQ t p r n) (.int 2) = some (.str (if r then "rest" else "keys")) := atI2 _ _ _ _
theorem qx3 (t : Int) (p : Nat) (r : Bool) (n : Nat) : ixD (eQ t p r n) (.int 3) = some (.int (n : Int)) := atI3 _ _ _ _ _
theorem qsl (t : Int) (p : Nat) (r : Bool) (n : Nat) : slD (eQ t p r n) (some 1) (some 3) = some (.tuple [.int (p : Int), .str (if r then "rest" else "keys")]) := by
  rfl
end VI.M
set_option Elab.async false
set_option linter.all false
set_option maxRecDepth 100000
/-! M25: Path, fits. -/
namespace VI.M
open PySem
theorem plc_eq (p : Nat) (r : Bool) (m : Nat) : cmpD .eq (.tuple [.int (p : Int), .str (if r then "rest" else "keys")]) (ePl m) = some (decide (p = pDiv m) && decide (r = decide (m % 2 = 1))) := by
  rw [d_eq]
  have s1 : ∀ (a : Int) (b : Bool), SeqAt.shaped (.tuple [.int a, .str (if b then "rest" else "keys")]) = true := by
    intro a b; unfold SeqAt.shaped; cases b <;> simp [PyData.canLay0, PyData.canLayAll0, PyData.depth, PyData.depthAll] <;> decide +kernel
  have e0 : ∀ a b : Bool, PyData.eqv (.str (if a then "rest" else "keys")) (.str (if b then "rest" else "keys")) = decide (a = b) := by decide +kernel
  have em : ePl m = .tuple [.int (pDiv m : Int), .str (if decide (m % 2 = 1) then "rest" else "keys")] := by
    unfold ePl pPart
    rcases Nat.mod_two_eq_zero_or_one m with e | e <;> rw [e] <;> rfl
  rw [em, s1, s1]
  show some (PyData.eqv _ _) = _
  rw [PyData.eqv, PyData.eqvAll, PyData.eqvAll, PyData.eqvAll, e0, eqv_int]
  have e5 : decide ((p : Int) = (pDiv m : Int)) = decide (p = pDiv m) := decide_eq_decide.mpr (by omega)
  rw [e5]; simp
end VI.M
set_option Elab.async false
set_option linter.all false
set_option maxRecDepth 100000
/-! M26: Path, fits. -/
namespace VI.M
open PySem
section
variable {S : Sto} {i : Nat} {w : Wld} {an : List D} {tr : List Key}
theorem fits_ok (h : Pth S i w (eT tr) an) {t : Int} {p n : Nat} {r b : Bool} {k : Nat} (hb : sem fns (k + 3) 34 [.c i, .d (.int t)] S = some (.d (.bool b), S)) :
    sem fns (k + 4) 37 [.c i, .d (eQ t p r n)] S = some (.d (.bool (decide (pDiv an.length < w.zones.length) && !decide (tr = []) && decide (0 ≤ t) && (decide (p = pDiv an.length) && decide (r = decide (an.length % 2 = 1))) && b)), S) := by
  rw [semS rfl]
  have c1 : clsT 29 = 2 := rfl
  have c2 : clsT 33 = 2 := rfl
  have c3 : clsT 34 = 2 := rfl
  have h' : S[i]? = some (.ins 2 (pthF w (eT tr) an)) := h
  have lk1 : ∀ u, (pthF w (eT u) an).lookup ("place" : Str) = none := fun _ => rfl
  have lk2 : ∀ u, (pthF w (eT u) an).lookup ("goes_on" : Str) = none := fun _ => rfl
  have lk3 : ∀ u, (pthF w (eT u) an).lookup ("is_held" : Str) = none := fun _ => rfl
  have q1 : notDict (eQ t p r n) = true := rfl
  have q2 : isTy .tuple (eQ t p r n) = true := rfl
  have q3 : b1D .len (eQ t p r n) = some (.int 4) := rfl
  have q4 : ∀ x : Str, notDict (.str x) = true := fun _ => rfl
  have q5 : ∀ x : Str, isTy .str (.str x) = true := fun _ => rfl
  have hp : (0 : Int) ≤ (p : Int) := by omega
  by_cases g1 : pDiv an.length < w.zones.length <;> by_cases g2 : tr = [] <;> by_cases g3 : 0 ≤ t <;> cases hq : (decide (p = pDiv an.length) && decide (r = decide (an.length % 2 = 1))) <;>
    simp [runF, envOf, cd_Path_fits, h', c1, c2, c3, lk1, lk2, lk3, goes_on_all h, q1, q2, q3, q4, q5, qx0, qx1, qx2, qsl, plc_eq, place_ok h, number_ok, g1, g2, g3, hp, hq, hb]
end
end VI.M
set_option Elab.async false
set_option linter.all false
set_option maxRecDepth 100000
/-! M27: Path, takes, for keys. -/
namespace VI.M
open PySem
def fitsB (w : Wld) (tr : List Key) (m : Nat) (t : Int) (p : Nat) (r b : Bool) : Bool := decide (pDiv m < w.zones.length) && !decide (tr = []) && decide (0 ≤ t) && (decide (p = pDiv m) && decide (r = decide (m % 2 = 1))) && b
section
variable {S : Sto} {i : Nat} {w : Wld} {an : List D} {tr : List Key}
theorem takes_no (h : Pth S i w (eT tr) an) {t : Int} {p n : Nat} {r b : Bool} {k : Nat} (hb : sem fns (k + 3) 34 [.c i, .d (.int t)] S = some (.d (.bool b), S)) (hf : fitsB w tr an.length t p r b = false) :
    sem fns (k + 5) 38 [.c i, .d (eQ t p r n)] S = some (.d (.bool false), S) := by
  rw [semS rfl]
  have hx := fits_ok h (p := p) (n := n) (r := r) hb
  have c1 : clsT 37 = 2 := rfl
  have h' : S[i]? = some (.ins 2 (pthF w (eT tr) an)) := h
  have lk1 : ∀ u, (pthF w (eT u) an).lookup ("fits" : Str) = none := fun _ => rfl
  unfold fitsB at hf
  rw [hf] at hx
  simp [runF, envOf, cd_Path_takes, h', c1, lk1, hx]
end
end VI.M
set_option Elab.async false
set_option linter.all false
set_option maxRecDepth 100000
/-! M28: Path, takes, for keys. -/
namespace VI.M
open PySem
section
variable {S : Sto} {i : Nat} {w : Wld} {an : List D} {tr : List Key}
def takeK (w : Wld) (tr : List Key) (m : Nat) (t : Int) (n : Nat) : Bool := told (zO w (pDiv m)) n t && keysB (verO (zO w (pDiv m)) n) tr w.each
theorem takes_keys (h : Pth S i w (eT tr) an) (hl : an.length < sizeLine) (he : an.length % 2 = 0) {t : Int} {p n : Nat} {r b : Bool} {k : Nat} (hb : sem fns (k + 7) 34 [.c i, .d (.int t)] S = some (.d (.bool b), S)) (hf : fitsB w tr an.length t p r b = true) :
    sem fns (k + 9) 38 [.c i, .d (eQ t p r n)] S = if takeK w tr an.length t n then some (.d (.bool true), S.set i (.ins 2 (pthF w (eT tr) (an ++ [enP (t, (n : Int))])))) else some (.d (.bool false), S) := by
  rw [semS rfl]
  have hx := fits_ok h (p := p) (n := n) (r := r) (k := k + 4) hb
  have hp : pDiv an.length < w.zones.length := by unfold fitsB at hf; simp at hf; exact hf.1.1.1.1
  have c1 : clsT 37 = 2 := rfl
  have c2 : clsT 30 = 2 := rfl
  have c3 : clsT 29 = 2 := rfl
  have c4 : clsT 35 = 2 := rfl
  have h' : S[i]? = some (.ins 2 (pthF w (eT tr) an)) := h
  have lk1 : ∀ u, (pthF w (eT u) an).lookup ("fits" : Str) = none := fun _ => rfl
  have lk2 : ∀ u, (pthF w (eT u) an).lookup ("site" : Str) = none := fun _ => rfl
  have lk3 : ∀ u, (pthF w (eT u) an).lookup ("place" : Str) = none := fun _ => rfl
  have lk4 : ∀ u, (pthF w (eT u) an).lookup ("believes" : Str) = none := fun _ => rfl
  have lk5 : (pthF w (eT tr) an).lookup ("own_answers" : Str) = some (true, .list an) := rfl
  have st : setFld "own_answers" true (.list (an ++ [enP (t, (n : Int))])) (pthF w (eT tr) an) = pthF w (eT tr) (an ++ [enP (t, (n : Int))]) := rfl
  have hn0 : (0 : Int) ≤ (n : Int) := by omega
  have hm : ¬ an.length % 2 = 1 := by omega
  unfold fitsB at hf
  rw [hf] at hx
  have en : ∀ a b : Int, PyData.tuple [.int a, .int b] = enP (a, b) := fun _ _ => rfl
  have hS : (S.set i (.ins 2 (pthF w (eT tr) (an ++ [enP (t, (n : Int))])))).take S.length = S.set i (.ins 2 (pthF w (eT tr) (an ++ [enP (t, (n : Int))]))) := List.take_of_length_le (by simp)
  unfold takeK
  rw [zO_eq hp]
  cases ht : told w.zones[pDiv an.length] n t with
  | false => simp [runF, envOf, cd_Path_takes, h', c1, c2, lk1, lk2, hx, psite_ok h hp, qx0, qx3, number_ok, hn0, may_ok, ht]
  | true =>
    have hn : n < w.zones[pDiv an.length].line.length := by unfold told at ht; simp at ht; exact ht.1.1
    have hbel := pbel_keys h he hp hn (k + 1)
    rw [← verO_eq hn] at hbel
    cases hk : keysB (verO w.zones[pDiv an.length] n) tr w.each with
    | false =>
      rw [hk] at hbel
      simp [runF, envOf, cd_Path_takes, h', c1, c2, c3, c4, lk1, lk2, lk3, lk4, hx, psite_ok h hp, place_ok h, pl1, part_rest, hm, qx0, qx3, number_ok, hn0, may_ok, ht, hbel]
    | true =>
      rw [hk] at hbel
      simp [runF, envOf, cd_Path_takes, h', c1, c2, c3, c4, lk1, lk2, lk3, lk4, lk5, hx, psite_ok h hp, place_ok h, pl1, part_rest, hm, qx0, qx3, number_ok, hn0, may_ok, ht, hbel, po_ans h, en, app_ok hl, st, hS]
end
end VI.M
set_option Elab.async false
set_option linter.all false
set_option maxRecDepth 100000
/-! M29: Path, takes, for the rest. -/
namespace VI.M
open PySem
section
variable {S : Sto} {i : Nat} {w : Wld} {an : List D} {tr : List Key}
def takeR (w : Wld) (tr : List Key) (m : Nat) (t s : Int) (n e : Nat) : Bool := told (zO w (pDiv m)) n t && (!decide ((zO w (pDiv m)).servers = 1) || ostB e n s t) && restB (verO (zO w (pDiv m)) n) (verO (zO w (pDiv m)) e) tr w.each
theorem takes_rest {s : Int} {e : Nat} (h : Pth S i w (eT tr) (an ++ [enP (s, (e : Int))])) (hl : an.length + 1 < sizeLine) (ho : an.length % 2 = 0) {t : Int} {p n : Nat} {r b : Bool} {k : Nat} (hb : sem fns (k + 7) 34 [.c i, .d (.int t)] S = some (.d (.bool b), S)) (hf : fitsB w tr (an.length + 1) t p r b = true) (he : e < (zO w (pDiv (an.length + 1))).line.length) :
    sem fns (k + 9) 38 [.c i, .d (eQ t p r n)] S = if takeR w tr (an.length + 1) t s n e then some (.d (.bool true), S.set i (.ins 2 (pthF w (eO (verO (zO w (pDiv (an.length + 1))) n).trust) (an ++ [enP (s, (e : Int))] ++ [enP (t, (n : Int))])))) else some (.d (.bool false), S) := by
  rw [semS rfl]
  have hx := fits_ok h (p := p) (n := n) (r := r) (k := k + 4) hb
  have hp : pDiv (an.length + 1) < w.zones.length := by unfold fitsB at hf; simp at hf; exact hf.1.1.1.1
  rw [zO_eq hp] at he ⊢
  have c1 : clsT 37 = 2 := rfl
  have c2 : clsT 30 = 2 := rfl
  have c3 : clsT 29 = 2 := rfl
  have c4 : clsT 35 = 2 := rfl
  have c5 : clsT 36 = 2 := rfl
  have h' : S[i]? = some (.ins 2 (pthF w (eT tr) (an ++ [enP (s, (e : Int))]))) := h
  have hi : i < S.length := by
    rcases Nat.lt_or_ge i S.length with x | x
    · exact x
    · rw [List.getElem?_eq_none x] at h'; cases h'
  have lk1 : ∀ u x, (pthF w u x).lookup ("fits" : Str) = none := fun _ _ => rfl
  have lk2 : ∀ u x, (pthF w u x).lookup ("site" : Str) = none := fun _ _ => rfl
  have lk3 : ∀ u x, (pthF w u x).lookup ("place" : Str) = none := fun _ _ => rfl
  have lk4 : ∀ u x, (pthF w u x).lookup ("believes" : Str) = none := fun _ _ => rfl
  have lk6 : ∀ u x, (pthF w u x).lookup ("one_server_tells" : Str) = none := fun _ _ => rfl
  have hn0 : (0 : Int) ≤ (n : Int) := by omega
  have hm : (an.length + 1) % 2 = 1 := by omega
  unfold fitsB at hf
  have el : (an ++ [enP (s, (e : Int))]).length = an.length + 1 := by simp
  have hs := psite_ok h (by rw [el]; exact hp) (k + 6)
  have hpl := place_ok h (k + 7)
  rw [el] at hx hpl
  simp only [el] at hs
  rw [hf] at hx
  unfold takeR
  rw [zO_eq hp]
  cases ht : told w.zones[pDiv (an.length + 1)] n t with
  | false => simp [runF, envOf, cd_Path_takes, h', c1, c2, lk1, lk2, hx, hs, qx0, qx3, number_ok, hn0, may_ok, ht]
  | true =>
    have hn : n < w.zones[pDiv (an.length + 1)].line.length := by unfold told at ht; simp at ht; exact ht.1.1
    have hbel := pbel_rest h ho hp hn he (k + 1)
    rw [← verO_eq hn, ← verO_eq he] at hbel
    have host := ost_ok h t n (k + 6)
    have nO : ∀ x y, notOwn (pthF w x y) ("own_trust" : Str) = true := fun _ _ => rfl
    have ln : ∀ x y, decide ((pthF w x y).length < 1000) = true := fun _ _ => rfl
    have s1 : ∀ x y u, setFld "own_trust" false u (pthF w x y) = pthF w u y := fun _ _ _ => rfl
    have s2 : ∀ x y u, setFld "own_answers" true (.list u) (pthF w x y) = pthF w x u := fun _ _ _ => rfl
    have lk5 : ∀ x y, (pthF w x y).lookup ("own_answers" : Str) = some (true, .list y) := fun _ _ => rfl
    have fo2 : ∀ x y, fldOf (S.set i (.ins 2 (pthF w x y))) i "own_answers" = some (2, true, .list y) := fun x y => po_ans (w := w) (tr := x) (an := y) (by show (S.set i _)[i]? = _; simp [hi])
    have ge2 : ∀ c : Cell, (S.set i c)[i]? = some c := fun c => by simp [hi]
    have en : ∀ a b : Int, PyData.tuple [.int a, .int b] = enP (a, b) := fun _ _ => rfl
    have hS : ∀ c : Cell, (S.set i c).take S.length = S.set i c := fun c => List.take_of_length_le (by simp)
    have hv : ixD (eV (verO w.zones[pDiv (an.length + 1)] n)) (.int 2) = some (eO (verO w.zones[pDiv (an.length + 1)] n).trust) := v2 _
    have hv' := verO_eq hn
    cases hk : restB (verO w.zones[pDiv (an.length + 1)] n) (verO w.zones[pDiv (an.length + 1)] e) tr w.each <;> cases hq : ostB e n s t <;> by_cases hsv : w.zones[pDiv (an.length + 1)].servers = 1 <;>
      simp [runF, envOf, cd_Path_takes, h', c1, c2, c3, c4, c5, lk1, lk2, lk3, lk4, lk6, lk5, hx, hs, hpl, pl1, part_rest, hm, qx0, qx3, number_ok, hn0, may_ok, ht, hbel, host, hk, hq, hsv, ix_nat, hn, nO, ln, s1, s2, fo2, ge2, hS, en, ← hv', app_ok, hl, app_ok (show (an ++ [enP (s, (e : Int))]).length < sizeLine by rw [el]; exact hl)]
end
end VI.M
set_option Elab.async false
set_option linter.all false
set_option maxRecDepth 100000
/-! M30: chains of answers, and the path they make. -/
namespace VI.M
open PySem
def enPN (q : Int × Nat) : D := enP (q.1, (q.2 : Int))
def heldB (w : Wld) (l : List (Int × Nat)) (t : Int) : Bool := match l.getLast? with
  | none => true
  | some q => decide (q.1 ≤ t) && decide (t < q.1 + lifeB w l.length)
inductive Acc (w : Wld) : List (Int × Nat) → List Key → Prop where
  | nil : Acc w [] w.anchors
  | keys {l : List (Int × Nat)} {tr : List Key} {t : Int} {n : Nat} : Acc w l tr → l.length % 2 = 0 → pDiv l.length < w.zones.length → tr ≠ [] → 0 ≤ t → heldB w l t = true → takeK w tr l.length t n = true → Acc w (l ++ [(t, n)]) tr
  | rest {l : List (Int × Nat)} {tr tr' : List Key} {s t : Int} {e n : Nat} : Acc w (l ++ [(s, e)]) tr → l.length % 2 = 0 → pDiv (l.length + 1) < w.zones.length → tr ≠ [] → 0 ≤ t → e < (zO w (pDiv (l.length + 1))).line.length → heldB w (l ++ [(s, e)]) t = true → takeR w tr (l.length + 1) t s n e = true →
      (verO (zO w (pDiv (l.length + 1))) n).trust = some tr' → Acc w (l ++ [(s, e)] ++ [(t, n)]) tr'
/-- the answers as they are written -/
def ansFrom : Nat → List (Int × Nat) → List D
  | _, [] => []
  | m, q :: l => eQ q.1 (pDiv m) (decide (m % 2 = 1)) q.2 :: ansFrom (m + 1) l
theorem ans_snoc (q : Int × Nat) : ∀ (l : List (Int × Nat)) (m : Nat), ansFrom m (l ++ [q]) = ansFrom m l ++ [eQ q.1 (pDiv (m + l.length)) (decide ((m + l.length) % 2 = 1)) q.2]
  | [], m => rfl
  | x :: l, m => by
    rw [List.cons_append, ansFrom, ansFrom, ans_snoc q l (m + 1), List.length_cons]
    have e : m + 1 + l.length = m + (l.length + 1) := by omega
    rw [e]; rfl
theorem ans_len : ∀ (l : List (Int × Nat)) (m : Nat), (ansFrom m l).length = l.length
  | [], _ => rfl
  | x :: l, m => by rw [ansFrom, List.length_cons, List.length_cons, ans_len l]
theorem compL_cons {tg : Tg} {t : Env → Sto → Option (Bool × Sto)} {e : Env → Sto → Option (W × Sto)} {env : Env} {x : D} {xs : List D} {S : Sto} : compLoop tg t e env (x :: xs) S = ob (bindTg tg x env) fun env' => bnd (t env' S) fun b S1 => match b with
    | true => bnd (e env' S1) fun w S2 => ob (pu w) fun y => bnd (compLoop tg t e env xs S2) fun ys S3 => some (y :: ys, S3)
    | false => compLoop tg t e env xs S1 := by first | (rw [compLoop]; done) | (rw [compLoop]; rfl)
theorem comp_app {tg : Tg} {t : Env → Sto → Option (Bool × Sto)} {e : Env → Sto → Option (W × Sto)} {env : Env} : ∀ {xs ys : List D} {S S1 : Sto} {us : List D}, compLoop tg t e env xs S = some (us, S1) → compLoop tg t e env (xs ++ ys) S = bnd (compLoop tg t e env ys S1) fun vs S2 => some (us ++ vs, S2)
  | [], ys, S, S1, us, h => by
    simp [compLoop] at h
    obtain ⟨rfl, rfl⟩ := h
    rw [List.nil_append]
    cases compLoop tg t e env ys S <;> rfl
  | x :: xs, ys, S, S1, us, h => by
    rw [List.cons_append]
    rw [compL_cons] at h ⊢
    cases hb : bindTg tg x env with
    | none => rw [hb] at h; cases h
    | some env1 =>
      rw [hb, ob_some] at h
      rw [ob_some]
      cases ht : t env1 S with
      | none => rw [ht] at h; cases h
      | some q =>
        obtain ⟨b, S2⟩ := q
        rw [ht, bnd_some] at h
        rw [bnd_some]
        cases b with
        | false => exact comp_app h
        | true =>
          simp only at h ⊢
          cases he : e env1 S2 with
          | none => rw [he] at h; cases h
          | some q =>
            obtain ⟨wv, S3⟩ := q
            rw [he, bnd_some] at h
            rw [bnd_some]
            cases hw : pu wv with
            | none => rw [hw] at h; cases h
            | some y =>
              rw [hw, ob_some] at h
              rw [ob_some]
              cases hc : compLoop tg t e env xs S3 with
              | none => rw [hc] at h; cases h
              | some q =>
                obtain ⟨us', S4⟩ := q
                rw [hc, bnd_some] at h
                simp at h
                obtain ⟨rfl, rfl⟩ := h
                rw [comp_app hc]
                cases compLoop tg t e env ys S4 <;> rfl
theorem enPN_map (l : List (Int × Nat)) (s : Int) (n : Nat) : (l ++ [(s, n)]).map enPN = l.map enPN ++ [enP (s, (n : Int))] := by rw [List.map_append]; rfl
theorem held_run {w : Wld} {S : Sto} {i : Nat} {tr : D} (l : List (Int × Nat)) (h : Pth S i w tr (l.map enPN)) (hp : l ≠ [] → pDiv l.length < w.zones.length) (t : Int) (k : Nat) :
    sem fns (k + 3) 34 [.c i, .d (.int t)] S = some (.d (.bool (heldB w l t)), S) := by
  rcases List.eq_nil_or_concat l with rfl | ⟨a, ⟨s, n⟩, rfl⟩
  · exact is_held0 h t (k + 2)
  · rw [List.concat_eq_append] at *
    rw [enPN_map] at h
    have hq := hp (by simp)
    simp only [List.length_append, List.length_cons, List.length_nil, Nat.zero_add] at hq
    have z := is_held_ok h (by rw [List.length_map]; exact hq) t k
    rw [List.length_map] at z
    rw [z]
    simp [heldB]
theorem one_take {call : Nat → List W → Sto → Option (W × Sto)} {i : Nat} {a b : D} {x : D} {w : Wld} {tr : D} {an : List D} {S S' : Sto} {r : Bool} (h : Pth S i w tr an) (hc : call 38 [.c i, .d x] S = some (.d (.bool r), S')) :
    compLoop (.nm 3) (fun env' S' => evT call clsT none env' S') (fun env' S' => evE call clsT (.mc 38 "takes" (.var 2) [(.var 3)]) env' S') [some (.d a), some (.d b), some (.c i), none] [x] S = some ([.bool r], S') := by
  have c1 : clsT 38 = 2 := rfl
  have h' : S[i]? = some (.ins 2 (pthF w tr an)) := h
  have lk1 : (pthF w tr an).lookup ("takes" : Str) = none := rfl
  simp [compLoop, bindTg, evT, h', c1, lk1, hc]
theorem pth_set {S : Sto} {i : Nat} {w : Wld} {tr : D} {an : List D} {tr' : D} {an' : List D} (h : Pth S i w tr an) : Pth (S.set i (.ins 2 (pthF w tr' an'))) i w tr' an' := by
  have h' : S[i]? = some (.ins 2 (pthF w tr an)) := h
  have hi : i < S.length := by
    rcases Nat.lt_or_ge i S.length with x | x
    · exact x
    · rw [List.getElem?_eq_none x] at h'; cases h'
  show (S.set i _)[i]? = _
  simp [hi]
theorem set_self {S : Sto} {i : Nat} {x : Cell} (h : S[i]? = some x) : S.set i x = S := by
  apply List.ext_getElem?
  intro j
  rw [List.getElem?_set]
  split
  · rename_i hij; subst hij
    rw [h]
    have : i < S.length := by
      rcases Nat.lt_or_ge i S.length with y | y
      · exact y
      · rw [List.getElem?_eq_none y] at h; cases h
    simp [this]
  · rfl
theorem acc_takes {w : Wld} {l : List (Int × Nat)} {tr : List Key} (ha : Acc w l tr) : l.length ≤ 1000 → ∀ {i : Nat} {S : Sto} (a b : D) (k : Nat), Pth S i w (eT w.anchors) [] →
    compLoop (.nm 3) (fun env' S' => evT (sem fns (k + 9)) clsT none env' S') (fun env' S' => evE (sem fns (k + 9)) clsT (.mc 38 "takes" (.var 2) [(.var 3)]) env' S') [some (.d a), some (.d b), some (.c i), none] (ansFrom 0 l) S
      = some (l.map (fun _ => .bool true), S.set i (.ins 2 (pthF w (eT tr) (l.map enPN)))) := by
  induction ha with
  | nil =>
    intro _ i S a b k h
    simp [ansFrom, compLoop]
    exact (set_self h).symm
  | @keys l tr t n ha he hp hne ht hh hk ih =>
    intro hl i S a b k h
    simp only [List.length_append, List.length_cons, List.length_nil, Nat.zero_add] at hl
    have z := ih (by omega) a b k h
    rw [ans_snoc, comp_app z]
    have h2 := pth_set (tr' := eT tr) (an' := l.map enPN) h
    have hb := held_run l h2 (fun _ => hp) t (k + 4)
    rw [hh] at hb
    have tk := takes_keys (n := n) (p := pDiv (0 + l.length)) (r := decide ((0 + l.length) % 2 = 1)) h2 (by rw [List.length_map]; unfold sizeLine; omega) (by rw [List.length_map]; exact he) hb (by
      rw [List.length_map]
      unfold fitsB
      simp [hp, hne, ht])
    rw [List.length_map, hk, if_pos rfl] at tk
    rw [one_take h2 tk]
    simp
    rfl
  | @rest l tr tr' s t e n ha he hp hne ht hel hh hk hv ih =>
    intro hl i S a b k h
    simp only [List.length_append, List.length_cons, List.length_nil, Nat.zero_add] at hl
    have z := ih (by simp; omega) a b k h
    rw [ans_snoc, comp_app z]
    have h2 := pth_set (tr' := eT tr) (an' := (l ++ [(s, e)]).map enPN) h
    have el : (l ++ [(s, e)]).length = l.length + 1 := by simp
    have hb := held_run (l ++ [(s, e)]) h2 (fun _ => by rw [el]; exact hp) t (k + 4)
    rw [hh] at hb
    rw [enPN_map] at h2 hb
    have tk := takes_rest (n := n) (p := pDiv (0 + (l ++ [(s, e)]).length)) (r := decide ((0 + (l ++ [(s, e)]).length) % 2 = 1)) h2 (by rw [List.length_map]; unfold sizeLine; omega) (by rw [List.length_map]; exact he) hb (by
      rw [List.length_map]
      unfold fitsB
      simp [hp, hne, ht]) (by rw [List.length_map]; exact hel)
    rw [List.length_map, hk, if_pos rfl, hv] at tk
    rw [enPN_map l]
    rw [one_take h2 tk]
    rw [enPN_map (l ++ [(s, e)]), enPN_map l]
    simp
    rfl
end VI.M
set_option Elab.async false
set_option linter.all false
set_option maxRecDepth 100000
/-! M31: path_of, is_path. -/
namespace VI.M
open PySem
theorem comp_run {call : Nat → List W → Sto → Option (W × Sto)} {e : C} {tg : Tg} {it : It} {t : Option C} {env : Env} {S S1 S2 : Sto} {xs us : List D} (hi : evIt call clsT it env S = some (xs, S1))
    (h : compLoop tg (fun env' S' => evT call clsT t env' S') (fun env' S' => evE call clsT e env' S') (wipeE env (tgSlots tg)) xs S1 = some (us, S2)) : evE call clsT (.comp e tg it t) env S = some (.d (.list us), S2) := by
  rw [E_comp, hi]
  show bnd (compLoop tg _ _ _ xs S1) _ = _
  rw [h]; rfl
theorem path_ok {w : Wld} {l : List (Int × Nat)} {tr : List Key} (ha : Acc w l tr) (hl : l.length ≤ 1000) (S : Sto) (k : Nat) :
    sem fns (k + 11) 40 [.d (eW w), .d (.tuple (ansFrom 0 l))] S = some (.c S.length, S ++ [.ins 2 (pthF w (eT tr) (l.map enPN))]) := by
  rw [semS rfl]
  have c1 : clsT 28 = 2 := rfl
  have hp := pinit_ok (w := w) S k
  have hP : Pth (S ++ [.ins 2 (pthF w (eT w.anchors) [])]) S.length w (eT w.anchors) [] := gl _ _
  have z := acc_takes ha hl (eW w) (.tuple (ansFrom 0 l)) (k + 1) hP
  have hc : evE (sem fns (k + 10)) clsT (.comp (.mc 38 "takes" (.var 2) [(.var 3)]) (.nm 3) (.seq (.var 1)) none) [some (.d (eW w)), some (.d (.tuple (ansFrom 0 l))), some (.c S.length), none] (S ++ [.ins 2 (pthF w (eT w.anchors) [])])
      = some (.d (.list (l.map fun _ => .bool true)), S ++ [.ins 2 (pthF w (eT tr) (l.map enPN))]) := by
    have y := comp_run (call := sem fns (k + 10)) (e := .mc 38 "takes" (.var 2) [(.var 3)]) (tg := .nm 3) (it := .seq (.var 1)) (t := none) (env := [some (.d (eW w)), some (.d (.tuple (ansFrom 0 l))), some (.c S.length), none]) (S := S ++ [.ins 2 (pthF w (eT w.anchors) [])]) (by simp) z
    rw [y, sl]
  have ea : asBools (l.map fun _ => PyData.bool true) = some (l.map fun _ => true) := asBools_map (fun _ => true) l
  have eb : (l.map fun _ => true).all id = true := by rw [all_id]; simp
  simp [runF, envOf, cd_path_of, c1, hp, hc, notDict, isTy]
  simp [ea, eb]
theorem is_path_ok {w : Wld} {l : List (Int × Nat)} {tr : List Key} (ha : Acc w l tr) (hl : l.length ≤ 1000) (p : Nat) (r : Bool) (S : Sto) (k : Nat) :
    sem fns (k + 12) 39 [.d (eW w), .d (.tuple (ansFrom 0 l)), .d (.int (p : Int)), .d (.str (if r then "rest" else "keys"))] S = some (.d (.bool (!decide (l = []) && decide (pDiv (l.length - 1) = p) && decide (decide ((l.length - 1) % 2 = 1) = r))), S) := by
  rw [semS rfl]
  have z := path_ok ha hl S k
  rcases List.eq_nil_or_concat l with rfl | ⟨a, ⟨s, n⟩, rfl⟩
  · simp [ansFrom] at z ⊢
    simp [runF, envOf, cd_is_path, z]
  · rw [List.concat_eq_append] at *
    rw [ans_snoc] at z ⊢
    have e1 : ixD (.tuple (ansFrom 0 a ++ [eQ s (pDiv (0 + a.length)) (decide ((0 + a.length) % 2 = 1)) n])) (.int (-1)) = some (eQ s (pDiv (0 + a.length)) (decide ((0 + a.length) % 2 = 1)) n) := atI_last _ _
    have e2 := plc_eq (pDiv (0 + a.length)) (decide ((0 + a.length) % 2 = 1)) (2 * p + r.toNat)
    have e3 : ePl (2 * p + r.toNat) = .tuple [.int (p : Int), .str (if r then "rest" else "keys")] := by
      unfold ePl pPart pDiv
      cases r
      · simp
      · have h1 : (2 * p + 1) / 2 = p := by omega
        have h2 : (2 * p + 1) % 2 = 1 := by omega
        simp [h1, h2]
    rw [e3] at e2
    have e4 : decide (pDiv a.length = pDiv (2 * p + r.toNat)) = decide (pDiv a.length = p) := by
      congr 1
      unfold pDiv
      cases r <;> simp <;> omega
    have e5 : decide ((2 * p + r.toNat) % 2 = 1) = r := by
      cases r <;> simp <;> omega
    have e6 : (0 : Int) < (a.length : Int) + 1 := by omega
    simp only [Nat.zero_add] at *
    simp only [e4, e5] at e2
    generalize hr1 : decide (a.length % 2 = 1) = r1 at z e1 e2 ⊢
    simp [runF, envOf, cd_is_path, z, e1, qsl, ans_len, e2, e6, hr1]
end VI.M
set_option Elab.async false
set_option linter.all false
set_option maxRecDepth 100000
/-! M32: a KEY alone. -/
namespace VI.M
open PySem
def oneWay (q : Key) (t : List Key) (each : Bool) : Bool := !each || t.all fun o => decide (o.2 = q.2)
def enT (q : Key) (t : List Key) (each : Bool) : Bool := decide (q ∈ t) && oneWay q t each
def enV (q : Key) (v : Ver) (t : List Key) (each : Bool) : Bool := decide (q ∈ v.keys) && (!decide (q.1 ∈ v.gone)) && oneWay q t each
theorem oneWay_ok (q : Key) (t : List Key) (each : Bool) (k : Nat) (S : Sto) : sem fns (k + 1) 41 [.d (enP q), .d (eT t), .d (eR each)] S = some (.d (.bool (oneWay q t each)), S) := by
  rw [semS rfl]
  cases each with
  | false => simp [runF, envOf, cd_has_one_way, oneWay]
  | true =>
    have hl : evE (sem fns k) clsT (.comp (.cmp .eq (.ix (.var 3) (.cst (.int 1))) (.ix (.var 0) (.cst (.int 1)))) (.nm 3) (.seq (.var 1)) none) [some (.d (enP q)), some (.d (eT t)), some (.d (eR true)), none] S = some (.d (.list (t.map fun o => .bool (decide (o.2 = q.2)))), S) :=
      comp_all (enc := enP) (by simp [eT]) fun o ho => ⟨_, rfl, by simp [wipeE, tgSlots]⟩
    simp [runF, envOf, cd_has_one_way, oneWay, hl, asBools_map, all_id]
theorem enT_ok (q : Key) (t : List Key) (each : Bool) (k : Nat) (S : Sto) : sem fns (k + 2) 42 [.d (enP q), .d (eT t), .d (eR each)] S = some (.d (.bool (enT q t each)), S) := by
  rw [semS rfl]
  by_cases h : q ∈ t <;> simp [runF, envOf, cd_is_enough, enT, h, oneWay_ok]
theorem enV_ok (q : Key) (v : Ver) (t : List Key) (each : Bool) (k : Nat) (S : Sto) : sem fns (k + 2) 43 [.d (enP q), .d (eV v), .d (eT t), .d (eR each)] S = some (.d (.bool (enV q v t each)), S) := by
  rw [semS rfl]
  by_cases h : q ∈ v.keys <;> by_cases h2 : q.1 ∈ v.gone <;> simp [runF, envOf, cd_is_enough_in, enV, h, h2, oneWay_ok]
theorem eqvp_nil (l : List Key) : PyData.eqv (.list (l.map enP)) (.list []) = decide (l = []) := by
  have h := eqvAll_map (f := enP) eqv_p l []
  show PyData.eqvAll (l.map enP) [] = _
  simpa using h
theorem shPL (l : List Key) : SeqAt.shaped (.list (l.map enP)) = true := (ShO.lst (f := enP) (n := 1) (l := l) fun x _ => ShO.p x).shaped (by omega)
theorem c_eqNilP (l : List Key) : cmpD .eq (.list (l.map enP)) (.list []) = some (decide (l = [])) := by
  rw [d_eq, shPL, show SeqAt.shaped (.list []) = true from by decide +kernel, eqvp_nil]; rfl
theorem lawOne_ok (q : Key) (t : List Key) (each : Bool) (k : Nat) (S : Sto) : sem fns (k + 1) 65 [.d (enP q), .d (eT t), .d (eR each)] S = some (.d (.bool (oneWay q t each)), S) := by
  rw [semS rfl]
  cases each with
  | false => simp [runF, envOf, cd__law_one_way, oneWay]
  | true =>
    have hl : evE (sem fns k) clsT (.comp (.var 3) (.nm 3) (.seq (.var 1)) (some (.cmp .ne (.ix (.var 3) (.cst (.int 1))) (.ix (.var 0) (.cst (.int 1)))))) [some (.d (enP q)), some (.d (eT t)), some (.d (eR true)), none] S = some (.d (.list ((t.filter fun o => !decide (o.2 = q.2)).map enP)), S) :=
      comp_ok (enc := enP) (by simp [eT]) fun o ho => ⟨_, rfl, by simp [wipeE, tgSlots], fun _ => by simp [wipeE, tgSlots]⟩
    have e : decide ((t.filter fun o => !decide (o.2 = q.2)) = []) = t.all fun o => decide (o.2 = q.2) := by
      rw [Bool.eq_iff_iff]; simp [List.filter_eq_nil_iff]
    simp [runF, envOf, cd__law_one_way, oneWay, hl, c_eqNilP, e]
theorem lawMade_ok (q : Key) (t : List Key) (each : Bool) (k : Nat) (S : Sto) : sem fns (k + 2) 66 [.d (enP q), .d (eT t), .d (eR each)] S = some (.d (.bool (enT q t each)), S) := by
  rw [semS rfl]
  by_cases h : q ∈ t <;> simp [runF, envOf, cd__law_made_by, enT, h, lawOne_ok]
theorem lawUses_ok (q : Key) (v : Ver) (t : List Key) (each : Bool) (k : Nat) (S : Sto) : sem fns (k + 2) 67 [.d (enP q), .d (eV v), .d (eT t), .d (eR each)] S = some (.d (.bool (enV q v t each)), S) := by
  rw [semS rfl]
  by_cases h : q ∈ v.keys <;> by_cases h2 : q.1 ∈ v.gone <;> simp [runF, envOf, cd__law_uses, enV, h, h2, lawOne_ok]
/-! last_held -/
theorem asInts_map : ∀ l : List Int, asInts (l.map enI) = some l
  | [] => rfl
  | x :: l => by
    rw [List.map_cons]
    show (asInts (l.map enI)).map (x :: ·) = _
    rw [asInts_map l]; rfl
def maxL : List Int → Int
  | [] => 0
  | n :: r => maxI n r
theorem maxI_spec : ∀ (r : List Int) (n : Int), maxI n r ∈ n :: r ∧ ∀ x, x ∈ n :: r → x ≤ maxI n r
  | [], n => ⟨by simp [maxI], by simp [maxI]⟩
  | y :: r, n => by
    obtain ⟨h1, h2⟩ := maxI_spec r (if n < y then y else n)
    unfold maxI
    generalize hm : maxI (if n < y then y else n) r = m at h1 h2
    refine ⟨?_, ?_⟩
    · rcases List.mem_cons.mp h1 with h | h
      · rw [h]; split <;> simp
      · simp [h]
    · intro x hx
      have h3 := h2 _ (List.mem_cons_self ..)
      rcases List.mem_cons.mp hx with h | h
      · subst h; split at h3 <;> omega
      · rcases List.mem_cons.mp h with h | h
        · subst h; split at h3 <;> omega
        · exact h2 x (List.mem_cons_of_mem _ h)
theorem maxL_spec {l : List Int} (h : l ≠ []) : maxL l ∈ l ∧ ∀ x, x ∈ l → x ≤ maxL l := by
  cases l with
  | nil => exact absurd rfl h
  | cons n r => exact maxI_spec r n
theorem b_maxL {l : List Int} (h : l ≠ []) : b1D .max (.list (l.map enI)) = some (.int (maxL l)) := by
  show (asInts (l.map enI)).bind _ = _
  rw [asInts_map]
  cases l with
  | nil => exact absurd rfl h
  | cons n r => rfl
def lastH (s : List Key) (life : Int) : Int := maxL (s.map (·.2)) + life - 1
theorem lastH_ok {s : List Key} (h : s ≠ []) (life : Int) (k : Nat) (S : Sto) : sem fns (k + 1) 44 [.d (vL s), .d (.int life)] S = some (.d (.int (lastH s life)), S) := by
  rw [semS rfl]
  have hl : evE (sem fns k) clsT (.comp (.var 3) (.tp [(.nm 2), (.nm 3)]) (.seq (.var 0)) none) [some (.d (vL s)), some (.d (.int life)), none, none] S = some (.d (.list (s.map fun p => enI p.2)), S) :=
    comp_all (enc := enP) (by simp [vL]) fun o ho => ⟨_, rfl, by simp [wipeE, tgSlots, tgsSlots]; rfl⟩
  have e : (s.map fun p => enI p.2) = (s.map (·.2)).map enI := by rw [List.map_map]; rfl
  rw [e] at hl
  have hm := b_maxL (l := s.map (·.2)) (by simpa using h)
  simp [runF, envOf, cd_last_held, hl, hm, lastH, -List.map_map]
/-! trust_behind -/
theorem ans_get : ∀ (l : List (Int × Nat)) (m j : Nat) (q : Int × Nat), l[j]? = some q → (ansFrom m l)[j]? = some (eQ q.1 (pDiv (m + j)) (decide ((m + j) % 2 = 1)) q.2)
  | [], _, _, _, h => by simp at h
  | x :: l, m, 0, q, h => by simp at h; subst h; rw [ansFrom]; rfl
  | x :: l, m, j + 1, q, h => by
    rw [ansFrom, List.getElem?_cons_succ]
    rw [List.getElem?_cons_succ] at h
    rw [ans_get l (m + 1) j q h]
    have e : m + 1 + j = m + (j + 1) := by omega
    rw [e]
theorem acc_even {w : Wld} {l : List (Int × Nat)} {tr : List Key} (h : Acc w l tr) {p : Nat} (hl : l.length = 2 * (p + 1)) : ∃ a t n, l = a ++ [(t, n)] ∧ (verO (zO w p) n).trust = some tr ∧ p < w.zones.length ∧ n < (zO w p).line.length := by
  cases h with
  | nil => simp at hl
  | keys ha he => simp at hl; omega
  | @rest l tr tr' s t e n ha he hp hne ht hel hh hk hv =>
    simp at hl
    have e1 : pDiv (l.length + 1) = p := by unfold pDiv; omega
    rw [e1] at hv hp
    refine ⟨_, _, _, rfl, hv, hp, ?_⟩
    unfold takeR told at hk
    rw [e1] at hk
    simp at hk
    exact hk.1.1.1.1
theorem acc_odd {w : Wld} {l : List (Int × Nat)} {tr : List Key} (h : Acc w l tr) {p : Nat} (hl : l.length = 2 * p + 1) : ∃ a t n, l = a ++ [(t, n)] ∧ Acc w a tr ∧ p < w.zones.length ∧ n < (zO w p).line.length := by
  cases h with
  | nil => simp at hl
  | rest ha he => simp at hl; omega
  | @keys l tr t n ha he hp hne ht hh hk =>
    simp at hl
    have e1 : pDiv l.length = p := by unfold pDiv; omega
    rw [e1] at hp
    refine ⟨_, _, _, rfl, ha, hp, ?_⟩
    unfold takeK told at hk
    rw [e1] at hk
    simp at hk
    exact hk.1.1.1
theorem acc_zero {w : Wld} {l : List (Int × Nat)} {tr : List Key} (h : Acc w l tr) (hl : l.length = 0) : l = [] ∧ tr = w.anchors := by
  cases h with
  | nil => exact ⟨rfl, rfl⟩
  | keys => simp at hl
  | rest => simp at hl
theorem b_mul2 (a : Int) : binD .mul (.int 2) (.int a) = some (.int (2 * a)) := by
  show gd (inPow64 2 || inPow64 a) _ = _
  rw [show inPow64 2 = true from by decide +kernel]; rfl
theorem tbeh_ok {w : Wld} {l : List (Int × Nat)} {tr : List Key} (h : Acc w l tr) {p : Nat} (hl : l.length = 2 * p) (x : List (Int × Nat)) (k : Nat) (S : Sto) :
    sem fns (k + 1) 48 [.d (eW w), .d (.int (p : Int)), .d (.tuple (ansFrom 0 (l ++ x)))] S = some (.d (eT tr), S) := by
  rw [semS rfl]
  cases p with
  | zero =>
    obtain ⟨_, rfl⟩ := acc_zero h hl
    simp [runF, envOf, cd_trust_behind]
  | succ p =>
    obtain ⟨a, t, n, rfl, hv, hp, hn⟩ := acc_even h hl
    have e0 : ¬ ((p : Int) + 1 = 0) := by omega
    have e2 : (2 * ((p : Int) + 1) - 1) = ((2 * p + 1 : Nat) : Int) := by omega
    have hal : a.length = 2 * p + 1 := by simp at hl; omega
    have hg := ans_get (a ++ (t, n) :: x) 0 (2 * p + 1) (t, n) (by rw [← hal]; simp)
    have hix : ixD (.tuple (ansFrom 0 (a ++ (t, n) :: x))) (.int (2 * ((p : Int) + 1) - 1)) = some (eQ t (pDiv (0 + (2 * p + 1))) (decide ((0 + (2 * p + 1)) % 2 = 1)) n) := by
      rw [e2, ix_nat, hg]
    have hz := zO_eq hp
    have hn' : n < w.zones[p].line.length := by rw [← hz]; exact hn
    have hv' : (w.zones[p].line[n].2).trust = some tr := by rw [← hv, hz, verO_eq hn']
    simp [runF, envOf, cd_trust_behind, e0, hix, b_mul2, ix_nat, qx3, hp, hn', hv', eO]
end VI.M
set_option Elab.async false
set_option linter.all false
set_option maxRecDepth 100000
/-! M33: shows_trust. -/
namespace VI.M
open PySem
theorem zone_of_ok {w : Wld} {p : Nat} (hp : p < w.zones.length) (k : Nat) (S : Sto) : sem fns (k + 8) 6 [.d (eW w), .d (.int (p : Int))] S = some (.d (eZ w.zones[p]), S) := by
  rw [semS rfl]
  have h1 : (0 : Int) ≤ (p : Int) := by omega
  have h2 : (p : Int) < (w.zones.length : Int) := by omega
  have hf := frozen_ok (fzZ w.zones[p]) k S
  simp [runF, envOf, cd_zone_of, h1, h2, ix_nat, hp, hf]
theorem ans_last (l : List (Int × Nat)) (t : Int) (n : Nat) : ixD (.tuple (ansFrom 0 (l ++ [(t, n)]))) (.int (-1)) = some (eQ t (pDiv l.length) (decide (l.length % 2 = 1)) n) := by
  rw [ans_snoc, Nat.zero_add]; exact atI_last _ _
theorem gen_ok {w : Wld} {l : List (Int × Nat)} {tr : List Key} {t : Int} {n p : Nat} (h : Acc w l tr) (h2 : Acc w (l ++ [(t, n)]) tr) (hl : l.length = 2 * p) (hb : p ≤ 400) (hp : p < w.zones.length) (hn : n < (zO w p).line.length) (q : Key) (tm : Int) (S : Sto) (k : Nat) :
    sem fns (k + 13) 49 [.d (eW w), .d (.int (p : Int)), .d (enP q), .d (.tuple (ansFrom 0 (l ++ [(t, n)]))), .d (.int tm)] S = some (.d (.bool (enV q (verO (zO w p) n) tr w.each && (decide (t ≤ tm) && decide (tm < t + (zO w p).kl)))), S) := by
  rw [semS rfl]
  have hip := is_path_ok h2 (by simp; omega) p false S k
  have e1 : pDiv (2 * p) = p := by unfold pDiv; omega
  have e2 : 2 * p % 2 = 0 := by omega
  simp [hl, e1, e2] at hip
  have hla := ans_last l t n
  rw [hl] at hla
  have htb := tbeh_ok h hl [(t, n)] (k + 11) S
  have hz := zO_eq hp
  have hn' : n < w.zones[p].line.length := by rw [← hz]; exact hn
  have hv := verO_eq hn'
  rw [hz, hv]
  have hev := enV_ok q (w.zones[p].line[n].2) tr w.each (k + 10) S
  by_cases c1 : enV q (w.zones[p].line[n].2) tr w.each = true
  · by_cases c2 : t ≤ tm
    · simp [runF, envOf, cd_shows_genuine, hip, hla, qx0, qx3, ix_nat, hp, hn', htb, hev, c1, c2]
    · simp [runF, envOf, cd_shows_genuine, hip, hla, qx0, qx3, ix_nat, hp, hn', htb, hev, c1, c2]
  · rw [Bool.not_eq_true] at c1
    simp [runF, envOf, cd_shows_genuine, hip, hla, qx0, qx3, ix_nat, hp, hn', htb, hev, c1]
theorem shQ (t : Int) (p : Nat) (r : Bool) (n : Nat) : ShO (eQ t p r n) 1 := by
  unfold eQ
  exact ⟨by cases r <;> simp [PyData.canLay0, PyData.canLayAll0] <;> decide +kernel, by cases r <;> simp [PyData.depth, PyData.depthAll] <;> decide +kernel⟩
theorem ans_sh : ∀ (l : List (Int × Nat)) (m : Nat), ∀ x, x ∈ ansFrom m l → ShO x 1
  | [], _, _, h => by cases h
  | q :: l, m, x, h => by
    rw [ansFrom] at h
    rcases List.mem_cons.mp h with h | h
    · rw [h]; exact shQ _ _ _ _
    · exact ans_sh l (m + 1) x h
theorem ans_eq0 (l : List (Int × Nat)) (m : Nat) : cmpD .eq (.tuple (ansFrom m l)) (.tuple []) = some (decide (l = [])) := by
  have hs : ShO (.tuple (ansFrom m l)) 2 := by
    have z := ShO.tup (f := fun x : D => x) (n := 1) (l := ansFrom m l) (ans_sh l m)
    rw [List.map_id'] at z
    exact z
  rw [d_eq, hs.shaped (by omega), show SeqAt.shaped (.tuple []) = true from by decide +kernel, PyData.eqv]
  cases l with
  | nil => rw [ansFrom]; rfl
  | cons q l => rw [ansFrom]; rfl
theorem made_ok {w : Wld} {a : List (Int × Nat)} {tr : List Key} {t : Int} {n p : Nat} (h : Acc w (a ++ [(t, n)]) tr) (hl : (a ++ [(t, n)]).length = 2 * (p + 1)) (hb : p ≤ 400) (hp : p < w.zones.length) (q : Key) (mk : Int) (S : Sto) (k : Nat) :
    sem fns (k + 13) 50 [.d (eW w), .d (.int ((p + 1 : Nat) : Int)), .d (enP q), .d (.tuple (ansFrom 0 (a ++ [(t, n)]))), .d (.int mk)] S = some (.d (.bool (enT q tr w.each && (decide (t ≤ mk) && decide (mk < t + (zO w p).rl)))), S) := by
  rw [semS rfl]
  have hip := is_path_ok h (by omega) p true S k
  have hal : a.length = 2 * p + 1 := by simp at hl; omega
  have e1 : pDiv (2 * p + 1) = p := by unfold pDiv; omega
  simp [hal, e1] at hip
  have hla := ans_last a t n
  have htb := tbeh_ok h hl [] (k + 11) S
  rw [List.append_nil] at htb
  have e0 : ¬ ((p : Int) + 1 = 0) := by omega
  have hz := zO_eq hp
  rw [hz]
  simp only [Int.natCast_add, Int.cast_ofNat_Int] at htb ⊢
  by_cases c1 : enT q tr w.each = true
  · by_cases c2 : t ≤ mk
    · simp [runF, envOf, cd_shows_made, e0, hip, hla, qx0, qx3, ix_nat, hp, htb, enT_ok, c1, c2]
    · simp [runF, envOf, cd_shows_made, e0, hip, hla, qx0, qx3, ix_nat, hp, htb, enT_ok, c1, c2]
  · rw [Bool.not_eq_true] at c1
    simp [runF, envOf, cd_shows_made, e0, hip, hla, qx0, qx3, ix_nat, hp, htb, enT_ok, c1]
theorem made_odd {w : Wld} {l : List (Int × Nat)} {tr : List Key} {p : Nat} (h : Acc w l tr) (hl : l.length = 2 * p + 1) (hb : p ≤ 400) (q : Key) (mk : Int) (S : Sto) (k : Nat) :
    sem fns (k + 13) 50 [.d (eW w), .d (.int (p : Int)), .d (enP q), .d (.tuple (ansFrom 0 l)), .d (.int mk)] S = some (.d (.bool false), S) := by
  rw [semS rfl]
  have hne : l ≠ [] := by intro e; rw [e] at hl; simp at hl
  cases p with
  | zero => simp [runF, envOf, cd_shows_made, ans_eq0, hne]
  | succ p =>
    have hip := is_path_ok h (by omega) p true S k
    have e2 : ¬ (2 * (p + 1)) % 2 = 1 := by omega
    simp [hl, e2] at hip
    have e0 : ¬ ((p : Int) + 1 = 0) := by omega
    simp [runF, envOf, cd_shows_made, e0, hip]
theorem made_zero (w : Wld) (q : Key) (mk : Int) (S : Sto) (k : Nat) :
    sem fns (k + 13) 50 [.d (eW w), .d (.int 0), .d (enP q), .d (.tuple []), .d (.int mk)] S = some (.d (.bool (enT q w.anchors w.each)), S) := by
  rw [semS rfl]
  have z := ans_eq0 [] 0
  rw [ansFrom] at z
  simp [runF, envOf, cd_shows_made, z, enT_ok]
theorem show_n {w : Wld} {p : Nat} {q : Key} {A : List D} {tm : Int} {b : Bool} {S : Sto} {k : Nat} (hp : p < w.zones.length) (ht : 0 ≤ tm) (h : sem fns (k + 13) 49 [.d (eW w), .d (.int (p : Int)), .d (enP q), .d (.tuple A), .d (.int tm)] S = some (.d (.bool b), S)) :
    sem fns (k + 14) 51 [.d (eW w), .d (.int (p : Int)), .d (enP q), .d (.tuple [.tuple A, .none, .int tm])] S = some (.d (.bool b), S) := by
  rw [semS rfl]
  have hz := zone_of_ok hp (k + 5) S
  have hf := frozen_ok (fzW w) (k + 4) S
  have hf2 := frozen_ok (fzP q) (k + 11) S
  have i0 : ixD (.tuple [.tuple A, .none, .int tm]) (.int 0) = some (.tuple A) := atI0 _ _
  simp [runF, envOf, cd_shows_trust, hz, hf, hf2, notDict, isTy, i0, number_ok, ht, h]
theorem show_m {w : Wld} {p : Nat} {q : Key} {A : List D} {tm mk : Int} {b : Bool} {S : Sto} {k : Nat} (hp : p < w.zones.length) (ht : 0 ≤ tm) (hm : 0 ≤ mk) (h : mk ≤ tm → tm < mk + (zO w p).kl → sem fns (k + 13) 50 [.d (eW w), .d (.int (p : Int)), .d (enP q), .d (.tuple A), .d (.int mk)] S = some (.d (.bool b), S)) :
    sem fns (k + 14) 51 [.d (eW w), .d (.int (p : Int)), .d (enP q), .d (.tuple [.tuple A, .int mk, .int tm])] S = some (.d (.bool (decide (mk ≤ tm) && decide (tm < mk + (zO w p).kl) && b)), S) := by
  rw [semS rfl]
  have hz := zone_of_ok hp (k + 5) S
  have hf := frozen_ok (fzW w) (k + 4) S
  have hf2 := frozen_ok (fzP q) (k + 11) S
  have i0 : ixD (.tuple [.tuple A, .int mk, .int tm]) (.int 0) = some (.tuple A) := atI0 _ _
  have hzo := zO_eq hp
  rw [hzo] at h ⊢
  by_cases c1 : mk ≤ tm
  · by_cases c2 : tm < mk + w.zones[p].kl
    · simp [runF, envOf, cd_shows_trust, hz, hf, hf2, notDict, isTy, i0, number_ok, ht, hm, h c1 c2, c1, c2, ix_nat, hp]
    · simp [runF, envOf, cd_shows_trust, hz, hf, hf2, notDict, isTy, i0, number_ok, ht, hm, c1, c2, ix_nat, hp]
  · simp [runF, envOf, cd_shows_trust, hz, hf, hf2, notDict, isTy, i0, number_ok, ht, hm, c1, ix_nat, hp]
end VI.M
set_option Elab.async false
set_option linter.all false
set_option maxRecDepth 100000
/-! M34: last_made, last_genuine, last_trust. -/
namespace VI.M
open PySem
def lmF (key : Key) (each : Bool) (rl kl : Int) (q : List Key × Option (List Key)) : Option Int := if enT key q.1 each = true then some ((match q.2 with | none => 1000000000 | some s => lastH s rl) + kl - 1) else none
def lgF (z : Zone) (key : Key) (each : Bool) (r : (Nat × List Key) × List Key) : Option Int := if enV key (verO z r.1.1) r.1.2 each = true then some (lastH r.2 z.kl) else none
def lmBody : List Sc := [(.ifs (.fc 42 [(.var 2), (.var 4), (.mc 15 "rule" (.var 0) [])]) [(.asg (.nm 6) (.ifx (.isN (.var 5)) (.glo "EVER" (.int 1000000000)) (.fc 44 [(.var 5), (.ix (.mc 14 "site" (.var 0) [(.bin .sub (.var 1) (.cst (.int 1)))]) (.cst (.int 5)))]))), (.app 3 (.bin .sub (.bin .add (.var 6) (.ix (.mc 14 "site" (.var 0) [(.var 1)]) (.cst (.int 4)))) (.cst (.int 1))))] [])]
def lgBody : List Sc := [(.ifs (.fc 43 [(.var 2), (.mc 16 "told" (.var 0) [(.var 1), (.var 5)]), (.var 6), (.mc 15 "rule" (.var 0) [])]) [(.app 3 (.fc 44 [(.var 4), (.ix (.mc 14 "site" (.var 0) [(.var 1)]) (.cst (.int 4)))]))] [])]
section
variable {S : Sto} {i : Nat} {w : Wld} {ts ks rs : List D} {p : Nat}
theorem lm_turn (h : Cop S i w ts ks rs) (hp : p < w.zones.length) {q : List Key × Option (List Key)} (hq : ∀ s, q.2 = some s → 1 ≤ p ∧ s ≠ []) (key : Key) {acc : List Int} (ha : acc.length < sizeLine) (a6 : Option Sl) (k : Nat) :
    ∃ b6, evB (sem fns (k + 6)) clsT lmBody [some (.c i), some (.d (.int (p : Int))), some (.d (enP key)), some (.own (.list (acc.map enI))), some (.d (eT q.1)), some (.d (vO q.2)), a6] S
      = some (.nx [some (.c i), some (.d (.int (p : Int))), some (.d (enP key)), some (.own (.list ((acc ++ (lmF key w.each (zO w (p - 1)).rl (zO w p).kl q).toList).map enI))), some (.d (eT q.1)), some (.d (vO q.2)), b6], S) := by
  have c1 : clsT 15 = 1 := rfl
  have c2 : clsT 14 = 1 := rfl
  have h' : S[i]? = some (.ins 1 (copF w ts ks rs)) := h
  have lk1 : (copF w ts ks rs).lookup ("rule" : Str) = none := rfl
  have lk2 : (copF w ts ks rs).lookup ("site" : Str) = none := rfl
  have ap : ∀ x : Int, appD (.list (acc.map enI)) (.int x) = some (.list ((acc ++ [x]).map enI)) := fun x => by
    rw [app_ok (by simpa using ha), List.map_append]; rfl
  rw [zO_eq hp]
  by_cases he : enT key q.1 w.each = true
  · obtain ⟨t, o⟩ := q
    cases o with
    | none =>
      refine ⟨some (.d (.int 1000000000)), ?_⟩
      simp at he
      simp [lmBody, h', c1, c2, lk1, lk2, rule_ok h, enT_ok, he, vO, site_ok h hp, ap, lmF]
    | some s =>
      obtain ⟨h1, h2⟩ := hq s rfl
      have e1 : ((p : Int) - 1) = ((p - 1 : Nat) : Int) := by omega
      have hp' : p - 1 < w.zones.length := by omega
      rw [zO_eq hp']
      refine ⟨some (.d (.int (lastH s w.zones[p - 1].rl))), ?_⟩
      simp at he
      have hvl : ∀ s, vL s = .list (s.map enP) := fun _ => rfl
      have hlh := lastH_ok h2 w.zones[p - 1].rl (k + 5) S
      rw [hvl] at hlh
      simp [lmBody, h', c1, c2, lk1, lk2, rule_ok h, enT_ok, he, vO, hvl, site_ok h hp, site_ok h hp', e1, hlh, ap, lmF]
  · rw [Bool.not_eq_true] at he
    refine ⟨a6, ?_⟩
    simp [lmBody, h', c1, c2, lk1, lk2, rule_ok h, enT_ok, he, lmF]
theorem lg_turn (h : Cop S i w ts ks rs) (hp : p < w.zones.length) {r : (Nat × List Key) × List Key} (hr : r.1.1 < (zO w p).line.length) (hs : r.2 ≠ []) (key : Key) {acc : List Int} (ha : acc.length < sizeLine) (k : Nat) :
    evB (sem fns (k + 6)) clsT lgBody [some (.c i), some (.d (.int (p : Int))), some (.d (enP key)), some (.own (.list (acc.map enI))), some (.d (vL r.2)), some (.d (.int (r.1.1 : Int))), some (.d (eT r.1.2))] S
      = some (.nx [some (.c i), some (.d (.int (p : Int))), some (.d (enP key)), some (.own (.list ((acc ++ (lgF (zO w p) key w.each r).toList).map enI))), some (.d (vL r.2)), some (.d (.int (r.1.1 : Int))), some (.d (eT r.1.2))], S) := by
  have c1 : clsT 15 = 1 := rfl
  have c2 : clsT 14 = 1 := rfl
  have c3 : clsT 16 = 1 := rfl
  have h' : S[i]? = some (.ins 1 (copF w ts ks rs)) := h
  have lk1 : (copF w ts ks rs).lookup ("rule" : Str) = none := rfl
  have lk2 : (copF w ts ks rs).lookup ("site" : Str) = none := rfl
  have lk3 : (copF w ts ks rs).lookup ("told" : Str) = none := rfl
  have ap : ∀ x : Int, appD (.list (acc.map enI)) (.int x) = some (.list ((acc ++ [x]).map enI)) := fun x => by
    rw [app_ok (by simpa using ha), List.map_append]; rfl
  rw [zO_eq hp] at hr ⊢
  have ht := ctold_ok h hp hr (k + 5)
  unfold lgF
  rw [verO_eq hr]
  have hlh := lastH_ok hs w.zones[p].kl (k + 5) S
  have hvl : ∀ s, vL s = .list (s.map enP) := fun _ => rfl
  by_cases he : enV key (w.zones[p].line[r.1.1].2) r.1.2 w.each = true
  · rw [hvl] at *
    simp [lgBody, h', c1, c2, c3, lk1, lk2, lk3, rule_ok h, ht, enV_ok, he, site_ok h hp, hlh, ap]
  · rw [Bool.not_eq_true] at he
    simp [lgBody, h', c1, c2, c3, lk1, lk2, lk3, rule_ok h, ht, enV_ok, he]
def lmB (w : Wld) (p : Nat) (key : Key) : Int := maxL (-1 :: (tdAt w p).filterMap (lmF key w.each (zO w (p - 1)).rl (zO w p).kl))
def lgB (w : Wld) (p : Nat) (key : Key) : Int := maxL (-1 :: (kdAt w p).filterMap (lgF (zO w p) key w.each))
theorem lm_ok (h : Cop S i w ts ks rs) (hp : p < w.zones.length) (hd : ts[p]? = some (dT (tdAt w p))) (hq : ∀ q, q ∈ tdAt w p → ∀ s, q.2 = some s → 1 ≤ p ∧ s ≠ []) (hl : (tdAt w p).length ≤ 1000) (key : Key) (k : Nat) :
    sem fns (k + 7) 45 [.c i, .d (.int (p : Int)), .d (enP key)] S = some (.d (.int (lmB w p key)), S) := by
  rw [semS rfl]
  have c1 : clsT 19 = 1 := rfl
  have h' : S[i]? = some (.ins 1 (copF w ts ks rs)) := h
  have lk1 : (copF w ts ks rs).lookup ("trusts" : Str) = none := rfl
  have hi : evIt (sem fns (k + 6)) clsT (.items (.mc 19 "trusts" (.var 0) [(.var 1)])) [some (.c i), some (.d (.int (p : Int))), some (.d (enP key)), some (.own (.list ([-1].map enI))), none, none, none] S = some ((tdAt w p).map fun q => .tuple [eT q.1, vO q.2], S) := by
    have e : itemsOf 4 (dT (tdAt w p)) = some ((tdAt w p).map fun q => .tuple [eT q.1, vO q.2]) := by
      show some ((eD eT vO (tdAt w p)).map _) = _
      unfold eD; rw [List.map_map]; rfl
    simp [h', c1, lk1, trusts_ok h hd, e]
  have z1 := for_nx (tg := .tp [(.nm 4), (.nm 5)]) (body := fun env' S' => evB (sem fns (k + 6)) clsT lmBody env' S') (enc := fun q : List Key × Option (List Key) => .tuple [eT q.1, vO q.2]) (xs := tdAt w p) (S := S) (env := [some (.c i), some (.d (.int (p : Int))), some (.d (enP key)), some (.own (.list ([-1].map enI))), none, none, none])
    (fun dn env' S' => S' = S ∧ ∃ b4 b5 b6, env' = [some (.c i), some (.d (.int (p : Int))), some (.d (enP key)), some (.own (.list ((-1 :: dn.filterMap (lmF key w.each (zO w (p - 1)).rl (zO w p).kl)).map enI))), b4, b5, b6])
    ⟨rfl, none, none, none, rfl⟩ fun dn q rest env1 S1 hdq hp1 => by
      obtain ⟨rfl, b4, b5, b6, rfl⟩ := hp1
      have hqm : q ∈ tdAt w p := by rw [hdq]; simp
      have hlen : (-1 :: dn.filterMap (lmF key w.each (zO w (p - 1)).rl (zO w p).kl)).length < sizeLine := by
        have h1 := List.length_filterMap_le (lmF key w.each (zO w (p - 1)).rl (zO w p).kl) dn
        have h2 : dn.length ≤ (tdAt w p).length := by rw [hdq]; simp
        rw [List.length_cons]; unfold sizeLine; omega
      obtain ⟨c6, hc⟩ := lm_turn h hp (hq q hqm) key hlen b6 k
      refine ⟨_, _, _, rfl, hc, rfl, some (.d (eT q.1)), some (.d (vO q.2)), c6, ?_⟩
      rw [fm_snoc, ← List.cons_append]
  obtain ⟨env', S', h1, rfl, b4, b5, b6, rfl⟩ := z1
  have hf : evS (sem fns (k + 6)) clsT (.for_ (.tp [(.nm 4), (.nm 5)]) (.items (.mc 19 "trusts" (.var 0) [(.var 1)])) lmBody) [some (.c i), some (.d (.int (p : Int))), some (.d (enP key)), some (.own (.list ([-1].map enI))), none, none, none] S' = some (.nx [some (.c i), some (.d (.int (p : Int))), some (.d (enP key)), some (.own (.list ((-1 :: (tdAt w p).filterMap (lmF key w.each (zO w (p - 1)).rl (zO w p).kl)).map enI))), b4, b5, b6], S') := by
    rw [S_for, hi]; exact h1
  have hm := b_maxL (l := -1 :: (tdAt w p).filterMap (lmF key w.each (zO w (p - 1)).rl (zO w p).kl)) (by simp)
  rw [List.map_cons, List.map_nil] at hf
  have e1 : enI (-1) = .int (-1) := rfl
  rw [e1] at hf
  unfold lmBody at hf
  simp [runF, envOf, cd_last_made, hf, lmB, -List.map_cons, hm]
theorem lg_ok (h : Cop S i w ts ks rs) (hp : p < w.zones.length) (hd : ks[p]? = some (dK (kdAt w p))) (hq : ∀ r, r ∈ kdAt w p → r.2 ≠ []) (hl : (kdAt w p).length ≤ 100000) (key : Key) (k : Nat) :
    sem fns (k + 7) 46 [.c i, .d (.int (p : Int)), .d (enP key)] S = some (.d (.int (lgB w p key)), S) := by
  rw [semS rfl]
  have c1 : clsT 20 = 1 := rfl
  have h' : S[i]? = some (.ins 1 (copF w ts ks rs)) := h
  have lk1 : (copF w ts ks rs).lookup ("keys" : Str) = none := rfl
  have hi : evIt (sem fns (k + 6)) clsT (.items (.mc 20 "keys" (.var 0) [(.var 1)])) [some (.c i), some (.d (.int (p : Int))), some (.d (enP key)), some (.own (.list ([-1].map enI))), none, none, none] S = some ((kdAt w p).map fun q => .tuple [eNT q.1, vL q.2], S) := by
    have e : itemsOf 4 (dK (kdAt w p)) = some ((kdAt w p).map fun q => .tuple [eNT q.1, vL q.2]) := by
      show some ((eD eNT vL (kdAt w p)).map _) = _
      unfold eD; rw [List.map_map]; rfl
    simp [h', c1, lk1, keys_get h hd, e]
  have z1 := for_nx (tg := .tp [.tp [(.nm 5), (.nm 6)], (.nm 4)]) (body := fun env' S' => evB (sem fns (k + 6)) clsT lgBody env' S') (enc := fun q : (Nat × List Key) × List Key => .tuple [eNT q.1, vL q.2]) (xs := kdAt w p) (S := S) (env := [some (.c i), some (.d (.int (p : Int))), some (.d (enP key)), some (.own (.list ([-1].map enI))), none, none, none])
    (fun dn env' S' => S' = S ∧ ∃ b4 b5 b6, env' = [some (.c i), some (.d (.int (p : Int))), some (.d (enP key)), some (.own (.list ((-1 :: dn.filterMap (lgF (zO w p) key w.each)).map enI))), b4, b5, b6])
    ⟨rfl, none, none, none, rfl⟩ fun dn q rest env1 S1 hdq hp1 => by
      obtain ⟨rfl, b4, b5, b6, rfl⟩ := hp1
      have hqm : q ∈ kdAt w p := by rw [hdq]; simp
      have hlen : (-1 :: dn.filterMap (lgF (zO w p) key w.each)).length < sizeLine := by
        have h1 := List.length_filterMap_le (lgF (zO w p) key w.each) dn
        have h2 : dn.length ≤ (kdAt w p).length := by rw [hdq]; simp
        rw [List.length_cons]; unfold sizeLine; omega
      have hc := lg_turn h hp (kd_lt hqm) (hq q hqm) key hlen k
      refine ⟨_, _, _, rfl, hc, rfl, some (.d (vL q.2)), some (.d (.int (q.1.1 : Int))), some (.d (eT q.1.2)), ?_⟩
      rw [fm_snoc, ← List.cons_append]
  obtain ⟨env', S', h1, rfl, b4, b5, b6, rfl⟩ := z1
  have hf : evS (sem fns (k + 6)) clsT (.for_ (.tp [.tp [(.nm 5), (.nm 6)], (.nm 4)]) (.items (.mc 20 "keys" (.var 0) [(.var 1)])) lgBody) [some (.c i), some (.d (.int (p : Int))), some (.d (enP key)), some (.own (.list ([-1].map enI))), none, none, none] S' = some (.nx [some (.c i), some (.d (.int (p : Int))), some (.d (enP key)), some (.own (.list ((-1 :: (kdAt w p).filterMap (lgF (zO w p) key w.each)).map enI))), b4, b5, b6], S') := by
    rw [S_for, hi]; exact h1
  have hm := b_maxL (l := -1 :: (kdAt w p).filterMap (lgF (zO w p) key w.each)) (by simp)
  rw [List.map_cons, List.map_nil] at hf
  have e1 : enI (-1) = .int (-1) := rfl
  rw [e1] at hf
  unfold lgBody at hf
  simp [runF, envOf, cd_last_genuine, hf, lgB, -List.map_cons, hm]
end
def lastF (w : Wld) (p : Nat) (key : Key) : Int := if lgB w p key > lmB w p key then lgB w p key else lmB w p key
def lastO (w : Wld) (p : Nat) (key : Key) : Option Int := if 1000000000 ≤ lastF w p key then none else some (lastF w p key)
theorem last_ok {w : Wld} (hw : ∀ p, p < w.zones.length → CpOk w p) (hl : w.zones.length ≤ 1000) {p : Nat} (hp : p < w.zones.length) (hq : ∀ q, q ∈ tdAt w p → ∀ s, q.2 = some s → s ≠ []) (hk : ∀ r, r ∈ kdAt w p → r.2 ≠ []) (hkl : (kdAt w p).length ≤ 100000) (key : Key) (S : Sto) (k : Nat) :
    sem fns (k + 12) 47 [.d (eW w), .d (.int (p : Int)), .d (enP key)] S = some (.d (eOI (lastO w p key)), S) := by
  rw [semS rfl]
  have c1 : clsT 13 = 1 := rfl
  have hz := zone_of_ok hp (k + 3) S
  have hc := cinit_ok hw hl S (k + 1)
  have hC : Cop (S ++ [.ins 1 (copF w (tsTo w (w.zones.length + 1)) (ksTo w w.zones.length) (rsTo w w.zones.length))]) S.length w (tsTo w (w.zones.length + 1)) (ksTo w w.zones.length) (rsTo w w.zones.length) := gl _ _
  have hf2 := frozen_ok (fzP key) (k + 9) (S ++ [.ins 1 (copF w (tsTo w (w.zones.length + 1)) (ksTo w w.zones.length) (rsTo w w.zones.length))])
  have hlm := lm_ok hC hp (by unfold tsTo; rw [List.getElem?_map, List.getElem?_range (by omega)]; rfl) (fun q hqm s hs => ⟨((hw p hp).ts q hqm s hs).1, hq q hqm s hs⟩) (hw p hp).tl key (k + 4)
  have hlg := lg_ok hC hp (by unfold ksTo; rw [List.getElem?_map, List.getElem?_range (by omega)]; rfl) hk hkl key (k + 4)
  by_cases hx : 1000000000 ≤ lastF w p key
  · have hx' : 1000000000 ≤ (if lmB w p key < lgB w p key then lgB w p key else lmB w p key) := hx
    simp [runF, envOf, cd_last_trust, hz, c1, hc, hf2, hlm, hlg, lastO, hx, hx', eOI]
  · have hx' : ¬ 1000000000 ≤ (if lmB w p key < lgB w p key then lgB w p key else lmB w p key) := hx
    simp [runF, envOf, cd_last_trust, hz, c1, hc, hf2, hlm, hlg, lastO, hx, hx', eOI]
    rfl
end VI.M
set_option Elab.async false
set_option linter.all false
set_option maxRecDepth 100000
/-! M35: the law's own lists of times; most, holds, one_server, rest_can. -/
namespace VI.M
open PySem
def ticks (M : Nat) : List Int := (List.range M).map fun (n : Nat) => (n : Int)
def covB (s : List Key) (t : Int) : Bool := s.any fun p => decide (p.1 ≤ t) && decide (t ≤ p.2)
def tl (M : Nat) (s : List Key) : List Int := (ticks M).filter (covB s)
def vLI (M : Nat) (s : List Key) : D := .list ((tl M s).map enI)
def vLO (M : Nat) : Option (List Key) → D
  | none => .none
  | some s => vLI M s
def lT (M : Nat) (d : TD) : D := .dict (eD eT (vLO M) d)
def lK (M : Nat) (d : KD) : D := .dict (eD eNT (vLI M) d)
def lR (M : Nat) (d : RD) : D := .dict (eD (fun n : Nat => PyData.int (n : Int)) (vLI M) d)
theorem ix_lT (M : Nat) (d : TD) (t : List Key) : ixD (lT M d) (eT t) = (getA d t).map (vLO M) := dGet_A kT d t
theorem ix_lK (M : Nat) (d : KD) (q : Nat × List Key) : ixD (lK M d) (eNT q) = (getA d q).map (vLI M) := dGet_A kNT d q
theorem ix_lR (M : Nat) (d : RD) (n : Nat) : ixD (lR M d) (.int (n : Int)) = (getA d n).map (vLI M) := dGet_A kN d n
def lastT (z : Zone) : Int := match z.line.getLast? with
  | some p => p.1
  | none => 0
def mx (f : Int) (z : Zone) : Int := if lastT z + z.lag > f then lastT z + z.lag else f
def mostB (w : Wld) : Int := w.zones.foldl mx 2 + (w.zones.map fun z => z.kl + z.rl + 1).sum + 2
theorem last_ix {z : Zone} (h : z.line ≠ []) : ∃ v : Ver, ixD (.tuple (z.line.map eL)) (.int (-1)) = some (eL (lastT z, v)) := by
  rcases List.eq_nil_or_concat z.line with e | ⟨a, x, e⟩
  · exact absurd e h
  · rw [List.concat_eq_append] at e
    refine ⟨x.2, ?_⟩
    have e2 : lastT z = x.1 := by unfold lastT; rw [e]; simp
    rw [e2, e, List.map_append]
    exact atI_last _ _
theorem most_ok {w : Wld} (hl : ∀ z, z ∈ w.zones → z.line ≠ []) (S : Sto) (k : Nat) : sem fns (k + 1) 60 [.d (eW w)] S = some (.d (.int (mostB w)), S) := by
  rw [semS rfl]
  have hi : ∀ a, evIt (sem fns k) clsT (.seq (.ix (.var 0) (.cst (.int 0)))) [some (.d (eW w)), a, none, none, none, none, none, none, none] S = some (w.zones.map eZ, S) := by intro a; simp
  have z1 := for_nx (tg := .tp [(.nm 2), (.nm 3), (.nm 4), (.nm 5), (.nm 6), (.nm 7)]) (body := fun env' S' => evB (sem fns k) clsT [(.asg (.nm 1) (.b2 .max (.var 1) (.bin .add (.ix (.ix (.var 2) (.neg (.cst (.int 1)))) (.cst (.int 0))) (.var 5))))] env' S') (enc := eZ) (xs := w.zones) (S := S) (env := [some (.d (eW w)), some (.d (.int 2)), none, none, none, none, none, none, none])
    (fun dn env' S' => S' = S ∧ ∃ b2 b3 b4 b5 b6 b7, env' = [some (.d (eW w)), some (.d (.int (dn.foldl mx 2))), b2, b3, b4, b5, b6, b7, none])
    ⟨rfl, none, none, none, none, none, none, rfl⟩ fun dn z rest env1 S1 hdq hp1 => by
      obtain ⟨rfl, b2, b3, b4, b5, b6, b7, rfl⟩ := hp1
      obtain ⟨v, hv⟩ := last_ix (hl z (by rw [hdq]; simp))
      refine ⟨_, _, _, rfl, by simp [hv]; rfl, rfl, some (.d (.tuple (z.line.map eL))), some (.d (.int z.servers)), some (.d (.int z.tries)), some (.d (.int z.lag)), some (.d (.int z.kl)), some (.d (.int z.rl)), ?_⟩
      rw [List.foldl_append]
      simp [mx]
  obtain ⟨env', S', h1, rfl, b2, b3, b4, b5, b6, b7, rfl⟩ := z1
  have hf : evS (sem fns k) clsT (.for_ (.tp [(.nm 2), (.nm 3), (.nm 4), (.nm 5), (.nm 6), (.nm 7)]) (.seq (.ix (.var 0) (.cst (.int 0)))) [(.asg (.nm 1) (.b2 .max (.var 1) (.bin .add (.ix (.ix (.var 2) (.neg (.cst (.int 1)))) (.cst (.int 0))) (.var 5))))]) [some (.d (eW w)), some (.d (.int 2)), none, none, none, none, none, none, none] S'
      = some (.nx [some (.d (eW w)), some (.d (.int (w.zones.foldl mx 2))), b2, b3, b4, b5, b6, b7, none], S') := by
    rw [S_for, hi]; exact h1
  have hc : evE (sem fns k) clsT (.comp (.bin .add (.bin .add (.ix (.var 8) (.cst (.int 4))) (.ix (.var 8) (.cst (.int 5)))) (.cst (.int 1))) (.nm 8) (.seq (.ix (.var 0) (.cst (.int 0)))) none) [some (.d (eW w)), some (.d (.int (w.zones.foldl mx 2))), b2, b3, b4, b5, b6, b7, none] S' = some (.d (.list (w.zones.map fun z => enI (z.kl + z.rl + 1))), S') :=
    comp_all (enc := eZ) (by simp) fun z hz => ⟨_, rfl, by simp [wipeE, tgSlots]; rfl⟩
  have e : (w.zones.map fun z => enI (z.kl + z.rl + 1)) = (w.zones.map fun z => z.kl + z.rl + 1).map enI := by rw [List.map_map]; rfl
  rw [e] at hc
  have hs : ∀ l : List Int, b1D .sum (.list (l.map enI)) = some (.int l.sum) := fun l => by
    show (asInts (l.map enI)).map _ = _
    rw [asInts_map]; rfl
  simp [runF, envOf, cd__law_most, hf, hc, hs, mostB, -List.map_map]
def heldL (l : List Int) (life t : Int) : Bool := l.any fun e => decide (e ≤ t) && decide (t < e + life)
def holdsB (M : Nat) (o : Option (List Key)) (life t : Int) : Bool := match o with
  | none => true
  | some s => heldL (tl M s) life t
theorem any_id {α : Type} (f : α → Bool) (l : List α) : (l.map f).any id = l.any f := by
  induction l with
  | nil => rfl
  | cons x l ih => rw [List.map_cons, List.any_cons, List.any_cons, ih]; rfl
theorem holds_ok (M : Nat) (o : Option (List Key)) (life t : Int) (S : Sto) (k : Nat) : sem fns (k + 1) 61 [.d (vLO M o), .d (.int life), .d (.int t)] S = some (.d (.bool (holdsB M o life t)), S) := by
  rw [semS rfl]
  cases o with
  | none => simp [runF, envOf, cd__law_holds, vLO, holdsB]
  | some s =>
    have hl : evE (sem fns k) clsT (.comp (.chain (.var 3) .le (.var 2) .lt (.bin .add (.var 3) (.var 1))) (.nm 3) (.seq (.var 0)) none) [some (.d (.list ((tl M s).map enI))), some (.d (.int life)), some (.d (.int t)), none] S = some (.d (.list ((tl M s).map fun e => .bool (decide (e ≤ t) && decide (t < e + life)))), S) :=
      comp_all (enc := enI) (by simp) fun e he => ⟨_, rfl, by
        by_cases h : e ≤ t <;> simp [wipeE, tgSlots, enI, h]⟩
    simp [runF, envOf, cd__law_holds, vLO, vLI, holdsB, heldL, hl, asBools_map, any_id]
def oneS (s : Int) (e : Nat) (t : Int) (n : Nat) : Bool := if s = t then decide (e = n) else decide (e ≤ n)
theorem oneS_ok (s t : Int) (e n : Nat) (S : Sto) (k : Nat) : sem fns (k + 1) 59 [.d (.tuple [.int s, .int (e : Int)]), .d (.tuple [.int t, .int (n : Int)])] S = some (.d (.bool (oneS s e t n)), S) := by
  rw [semS rfl]
  have i0 : ∀ a b : Int, ixD (.tuple [.int a, .int b]) (.int 0) = some (.int a) := fun _ _ => atI0 _ _
  have i1 : ∀ a b : Int, ixD (.tuple [.int a, .int b]) (.int 1) = some (.int b) := fun _ _ => atI1 _ _ _
  by_cases h : s = t
  · have e1 : decide ((e : Int) = (n : Int)) = decide (e = n) := decide_eq_decide.mpr (by omega)
    simp [runF, envOf, cd__law_one_server, i0, i1, h, oneS, e1]
  · have e1 : decide ((e : Int) ≤ (n : Int)) = decide (e ≤ n) := decide_eq_decide.mpr (by omega)
    simp [runF, envOf, cd__law_one_server, i0, i1, h, oneS, e1]
theorem for_any {α : Type} {tg : Tg} {body : Env → Sto → Option (Out × Sto)} {enc : α → D} (c : α → Bool) (P : Env → Prop) {S : Sto} {wv : W} : ∀ {xs : List α} {env : Env}, P env →
    (∀ x, x ∈ xs → ∀ env, P env → ∃ env1, bindTg tg (enc x) env = some env1 ∧ (c x = true → body env1 S = some (.rt wv, S)) ∧ (c x = false → ∃ env2, body env1 S = some (.nx env2, S) ∧ P env2)) →
    (xs.any c = true → forLoop tg body (xs.map enc) env S = some (.rt wv, S)) ∧ (xs.any c = false → ∃ env', forLoop tg body (xs.map enc) env S = some (.nx env', S) ∧ P env')
  | [], env, h0, _ => ⟨fun h => (by cases h), fun _ => ⟨env, rfl, h0⟩⟩
  | x :: xs, env, h0, hs => by
    obtain ⟨env1, h1, h2, h3⟩ := hs x (List.mem_cons_self ..) env h0
    rw [List.map_cons, List.any_cons]
    unfold forLoop
    rw [h1, ob_some]
    cases hc : c x with
    | true =>
      rw [h2 hc, bnd_some]
      exact ⟨fun _ => rfl, fun h => (by cases h)⟩
    | false =>
      obtain ⟨env2, h4, h5⟩ := h3 hc
      rw [h4, bnd_some, Bool.false_or]
      exact for_any c P h5 fun y hy => hs y (List.mem_cons_of_mem _ hy)
def fitS (z : Zone) (s : Int) (e : Nat) (t : Int) (n : Nat) : Bool := (decide (s ≤ t) && decide (t < s + z.kl)) && (decide (1 < z.servers) || oneS s e t n)
def rcF (M : Nat) (z : Zone) (each : Bool) (n : Nat) (t : Int) (r : (Nat × List Key) × List Key) : Bool := restB (verO z n) (verO z r.1.1) r.1.2 each && (tl M r.2).any fun s => fitS z s r.1.1 t n
def rcIn : List Sc := [(.asg (.nm 9) (.or [(.cmp .gt (.ix (.var 1) (.cst (.int 1))) (.cst (.int 1))), (.fc 59 [(.tup [(.var 8), (.var 6)]), (.tup [(.var 4), (.var 3)])])])), (.ifs (.and [(.chain (.var 8) .le (.var 4) .lt (.bin .add (.var 8) (.ix (.var 1) (.cst (.int 4))))), (.var 9)]) [(.ret (.cst (.bool true)))] [])]
def rcOut : List Sc := [(.ifs (.fc 58 [(.ix (.ix (.var 5) (.var 3)) (.cst (.int 1))), (.ix (.ix (.var 5) (.var 6)) (.cst (.int 1))), (.var 7), (.ix (.var 0) (.cst (.int 2)))]) [(.for_ (.nm 8) (.seq (.ix (.var 2) (.tup [(.var 6), (.var 7)]))) rcIn)] [])]
theorem rest_can_ok (M : Nat) (w : Wld) (z : Zone) (kd : KD) (hnd : (kd.map (·.1)).Nodup) (he : ∀ r, r ∈ kd → r.1.1 < z.line.length) {n : Nat} (hn : n < z.line.length) (t : Int) (S : Sto) (k : Nat) :
    sem fns (k + 3) 63 [.d (eW w), .d (eZ z), .d (lK M kd), .d (.int (n : Int)), .d (.int t)] S = some (.d (.bool (kd.any (rcF M z w.each n t))), S) := by
  rw [semS rfl]
  have hi : ∀ l a6 a7 a8 a9, evIt (sem fns (k + 2)) clsT (.keys (.var 2)) [some (.d (eW w)), some (.d (eZ z)), some (.d (lK M kd)), some (.d (.int (n : Int))), some (.d (.int t)), l, a6, a7, a8, a9] S = some (kd.map fun r => eNT r.1, S) := by
    intro l a6 a7 a8 a9
    have e : itemsOf 3 (lK M kd) = some (kd.map fun r => eNT r.1) := by
      show some ((eD eNT (vLI M) kd).map (·.1)) = _
      unfold eD; rw [List.map_map]; rfl
    simp [e]
  have z1 := for_any (tg := .tp [(.nm 6), (.nm 7)]) (body := fun env' S' => evB (sem fns (k + 2)) clsT rcOut env' S') (enc := fun r : (Nat × List Key) × List Key => eNT r.1) (xs := kd) (S := S) (wv := .d (.bool true))
    (env := [some (.d (eW w)), some (.d (eZ z)), some (.d (lK M kd)), some (.d (.int (n : Int))), some (.d (.int t)), some (.d (.tuple (z.line.map eL))), none, none, none, none]) (rcF M z w.each n t)
    (fun env' => ∃ a6 a7 a8 a9, env' = [some (.d (eW w)), some (.d (eZ z)), some (.d (lK M kd)), some (.d (.int (n : Int))), some (.d (.int t)), some (.d (.tuple (z.line.map eL))), a6, a7, a8, a9])
    ⟨none, none, none, none, rfl⟩ fun r hr env1 hp1 => by
      obtain ⟨a6, a7, a8, a9, rfl⟩ := hp1
      refine ⟨[some (.d (eW w)), some (.d (eZ z)), some (.d (lK M kd)), some (.d (.int (n : Int))), some (.d (.int t)), some (.d (.tuple (z.line.map eL))), some (.d (.int (r.1.1 : Int))), some (.d (eT r.1.2)), a8, a9], rfl, ?_⟩
      have hrl := he r hr
      have hg : getA kd r.1 = some r.2 := getA_mem hnd hr
      have hix : ixD (lK M kd) (.tuple [.int (r.1.1 : Int), eT r.1.2]) = some (.list ((tl M r.2).map enI)) := by
        show ixD (lK M kd) (eNT r.1) = _
        rw [ix_lK, hg]; rfl
      have hr58 := rest_ok (v := z.line[n].2) (s := z.line[r.1.1].2) (t := r.1.2) (each := w.each) k S
      have y1 := for_any (tg := .nm 8) (body := fun env' S' => evB (sem fns (k + 2)) clsT rcIn env' S') (enc := enI) (xs := tl M r.2) (S := S) (wv := .d (.bool true))
        (env := [some (.d (eW w)), some (.d (eZ z)), some (.d (lK M kd)), some (.d (.int (n : Int))), some (.d (.int t)), some (.d (.tuple (z.line.map eL))), some (.d (.int (r.1.1 : Int))), some (.d (eT r.1.2)), a8, a9]) (fun s => fitS z s r.1.1 t n)
        (fun env' => ∃ a8 a9, env' = [some (.d (eW w)), some (.d (eZ z)), some (.d (lK M kd)), some (.d (.int (n : Int))), some (.d (.int t)), some (.d (.tuple (z.line.map eL))), some (.d (.int (r.1.1 : Int))), some (.d (eT r.1.2)), a8, a9])
        ⟨a8, a9, rfl⟩ fun s hs env1 hp1 => by
          obtain ⟨a8, a9, rfl⟩ := hp1
          refine ⟨[some (.d (eW w)), some (.d (eZ z)), some (.d (lK M kd)), some (.d (.int (n : Int))), some (.d (.int t)), some (.d (.tuple (z.line.map eL))), some (.d (.int (r.1.1 : Int))), some (.d (eT r.1.2)), some (.d (.int s)), a9], rfl, ?_, ?_⟩
          · intro hc
            unfold fitS at hc
            unfold rcIn
            simp only [Bool.and_eq_true, Bool.or_eq_true, decide_eq_true_eq] at hc
            obtain ⟨⟨h1, h2⟩, h3⟩ := hc
            by_cases h4 : 1 < z.servers
            · simp [h1, h2, h4]
            · rcases h3 with h3 | h3
              · exact absurd h3 h4
              · simp [h1, h2, h4, oneS_ok, h3]
          · intro hc
            unfold fitS at hc
            unfold rcIn
            by_cases h4 : 1 < z.servers
            · refine ⟨[some (.d (eW w)), some (.d (eZ z)), some (.d (lK M kd)), some (.d (.int (n : Int))), some (.d (.int t)), some (.d (.tuple (z.line.map eL))), some (.d (.int (r.1.1 : Int))), some (.d (eT r.1.2)), some (.d (.int s)), some (.d (.bool true))], ?_, _, _, rfl⟩
              by_cases h1 : s ≤ t
              · by_cases h2 : t < s + z.kl
                · simp [h1, h2, h4] at hc
                · simp [h1, h2, h4]
              · simp [h1, h4]
            · refine ⟨[some (.d (eW w)), some (.d (eZ z)), some (.d (lK M kd)), some (.d (.int (n : Int))), some (.d (.int t)), some (.d (.tuple (z.line.map eL))), some (.d (.int (r.1.1 : Int))), some (.d (eT r.1.2)), some (.d (.int s)), some (.d (.bool (oneS s r.1.1 t n)))], ?_, _, _, rfl⟩
              by_cases h1 : s ≤ t
              · by_cases h2 : t < s + z.kl
                · simp [h1, h2, h4] at hc
                  simp [h1, h2, h4, oneS_ok, hc]
                · simp [h1, h2, h4, oneS_ok]
              · simp [h1, h4, oneS_ok]
      have hi2 : evIt (sem fns (k + 2)) clsT (.seq (.ix (.var 2) (.tup [(.var 6), (.var 7)]))) [some (.d (eW w)), some (.d (eZ z)), some (.d (lK M kd)), some (.d (.int (n : Int))), some (.d (.int t)), some (.d (.tuple (z.line.map eL))), some (.d (.int (r.1.1 : Int))), some (.d (eT r.1.2)), a8, a9] S = some ((tl M r.2).map enI, S) := by
        simp [hix]
      unfold rcF
      rw [verO_eq hn, verO_eq hrl]
      cases hb : restB z.line[n].2 z.line[r.1.1].2 r.1.2 w.each with
      | false =>
        rw [hb] at hr58
        refine ⟨fun h => (by cases h), fun _ => ⟨[some (.d (eW w)), some (.d (eZ z)), some (.d (lK M kd)), some (.d (.int (n : Int))), some (.d (.int t)), some (.d (.tuple (z.line.map eL))), some (.d (.int (r.1.1 : Int))), some (.d (eT r.1.2)), a8, a9], ?_, _, _, _, _, rfl⟩⟩
        simp [rcOut, ix_nat, hn, hrl, hr58]
      | true =>
        rw [hb] at hr58
        refine ⟨fun h => ?_, fun h => ?_⟩
        · have y2 := y1.1 (by simpa using h)
          have y3 : evS (sem fns (k + 2)) clsT (.for_ (.nm 8) (.seq (.ix (.var 2) (.tup [(.var 6), (.var 7)]))) rcIn) [some (.d (eW w)), some (.d (eZ z)), some (.d (lK M kd)), some (.d (.int (n : Int))), some (.d (.int t)), some (.d (.tuple (z.line.map eL))), some (.d (.int (r.1.1 : Int))), some (.d (eT r.1.2)), a8, a9] S = some (.rt (.d (.bool true)), S) := by
            rw [S_for, hi2]; exact y2
          simp [rcOut, ix_nat, hn, hrl, hr58, y3]
        · obtain ⟨env2, y2, b8, b9, rfl⟩ := y1.2 (by simpa using h)
          refine ⟨[some (.d (eW w)), some (.d (eZ z)), some (.d (lK M kd)), some (.d (.int (n : Int))), some (.d (.int t)), some (.d (.tuple (z.line.map eL))), some (.d (.int (r.1.1 : Int))), some (.d (eT r.1.2)), b8, b9], ?_, _, _, _, _, rfl⟩
          have y3 : evS (sem fns (k + 2)) clsT (.for_ (.nm 8) (.seq (.ix (.var 2) (.tup [(.var 6), (.var 7)]))) rcIn) [some (.d (eW w)), some (.d (eZ z)), some (.d (lK M kd)), some (.d (.int (n : Int))), some (.d (.int t)), some (.d (.tuple (z.line.map eL))), some (.d (.int (r.1.1 : Int))), some (.d (eT r.1.2)), a8, a9] S = some (.nx [some (.d (eW w)), some (.d (eZ z)), some (.d (lK M kd)), some (.d (.int (n : Int))), some (.d (.int t)), some (.d (.tuple (z.line.map eL))), some (.d (.int (r.1.1 : Int))), some (.d (eT r.1.2)), b8, b9], S) := by
            rw [S_for, hi2]; exact y2
          simp [rcOut, ix_nat, hn, hrl, hr58, y3]
  cases hc : kd.any (rcF M z w.each n t) with
  | true =>
    have z2 := z1.1 hc
    have hf : evS (sem fns (k + 2)) clsT (.for_ (.tp [(.nm 6), (.nm 7)]) (.keys (.var 2)) rcOut) [some (.d (eW w)), some (.d (eZ z)), some (.d (lK M kd)), some (.d (.int (n : Int))), some (.d (.int t)), some (.d (.tuple (z.line.map eL))), none, none, none, none] S = some (.rt (.d (.bool true)), S) := by
      rw [S_for, hi]; exact z2
    unfold rcOut rcIn at hf
    simp [runF, envOf, cd__law_rest_can, hf]
  | false =>
    obtain ⟨env', z2, b6, b7, b8, b9, rfl⟩ := z1.2 hc
    have hf : evS (sem fns (k + 2)) clsT (.for_ (.tp [(.nm 6), (.nm 7)]) (.keys (.var 2)) rcOut) [some (.d (eW w)), some (.d (eZ z)), some (.d (lK M kd)), some (.d (.int (n : Int))), some (.d (.int t)), some (.d (.tuple (z.line.map eL))), none, none, none, none] S = some (.nx [some (.d (eW w)), some (.d (eZ z)), some (.d (lK M kd)), some (.d (.int (n : Int))), some (.d (.int t)), some (.d (.tuple (z.line.map eL))), b6, b7, b8, b9], S) := by
      rw [S_for, hi]; exact z2
    unfold rcOut rcIn at hf
    simp [runF, envOf, cd__law_rest_can, hf]
end VI.M
set_option Elab.async false
set_option linter.all false
set_option maxRecDepth 100000
/-! M36: stretches and lists of times say the same. -/
namespace VI.M
open PySem
theorem covB_iff (s : List Key) (t : Int) : covB s t = true ↔ Cov s t := by
  unfold covB Cov
  rw [List.any_eq_true]
  constructor
  · rintro ⟨p, hp, h⟩; simp at h; exact ⟨p, hp, h.1, h.2⟩
  · rintro ⟨p, hp, h1, h2⟩; exact ⟨p, hp, by simp [h1, h2]⟩
theorem mem_ticks {M : Nat} {t : Int} : t ∈ ticks M ↔ 0 ≤ t ∧ t < (M : Int) := by
  unfold ticks
  rw [List.mem_map]
  constructor
  · rintro ⟨n, hn, rfl⟩
    have := List.mem_range.mp hn
    omega
  · rintro ⟨h1, h2⟩
    exact ⟨t.toNat, List.mem_range.mpr (by omega), by omega⟩
theorem mem_tl {M : Nat} {s : List Key} {t : Int} : t ∈ tl M s ↔ (0 ≤ t ∧ t < (M : Int)) ∧ Cov s t := by
  unfold tl
  rw [List.mem_filter, mem_ticks, covB_iff]
theorem tl_nil (M : Nat) : tl M [] = [] := by
  unfold tl
  rw [List.filter_eq_nil_iff]
  intro t _
  simp [covB]
theorem ticks_sorted (M : Nat) : (ticks M).Pairwise (· < ·) := by
  unfold ticks
  rw [List.pairwise_map]
  exact List.pairwise_lt_range.imp fun h => by omega
theorem tl_sorted (M : Nat) (s : List Key) : (tl M s).Pairwise (· < ·) := (ticks_sorted M).filter _
theorem tl_congr {M : Nat} {p : Int → Bool} {s : List Key} (h : ∀ t, 0 ≤ t → t < (M : Int) → (p t = true ↔ Cov s t)) : (ticks M).filter p = tl M s := by
  unfold tl
  refine List.filter_congr fun t ht => ?_
  obtain ⟨h1, h2⟩ := mem_ticks.mp ht
  rw [Bool.eq_iff_iff, covB_iff]
  exact h t h1 h2
def EV : Int := 1000000000
def GS (b : Int) (s : List Key) : Prop := ∀ q, q ∈ s → 0 ≤ q.1 ∧ q.1 ≤ q.2 ∧ q.1 ≤ b ∧ (q.2 = EV ∨ q.2 ≤ b)
theorem GS.ne {b : Int} {s : List Key} (h : GS b s) : NE s := fun q hq => (h q hq).2.1
theorem GS.cov0 {b : Int} {s : List Key} (h : GS b s) {t : Int} (hc : Cov s t) : 0 ≤ t := by
  obtain ⟨q, hq, h1, h2⟩ := hc
  have := h q hq
  omega
theorem GS.mono {b c : Int} {s : List Key} (h : GS b s) (hb : b ≤ c) : GS c s := fun q hq => by
  obtain ⟨h1, h2, h3, h4⟩ := h q hq
  exact ⟨h1, h2, by omega, by omega⟩
theorem GS.app {b : Int} {s t : List Key} (h1 : GS b s) (h2 : GS b t) : GS b (s ++ t) := fun q hq => by
  rcases List.mem_append.mp hq with h | h
  · exact h1 q h
  · exact h2 q h
/-! joined keeps the bounds -/
theorem jn_ends {acc : List Key} {p : Key} (A : Int → Prop) (E : Int → Prop) (ha : ∀ q, q ∈ acc → A q.1 ∧ E q.2) (hp : A p.1 ∧ E p.2) : ∀ q, q ∈ jn acc p → A q.1 ∧ E q.2 := by
  rcases snoc_cases acc with rfl | ⟨c, l, rfl⟩
  · intro q hq
    simp [jn] at hq; subst hq; exact hp
  · have hl := ha l (by simp)
    by_cases h : p.1 ≤ l.2 + 1
    · have e : jn (c ++ [l]) p = c ++ [(l.1, if p.2 > l.2 then p.2 else l.2)] := by simp [jn, h]
      rw [e]
      intro q hq
      rcases List.mem_append.mp hq with hq | hq
      · exact ha q (List.mem_append.mpr (.inl hq))
      · simp at hq; subst hq
        refine ⟨hl.1, ?_⟩
        simp only
        split
        · exact hp.2
        · exact hl.2
    · have e : jn (c ++ [l]) p = c ++ [l] ++ [p] := by simp [jn, h]
      rw [e]
      intro q hq
      rcases List.mem_append.mp hq with hq | hq
      · exact ha q hq
      · simp at hq; subst hq; exact hp
theorem fold_ends (A : Int → Prop) (E : Int → Prop) : ∀ (l acc : List Key), (∀ q, q ∈ acc → A q.1 ∧ E q.2) → (∀ q, q ∈ l → A q.1 ∧ E q.2) → ∀ q, q ∈ l.foldl jn acc → A q.1 ∧ E q.2
  | [], acc, ha, _ => ha
  | p :: l, acc, ha, hl => by
    rw [List.foldl_cons]
    exact fold_ends A E l (jn acc p) (jn_ends A E ha (hl p (List.mem_cons_self ..))) fun q hq => hl q (List.mem_cons_of_mem _ hq)
theorem GS.join {b : Int} {s : List Key} (h : GS b s) : GS b (joinB s) := by
  have h1 := fold_ends (fun x => 0 ≤ x ∧ x ≤ b) (fun x => x = EV ∨ x ≤ b) (srtP s) [] (fun _ hq => by cases hq) fun q hq => by
    obtain ⟨a1, a2, a3, a4⟩ := h q (mem_srtP.mp hq)
    exact ⟨⟨a1, a3⟩, a4⟩
  have h2 := (joinB_spec h.ne).1
  intro q hq
  obtain ⟨⟨a1, a2⟩, a3⟩ := h1 q hq
  exact ⟨a1, h2 q hq, a2, a3⟩
theorem jn_ne (acc : List Key) (p : Key) : jn acc p ≠ [] := by
  unfold jn
  split
  · split <;> simp
  · simp
theorem fold_ne : ∀ (l acc : List Key), acc ≠ [] → l.foldl jn acc ≠ []
  | [], acc, h => h
  | p :: l, acc, h => by rw [List.foldl_cons]; exact fold_ne l _ (jn_ne acc p)
theorem join_ne {s : List Key} : joinB s ≠ [] ↔ s ≠ [] := by
  constructor
  · intro h e; apply h; rw [e]; simp [joinB, srtP]
  · intro h
    unfold joinB
    have h2 : srtP s ≠ [] := by
      intro e
      have := len_srtP s
      rw [e] at this
      apply h
      exact List.length_eq_zero_iff.mp this.symm
    cases hs : srtP s with
    | nil => exact absurd hs h2
    | cons p l => rw [List.foldl_cons]; exact fold_ne l _ (jn_ne [] p)
/-- nothing is lost below a bound that lies behind all beginnings -/
theorem tl_ne {b : Int} {s : List Key} {M : Nat} (h : GS b s) (hb : b < (M : Int)) : tl M s ≠ [] ↔ s ≠ [] := by
  constructor
  · intro h1 e; rw [e, tl_nil] at h1; exact h1 rfl
  · intro h1 e
    cases s with
    | nil => exact h1 rfl
    | cons q s =>
      obtain ⟨a1, a2, a3, a4⟩ := h q (List.mem_cons_self ..)
      have : q.1 ∈ tl M (q :: s) := mem_tl.mpr ⟨⟨a1, by omega⟩, q, List.mem_cons_self .., Int.le_refl _, a2⟩
      rw [e] at this; cases this
/-! a good zone -/
structure ZG (z : Zone) (m : Int) : Prop where
  ln : z.line ≠ []
  l3 : z.line.length ≤ 3
  asc : z.line.Pairwise fun a b => a.1 < b.1
  t0 : ∀ p, p ∈ z.line → 0 ≤ p.1
  lag : 0 ≤ z.lag
  kl : 1 ≤ z.kl
  rl : 1 ≤ z.rl
  sv : 1 ≤ z.servers
  top : lastT z + z.lag ≤ m
theorem bgn_get {z : Zone} {n : Nat} (h : n < z.line.length) : bgn z n = (z.line[n]).1 := by simp [bgn, h]
theorem last_get {z : Zone} (h : z.line ≠ []) : ∃ h2 : z.line.length - 1 < z.line.length, lastT z = (z.line[z.line.length - 1]).1 := by
  have h3 : 0 < z.line.length := List.length_pos_iff.mpr h
  refine ⟨by omega, ?_⟩
  unfold lastT
  rw [List.getLast?_eq_getElem?]
  have h4 : z.line.length - 1 < z.line.length := by omega
  simp [h4]
theorem ZG.bg0 {z : Zone} {m : Int} (g : ZG z m) {n : Nat} (h : n < z.line.length) : 0 ≤ bgn z n := by
  rw [bgn_get h]; exact g.t0 _ (List.getElem_mem _)
theorem ZG.bg {z : Zone} {m : Int} (g : ZG z m) {n : Nat} (h : n < z.line.length) : bgn z n ≤ lastT z := by
  obtain ⟨h2, e⟩ := last_get g.ln
  rw [bgn_get h, e]
  by_cases hx : n = z.line.length - 1
  · subst hx; exact Int.le_refl _
  · have := List.pairwise_iff_getElem.mp g.asc n (z.line.length - 1) h h2 (by omega)
    omega
theorem ZG.win {z : Zone} {m : Int} (g : ZG z m) (hm : m < EV) {n : Nat} (h : n < z.line.length) : 0 ≤ (winB z n).1 ∧ (winB z n).1 ≤ m ∧ (winB z n).1 ≤ (winB z n).2 ∧ ((winB z n).2 = EV ∨ (winB z n).2 ≤ m) := by
  have h1 := g.bg0 h
  have h2 := g.bg h
  have h3 := g.top
  have h4 := g.lag
  unfold winB
  by_cases hx : n + 1 < z.line.length
  · have e : endO z n = some (z.line[n + 1].1 + z.lag) := by simp [endO, hx]
    rw [e]
    have h5 := g.bg hx
    rw [bgn_get hx] at h5
    have h6 := List.pairwise_iff_getElem.mp g.asc n (n + 1) h hx (by omega)
    rw [← bgn_get h] at h6
    simp only
    refine ⟨h1, by omega, by omega, .inr (by omega)⟩
  · have e : endO z n = none := by unfold endO; rw [List.getElem?_eq_none (by omega)]
    rw [e]
    simp only
    refine ⟨h1, by omega, by unfold EV at hm; omega, .inl rfl⟩
theorem told_win {z : Zone} {n : Nat} (h : n < z.line.length) {t : Int} (ht : t < EV) : told z n t = true ↔ (winB z n).1 ≤ t ∧ t ≤ (winB z n).2 := by
  unfold told winB
  unfold EV at ht
  cases endO z n with
  | none => simp [h]; omega
  | some e => simp [h]; omega
/-! keys -/
theorem ak_times {M : Nat} {z : Zone} {m rl : Int} (g : ZG z m) (hm : m < EV) (hM : (M : Int) ≤ EV) {n : Nat} (hn : n < z.line.length) {q : List Key × Option (List Key)} (hq : ∀ s, q.2 = some s → ∃ b, GS b s) :
    ((ticks M).filter (told z n)).filter (holdsB M q.2 rl) = tl M (akT z rl n q) := by
  rw [List.filter_filter]
  refine tl_congr fun t h0 h1 => ?_
  have hw := g.win hm hn
  have ht := told_win hn (t := t) (by omega)
  rw [Bool.and_eq_true, ht]
  unfold akT
  cases hs : q.2 with
  | none =>
    rw [(joinB_spec (s := wtB none rl (winB z n)) (by intro p hp; simp [wtB] at hp; subst hp; exact hw.2.2.1)).2]
    show holdsB M none rl t = true ∧ _ ↔ Cov [winB z n] t
    rw [cov_one]
    simp [holdsB]
  | some s =>
    obtain ⟨b, hb⟩ := hq s hs
    have hbe := behB_spec (s := s) (life := rl) (step := 0) (w := winB z n) hb.ne
    rw [(joinB_spec (s := wtB (some s) rl (winB z n)) hbe.1).2]
    show holdsB M (some s) rl t = true ∧ _ ↔ Cov (behB s rl 0 (winB z n)) t
    rw [hbe.2]
    unfold holdsB heldL
    simp only
    rw [List.any_eq_true]
    constructor
    · rintro ⟨⟨e, he, hx⟩, hy⟩
      simp at hx
      exact ⟨hy, e, (mem_tl.mp he).2, by omega, hx.2⟩
    · rintro ⟨hy, e, he, h2, h3⟩
      refine ⟨⟨e, mem_tl.mpr ⟨⟨hb.cov0 he, by omega⟩, he⟩, by simp; omega⟩, hy⟩
theorem beh_gs {z : Zone} {m life step b c : Int} (g : ZG z m) (hm : m < EV) {n : Nat} (hn : n < z.line.length) {s : List Key} (hs : GS b s) (hl : 1 ≤ life) (h0 : 0 ≤ step) (hbc : b + step ≤ c) (hbl : b + life ≤ c + 1) (hmc : m ≤ c) (hc : c < EV) : GS c (behB s life step (winB z n)) := by
  obtain ⟨w1, w2, w3, w4⟩ := g.win hm hn
  unfold behB
  split
  · intro q hq; cases hq
  · intro q hq
    obtain ⟨hq, hle⟩ := List.mem_filter.mp hq
    obtain ⟨p, hp, rfl⟩ := List.mem_map.mp hq
    obtain ⟨a1, a2, a3, a4⟩ := hs p hp
    simp at hle
    refine ⟨?_, hle, ?_, ?_⟩
    · simp only [behF]; split <;> omega
    · simp only [behF]; split <;> omega
    · simp only [behF]; split <;> omega
theorem ak_gs {z : Zone} {m rl b c : Int} (g : ZG z m) (hm : m < EV) {n : Nat} (hn : n < z.line.length) {q : List Key × Option (List Key)} (hq : ∀ s, q.2 = some s → GS b s) (hl : 1 ≤ rl) (hbl : b + rl ≤ c) (hmc : m ≤ c) (hc : c < EV) : GS c (akT z rl n q) := by
  unfold akT
  apply GS.join
  cases hs : q.2 with
  | none =>
    intro p hp
    simp [wtB] at hp
    subst hp
    obtain ⟨w1, w2, w3, w4⟩ := g.win hm hn
    exact ⟨w1, w3, by omega, by omega⟩
  | some s => exact beh_gs g hm hn (hq s hs) hl (by omega) (by omega) (by omega) hmc hc
/-! rests -/
theorem cov_flat {α : Type} (f : α → List Key) (l : List α) (t : Int) : Cov (l.flatMap f) t ↔ ∃ r, r ∈ l ∧ Cov (f r) t := by
  unfold Cov
  constructor
  · rintro ⟨p, hp, h⟩
    obtain ⟨r, hr, hp⟩ := List.mem_flatMap.mp hp
    exact ⟨r, hr, p, hp, h⟩
  · rintro ⟨r, hr, p, hp, h⟩
    exact ⟨p, List.mem_flatMap.mpr ⟨r, hr, hp⟩, h⟩
theorem ar_gs {z : Zone} {m b c : Int} (g : ZG z m) (hm : m < EV) {n : Nat} (hn : n < z.line.length) {r : (Nat × List Key) × List Key} {each : Bool} (hr : GS b r.2) (hbl : b + z.kl ≤ c) (hb1 : b + 1 ≤ c) (hmc : m ≤ c) (hc : c < EV) : GS c (arF z each n r) := by
  unfold arF
  split
  · unfold wkB stepB
    have := g.kl
    split
    · rename_i h
      split at h
      · cases h
      · split at h
        · cases h
        · intro q hq; cases hq
    · rename_i st h
      have hst : 0 ≤ st ∧ st ≤ 1 := by
        split at h
        · simp at h; omega
        · split at h
          · simp at h; omega
          · cases h
      exact beh_gs g hm hn hr g.kl hst.1 (by omega) (by omega) hmc hc
  · intro q hq; cases hq
theorem row_gs {z : Zone} {m b c : Int} (g : ZG z m) (hm : m < EV) {n : Nat} (hn : n < z.line.length) {kd : KD} {each : Bool} (hk : ∀ r, r ∈ kd → GS b r.2) (hbl : b + z.kl ≤ c) (hb1 : b + 1 ≤ c) (hmc : m ≤ c) (hc : c < EV) : GS c (restRow z kd each n) := by
  intro q hq
  obtain ⟨r, hr, hq⟩ := List.mem_flatMap.mp hq
  exact ar_gs g hm hn (hk r hr) hbl hb1 hmc hc q hq
theorem ar_times {z : Zone} {m : Int} (g : ZG z m) {M : Nat} {n : Nat} {each : Bool} {r : (Nat × List Key) × List Key} {b : Int} (hr : GS b r.2) {t : Int} (h0 : 0 ≤ t) (h1 : t < (M : Int)) (hw : (winB z n).1 ≤ t ∧ t ≤ (winB z n).2) :
    rcF M z each n t r = true ↔ Cov (arF z each n r) t := by
  unfold rcF arF
  by_cases hb : restB (verO z n) (verO z r.1.1) r.1.2 each = true
  · rw [hb, Bool.true_and, if_pos rfl, List.any_eq_true]
    have hsv := g.sv
    unfold fitS oneS
    by_cases h2 : z.servers = 1
    · have e1 : decide (z.servers = 1) = true := by simp [h2]
      have e2 : ¬ (1 < z.servers) := by omega
      rw [e1]
      rcases Nat.lt_trichotomy r.1.1 n with hx | hx | hx
      · have hs : stepB true r.1.1 n = some 1 := by
          unfold stepB; rw [if_neg (by simp; omega), if_pos hx]
        rw [hs]
        show _ ↔ Cov (behB r.2 z.kl 1 (winB z n)) t
        rw [(behB_spec hr.ne).2]
        constructor
        · rintro ⟨e, he, h⟩
          simp [e2] at h
          refine ⟨hw, e, (mem_tl.mp he).2, ?_, h.1.2⟩
          have h3 := h.2
          split at h3
          · first | omega | (simp at h3; omega)
          · have := h.1.1; omega
        · rintro ⟨_, e, he, h3, h4⟩
          refine ⟨e, mem_tl.mpr ⟨⟨hr.cov0 he, by omega⟩, he⟩, ?_⟩
          have e3 : ¬ e = t := by omega
          simp [e2, e3]; omega
      · have hs : stepB true r.1.1 n = some 0 := by rw [hx]; simp [stepB]
        rw [hs]
        show _ ↔ Cov (behB r.2 z.kl 0 (winB z n)) t
        rw [(behB_spec hr.ne).2]
        constructor
        · rintro ⟨e, he, h⟩
          simp [e2] at h
          exact ⟨hw, e, (mem_tl.mp he).2, by omega, h.1.2⟩
        · rintro ⟨_, e, he, h3, h4⟩
          refine ⟨e, mem_tl.mpr ⟨⟨hr.cov0 he, by omega⟩, he⟩, ?_⟩
          simp [e2, hx]; omega
      · have hs : stepB true r.1.1 n = none := by
          unfold stepB; rw [if_neg (by simp; omega), if_neg (by omega)]
        rw [hs]
        show _ ↔ Cov [] t
        constructor
        · rintro ⟨e, he, h⟩
          simp [e2] at h
          have h3 := h.2
          split at h3
          · first | omega | (simp at h3; omega)
          · first | omega | (simp at h3; omega)
        · rintro ⟨_, hp, _⟩; cases hp
    · have e1 : decide (z.servers = 1) = false := by simp [h2]
      have e2 : 1 < z.servers := by omega
      rw [e1]
      have hs : stepB false r.1.1 n = some 0 := by simp [stepB]
      rw [hs]
      show _ ↔ Cov (behB r.2 z.kl 0 (winB z n)) t
      rw [(behB_spec hr.ne).2]
      constructor
      · rintro ⟨e, he, h⟩
        simp [e2] at h
        exact ⟨hw, e, (mem_tl.mp he).2, by omega, h.2⟩
      · rintro ⟨_, e, he, h3, h4⟩
        refine ⟨e, mem_tl.mpr ⟨⟨hr.cov0 he, by omega⟩, he⟩, ?_⟩
        simp [e2]; omega
  · rw [Bool.not_eq_true] at hb
    rw [hb]
    simp [Cov]
theorem row_times {z : Zone} {m : Int} (g : ZG z m) (hm : m < EV) {M : Nat} (hM : (M : Int) ≤ EV) {n : Nat} (hn : n < z.line.length) {kd : KD} {each : Bool} {b c : Int} (hk : ∀ r, r ∈ kd → GS b r.2) (hbl : b + z.kl ≤ c) (hb1 : b + 1 ≤ c) (hmc : m ≤ c) (hc : c < EV) :
    ((ticks M).filter (told z n)).filter (fun t => kd.any (rcF M z each n t)) = tl M (joinB (restRow z kd each n)) := by
  rw [List.filter_filter]
  refine tl_congr fun t h0 h1 => ?_
  rw [Bool.and_eq_true, told_win hn (by omega), (joinB_spec (row_gs g hm hn hk hbl hb1 hmc hc).ne).2]
  unfold restRow
  rw [cov_flat, List.any_eq_true]
  constructor
  · rintro ⟨⟨r, hr, h⟩, hw⟩
    exact ⟨r, hr, (ar_times g (hk r hr) h0 h1 hw).mp h⟩
  · rintro ⟨r, hr, h⟩
    have hw : (winB z n).1 ≤ t ∧ t ≤ (winB z n).2 := by
      have h2 := h
      unfold arF at h2
      split at h2
      · unfold wkB at h2
        split at h2
        · obtain ⟨_, hp, _⟩ := h2; cases hp
        · exact (((behB_spec (hk r hr).ne).2 t).mp h2).1
      · obtain ⟨_, hp, _⟩ := h2; cases hp
    exact ⟨⟨r, hr, (ar_times g (hk r hr) h0 h1 hw).mpr h⟩, hw⟩
/-! trusts: sorted(set(a + b)) -/
theorem sorted_ext : ∀ {l m : List Int}, l.Pairwise (· < ·) → m.Pairwise (· < ·) → (∀ x, x ∈ l ↔ x ∈ m) → l = m
  | [], [], _, _, _ => rfl
  | [], y :: m, _, _, h => by have := (h y).mpr (List.mem_cons_self ..); cases this
  | x :: l, [], _, _, h => by have := (h x).mp (List.mem_cons_self ..); cases this
  | x :: l, y :: m, hl, hm, h => by
    rw [List.pairwise_cons] at hl hm
    have e : x = y := by
      rcases List.mem_cons.mp ((h x).mp (List.mem_cons_self ..)) with h1 | h1
      · exact h1
      · rcases List.mem_cons.mp ((h y).mpr (List.mem_cons_self ..)) with h2 | h2
        · exact h2.symm
        · have := hl.1 y h2; have := hm.1 x h1; omega
    subst e
    rw [sorted_ext hl.2 hm.2 fun z => ?_]
    constructor
    · intro hz
      rcases List.mem_cons.mp ((h z).mp (List.mem_cons_of_mem _ hz)) with h1 | h1
      · have := hl.1 z hz; omega
      · exact h1
    · intro hz
      rcases List.mem_cons.mp ((h z).mpr (List.mem_cons_of_mem _ hz)) with h1 | h1
      · have := hm.1 z hz; omega
      · exact h1
theorem mem_ddp {α : Type} [DecidableEq α] : ∀ {l : List α} {x : α}, x ∈ ddp l ↔ x ∈ l
  | [], _ => Iff.rfl
  | y :: l, x => by
    rw [ddp]
    by_cases h : y ∈ ddp l
    · rw [if_pos h, mem_ddp, List.mem_cons]
      constructor
      · exact .inr
      · rintro (rfl | h1)
        · exact mem_ddp.mp h
        · exact h1
    · rw [if_neg h, List.mem_cons, List.mem_cons, mem_ddp]
theorem nodup_ddp {α : Type} [DecidableEq α] : ∀ l : List α, (ddp l).Nodup
  | [] => List.nodup_nil
  | y :: l => by
    rw [ddp]
    by_cases h : y ∈ ddp l
    · rw [if_pos h]; exact nodup_ddp l
    · rw [if_neg h]; exact List.nodup_cons.mpr ⟨h, nodup_ddp l⟩
theorem srtI_lt {l : List Int} (h : l.Nodup) : (srtI l).Pairwise (· < ·) := by
  have h1 : (srtI l).Pairwise fun a b => leI a b = true := List.pairwise_mergeSort (le := leI) (by intro a b c; simp [leI]; omega) (by intro a b; simp [leI]; omega) l
  have h2 : (srtI l).Nodup := (List.mergeSort_perm l leI).nodup_iff.mpr h
  unfold List.Nodup at h2
  exact (h1.and h2).imp fun ⟨ha, hb⟩ => by simp [leI] at ha; omega
theorem mem_srtI {l : List Int} {x : Int} : x ∈ srtI l ↔ x ∈ l := (List.mergeSort_perm l leI).mem_iff
theorem tl_app {M : Nat} {a b : List Key} (ha : NE a) (hb : NE b) : srtI (ddp (tl M a ++ tl M b)) = tl M (joinB (a ++ b)) := by
  refine sorted_ext (srtI_lt (nodup_ddp _)) (tl_sorted _ _) fun x => ?_
  have hn : NE (a ++ b) := fun p hp => by
    rcases List.mem_append.mp hp with h | h
    · exact ha p h
    · exact hb p h
  rw [mem_srtI, mem_ddp, List.mem_append, mem_tl, mem_tl, mem_tl, (joinB_spec hn).2, cov_app]
  constructor
  · rintro (⟨h1, h2⟩ | ⟨h1, h2⟩)
    · exact ⟨h1, .inl h2⟩
    · exact ⟨h1, .inr h2⟩
  · rintro ⟨h1, h2 | h2⟩
    · exact .inl ⟨h1, h2⟩
    · exact .inr ⟨h1, h2⟩
theorem tl_len (M : Nat) (s : List Key) : (tl M s).length ≤ M := by
  unfold tl
  refine Nat.le_trans (List.length_filter_le ..) ?_
  unfold ticks; simp
end VI.M
set_option Elab.async false
set_option linter.all false
set_option maxRecDepth 100000
/-! M37: the law's trusts, keys, rests: the same dicts with lists of times. -/
namespace VI.M
open PySem
/-! 64 -/
def ltBody : List Sc := [(.asg (.nm 4) (.ix (.ix (.ix (.ix (.var 0) (.cst (.int 0))) (.var 3)) (.cst (.int 1))) (.cst (.int 2)))), (.ifs (.cmp .ne (.var 4) (.tup [])) [(.asg (.ix 2 (.var 4)) (.srt (.bin .add (.get (.var 2) (.var 4) (.lst [])) (.ix (.var 1) (.var 3)))))] [])]
theorem get_oldL {M : Nat} {acc : TD} (hs : ∀ q, q ∈ acc → ∃ s, q.2 = some s) (t : List Key) : dGetD (eD eT (vLO M) acc) (eT t) (.list []) = some (vLI M (oldS acc t)) := by
  rw [dGetD_ok kT]
  unfold oldS
  have e : ((acc.find? fun q => decide (q.1 = t)).map fun q => vLO M q.2) = (getA acc t).map (vLO M) := by unfold getA; rw [Option.map_map]; rfl
  rw [e]
  cases hg : getA acc t with
  | none => simp [vLI, tl_nil]
  | some o =>
    obtain ⟨s, hs⟩ := hs _ (getA_in hg)
    simp at hs
    subst hs; rfl
theorem asInts_app : ∀ a b : List Int, asInts (a.map enI ++ b.map enI) = some (a ++ b) := fun a b => by
  rw [← List.map_append]; exact asInts_map _
theorem srtD_of {xs : List D} {ns : List Int} (h : asInts xs = some ns) : srtD (.list xs) = gd (decide ((srtI (ddp ns)).length < 64) && decide (ns.length ≤ 1000)) (some (.list ((srtI (ddp ns)).map enI))) := by
  unfold srtD
  simp only
  rw [h]
theorem lt_turn {M : Nat} (hM : M ≤ 60) {z : Zone} {d : RD} (hnd : (d.map (·.1)).Nodup) {q : Nat × List Key} (hq : q ∈ d) (hn : q.1 < z.line.length) {t : List Key} (ht : (verO z q.1).trust = some t) {acc : TD} (hs : ∀ q, q ∈ acc → ∃ s, q.2 = some s ∧ NE s) (hqn : NE q.2) (ha : acc.length < sizeLine) (a4 : Option Sl) (S : Sto) (k : Nat) :
    ∃ b4, evB (sem fns k) clsT ltBody [some (.d (eZ z)), some (.d (lR M d)), some (.own (lT M acc)), some (.d (.int (q.1 : Int))), a4] S = some (.nx [some (.d (eZ z)), some (.d (lR M d)), some (.own (lT M (tbStep z acc q))), some (.d (.int (q.1 : Int))), b4], S) := by
  refine ⟨some (.d (eT t)), ?_⟩
  have hv := verO_eq hn
  have ht' : (z.line[q.1].2).trust = some t := by rw [← hv]; exact ht
  unfold tbStep
  rw [ht]
  by_cases h0 : t = []
  · simp [ltBody, ix_nat, hn, ht', eO, h0]
  · have hg : getA d q.1 = some q.2 := getA_mem hnd hq
    have e1 : dGetD (eD eT (vLO M) acc) (eT t) (.list []) = some (vLI M (oldS acc t)) := get_oldL (fun q hq => by obtain ⟨s, h, _⟩ := hs q hq; exact ⟨s, h⟩) t
    have hno : NE (oldS acc t) := by
      unfold oldS
      cases hg : getA acc t with
      | none => intro p hp; cases hp
      | some o =>
        obtain ⟨s, h1, h2⟩ := hs _ (getA_in hg)
        simp at h1
        subst h1; exact h2
    have hix := ix_lR M d q.1
    rw [hg] at hix
    have hla := tl_len M (oldS acc t)
    have hlb := tl_len M q.2
    have hlc := tl_len M (joinB (oldS acc t ++ q.2))
    have e2 : binD .add (vLI M (oldS acc t)) (vLI M q.2) = some (.list ((tl M (oldS acc t)).map enI ++ (tl M q.2).map enI)) := by
      unfold vLI
      rw [b_addL, decide_eq_true (by simp; unfold sizeLine; omega)]; rfl
    have e3 : srtD (.list ((tl M (oldS acc t)).map enI ++ (tl M q.2).map enI)) = some (vLI M (joinB (oldS acc t ++ q.2))) := by
      rw [srtD_of (asInts_app _ _), tl_app hno hqn, decide_eq_true (by omega), decide_eq_true (by simp; omega)]; rfl
    have e4 : putOwn (lT M acc) (eT t) (vLI M (joinB (oldS acc t ++ q.2))) = some (lT M (upd acc t (some (joinB (oldS acc t ++ q.2))))) := by
      show ob (dPut (eD eT (vLO M) acc) (eT t) (vLO M (some _))) _ = _
      rw [dPut_ok kT ha]; rfl
    have hl : lT M acc = .dict (eD eT (vLO M) acc) := rfl
    simp [ltBody, ix_nat, hn, ht', eO, h0, notDict, hix, e2, e3, e4]
    simp [hl, e1, hix, e2, e3]
    rw [← hl, e4]; rfl
theorem tb_pre (z : Zone) : ∀ d : RD, (∀ q, q ∈ d → NE q.2) → (∀ q, q ∈ trustsB z d → ∃ s, q.2 = some s ∧ NE s) ∧ (trustsB z d).length ≤ d.length := by
  intro d
  induction hn : d.length generalizing d with
  | zero => cases d with
    | nil => exact fun _ => ⟨fun _ h => (by cases h), Nat.le_refl _⟩
    | cons => simp at hn
  | succ m ih =>
    intro hN
    rcases List.eq_nil_or_concat d with rfl | ⟨dn, q, rfl⟩
    · simp at hn
    · have hm : dn.length = m := by simpa using hn
      obtain ⟨h1, h2⟩ := ih dn hm (fun q hq => hN q (by simp [hq]))
      have e : trustsB z (dn.concat q) = tbStep z (trustsB z dn) q := by unfold trustsB; simp
      rw [e]
      unfold tbStep
      cases (verO z q.1).trust with
      | none =>
        refine ⟨h1, ?_⟩
        show (trustsB z dn).length ≤ _
        omega
      | some t =>
        by_cases hx : t = []
        · simp only [if_pos hx]
          exact ⟨h1, by omega⟩
        · simp only [if_neg hx]
          refine ⟨fun r hr => ?_, by have := len_upd (trustsB z dn) t (some (joinB (oldS (trustsB z dn) t ++ q.2))); omega⟩
          rcases mem_upd hr with hr | rfl
          · exact h1 r hr
          · refine ⟨_, rfl, (joinB_spec ?_).1⟩
            intro p hp
            rcases List.mem_append.mp hp with hp | hp
            · unfold oldS at hp
              cases hg : getA (trustsB z dn) t with
              | none => rw [hg] at hp; cases hp
              | some o =>
                obtain ⟨s, h7, h8⟩ := h1 _ (getA_in hg)
                simp at h7
                subst h7
                rw [hg] at hp
                exact h8 p hp
            · exact hN q (by simp) p hp
theorem lt_ok {M : Nat} (hM : M ≤ 60) {z : Zone} {d : RD} (hnd : (d.map (·.1)).Nodup) (hd : ∀ q, q ∈ d → q.1 < z.line.length ∧ NE q.2 ∧ ∃ t, (verO z q.1).trust = some t) (hl : d.length ≤ 1000) (S : Sto) (k : Nat) :
    sem fns (k + 1) 64 [.d (eZ z), .d (lR M d)] S = some (.d (lT M (trustsB z d)), S) := by
  rw [semS rfl]
  have hi : evIt (sem fns k) clsT (.keys (.var 1)) [some (.d (eZ z)), some (.d (lR M d)), some (.own (.dict [])), none, none] S = some (d.map fun q => .int (q.1 : Int), S) := by
    have e : itemsOf 3 (lR M d) = some (d.map fun q => .int (q.1 : Int)) := by
      show some ((eD (fun n : Nat => PyData.int (n : Int)) (vLI M) d).map _) = _
      unfold eD; rw [List.map_map]; rfl
    simp [e]
  have z1 := for_nx (tg := .nm 3) (body := fun env' S' => evB (sem fns k) clsT ltBody env' S') (enc := fun q : Nat × List Key => .int (q.1 : Int)) (xs := d) (S := S) (env := [some (.d (eZ z)), some (.d (lR M d)), some (.own (.dict [])), none, none])
    (fun dn env' S' => S' = S ∧ ∃ b3 b4, env' = [some (.d (eZ z)), some (.d (lR M d)), some (.own (lT M (trustsB z dn))), b3, b4])
    ⟨rfl, none, none, rfl⟩ fun dn q rest env1 S1 hdq hp1 => by
      obtain ⟨rfl, b3, b4, rfl⟩ := hp1
      have hq : q ∈ d := by rw [hdq]; simp
      obtain ⟨h1, h2, t, h3⟩ := hd q hq
      have hpre := tb_pre z dn fun q hq => (hd q (by rw [hdq]; simp [hq])).2.1
      have hdl : dn.length ≤ d.length := by rw [hdq]; simp
      obtain ⟨c4, hc⟩ := lt_turn hM hnd hq h1 h3 hpre.1 h2 (by unfold sizeLine; omega) b4 S1 k
      refine ⟨_, _, _, rfl, hc, rfl, some (.d (.int (q.1 : Int))), c4, ?_⟩
      unfold trustsB
      rw [List.foldl_append]; rfl
  obtain ⟨env', S', h1, rfl, b3, b4, rfl⟩ := z1
  have hf : evS (sem fns k) clsT (.for_ (.nm 3) (.keys (.var 1)) ltBody) [some (.d (eZ z)), some (.d (lR M d)), some (.own (.dict [])), none, none] S' = some (.nx [some (.d (eZ z)), some (.d (lR M d)), some (.own (lT M (trustsB z d))), b3, b4], S') := by
    rw [S_for, hi]; exact h1
  unfold ltBody at hf
  simp [runF, envOf, cd__law_trusts, hf]
/-! 62, keys -/
def gkIn : List Sc := [(.ifs (.fc 57 [(.ix (.ix (.ix (.var 6) (.cst (.int 0))) (.var 7)) (.cst (.int 1))), (.var 11), (.ix (.var 0) (.cst (.int 2)))]) [(.asg (.nm 12) (.comp (.var 13) (.nm 13) (.seq (.var 10)) (some (.fc 61 [(.ix (.var 2) (.var 11)), (.var 3), (.var 13)])))), (.ifs (.cmp .ne (.var 12) (.lst [])) [(.asg (.ix 8 (.tup [(.var 7), (.var 11)])) (.var 12))] [])] [])]
def gkOut : List Sc := [(.asg (.nm 10) (.comp (.var 13) (.nm 13) (.rng (.var 4)) (some (.fc 55 [(.var 6), (.var 7), (.var 13)])))), (.for_ (.nm 11) (.keys (.var 2)) gkIn)]
theorem gk_in {M : Nat} {w : Wld} {z : Zone} {m b c life : Int} (g : ZG z m) (hm : m < EV) (hM : (M : Int) ≤ EV) {n : Nat} (hn : n < z.line.length) {td : TD} (hnd : (td.map (·.1)).Nodup) {q : List Key × Option (List Key)} (hqm : q ∈ td) (hq : ∀ s, q.2 = some s → GS b s) (hl : 1 ≤ life) (hbl : b + life ≤ c) (hmc : m ≤ c) (hc : c < (M : Int))
    {acc : KD} (ha : acc.length < sizeLine) (hk : (n, q.1) ∉ acc.map (·.1)) (a1 a5 a9 a12 a13 : Option Sl) (S : Sto) (k : Nat) :
    ∃ b12, evB (sem fns (k + 2)) clsT gkIn [some (.d (eW w)), a1, some (.d (lT M td)), some (.d (.int life)), some (.d (.int (M : Int))), a5, some (.d (eZ z)), some (.d (.int (n : Int))), some (.own (lK M acc)), a9, some (.d (.list (((ticks M).filter (told z n)).map enI))), some (.d (eT q.1)), a12, a13] S
      = some (.nx [some (.d (eW w)), a1, some (.d (lT M td)), some (.d (.int life)), some (.d (.int (M : Int))), a5, some (.d (eZ z)), some (.d (.int (n : Int))), some (.own (lK M (acc ++ (akF z w.each life n q).toList))), a9, some (.d (.list (((ticks M).filter (told z n)).map enI))), some (.d (eT q.1)), b12, a13], S) := by
  have hv := verO_eq hn
  have hgs := ak_gs g hm hn hq hl hbl hmc (by omega)
  have hne := tl_ne (M := M) hgs hc
  have hti := ak_times g hm hM hn (q := q) (rl := life) fun s hs => ⟨b, hq s hs⟩
  have hg : getA td q.1 = some q.2 := getA_mem hnd hqm
  have hix := ix_lT M td q.1
  rw [hg] at hix
  have k57 := keys_ok (v := z.line[n].2) (t := q.1) (each := w.each) k S
  unfold akF
  rw [hv]
  by_cases hb : keysB z.line[n].2 q.1 w.each = true
  · rw [hb] at k57
    have hcp : evE (sem fns (k + 2)) clsT (.comp (.var 13) (.nm 13) (.seq (.var 10)) (some (.fc 61 [(.ix (.var 2) (.var 11)), (.var 3), (.var 13)]))) [some (.d (eW w)), a1, some (.d (lT M td)), some (.d (.int life)), some (.d (.int (M : Int))), a5, some (.d (eZ z)), some (.d (.int (n : Int))), some (.own (lK M acc)), a9, some (.d (.list (((ticks M).filter (told z n)).map enI))), some (.d (eT q.1)), a12, a13] S
        = some (.d (.list ((tl M (akT z life n q)).map enI)), S) := by
      rw [← hti]
      exact comp_ok (enc := enI) (g := enI) (by simp) fun t ht => ⟨_, rfl, by
        have z := holds_ok M q.2 life t S (k + 1)
        simp [wipeE, tgSlots, hix, enI, z, evT], fun _ => by simp [wipeE, tgSlots]⟩
    by_cases ht : akT z life n q = []
    · have ht2 : tl M (akT z life n q) = [] := by rw [ht, tl_nil]
      rw [if_neg fun x => x.2 ht]
      rw [ht2] at hcp
      refine ⟨some (.d (.list [])), ?_⟩
      have hnn := c_neNil []
      simp at hnn hcp
      simp [gkIn, ix_nat, hn, k57, hcp, hnn]
    · have ht2 := hne.mpr ht
      rw [if_pos ⟨hb, ht⟩]
      have hnn := c_neNil (tl M (akT z life n q))
      simp [ht2] at hnn
      have hpu : putOwn (lK M acc) (.tuple [.int n, eT q.1]) (.list ((tl M (akT z life n q)).map enI)) = some (lK M (acc ++ [((n, q.1), akT z life n q)])) := by
        show ob (dPut (eD eNT (vLI M) acc) (eNT (n, q.1)) (vLI M (akT z life n q))) _ = _
        rw [dPut_ok kNT ha, upd_new hk]; rfl
      refine ⟨some (.d (.list ((tl M (akT z life n q)).map enI))), ?_⟩
      simp [gkIn, ix_nat, hn, k57, hcp, hnn, hpu]
  · rw [Bool.not_eq_true] at hb
    rw [hb] at k57
    rw [if_neg fun x => by rw [hb] at x; exact Bool.false_ne_true x.1]
    refine ⟨a12, ?_⟩
    simp [gkIn, ix_nat, hn, k57]
end VI.M
set_option Elab.async false
set_option linter.all false
set_option maxRecDepth 100000
/-! M38: the law's keys and rests, the loops. -/
namespace VI.M
open PySem
/-- what a place must keep; b bounds the trusts, c the keys, e the rests -/
structure PG (w : Wld) (M : Nat) (z : Zone) (td : TD) (m b c e life : Int) : Prop where
  g : ZG z m
  hm : m < EV
  hM : (M : Int) ≤ EV
  nd : (td.map (·.1)).Nodup
  tl : td.length ≤ 1000
  q : ∀ q, q ∈ td → ∀ s, q.2 = some s → GS b s
  l1 : 1 ≤ life
  bl : b + life ≤ c
  mc : m ≤ c
  ce : c + z.kl ≤ e
  c1 : c + 1 ≤ e
  eM : e < (M : Int)
theorem PG.cM {w : Wld} {M : Nat} {z : Zone} {td : TD} {m b c e life : Int} (h : PG w M z td m b c e life) : c < (M : Int) := by
  have := h.c1; have := h.eM; omega
theorem PG.kgs {w : Wld} {M : Nat} {z : Zone} {td : TD} {m b c e life : Int} (h : PG w M z td m b c e life) {each : Bool} : ∀ r, r ∈ allK z td each life → GS c r.2 ∧ r.2 ≠ [] ∧ r.1.1 < z.line.length ∧ ∃ q, q ∈ td ∧ q.1 = r.1.2 ∧ akF z each life r.1.1 q = some r := by
  intro r hr
  obtain ⟨n, hn, hr⟩ := List.mem_flatMap.mp hr
  have hn := List.mem_range.mp hn
  obtain ⟨q, hq, e⟩ := List.mem_filterMap.mp hr
  have hk := akF_key e
  have e' := e
  unfold akF at e
  split at e
  · rename_i h2
    simp at e
    refine ⟨?_, ?_, by rw [hk]; exact hn, q, hq, by rw [hk], by rw [hk]; exact e'⟩
    · rw [← e]; exact ak_gs h.g h.hm hn (h.q q hq) h.l1 h.bl h.mc (by have := h.cM; have := h.hM; omega)
    · rw [← e]; exact h2.2
  · cases e
theorem rows_nodup {z : Zone} {td : TD} {each : Bool} {life : Int} (hnd : (td.map (·.1)).Nodup) : ∀ m, (((List.range m).flatMap (rowK z td each life)).map (·.1)).Nodup
  | 0 => by simp
  | m + 1 => by
    rw [List.range_succ, List.flatMap_append, List.map_append, List.nodup_append]
    refine ⟨rows_nodup hnd m, ?_, ?_⟩
    · simp only [List.flatMap_cons, List.flatMap_nil, List.append_nil]
      unfold rowK
      clear rows_nodup
      induction td with
      | nil => simp
      | cons q td ih =>
        rw [List.map_cons, List.nodup_cons] at hnd
        rw [List.filterMap_cons]
        cases ha : akF z each life m q with
        | none => exact ih hnd.2
        | some r =>
          rw [List.map_cons, List.nodup_cons]
          refine ⟨fun hm => ?_, ih hnd.2⟩
          obtain ⟨r2, hr2, e2⟩ := List.mem_map.mp hm
          obtain ⟨q2, hq2, e3⟩ := List.mem_filterMap.mp hr2
          rw [akF_key e3, akF_key ha] at e2
          simp at e2
          exact hnd.1 (by rw [← e2]; exact List.mem_map.mpr ⟨q2, hq2, rfl⟩)
    · intro x hx y hy e
      obtain ⟨r, hr, rfl⟩ := List.mem_map.mp hx
      obtain ⟨r2, hr2, rfl⟩ := List.mem_map.mp hy
      obtain ⟨n, hn, hr⟩ := List.mem_flatMap.mp hr
      have hn := List.mem_range.mp hn
      obtain ⟨q, _, e1⟩ := rowK_key hr
      simp only [List.flatMap_cons, List.flatMap_nil, List.append_nil] at hr2
      obtain ⟨q2, _, e2⟩ := rowK_key hr2
      rw [e1, e2] at e
      simp at e
      omega
theorem allK_nodup {z : Zone} {td : TD} {each : Bool} {life : Int} (hnd : (td.map (·.1)).Nodup) : ((allK z td each life).map (·.1)).Nodup := rows_nodup hnd _
theorem rng_M (M : Nat) (hM : M ≤ 60) : itemsOf 1 (.int (M : Int)) = some ((ticks M).map enI) := by
  show gd (decide _ && decide _) _ = _
  rw [decide_eq_true (by omega), decide_eq_true (by omega)]
  show some _ = some _
  unfold ticks
  rw [List.map_map]; rfl
section
variable {w : Wld} {M : Nat} {z : Zone} {td : TD} {m b c e life : Int}
theorem some_comp (hM : M ≤ 60) {n : Nat} (hn : n < z.line.length) {a0 a1 a2 a3 a5 a8 a9 a10 a11 a12 a13 : Option Sl} (S : Sto) (k : Nat) :
    evE (sem fns (k + 1)) clsT (.comp (.var 13) (.nm 13) (.rng (.var 4)) (some (.fc 55 [(.var 6), (.var 7), (.var 13)]))) [a0, a1, a2, a3, some (.d (.int (M : Int))), a5, some (.d (eZ z)), some (.d (.int (n : Int))), a8, a9, a10, a11, a12, a13] S
      = some (.d (.list (((ticks M).filter (told z n)).map enI)), S) :=
  comp_ok (enc := enI) (g := enI) (by simp [rng_M M hM]) fun t ht => ⟨_, rfl, by
    have y := told_ok (t := t) hn k S
    simp [wipeE, tgSlots, enI, y, evT], fun _ => by simp [wipeE, tgSlots]⟩
theorem gk_row (h : PG w M z td m b c e life) {n : Nat} (hn : n < z.line.length) {acc : KD} (ha : acc.length ≤ n * 1000) (hb : n ≤ 1000) (hk : ∀ r, r ∈ acc → r.1.1 < n) (a1 a5 a9 a11 a12 a13 : Option Sl) (S : Sto) (k : Nat) :
    ∃ b11 b12, evS (sem fns (k + 2)) clsT (.for_ (.nm 11) (.keys (.var 2)) gkIn) [some (.d (eW w)), a1, some (.d (lT M td)), some (.d (.int life)), some (.d (.int (M : Int))), a5, some (.d (eZ z)), some (.d (.int (n : Int))), some (.own (lK M acc)), a9, some (.d (.list (((ticks M).filter (told z n)).map enI))), a11, a12, a13] S
      = some (.nx [some (.d (eW w)), a1, some (.d (lT M td)), some (.d (.int life)), some (.d (.int (M : Int))), a5, some (.d (eZ z)), some (.d (.int (n : Int))), some (.own (lK M (acc ++ rowK z td w.each life n))), a9, some (.d (.list (((ticks M).filter (told z n)).map enI))), b11, b12, a13], S) := by
  have hi : evIt (sem fns (k + 2)) clsT (.keys (.var 2)) [some (.d (eW w)), a1, some (.d (lT M td)), some (.d (.int life)), some (.d (.int (M : Int))), a5, some (.d (eZ z)), some (.d (.int (n : Int))), some (.own (lK M acc)), a9, some (.d (.list (((ticks M).filter (told z n)).map enI))), a11, a12, a13] S = some (td.map fun q => eT q.1, S) := by
    have e : itemsOf 3 (lT M td) = some (td.map fun q => eT q.1) := by
      show some ((eD eT (vLO M) td).map (·.1)) = _
      unfold eD; rw [List.map_map]; rfl
    simp [e]
  rw [S_for, hi]
  have z1 := for_nx (tg := .nm 11) (body := fun env' S' => evB (sem fns (k + 2)) clsT gkIn env' S') (enc := fun q : List Key × Option (List Key) => eT q.1) (xs := td) (S := S) (env := [some (.d (eW w)), a1, some (.d (lT M td)), some (.d (.int life)), some (.d (.int (M : Int))), a5, some (.d (eZ z)), some (.d (.int (n : Int))), some (.own (lK M acc)), a9, some (.d (.list (((ticks M).filter (told z n)).map enI))), a11, a12, a13])
    (fun dn env' S' => S' = S ∧ ∃ b11 b12, env' = [some (.d (eW w)), a1, some (.d (lT M td)), some (.d (.int life)), some (.d (.int (M : Int))), a5, some (.d (eZ z)), some (.d (.int (n : Int))), some (.own (lK M (acc ++ dn.filterMap (akF z w.each life n)))), a9, some (.d (.list (((ticks M).filter (told z n)).map enI))), b11, b12, a13])
    ⟨rfl, a11, a12, by simp⟩ fun dn q rest env1 S1 hdq hp1 => by
      obtain ⟨rfl, b11, b12, rfl⟩ := hp1
      have hq : q ∈ td := by rw [hdq]; simp
      have hnd := h.nd
      have hlen : (acc ++ dn.filterMap (akF z w.each life n)).length < sizeLine := by
        have h1 := List.length_filterMap_le (akF z w.each life n) dn
        have h2 : dn.length ≤ td.length := by rw [hdq]; simp
        have := h.tl
        rw [List.length_append]; unfold sizeLine; omega
      have hk2 : (n, q.1) ∉ (acc ++ dn.filterMap (akF z w.each life n)).map (·.1) := by
        intro hm
        obtain ⟨r, hr, er⟩ := List.mem_map.mp hm
        rcases List.mem_append.mp hr with hr | hr
        · have := hk r hr; rw [er] at this; simp at this
        · obtain ⟨q2, hq2, e2⟩ := List.mem_filterMap.mp hr
          have e3 := akF_key e2
          rw [er] at e3
          rw [hdq, List.map_append, List.map_cons] at hnd
          have := (List.nodup_append.mp hnd).2.2 q2.1 (List.mem_map.mpr ⟨q2, hq2, rfl⟩) q.1 (List.mem_cons_self ..)
          simp at e3
          exact this e3.symm
      obtain ⟨c12, hc⟩ := gk_in (w := w) h.g h.hm h.hM hn h.nd hq (h.q q hq) h.l1 h.bl h.mc h.cM hlen hk2 a1 a5 a9 b12 a13 S1 k
      refine ⟨_, _, _, rfl, hc, rfl, some (.d (eT q.1)), c12, ?_⟩
      rw [fm_snoc, List.append_assoc]
  obtain ⟨env', S', h1, rfl, b11, b12, rfl⟩ := z1
  exact ⟨b11, b12, h1⟩
theorem rng_line (z : Zone) (h : z.line.length ≤ 1000) : itemsOf 1 (.int (z.line.length : Int)) = some ((List.range z.line.length).map fun (n : Nat) => PyData.int (n : Int)) := by
  show gd (decide _ && decide _) _ = _
  rw [decide_eq_true (by omega), decide_eq_true (by omega)]
  rfl
theorem gk_all (h : PG w M z td m b c e life) (hM : M ≤ 60) (a1 a5 a7 a9 a10 a11 a12 a13 : Option Sl) (S : Sto) (k : Nat) :
    ∃ b7 b10 b11 b12, evS (sem fns (k + 2)) clsT (.for_ (.nm 7) (.rng (.b1 .len (.ix (.var 6) (.cst (.int 0))))) gkOut) [some (.d (eW w)), a1, some (.d (lT M td)), some (.d (.int life)), some (.d (.int (M : Int))), a5, some (.d (eZ z)), a7, some (.own (.dict [])), a9, a10, a11, a12, a13] S
      = some (.nx [some (.d (eW w)), a1, some (.d (lT M td)), some (.d (.int life)), some (.d (.int (M : Int))), a5, some (.d (eZ z)), b7, some (.own (lK M (allK z td w.each life))), a9, b10, b11, b12, a13], S) := by
  have h3 := h.g.l3
  have hi : evIt (sem fns (k + 2)) clsT (.rng (.b1 .len (.ix (.var 6) (.cst (.int 0))))) [some (.d (eW w)), a1, some (.d (lT M td)), some (.d (.int life)), some (.d (.int (M : Int))), a5, some (.d (eZ z)), a7, some (.own (.dict [])), a9, a10, a11, a12, a13] S = some ((List.range z.line.length).map fun (n : Nat) => PyData.int (n : Int), S) := by
    simp [rng_line z (by omega)]
  rw [S_for, hi]
  have z1 := for_nx (tg := .nm 7) (body := fun env' S' => evB (sem fns (k + 2)) clsT gkOut env' S') (enc := fun n : Nat => PyData.int (n : Int)) (xs := List.range z.line.length) (S := S) (env := [some (.d (eW w)), a1, some (.d (lT M td)), some (.d (.int life)), some (.d (.int (M : Int))), a5, some (.d (eZ z)), a7, some (.own (.dict [])), a9, a10, a11, a12, a13])
    (fun dn env' S' => S' = S ∧ ∃ b7 b10 b11 b12, env' = [some (.d (eW w)), a1, some (.d (lT M td)), some (.d (.int life)), some (.d (.int (M : Int))), a5, some (.d (eZ z)), b7, some (.own (lK M (dn.flatMap (rowK z td w.each life)))), a9, b10, b11, b12, a13])
    ⟨rfl, a7, a10, a11, a12, rfl⟩ fun dn n rest env1 S1 hdq hp1 => by
      obtain ⟨rfl, b7, b10, b11, b12, rfl⟩ := hp1
      obtain ⟨rfl, hn⟩ := range_split hdq
      have hk : ∀ r, r ∈ (List.range n).flatMap (rowK z td w.each life) → r.1.1 < n := by
        intro r hr
        obtain ⟨m, hm, hr⟩ := List.mem_flatMap.mp hr
        obtain ⟨q, _, e⟩ := rowK_key hr
        rw [e]; exact List.mem_range.mp hm
      have hl : ∀ n, ((List.range n).flatMap (rowK z td w.each life)).length ≤ n * 1000 := by
        intro n
        induction n with
        | zero => simp
        | succ n ih =>
          rw [List.range_succ, List.flatMap_append, List.length_append]
          have h1 : (rowK z td w.each life n).length ≤ td.length := List.length_filterMap_le _ _
          have := h.tl
          simp only [List.flatMap_cons, List.flatMap_nil, List.append_nil]
          omega
      obtain ⟨c11, c12, hc⟩ := gk_row h hn (hl n) (by omega) hk a1 a5 a9 b11 b12 a13 S1 k
      have hsc := some_comp (z := z) hM hn (a0 := some (.d (eW w))) (a1 := a1) (a2 := some (.d (lT M td))) (a3 := some (.d (.int life))) (a5 := a5) (a8 := some (.own (lK M ((List.range n).flatMap (rowK z td w.each life))))) (a9 := a9) (a10 := b10) (a11 := b11) (a12 := b12) (a13 := a13) S1 (k + 1)
      refine ⟨[some (.d (eW w)), a1, some (.d (lT M td)), some (.d (.int life)), some (.d (.int (M : Int))), a5, some (.d (eZ z)), some (.d (.int (n : Int))), some (.own (lK M ((List.range n).flatMap (rowK z td w.each life)))), a9, b10, b11, b12, a13], [some (.d (eW w)), a1, some (.d (lT M td)), some (.d (.int life)), some (.d (.int (M : Int))), a5, some (.d (eZ z)), some (.d (.int (n : Int))), some (.own (lK M ((List.range n ++ [n]).flatMap (rowK z td w.each life)))), a9, some (.d (.list (((ticks M).filter (told z n)).map enI))), c11, c12, a13], S1, rfl, ?_, rfl, _, _, c11, c12, rfl⟩
      rw [List.flatMap_append]
      simp [gkOut, hsc, hc]
  obtain ⟨env', S', h1, rfl, b7, b10, b11, b12, rfl⟩ := z1
  exact ⟨b7, b10, b11, b12, h1⟩
/-! rests -/
def grBody : List Sc := [(.asg (.nm 12) (.comp (.var 13) (.nm 13) (.rng (.var 4)) (some (.fc 55 [(.var 6), (.var 7), (.var 13)])))), (.asg (.nm 12) (.comp (.var 13) (.nm 13) (.seq (.var 12)) (some (.fc 63 [(.var 0), (.var 6), (.var 8), (.var 7), (.var 13)])))), (.ifs (.and [(.cmp .ne (.var 12) (.lst [])), (.cmp .lt (.bin .add (.var 5) (.cst (.int 1))) (.b1 .len (.ix (.var 0) (.cst (.int 0)))))]) [(.asg (.ix 9 (.var 7)) (.var 12))] [])]
def grF (w : Wld) (p : Nat) (z : Zone) (kd : KD) (n : Nat) : Option (Nat × List Key) := if p + 1 < w.zones.length then arG z kd w.each n else none
theorem gr_turn (h : PG w M z td m b c e life) (hM : M ≤ 60) {kd : KD} (hkd : kd = allK z td w.each life) (p : Nat) {n : Nat} (hn : n < z.line.length) {acc : RD} (ha : acc.length < sizeLine) (hk : n ∉ acc.map (·.1)) (a1 a2 a3 a10 a11 a12 a13 : Option Sl) (S : Sto) (k : Nat) :
    ∃ b12, evB (sem fns (k + 3)) clsT grBody [some (.d (eW w)), a1, a2, a3, some (.d (.int (M : Int))), some (.d (.int (p : Int))), some (.d (eZ z)), some (.d (.int (n : Int))), some (.d (lK M kd)), some (.own (lR M acc)), a10, a11, a12, a13] S
      = some (.nx [some (.d (eW w)), a1, a2, a3, some (.d (.int (M : Int))), some (.d (.int (p : Int))), some (.d (eZ z)), some (.d (.int (n : Int))), some (.d (lK M kd)), some (.own (lR M (acc ++ (grF w p z kd n).toList))), a10, a11, b12, a13], S) := by
  have hkg : ∀ r, r ∈ kd → GS c r.2 := fun r hr => (h.kgs r (by rw [← hkd]; exact hr)).1
  have hcM : e < EV := by have := h.eM; have := h.hM; omega
  have hme : m ≤ e := by have := h.mc; have := h.c1; omega
  have hgs := row_gs (kd := kd) (each := w.each) h.g h.hm hn hkg h.ce h.c1 hme hcM
  have hne := tl_ne (M := M) hgs.join h.eM
  rw [join_ne] at hne
  have hti := row_times (M := M) (kd := kd) (each := w.each) h.g h.hm h.hM hn hkg h.ce h.c1 hme hcM
  have hnd : (kd.map (·.1)).Nodup := by rw [hkd]; exact allK_nodup h.nd
  have hel : ∀ r, r ∈ kd → r.1.1 < z.line.length := fun r hr => (h.kgs r (by rw [← hkd]; exact hr)).2.2.1
  have hsc := some_comp (z := z) hM hn (a0 := some (.d (eW w))) (a1 := a1) (a2 := a2) (a3 := a3) (a5 := some (.d (.int (p : Int)))) (a8 := some (.d (lK M kd))) (a9 := some (.own (lR M acc))) (a10 := a10) (a11 := a11) (a12 := a12) (a13 := a13) S (k + 2)
  have hc2 : evE (sem fns (k + 3)) clsT (.comp (.var 13) (.nm 13) (.seq (.var 12)) (some (.fc 63 [(.var 0), (.var 6), (.var 8), (.var 7), (.var 13)]))) [some (.d (eW w)), a1, a2, a3, some (.d (.int (M : Int))), some (.d (.int (p : Int))), some (.d (eZ z)), some (.d (.int (n : Int))), some (.d (lK M kd)), some (.own (lR M acc)), a10, a11, some (.d (.list (((ticks M).filter (told z n)).map enI))), a13] S
      = some (.d (.list ((tl M (joinB (restRow z kd w.each n))).map enI)), S) := by
    rw [← hti]
    exact comp_ok (enc := enI) (g := enI) (by simp) fun t ht => ⟨_, rfl, by
      have y := rest_can_ok M w z kd hnd hel hn t S k
      simp [wipeE, tgSlots, enI, y, evT], fun _ => by simp [wipeE, tgSlots]⟩
  unfold grF arG
  refine ⟨some (.d (.list ((tl M (joinB (restRow z kd w.each n))).map enI))), ?_⟩
  have hnn := c_neNil (tl M (joinB (restRow z kd w.each n)))
  by_cases hp : p + 1 < w.zones.length
  · have hp' : (p : Int) + 1 < (w.zones.length : Int) := by omega
    by_cases hr : restRow z kd w.each n = []
    · have h2 : tl M (joinB (restRow z kd w.each n)) = [] := by
        rcases Classical.em (tl M (joinB (restRow z kd w.each n)) = []) with x | x
        · exact x
        · exact absurd hr (hne.mp x)
      rw [decide_eq_true h2] at hnn
      rw [if_pos hp, if_neg fun x => x hr]
      simp [grBody, hsc, hc2, hnn]
    · have h2 := hne.mpr hr
      simp [h2] at hnn
      have hpu : putOwn (lR M acc) (.int (n : Int)) (.list ((tl M (joinB (restRow z kd w.each n))).map enI)) = some (lR M (acc ++ [(n, joinB (restRow z kd w.each n))])) := by
        show ob (dPut (eD (fun n : Nat => PyData.int (n : Int)) (vLI M) acc) ((fun n : Nat => PyData.int (n : Int)) n) (vLI M (joinB (restRow z kd w.each n)))) _ = _
        rw [dPut_ok kN ha, upd_new hk]; rfl
      simp [grBody, hsc, hc2, hnn, hp, hp', hr, hpu]
  · have hp' : ¬ (p : Int) + 1 < (w.zones.length : Int) := by omega
    cases hd : decide (tl M (joinB (restRow z kd w.each n)) = []) with
    | true =>
      rw [hd] at hnn
      simp [grBody, hsc, hc2, hnn, hp]
    | false =>
      rw [hd] at hnn
      simp [grBody, hsc, hc2, hnn, hp, hp']
theorem gr_all (h : PG w M z td m b c e life) (hM : M ≤ 60) {kd : KD} (hkd : kd = allK z td w.each life) (p : Nat) (a1 a2 a3 a7 a10 a11 a12 a13 : Option Sl) (S : Sto) (k : Nat) :
    ∃ b7 b12, evS (sem fns (k + 3)) clsT (.for_ (.nm 7) (.rng (.b1 .len (.ix (.var 6) (.cst (.int 0))))) grBody) [some (.d (eW w)), a1, a2, a3, some (.d (.int (M : Int))), some (.d (.int (p : Int))), some (.d (eZ z)), a7, some (.d (lK M kd)), some (.own (.dict [])), a10, a11, a12, a13] S
      = some (.nx [some (.d (eW w)), a1, a2, a3, some (.d (.int (M : Int))), some (.d (.int (p : Int))), some (.d (eZ z)), b7, some (.d (lK M kd)), some (.own (lR M ((List.range z.line.length).filterMap (grF w p z kd)))), a10, a11, b12, a13], S) := by
  have h3 := h.g.l3
  have hi : evIt (sem fns (k + 3)) clsT (.rng (.b1 .len (.ix (.var 6) (.cst (.int 0))))) [some (.d (eW w)), a1, a2, a3, some (.d (.int (M : Int))), some (.d (.int (p : Int))), some (.d (eZ z)), a7, some (.d (lK M kd)), some (.own (.dict [])), a10, a11, a12, a13] S = some ((List.range z.line.length).map fun (n : Nat) => PyData.int (n : Int), S) := by
    simp [rng_line z (by omega)]
  rw [S_for, hi]
  have z1 := for_nx (tg := .nm 7) (body := fun env' S' => evB (sem fns (k + 3)) clsT grBody env' S') (enc := fun n : Nat => PyData.int (n : Int)) (xs := List.range z.line.length) (S := S) (env := [some (.d (eW w)), a1, a2, a3, some (.d (.int (M : Int))), some (.d (.int (p : Int))), some (.d (eZ z)), a7, some (.d (lK M kd)), some (.own (.dict [])), a10, a11, a12, a13])
    (fun dn env' S' => S' = S ∧ ∃ b7 b12, env' = [some (.d (eW w)), a1, a2, a3, some (.d (.int (M : Int))), some (.d (.int (p : Int))), some (.d (eZ z)), b7, some (.d (lK M kd)), some (.own (lR M (dn.filterMap (grF w p z kd)))), a10, a11, b12, a13])
    ⟨rfl, a7, a12, rfl⟩ fun dn n rest env1 S1 hdq hp1 => by
      obtain ⟨rfl, b7, b12, rfl⟩ := hp1
      obtain ⟨rfl, hn⟩ := range_split hdq
      have hlen : ((List.range n).filterMap (grF w p z kd)).length < sizeLine := by
        have h1 := List.length_filterMap_le (grF w p z kd) (List.range n)
        rw [List.length_range] at h1
        unfold sizeLine; omega
      have hk : n ∉ ((List.range n).filterMap (grF w p z kd)).map (·.1) := by
        intro hm
        obtain ⟨r, hr, er⟩ := List.mem_map.mp hm
        obtain ⟨q2, hq2, e2⟩ := List.mem_filterMap.mp hr
        unfold grF at e2
        split at e2
        · have := arG_key e2
          have := List.mem_range.mp hq2
          omega
        · cases e2
      obtain ⟨c12, hc⟩ := gr_turn h hM hkd p hn hlen hk a1 a2 a3 a10 a11 b12 a13 S1 k
      refine ⟨_, _, _, rfl, hc, rfl, some (.d (.int (n : Int))), c12, ?_⟩
      rw [fm_snoc]
  obtain ⟨env', S', h1, rfl, b7, b12, rfl⟩ := z1
  exact ⟨b7, b12, h1⟩
end
end VI.M
set_option Elab.async false
set_option linter.all false
set_option maxRecDepth 100000
/-! M39: the law's got. -/
namespace VI.M
open PySem
def lifeAt (w : Wld) : Nat → Int
  | 0 => 1
  | p + 1 => (zO w p).rl
def gotRow (w : Wld) (M : Nat) (p : Nat) : D := .dict [(.str "trusts", lT M (tdAt w p)), (.str "life", .int (lifeAt w p)), (.str "keys", lK M (kdAt w p)), (.str "rest", lR M (rdAt w p))]
def gotL (w : Wld) (M : Nat) (n : Nat) : List D := (List.range n).map (gotRow w M)
theorem ak_none {z : Zone} {each : Bool} {a b : Int} {n : Nat} {q : List Key × Option (List Key)} (h : q.2 = none) : akF z each a n q = akF z each b n q := by
  unfold akF akT wtB
  rw [h]
theorem kd_life (w : Wld) (p : Nat) : kdAt w p = allK (zO w p) (tdAt w p) w.each (lifeAt w p) := by
  cases p with
  | zero =>
    unfold kdAt kdOf allK rowK
    refine congrArg (fun f => List.flatMap f (List.range (zO w 0).line.length)) ?_
    funext n
    unfold tdAt
    rw [List.filterMap_cons, List.filterMap_cons, ak_none (a := (zO w (0 - 1)).rl) (b := lifeAt w 0) rfl]
    rfl
  | succ p => rfl
theorem gr_rd (w : Wld) (p : Nat) : (List.range (zO w p).line.length).filterMap (grF w p (zO w p) (kdAt w p)) = rdAt w p := by
  unfold rdAt rdOf restAll
  by_cases h : p + 1 < w.zones.length
  · rw [if_pos h]
    have e : grF w p (zO w p) (kdAt w p) = arG (zO w p) (kdAt w p) w.each := by
      funext n; unfold grF; rw [if_pos h]
    rw [e]
  · rw [if_neg h]
    rw [List.filterMap_eq_nil_iff]
    intro n _
    unfold grF; rw [if_neg h]
structure PL (w : Wld) (M : Nat) (p : Nat) : Prop where
  pg : ∃ m b c e, PG w M (zO w p) (tdAt w p) m b c e (lifeAt w p)
  tv : ∀ q, q ∈ rdAt w p → ∃ t, (verO (zO w p) q.1).trust = some t
theorem rd_in {w : Wld} {p : Nat} {q : Nat × List Key} (h : q ∈ rdAt w p) : p + 1 < w.zones.length ∧ ∃ n, n < (zO w p).line.length ∧ q = (n, joinB (restRow (zO w p) (kdAt w p) w.each n)) ∧ restRow (zO w p) (kdAt w p) w.each n ≠ [] := by
  unfold rdAt rdOf at h
  split at h
  · rename_i hp
    obtain ⟨n, hn, hr⟩ := List.mem_filterMap.mp h
    unfold arG at hr
    split at hr
    · rename_i hx
      simp at hr
      exact ⟨hp, n, List.mem_range.mp hn, hr.symm, hx⟩
    · cases hr
  · cases h
theorem PG.rgs {w : Wld} {M : Nat} {p : Nat} {m b c e : Int} (h : PG w M (zO w p) (tdAt w p) m b c e (lifeAt w p)) : ∀ q, q ∈ rdAt w p → GS e q.2 ∧ q.2 ≠ [] := by
  intro q hq
  obtain ⟨hp, n, hn, rfl, hx⟩ := rd_in hq
  have hkg : ∀ r, r ∈ kdAt w p → GS c r.2 := fun r hr => (h.kgs r (by rw [← kd_life]; exact hr)).1
  have hcM : e < EV := by have := h.eM; have := h.hM; omega
  have hme : m ≤ e := by have := h.mc; have := h.c1; omega
  exact ⟨(row_gs h.g h.hm hn hkg h.ce h.c1 hme hcM).join, join_ne.mpr hx⟩
theorem rd_nodup (w : Wld) (p : Nat) : ((rdAt w p).map (·.1)).Nodup := by
  rw [← gr_rd]
  have h : ∀ l : List Nat, l.Nodup → ((l.filterMap (grF w p (zO w p) (kdAt w p))).map (·.1)).Nodup := by
    intro l
    induction l with
    | nil => intro _; simp
    | cons n l ih =>
      intro hn
      rw [List.nodup_cons] at hn
      rw [List.filterMap_cons]
      cases ha : grF w p (zO w p) (kdAt w p) n with
      | none => exact ih hn.2
      | some r =>
        rw [List.map_cons, List.nodup_cons]
        refine ⟨fun hm => ?_, ih hn.2⟩
        obtain ⟨r2, hr2, e2⟩ := List.mem_map.mp hm
        obtain ⟨n2, hn2, e3⟩ := List.mem_filterMap.mp hr2
        have k1 : r.1 = n := by
          unfold grF at ha
          split at ha
          · exact arG_key ha
          · cases ha
        have k2 : r2.1 = n2 := by
          unfold grF at e3
          split at e3
          · exact arG_key e3
          · cases e3
        exact hn.1 (by rw [← k1, ← e2, k2]; exact hn2)
  exact h _ List.nodup_range
def gotBody : List Sc := [(.tupA [(.own 8), (.own 9)] [.dct0, .dct0]), (.for_ (.nm 7) (.rng (.b1 .len (.ix (.var 6) (.cst (.int 0))))) gkOut), (.frz 8), (.for_ (.nm 7) (.rng (.b1 .len (.ix (.var 6) (.cst (.int 0))))) grBody), (.frz 9), (.app 1 (.dctS ["trusts", "life", "keys", "rest"] [(.var 2), (.var 3), (.var 8), (.var 9)])), (.tupA [(.nm 2), (.nm 3)] [(.fc 64 [(.var 6), (.var 9)]), (.ix (.var 6) (.cst (.int 5)))])]
theorem got_turn {w : Wld} {M : Nat} (hM : M ≤ 60) {p : Nat} (hp : p < w.zones.length) (h : PL w M p) {rows : List D} (hr : rows.length < sizeLine) (a7 a8 a9 a10 a11 a12 a13 : Option Sl) (S : Sto) (k : Nat) :
    ∃ b7 b10 b11 b12, evB (sem fns (k + 3)) clsT gotBody [some (.d (eW w)), some (.own (.list rows)), some (.d (lT M (tdAt w p))), some (.d (.int (lifeAt w p))), some (.d (.int (M : Int))), some (.d (.int (p : Int))), some (.d (eZ (zO w p))), a7, a8, a9, a10, a11, a12, a13] S
      = some (.nx [some (.d (eW w)), some (.own (.list (rows ++ [gotRow w M p]))), some (.d (lT M (tdAt w (p + 1)))), some (.d (.int (lifeAt w (p + 1)))), some (.d (.int (M : Int))), some (.d (.int (p : Int))), some (.d (eZ (zO w p))), b7, some (.d (lK M (kdAt w p))), some (.d (lR M (rdAt w p))), b10, b11, b12, a13], S) := by
  obtain ⟨m, b, c, e, pg⟩ := h.pg
  obtain ⟨b7, b10, b11, b12, h1⟩ := gk_all pg hM (some (.own (.list rows))) (some (.d (.int (p : Int)))) a7 (some (.own (.dict []))) a10 a11 a12 a13 S (k + 1)
  rw [← kd_life] at h1
  obtain ⟨c7, c12, h2⟩ := gr_all pg hM (kd_life w p) p (some (.own (.list rows))) (some (.d (lT M (tdAt w p)))) (some (.d (.int (lifeAt w p)))) b7 b10 b11 b12 a13 S k
  rw [gr_rd] at h2
  have h3 := lt_ok hM (z := zO w p) (rd_nodup w p) (fun q hq => ⟨rd_lt hq, (pg.rgs q hq).1.ne, h.tv q hq⟩) (by
    rw [← gr_rd]
    have := List.length_filterMap_le (grF w p (zO w p) (kdAt w p)) (List.range (zO w p).line.length)
    rw [List.length_range] at this
    have := pg.g.l3
    omega) S (k + 2)
  have h4 : tdAt w (p + 1) = trustsB (zO w p) (rdAt w p) := rfl
  refine ⟨c7, b10, b11, c12, ?_⟩
  have hd : evE (sem fns (k + 3)) clsT (.dctS ["trusts", "life", "keys", "rest"] [(.var 2), (.var 3), (.var 8), (.var 9)]) [some (.d (eW w)), some (.own (.list rows)), some (.d (lT M (tdAt w p))), some (.d (.int (lifeAt w p))), some (.d (.int (M : Int))), some (.d (.int (p : Int))), some (.d (eZ (zO w p))), c7, some (.d (lK M (kdAt w p))), some (.d (lR M (rdAt w p))), b10, b11, c12, a13] S = some (.d (gotRow w M p), S) := by
    simp; rfl
  have h5 : lifeAt w (p + 1) = (zO w p).rl := rfl
  rw [h4, h5]
  simp [gotBody, h1, h2, h3, hd, app_ok hr, -E_dctS]
theorem enum_zones (w : Wld) : itemsOf 2 (.tuple (w.zones.map eZ)) = some ((List.range w.zones.length).map fun p => .tuple [.int (p : Int), eZ (zO w p)]) := by
  show some _ = some _
  congr 1
  apply List.ext_getElem?
  intro i
  rw [List.getElem?_map, List.getElem?_map, List.getElem?_zipIdx, List.getElem?_map]
  by_cases h : i < w.zones.length
  · rw [List.getElem?_eq_getElem h, List.getElem?_range h]
    simp [zO_eq h]
  · rw [List.getElem?_eq_none (by omega), List.getElem?_eq_none (by simp; omega)]
    rfl
theorem got_ok {w : Wld} {M : Nat} (hM : M ≤ 60) (hm : mostB w = (M : Int)) (hln : ∀ z, z ∈ w.zones → z.line ≠ []) (hl : w.zones.length ≤ 1000) (h : ∀ p, p < w.zones.length → PL w M p) (S : Sto) (k : Nat) :
    sem fns (k + 4) 62 [.d (eW w)] S = some (.d (.list (gotL w M w.zones.length)), S) := by
  rw [semS rfl]
  have hmo := most_ok hln S (k + 2)
  rw [hm] at hmo
  have h0 : evS (sem fns (k + 3)) clsT (.tupA [(.own 1), (.nm 2), (.nm 3), (.nm 4)] [(.lst []), (.dctN (.ix (.var 0) (.cst (.int 1))) (.cst .none)), (.cst (.int 1)), (.fc 60 [(.var 0)])]) [some (.d (eW w)), none, none, none, none, none, none, none, none, none, none, none, none, none] S
      = some (.nx [some (.d (eW w)), some (.own (.list [])), some (.d (lT M (tdAt w 0))), some (.d (.int (lifeAt w 0))), some (.d (.int (M : Int))), none, none, none, none, none, none, none, none, none], S) := by
    simp [kOf_T, hmo]
    exact ⟨rfl, rfl⟩
  have hi : evIt (sem fns (k + 3)) clsT (.enum (.ix (.var 0) (.cst (.int 0)))) [some (.d (eW w)), some (.own (.list [])), some (.d (lT M (tdAt w 0))), some (.d (.int (lifeAt w 0))), some (.d (.int (M : Int))), none, none, none, none, none, none, none, none, none] S
      = some ((List.range w.zones.length).map fun p => .tuple [.int (p : Int), eZ (zO w p)], S) := by
    simp [enum_zones]
  have z1 := for_nx (tg := .tp [(.nm 5), (.nm 6)]) (body := fun env' S' => evB (sem fns (k + 3)) clsT gotBody env' S') (enc := fun p : Nat => .tuple [.int (p : Int), eZ (zO w p)]) (xs := List.range w.zones.length) (S := S) (env := [some (.d (eW w)), some (.own (.list [])), some (.d (lT M (tdAt w 0))), some (.d (.int (lifeAt w 0))), some (.d (.int (M : Int))), none, none, none, none, none, none, none, none, none])
    (fun dn env' S' => S' = S ∧ ∃ b5 b6 b7 b8 b9 b10 b11 b12, env' = [some (.d (eW w)), some (.own (.list (gotL w M dn.length))), some (.d (lT M (tdAt w dn.length))), some (.d (.int (lifeAt w dn.length))), some (.d (.int (M : Int))), b5, b6, b7, b8, b9, b10, b11, b12, none])
    ⟨rfl, none, none, none, none, none, none, none, none, rfl⟩ fun dn p rest env1 S1 hdq hp1 => by
      obtain ⟨rfl, b5, b6, b7, b8, b9, b10, b11, b12, rfl⟩ := hp1
      obtain ⟨rfl, hp⟩ := range_split hdq
      rw [List.length_range]
      obtain ⟨c7, c10, c11, c12, hc⟩ := got_turn hM hp (h p hp) (rows := gotL w M p) (by simp [gotL, sizeLine]; omega) b7 b8 b9 b10 b11 b12 none S1 k
      refine ⟨_, _, _, rfl, hc, rfl, some (.d (.int (p : Int))), some (.d (eZ (zO w p))), c7, some (.d (lK M (kdAt w p))), some (.d (lR M (rdAt w p))), c10, c11, c12, ?_⟩
      rw [List.length_append, List.length_range]
      show _ = [some (Sl.d (eW w)), some (.own (.list (gotL w M (p + 1)))), _, _, _, _, _, _, _, _, _, _, _, _]
      unfold gotL
      rw [rng_snoc]
      rfl
  obtain ⟨env', S', h1, rfl, b5, b6, b7, b8, b9, b10, b11, b12, rfl⟩ := z1
  rw [List.length_range] at h1
  have hf : evS (sem fns (k + 3)) clsT (.for_ (.tp [(.nm 5), (.nm 6)]) (.enum (.ix (.var 0) (.cst (.int 0)))) gotBody) [some (.d (eW w)), some (.own (.list [])), some (.d (lT M (tdAt w 0))), some (.d (.int (lifeAt w 0))), some (.d (.int (M : Int))), none, none, none, none, none, none, none, none, none] S'
      = some (.nx [some (.d (eW w)), some (.own (.list (gotL w M w.zones.length))), some (.d (lT M (tdAt w w.zones.length))), some (.d (.int (lifeAt w w.zones.length))), some (.d (.int (M : Int))), b5, b6, b7, b8, b9, b10, b11, b12, none], S') := by
    rw [S_for, hi]; exact h1
  unfold gotBody gkOut gkIn grBody at hf
  simp only [runF, cd__law_got]
  simp [envOf, h0, hf, -S_tupA]
end VI.M
set_option Elab.async false
set_option linter.all false
set_option maxRecDepth 100000
/-! M40: what stands behind the copies; the law's way, its first lines. -/
namespace VI.M
open PySem
theorem kS : KeyOk (fun x : Str => PyData.str x) false := ⟨fun x => ⟨_, rfl, rfl⟩, fun a b h => by
  simp [kOf] at h
  exact h⟩
def gotA (w : Wld) (M : Nat) (p : Nat) : List (Str × D) := [("trusts", lT M (tdAt w p)), ("life", .int (lifeAt w p)), ("keys", lK M (kdAt w p)), ("rest", lR M (rdAt w p))]
theorem gotRow_eq (w : Wld) (M : Nat) (p : Nat) : gotRow w M p = .dict (eD (fun x : Str => PyData.str x) (fun d : D => d) (gotA w M p)) := rfl
theorem gx (w : Wld) (M : Nat) (p : Nat) (x : Str) : ixD (gotRow w M p) (.str x) = getA (gotA w M p) x := by
  rw [gotRow_eq]
  have z := dGet_A kS (vf := fun d : D => d) (gotA w M p) x
  rw [Option.map_id'] at z
  exact z
theorem gx_t (w : Wld) (M : Nat) (p : Nat) : ixD (gotRow w M p) (.str "trusts") = some (lT M (tdAt w p)) := by
  rw [gx]; rfl
theorem gx_k (w : Wld) (M : Nat) (p : Nat) : ixD (gotRow w M p) (.str "keys") = some (lK M (kdAt w p)) := by
  rw [gx]; rfl
theorem gx_r (w : Wld) (M : Nat) (p : Nat) : ixD (gotRow w M p) (.str "rest") = some (lR M (rdAt w p)) := by
  rw [gx]; rfl
theorem ix_got (w : Wld) (M : Nat) {p n : Nat} (h : p < n) : ixD (.list (gotL w M n)) (.int (p : Int)) = some (gotRow w M p) := by
  rw [ix_natL]
  simp [gotL, h]
theorem c_kk : cmpD .eq (.str "keys") (.str "keys") = some true := by decide +kernel
theorem c_rk : cmpD .eq (.str "rest") (.str "keys") = some false := by decide +kernel
/-! behind the copies -/
theorem tb_ne (z : Zone) : ∀ (d : RD) (acc : TD), (∀ q, q ∈ acc → q.1 ≠ []) → ∀ q, q ∈ d.foldl (tbStep z) acc → q.1 ≠ []
  | [], acc, h => h
  | r :: d, acc, h => by
    rw [List.foldl_cons]
    refine tb_ne z d _ fun q hq => ?_
    unfold tbStep at hq
    split at hq
    · split at hq
      · exact h q hq
      · rename_i hx
        rcases mem_upd hq with h1 | rfl
        · exact h q h1
        · exact hx
    · exact h q hq
theorem td_ne {w : Wld} (ha : w.anchors ≠ []) (p : Nat) : ∀ q, q ∈ tdAt w p → q.1 ≠ [] := by
  cases p with
  | zero => intro q hq; unfold tdAt at hq; simp at hq; subst hq; exact ha
  | succ p => exact tb_ne _ _ [] (fun _ h => by cases h)
theorem upd_get {α β : Type} [DecidableEq α] {l : List (α × β)} {a : α} {b : β} (hn : (l.map (·.1)).Nodup) {q : α × β} : q ∈ upd l a b ↔ (q ∈ l ∧ q.1 ≠ a) ∨ q = (a, b) := by
  unfold upd
  by_cases h : a ∈ l.map (·.1)
  · rw [if_pos h, List.mem_map]
    constructor
    · rintro ⟨r, hr, e⟩
      split at e
      · rename_i hx; right; rw [← e, hx]
      · rename_i hx; left; rw [← e]; exact ⟨hr, hx⟩
    · rintro (⟨h1, h2⟩ | rfl)
      · exact ⟨q, h1, by rw [if_neg h2]⟩
      · obtain ⟨r, hr, e⟩ := List.mem_map.mp h
        exact ⟨r, hr, by rw [if_pos e, e]⟩
  · rw [if_neg h, List.mem_append]
    constructor
    · rintro (h1 | h1)
      · exact .inl ⟨h1, fun e => h (by rw [← e]; exact List.mem_map.mpr ⟨q, h1, rfl⟩)⟩
      · right; simpa using h1
    · rintro (⟨h1, _⟩ | rfl)
      · exact .inl h1
      · exact .inr (by simp)
theorem upd_nodup {α β : Type} [DecidableEq α] {l : List (α × β)} {a : α} {b : β} (hn : (l.map (·.1)).Nodup) : ((upd l a b).map (·.1)).Nodup := by
  unfold upd
  by_cases h : a ∈ l.map (·.1)
  · rw [if_pos h, List.map_map]
    have e : l.map ((fun q : α × β => q.1) ∘ fun q => if q.1 = a then (q.1, b) else q) = l.map (·.1) := by
      refine List.map_congr_left fun q _ => ?_
      show (if q.1 = a then (q.1, b) else q).1 = q.1
      split <;> rfl
    rw [e]; exact hn
  · rw [if_neg h, List.map_append, List.nodup_append]
    refine ⟨hn, by simp, ?_⟩
    intro x hx y hy e
    simp at hy
    subst hy; subst e
    exact h hx
/-- the trusts say what the rests say -/
theorem tb_all (z : Zone) : ∀ d : RD, (∀ q, q ∈ d → NE q.2 ∧ q.2 ≠ []) → ((trustsB z d).map (·.1)).Nodup ∧ (∀ q, q ∈ trustsB z d → ∃ s, q.2 = some s ∧ NE s ∧ s ≠ [] ∧ ∀ e, Cov s e ↔ ∃ r, r ∈ d ∧ (verO z r.1).trust = some q.1 ∧ Cov r.2 e) ∧ (∀ r, r ∈ d → ∀ t, (verO z r.1).trust = some t → t ≠ [] → ∃ q, q ∈ trustsB z d ∧ q.1 = t) := by
  intro d
  induction hn : d.length generalizing d with
  | zero => cases d with
    | nil => exact fun _ => ⟨by simp [trustsB], fun _ h => (by cases h), fun _ h => (by cases h)⟩
    | cons => simp at hn
  | succ m ih =>
    intro hN
    rcases List.eq_nil_or_concat d with rfl | ⟨dn, q, rfl⟩
    · simp at hn
    · rw [List.concat_eq_append] at *
      have hm : dn.length = m := by simpa using hn
      obtain ⟨h0, h1, h2⟩ := ih dn hm (fun q hq => hN q (by simp [hq]))
      have e : trustsB z (dn ++ [q]) = tbStep z (trustsB z dn) q := by unfold trustsB; simp
      rw [e]
      unfold tbStep
      have keep : ∀ (x : List Key), (verO z q.1).trust ≠ some x → ∀ e s, (Cov s e ↔ ∃ r, r ∈ dn ∧ (verO z r.1).trust = some x ∧ Cov r.2 e) → (Cov s e ↔ ∃ r, r ∈ dn ++ [q] ∧ (verO z r.1).trust = some x ∧ Cov r.2 e) := by
        intro x hx e s hs
        rw [hs]
        constructor
        · rintro ⟨r, h3, h4⟩; exact ⟨r, by simp [h3], h4⟩
        · rintro ⟨r, h3, h4, h5⟩
          rcases List.mem_append.mp h3 with h3 | h3
          · exact ⟨r, h3, h4, h5⟩
          · simp at h3; subst h3; exact absurd h4 hx
      cases ht : (verO z q.1).trust with
      | none =>
        simp only
        refine ⟨h0, fun x hx => ?_, fun r hr t htr hne => ?_⟩
        · obtain ⟨s, a1, a2, a3, a4⟩ := h1 x hx
          exact ⟨s, a1, a2, a3, fun e => keep x.1 (by rw [ht]; simp) e s (a4 e)⟩
        · rcases List.mem_append.mp hr with hr | hr
          · exact h2 r hr t htr hne
          · simp at hr; subst hr; rw [ht] at htr; cases htr
      | some t =>
        simp only
        by_cases hx0 : t = []
        · rw [if_pos hx0]
          refine ⟨h0, fun x hx => ?_, fun r hr t' htr hne => ?_⟩
          · obtain ⟨s, a1, a2, a3, a4⟩ := h1 x hx
            refine ⟨s, a1, a2, a3, fun e => keep x.1 (by
              rw [ht, hx0]
              intro h; simp at h
              exact tb_ne z dn [] (fun _ h => by cases h) x hx h) e s (a4 e)⟩
          · rcases List.mem_append.mp hr with hr | hr
            · exact h2 r hr t' htr hne
            · simp at hr; subst hr; rw [ht] at htr; simp at htr; subst htr; exact absurd hx0 hne
        · rw [if_neg hx0]
          obtain ⟨nq, neq⟩ := hN q (by simp)
          have hold : NE (oldS (trustsB z dn) t) ∧ ∀ e, Cov (oldS (trustsB z dn) t) e ↔ ∃ r, r ∈ dn ∧ (verO z r.1).trust = some t ∧ Cov r.2 e := by
            unfold oldS
            cases hg : getA (trustsB z dn) t with
            | none =>
              refine ⟨fun _ h => (by cases h), fun e => ⟨fun ⟨_, hp, _⟩ => (by cases hp), fun ⟨r, h3, h4, _⟩ => ?_⟩⟩
              obtain ⟨x, hx, hxt⟩ := h2 r h3 t h4 hx0
              subst hxt
              have := getA_mem h0 (show (x.1, x.2) ∈ _ from hx)
              rw [hg] at this; cases this
            | some o =>
              obtain ⟨s, a1, a2, a3, a4⟩ := h1 _ (getA_in hg)
              simp at a1
              subst a1
              exact ⟨a2, a4⟩
          have hNE : NE (oldS (trustsB z dn) t ++ q.2) := fun p hp => by
            rcases List.mem_append.mp hp with h | h
            · exact hold.1 p h
            · exact nq p h
          refine ⟨upd_nodup h0, fun x hx => ?_, fun r hr t' htr hne => ?_⟩
          · rcases (upd_get h0).mp hx with ⟨h3, h4⟩ | rfl
            · obtain ⟨s, a1, a2, a3, a4⟩ := h1 x h3
              exact ⟨s, a1, a2, a3, fun e => keep x.1 (by rw [ht]; intro h; simp at h; exact h4 h.symm) e s (a4 e)⟩
            · refine ⟨_, rfl, (joinB_spec hNE).1, join_ne.mpr (by intro h; simp at h; exact neq h.2), fun e => ?_⟩
              rw [(joinB_spec hNE).2, cov_app, hold.2]
              constructor
              · rintro (⟨r, h3, h4⟩ | h3)
                · exact ⟨r, by simp [h3], h4⟩
                · exact ⟨q, by simp, ht, h3⟩
              · rintro ⟨r, h3, h4, h5⟩
                rcases List.mem_append.mp h3 with h3 | h3
                · exact .inl ⟨r, h3, h4, h5⟩
                · simp at h3; subst h3; exact .inr h5
          · by_cases hte : t' = t
            · exact ⟨(t, _), (upd_get h0).mpr (.inr rfl), hte.symm⟩
            · rcases List.mem_append.mp hr with hr | hr
              · obtain ⟨x, hx, hxt⟩ := h2 r hr t' htr hne
                exact ⟨x, (upd_get h0).mpr (.inl ⟨hx, by rw [hxt]; exact hte⟩), hxt⟩
              · simp at hr; subst hr; rw [ht] at htr; simp at htr; exact absurd htr.symm hte
/-! what a time in the lists means -/
theorem kd_time {w : Wld} {M : Nat} {p : Nat} {m b c e : Int} (h : PG w M (zO w p) (tdAt w p) m b c e (lifeAt w p)) {r : (Nat × List Key) × List Key} (hr : r ∈ kdAt w p) {t : Int} (ht : t ∈ tl M r.2) :
    told (zO w p) r.1.1 t = true ∧ keysB (verO (zO w p) r.1.1) r.1.2 w.each = true ∧ ∃ q, q ∈ tdAt w p ∧ q.1 = r.1.2 ∧ holdsB M q.2 (lifeAt w p) t = true := by
  rw [kd_life] at hr
  obtain ⟨h1, h2, h3, q, hq, e1, e2⟩ := h.kgs r hr
  unfold akF at e2
  split at e2
  · rename_i hx
    simp at e2
    rw [← e2] at ht
    simp only at ht
    rw [← ak_times h.g h.hm h.hM h3 fun s hs => ⟨b, h.q q hq s hs⟩] at ht
    obtain ⟨ht, h4⟩ := List.mem_filter.mp ht
    obtain ⟨ht, h5⟩ := List.mem_filter.mp ht
    refine ⟨h5, by rw [← e1]; exact hx.1, q, hq, e1, h4⟩
  · cases e2
theorem rd_time {w : Wld} {M : Nat} {p : Nat} {m b c e : Int} (h : PG w M (zO w p) (tdAt w p) m b c e (lifeAt w p)) {r : Nat × List Key} (hr : r ∈ rdAt w p) {t : Int} (ht : t ∈ tl M r.2) :
    told (zO w p) r.1 t = true ∧ (kdAt w p).any (rcF M (zO w p) w.each r.1 t) = true := by
  obtain ⟨hp, n, hn, rfl, hx⟩ := rd_in hr
  have hkg : ∀ r, r ∈ kdAt w p → GS c r.2 := fun r hr => (h.kgs r (by rw [← kd_life]; exact hr)).1
  have hcM : e < EV := by have := h.eM; have := h.hM; omega
  have hme : m ≤ e := by have := h.mc; have := h.c1; omega
  have hti := row_times (M := M) (kd := kdAt w p) (each := w.each) h.g h.hm h.hM hn hkg h.ce h.c1 hme hcM
  simp only at ht ⊢
  rw [← hti] at ht
  obtain ⟨ht, h4⟩ := List.mem_filter.mp ht
  obtain ⟨ht, h5⟩ := List.mem_filter.mp ht
  exact ⟨h5, h4⟩
end VI.M
set_option Elab.async false
set_option linter.all false
set_option maxRecDepth 100000
/-! M41: the law's way: one step back of each kind. -/
namespace VI.M
open PySem
def Wk (w : Wld) (M : Nat) (p : Nat) (n : Nat) (tr : List Key) (t : Int) (k : Nat) (v : W) : Prop := ∃ l, Acc w l tr ∧ Acc w (l ++ [(t, n)]) tr ∧ l.length = 2 * p ∧ v = .d (.tuple (ansFrom 0 (l ++ [(t, n)])))
def Wr (w : Wld) (M : Nat) (p : Nat) (n : Nat) (t : Int) (v : W) : Prop := ∃ l tr, (verO (zO w p) n).trust = some tr ∧ Acc w (l ++ [(t, n)]) tr ∧ l.length = 2 * p + 1 ∧ v = .d (.tuple (ansFrom 0 (l ++ [(t, n)])))
structure WB (w : Wld) (M : Nat) : Prop where
  pl : ∀ p, p < w.zones.length → PL w M p
  an : w.anchors ≠ []
  n3 : w.zones.length ≤ 100
theorem l_time0 {M : Nat} {s : List Key} {t : Int} (h : t ∈ tl M s) : 0 ≤ t := (mem_tl.mp h).1.1
theorem get_K (M : Nat) (kd : KD) (q : Nat × List Key) (s : List Key) (h : getA kd q = some s) : dGetD (eD eNT (vLI M) kd) (eNT q) (.list []) = some (vLI M s) := by
  rw [dGetD_ok kNT]
  have e : ((kd.find? fun x => decide (x.1 = q)).map fun x => vLI M x.2) = (getA kd q).map (vLI M) := by unfold getA; rw [Option.map_map]; rfl
  rw [e, h]; rfl
theorem c_inLI (M : Nat) (s : List Key) (t : Int) : cmpD .isin (.int t) (vLI M s) = some (decide (t ∈ tl M s)) := c_inL t _
theorem c_niLI (M : Nat) (s : List Key) (t : Int) : cmpD .notin (.int t) (vLI M s) = some (!decide (t ∈ tl M s)) := c_niL t _
theorem ans_cat (l : List (Int × Nat)) (t : Int) (n p : Nat) (r : Bool) (hl : l.length ≤ 1000) (hne : l ≠ []) (hp : pDiv l.length = p) (hr : decide (l.length % 2 = 1) = r) :
    binD .add (.tuple (ansFrom 0 l)) (.tuple [.tuple [.int t, .int (p : Int), .str (if r then "rest" else "keys"), .int (n : Int)]]) = some (.tuple (ansFrom 0 (l ++ [(t, n)]))) := by
  have e : ans_snoc (t, n) l 0 = ans_snoc (t, n) l 0 := rfl
  have h1 : ansFrom 0 (l ++ [(t, n)]) = ansFrom 0 l ++ [eQ t p r n] := by
    rw [ans_snoc]; simp [hp, hr]
  rw [h1]
  show gd (!(ansFrom 0 l).isEmpty && decide ((ansFrom 0 l).length + 1 ≤ sizeLine)) _ = _
  have h2 : (ansFrom 0 l).isEmpty = false := by
    cases l with
    | nil => exact absurd rfl hne
    | cons x l => rw [ansFrom]; rfl
  rw [h2, ans_len, decide_eq_true (by unfold sizeLine; omega)]; rfl
/-- the first keys -/
theorem way_0 {w : Wld} {M : Nat} (hB : WB w M) (hN : 0 < w.zones.length) {n : Nat} {tr s : List Key} (hr : ((n, tr), s) ∈ kdAt w 0) {t : Int} (ht : t ∈ tl M s) (S : Sto) (k : Nat) :
    ∃ v, sem fns (k + 1) 68 [.d (eW w), .d (.list (gotL w M w.zones.length)), .d (.int ((0 : Nat) : Int)), .d (.str "keys"), .d (eNT (n, tr)), .d (.int t)] S = some (v, S) ∧ Wk w M 0 n tr t k v := by
  obtain ⟨m, b, c, e, pg⟩ := (hB.pl 0 hN).pg
  obtain ⟨h1, h2, q, hq, e1, h3⟩ := kd_time pg hr ht
  have htr : tr = w.anchors := by
    unfold tdAt at hq
    simp at hq
    subst hq
    exact e1.symm
  refine ⟨.d (.tuple (ansFrom 0 ([] ++ [(t, n)]))), ?_, [], by rw [htr]; exact .nil, ?_, rfl, rfl⟩
  · rw [semS rfl]
    have hnd : ((kdAt w 0).map (·.1)).Nodup := by rw [kd_life]; exact allK_nodup pg.nd
    have hg : getA (kdAt w 0) (n, tr) = some s := getA_mem hnd hr
    have hgk := get_K M (kdAt w 0) (n, tr) s hg
    have hl : lK M (kdAt w 0) = .dict (eD eNT (vLI M) (kdAt w 0)) := rfl
    have hx := gx_k w M 0
    rw [hl] at hx
    have hgo := ix_got w M hN
    have hz := ix_nat (w.zones.map eZ) 0
    have e0 : ixD (eNT (n, tr)) (.int 0) = some (.int (n : Int)) := atI0 _ _
    simp at hgo
    have hz0 : ixD (.tuple (w.zones.map eZ)) (.int 0) = some (eZ w.zones[0]) := by
      have z := ix_nat (w.zones.map eZ) 0
      simp at z
      rw [z]; simp [hN]
    have hnD : ∀ x, notDict (.dict x) = false := fun _ => rfl
    simp [runF, envOf, cd__law_way, hgo, hz0, c_kk, hx, hnD, hgk, c_inLI, ht, e0]
    rfl
  · rw [htr]
    refine Acc.keys .nil rfl ?_ hB.an (l_time0 ht) rfl ?_
    · exact hN
    · unfold takeK
      have e2 : pDiv ([] : List (Int × Nat)).length = 0 := rfl
      rw [e2]
      simp only at h1 h2
      rw [h1, ← htr, h2]; rfl
end VI.M
set_option Elab.async false
set_option linter.all false
set_option maxRecDepth 100000
/-! M42: the law's way, from keys to the rest ahead. -/
namespace VI.M
open PySem
def wkIn : List Sc := [(.ifs (.chain (.var 11) .le (.var 5) .lt (.bin .add (.var 11) (.ix (.ix (.ix (.var 0) (.cst (.int 0))) (.bin .sub (.var 2) (.cst (.int 1)))) (.cst (.int 5))))) [(.asg (.nm 13) (.fc 68 [(.var 0), (.var 1), (.bin .sub (.var 2) (.cst (.int 1))), (.cst (.str "rest")), (.var 9), (.var 11)])), (.ret (.bin .add (.var 13) (.tup [(.tup [(.var 5), (.var 2), (.cst (.str "keys")), (.ix (.var 4) (.cst (.int 0)))])])))] [])]
def wkOut : List Sc := [(.ifs (.cmp .eq (.ix (.ix (.ix (.ix (.ix (.ix (.var 0) (.cst (.int 0))) (.bin .sub (.var 2) (.cst (.int 1)))) (.cst (.int 0))) (.var 9)) (.cst (.int 1))) (.cst (.int 2))) (.ix (.var 4) (.cst (.int 1)))) [(.for_ (.nm 11) (.seq (.rev (.ix (.var 8) (.var 9)))) wkIn)] [])]
theorem mem_split {α : Type} {xs dn rest : List α} {x : α} (h : [] ++ xs = dn ++ x :: rest) : x ∈ xs := by
  rw [List.nil_append] at h; rw [h]; simp
theorem kd_get {w : Wld} {M : Nat} (hB : WB w M) {p : Nat} (hp : p < w.zones.length) {r : (Nat × List Key) × List Key} (hr : r ∈ kdAt w p) : getA (kdAt w p) r.1 = some r.2 := by
  obtain ⟨m, b, c, e, pg⟩ := (hB.pl p hp).pg
  exact getA_mem (by rw [kd_life]; exact allK_nodup pg.nd) hr
theorem way_k {w : Wld} {M : Nat} (hB : WB w M) {p : Nat} (hp : p + 1 < w.zones.length) {S : Sto} {kk : Nat}
    (hW : ∀ r, r ∈ rdAt w p → ∀ e, e ∈ tl M r.2 → ∃ v, sem fns kk 68 [.d (eW w), .d (.list (gotL w M w.zones.length)), .d (.int (p : Int)), .d (.str "rest"), .d (.int (r.1 : Int)), .d (.int e)] S = some (v, S) ∧ Wr w M p r.1 e v)
    {n : Nat} {tr s : List Key} (hr : ((n, tr), s) ∈ kdAt w (p + 1)) {t : Int} (ht : t ∈ tl M s) :
    ∃ v, sem fns (kk + 1) 68 [.d (eW w), .d (.list (gotL w M w.zones.length)), .d (.int ((p + 1 : Nat) : Int)), .d (.str "keys"), .d (eNT (n, tr)), .d (.int t)] S = some (v, S) ∧ Wk w M (p + 1) n tr t kk v := by
  obtain ⟨m, b, c, e, pg⟩ := (hB.pl (p + 1) hp).pg
  obtain ⟨m', b', c', e', pg'⟩ := (hB.pl p (by omega)).pg
  obtain ⟨h1, h2, q, hq, e1, h3⟩ := kd_time pg hr ht
  simp only at h1 h2 e1
  have hg : getA (kdAt w (p + 1)) (n, tr) = some s := kd_get hB hp hr
  have hgk := get_K M (kdAt w (p + 1)) (n, tr) s hg
  have hl : lK M (kdAt w (p + 1)) = .dict (eD eNT (vLI M) (kdAt w (p + 1))) := rfl
  have hx := gx_k w M (p + 1)
  rw [hl] at hx
  have hgo := ix_got w M hp
  have hgo' := ix_got w M (show p < w.zones.length by omega)
  have hz : ixD (.tuple (w.zones.map eZ)) (.int ((p : Int) + 1)) = some (eZ w.zones[p + 1]) := by
    rw [ix_suc]; simp [hp]
  have hz' : ixD (.tuple (w.zones.map eZ)) (.int (p : Int)) = some (eZ (zO w p)) := by
    rw [ix_nat, zO_eq (show p < w.zones.length by omega)]; simp [show p < w.zones.length by omega]
  have e0 : ixD (eNT (n, tr)) (.int 0) = some (.int (n : Int)) := atI0 _ _
  have e1' : ixD (eNT (n, tr)) (.int 1) = some (eT tr) := atI1 _ _ _
  have hnD : ∀ x, notDict (.dict x) = false := fun _ => rfl
  have hm1 : ((p : Int) + 1 - 1) = (p : Int) := by omega
  have hne0 : ¬ ((p : Int) + 1 = 0) := by omega
  have htr : tr ≠ [] := by rw [← e1]; exact td_ne hB.an _ q hq
  have ht0 := l_time0 ht
  simp at hgo
  -- the outer loop
  have z1 := for_inv (tg := .nm 9) (body := fun env' S' => evB (sem fns kk) clsT wkOut env' S') (enc := fun r : Nat × List Key => .int (r.1 : Int))
    (fun dn env' S' => S' = S ∧ (∀ r, r ∈ dn → (verO (zO w p) r.1).trust = some tr → ∀ e, e ∈ tl M r.2 → ¬ (e ≤ t ∧ t < e + (zO w p).rl)) ∧ ∃ a9 a10 a11 a12 a13, env' = [some (.d (eW w)), some (.d (.list (gotL w M w.zones.length))), some (.d (.int ((p : Int) + 1))), some (.d (.str "keys")), some (.d (eNT (n, tr))), some (.d (.int t)), some (.d (eZ w.zones[p + 1])), some (.d (gotRow w M (p + 1))), some (.d (lR M (rdAt w p))), a9, a10, a11, a12, a13])
    (fun v S' => S' = S ∧ Wk w M (p + 1) n tr t kk v) (rdAt w p) []
    (env := [some (.d (eW w)), some (.d (.list (gotL w M w.zones.length))), some (.d (.int ((p : Int) + 1))), some (.d (.str "keys")), some (.d (eNT (n, tr))), some (.d (.int t)), some (.d (eZ w.zones[p + 1])), some (.d (gotRow w M (p + 1))), some (.d (lR M (rdAt w p))), none, none, none, none, none]) (S := S)
    ⟨rfl, fun _ h => (by cases h), none, none, none, none, none, rfl⟩ fun dn r rest env1 S1 hdq hp1 => by
      obtain ⟨rfl, hno, a9, a10, a11, a12, a13, rfl⟩ := hp1
      have hrm : r ∈ rdAt w p := mem_split hdq
      have hrl := rd_lt hrm
      obtain ⟨tr', htr'⟩ := (hB.pl p (by omega)).tv r hrm
      have hv := verO_eq hrl
      have htv : ((zO w p).line[r.1].2).trust = some tr' := by rw [← hv]; exact htr'
      have hgr : getA (rdAt w p) r.1 = some r.2 := getA_mem (rd_nodup w p) hrm
      have hir : ixD (lR M (rdAt w p)) (.int (r.1 : Int)) = some (.list ((tl M r.2).map enI)) := by rw [ix_lR, hgr]; rfl
      refine ⟨_, rfl, ?_⟩
      by_cases hte : tr' = tr
      · subst hte
        have y1 := for_inv (tg := .nm 11) (body := fun env' S' => evB (sem fns kk) clsT wkIn env' S') (enc := enI)
          (fun dn env' S' => S' = S1 ∧ (∀ e, e ∈ dn → ¬ (e ≤ t ∧ t < e + (zO w p).rl)) ∧ ∃ a11 a13, env' = [some (.d (eW w)), some (.d (.list (gotL w M w.zones.length))), some (.d (.int ((p : Int) + 1))), some (.d (.str "keys")), some (.d (eNT (n, tr'))), some (.d (.int t)), some (.d (eZ w.zones[p + 1])), some (.d (gotRow w M (p + 1))), some (.d (lR M (rdAt w p))), some (.d (.int (r.1 : Int))), a10, a11, a12, a13])
          (fun v S' => S' = S1 ∧ Wk w M (p + 1) n tr' t kk v) (tl M r.2).reverse []
          (env := [some (.d (eW w)), some (.d (.list (gotL w M w.zones.length))), some (.d (.int ((p : Int) + 1))), some (.d (.str "keys")), some (.d (eNT (n, tr'))), some (.d (.int t)), some (.d (eZ w.zones[p + 1])), some (.d (gotRow w M (p + 1))), some (.d (lR M (rdAt w p))), some (.d (.int (r.1 : Int))), a10, a11, a12, a13]) (S := S1)
          ⟨rfl, fun _ h => (by cases h), a11, a13, rfl⟩ fun dn2 x rest2 env2 S2 hdq2 hp2 => by
            obtain ⟨rfl, hno2, a11, a13, rfl⟩ := hp2
            have hxm : x ∈ tl M r.2 := List.mem_reverse.mp (mem_split hdq2)
            refine ⟨_, rfl, ?_⟩
            by_cases c1 : x ≤ t
            · by_cases c2 : t < x + (zO w p).rl
              · obtain ⟨v, hs, l, tr2, f1, f2, f3, rfl⟩ := hW r hrm x hxm
                rw [htr'] at f1
                simp at f1
                subst f1
                have hcat := ans_cat (l ++ [(x, r.1)]) t n (p + 1) false (by simp; have := hB.n3; omega) (by simp) (by simp [f3, pDiv]; omega) (by simp [f3]; omega)
                simp only [Int.natCast_add, Int.cast_ofNat_Int] at hcat
                have hcat' : binD .add (.tuple (ansFrom 0 (l ++ [(x, r.1)]))) (.tuple [.tuple [.int t, .int ((p : Int) + 1), .str "keys", .int (n : Int)]]) = some (.tuple (ansFrom 0 (l ++ [(x, r.1)] ++ [(t, n)]))) := hcat
                refine .inr ⟨.d (.tuple (ansFrom 0 (l ++ [(x, r.1)] ++ [(t, n)]))), S2, ?_, rfl, l ++ [(x, r.1)], f2, ?_, by simp [f3]; omega, rfl⟩
                · simp [wkIn, enI, c1, c2, hm1, hz', hs, e0]
                  simp at hcat'
                  simp [hcat']
                · refine Acc.keys f2 (by simp [f3]; omega) (by simp [f3, pDiv]; omega) htr ht0 ?_ ?_
                  · unfold heldB
                    have e5 : lifeB w (l ++ [(x, r.1)]).length = (zO w p).rl := by
                      unfold lifeB pDiv
                      simp only [List.length_append, List.length_cons, List.length_nil, f3]
                      rw [if_neg (by omega)]
                      congr 2
                      omega
                    rw [e5]
                    simp [c1, c2]
                  · unfold takeK
                    have e5 : pDiv (l ++ [(x, r.1)]).length = p + 1 := by simp [f3, pDiv]; omega
                    rw [e5, h1, h2]; rfl
              · refine .inl ⟨[some (.d (eW w)), some (.d (.list (gotL w M w.zones.length))), some (.d (.int ((p : Int) + 1))), some (.d (.str "keys")), some (.d (eNT (n, tr'))), some (.d (.int t)), some (.d (eZ w.zones[p + 1])), some (.d (gotRow w M (p + 1))), some (.d (lR M (rdAt w p))), some (.d (.int (r.1 : Int))), a10, some (.d (.int x)), a12, a13], S2, ?_, rfl, ?_, _, _, rfl⟩
                · simp [wkIn, enI, c1, c2, hm1, hz']
                · intro e he
                  rcases List.mem_append.mp he with he | he
                  · exact hno2 e he
                  · simp at he; subst he; exact fun h => c2 h.2
            · refine .inl ⟨[some (.d (eW w)), some (.d (.list (gotL w M w.zones.length))), some (.d (.int ((p : Int) + 1))), some (.d (.str "keys")), some (.d (eNT (n, tr'))), some (.d (.int t)), some (.d (eZ w.zones[p + 1])), some (.d (gotRow w M (p + 1))), some (.d (lR M (rdAt w p))), some (.d (.int (r.1 : Int))), a10, some (.d (.int x)), a12, a13], S2, ?_, rfl, ?_, _, _, rfl⟩
              · simp [wkIn, enI, c1, hm1, hz']
              · intro e he
                rcases List.mem_append.mp he with he | he
                · exact hno2 e he
                · simp at he; subst he; exact fun h => c1 h.1
        have hi2 : evIt (sem fns kk) clsT (.seq (.rev (.ix (.var 8) (.var 9)))) [some (.d (eW w)), some (.d (.list (gotL w M w.zones.length))), some (.d (.int ((p : Int) + 1))), some (.d (.str "keys")), some (.d (eNT (n, tr'))), some (.d (.int t)), some (.d (eZ w.zones[p + 1])), some (.d (gotRow w M (p + 1))), some (.d (lR M (rdAt w p))), some (.d (.int (r.1 : Int))), a10, a11, a12, a13] S1 = some ((tl M r.2).reverse.map enI, S1) := by
          simp [hir, revD]
        rcases y1 with ⟨env2, S2, y2, rfl, hno2, b11, b13, rfl⟩ | ⟨v, S2, y2, rfl, hwk⟩
        · have y3 : evS (sem fns kk) clsT (.for_ (.nm 11) (.seq (.rev (.ix (.var 8) (.var 9)))) wkIn) [some (.d (eW w)), some (.d (.list (gotL w M w.zones.length))), some (.d (.int ((p : Int) + 1))), some (.d (.str "keys")), some (.d (eNT (n, tr'))), some (.d (.int t)), some (.d (eZ w.zones[p + 1])), some (.d (gotRow w M (p + 1))), some (.d (lR M (rdAt w p))), some (.d (.int (r.1 : Int))), a10, a11, a12, a13] S2
              = some (.nx [some (.d (eW w)), some (.d (.list (gotL w M w.zones.length))), some (.d (.int ((p : Int) + 1))), some (.d (.str "keys")), some (.d (eNT (n, tr'))), some (.d (.int t)), some (.d (eZ w.zones[p + 1])), some (.d (gotRow w M (p + 1))), some (.d (lR M (rdAt w p))), some (.d (.int (r.1 : Int))), a10, b11, a12, b13], S2) := by
            rw [S_for, hi2]; exact y2
          refine .inl ⟨[some (.d (eW w)), some (.d (.list (gotL w M w.zones.length))), some (.d (.int ((p : Int) + 1))), some (.d (.str "keys")), some (.d (eNT (n, tr'))), some (.d (.int t)), some (.d (eZ w.zones[p + 1])), some (.d (gotRow w M (p + 1))), some (.d (lR M (rdAt w p))), some (.d (.int (r.1 : Int))), a10, b11, a12, b13], S2, ?_, rfl, ?_, _, _, _, _, _, rfl⟩
          · simp [wkOut, hm1, hz', ix_nat, hrl, htv, eO, e1', y3]
          · intro r2 hr2 ht2 e he
            rcases List.mem_append.mp hr2 with hr2 | hr2
            · exact hno r2 hr2 ht2 e he
            · simp at hr2; subst hr2
              exact hno2 e (by simp; exact he)
        · have y3 : evS (sem fns kk) clsT (.for_ (.nm 11) (.seq (.rev (.ix (.var 8) (.var 9)))) wkIn) [some (.d (eW w)), some (.d (.list (gotL w M w.zones.length))), some (.d (.int ((p : Int) + 1))), some (.d (.str "keys")), some (.d (eNT (n, tr'))), some (.d (.int t)), some (.d (eZ w.zones[p + 1])), some (.d (gotRow w M (p + 1))), some (.d (lR M (rdAt w p))), some (.d (.int (r.1 : Int))), a10, a11, a12, a13] S2
              = some (.rt v, S2) := by
            rw [S_for, hi2]; exact y2
          refine .inr ⟨v, S2, ?_, rfl, hwk⟩
          simp [wkOut, hm1, hz', ix_nat, hrl, htv, eO, e1', y3]
      · refine .inl ⟨[some (.d (eW w)), some (.d (.list (gotL w M w.zones.length))), some (.d (.int ((p : Int) + 1))), some (.d (.str "keys")), some (.d (eNT (n, tr))), some (.d (.int t)), some (.d (eZ w.zones[p + 1])), some (.d (gotRow w M (p + 1))), some (.d (lR M (rdAt w p))), some (.d (.int (r.1 : Int))), a10, a11, a12, a13], S1, ?_, rfl, ?_, _, _, _, _, _, rfl⟩
        · simp [wkOut, hm1, hz', ix_nat, hrl, htv, eO, e1', hte]
        · intro r2 hr2 ht2 e he
          rcases List.mem_append.mp hr2 with hr2 | hr2
          · exact hno r2 hr2 ht2 e he
          · simp at hr2; subst hr2
            rw [htr'] at ht2; simp at ht2; exact absurd ht2 hte
  have hi : evIt (sem fns kk) clsT (.keys (.var 8)) [some (.d (eW w)), some (.d (.list (gotL w M w.zones.length))), some (.d (.int ((p : Int) + 1))), some (.d (.str "keys")), some (.d (eNT (n, tr))), some (.d (.int t)), some (.d (eZ w.zones[p + 1])), some (.d (gotRow w M (p + 1))), some (.d (lR M (rdAt w p))), none, none, none, none, none] S = some ((rdAt w p).map fun r => .int (r.1 : Int), S) := by
    have e : itemsOf 3 (lR M (rdAt w p)) = some ((rdAt w p).map fun q => .int (q.1 : Int)) := by
      show some ((eD (fun n : Nat => PyData.int (n : Int)) (vLI M) (rdAt w p)).map _) = _
      unfold eD; rw [List.map_map]; rfl
    simp [e]
  rcases z1 with ⟨env2, S2, y2, rfl, hno, _⟩ | ⟨v, S2, y2, rfl, hwk⟩
  · exfalso
    have hrg := pg'.rgs
    obtain ⟨_, ha, _⟩ := tb_all (zO w p) (rdAt w p) fun r hr => ⟨(hrg r hr).1.ne, (hrg r hr).2⟩
    have hq' : q ∈ trustsB (zO w p) (rdAt w p) := hq
    obtain ⟨su, g1, g2, g3, g4⟩ := ha q hq'
    unfold holdsB at h3
    rw [g1] at h3
    simp only at h3
    unfold heldL at h3
    obtain ⟨x, hx, hx2⟩ := List.any_eq_true.mp h3
    obtain ⟨hx0, hxc⟩ := mem_tl.mp hx
    obtain ⟨r, hr', hrt, hrc⟩ := (g4 x).mp hxc
    simp at hx2
    exact hno r (by simpa using hr') (by rw [hrt, e1]) x (mem_tl.mpr ⟨hx0, hrc⟩) ⟨hx2.1, hx2.2⟩
  · have y3 : evS (sem fns kk) clsT (.for_ (.nm 9) (.keys (.var 8)) wkOut) [some (.d (eW w)), some (.d (.list (gotL w M w.zones.length))), some (.d (.int ((p : Int) + 1))), some (.d (.str "keys")), some (.d (eNT (n, tr))), some (.d (.int t)), some (.d (eZ w.zones[p + 1])), some (.d (gotRow w M (p + 1))), some (.d (lR M (rdAt w p))), none, none, none, none, none] S2 = some (.rt v, S2) := by
      rw [S_for, hi]; exact y2
    refine ⟨v, ?_, hwk⟩
    rw [semS rfl]
    have hfin : fin S2.length v S2 = (v, S2) := by
      obtain ⟨l, _, _, _, rfl⟩ := hwk
      simp
    unfold wkOut wkIn at y3
    simp [runF, envOf, cd__law_way, hgo, hgo', hz, hne0, hm1, c_kk, hx, hnD, hgk, c_niLI, ht, gx_r, y3, hfin]
end VI.M
set_option Elab.async false
set_option linter.all false
set_option maxRecDepth 100000
/-! M43: the law's way, from a rest to the keys ahead; all of it. -/
namespace VI.M
open PySem
def wrIn : List Sc := [(.asg (.nm 12) (.or [(.cmp .gt (.ix (.var 6) (.cst (.int 1))) (.cst (.int 1))), (.fc 59 [(.tup [(.var 11), (.var 9)]), (.tup [(.var 5), (.var 4)])])])), (.ifs (.and [(.chain (.var 11) .le (.var 5) .lt (.bin .add (.var 11) (.ix (.var 6) (.cst (.int 4))))), (.var 12)]) [(.asg (.nm 13) (.fc 68 [(.var 0), (.var 1), (.var 2), (.cst (.str "keys")), (.tup [(.var 9), (.var 10)]), (.var 11)])), (.ret (.bin .add (.var 13) (.tup [(.tup [(.var 5), (.var 2), (.cst (.str "rest")), (.var 4)])])))] [])]
def wrOut : List Sc := [(.ifs (.fc 58 [(.ix (.ix (.ix (.var 6) (.cst (.int 0))) (.var 4)) (.cst (.int 1))), (.ix (.ix (.ix (.var 6) (.cst (.int 0))) (.var 9)) (.cst (.int 1))), (.var 10), (.ix (.var 0) (.cst (.int 2)))]) [(.for_ (.nm 11) (.seq (.rev (.ix (.ix (.var 7) (.cst (.str "keys"))) (.tup [(.var 9), (.var 10)])))) wrIn)] [])]
theorem way_r {w : Wld} {M : Nat} (hB : WB w M) {p : Nat} (hp : p < w.zones.length) {S : Sto} {k : Nat}
    (hW : ∀ r, r ∈ kdAt w p → ∀ e, e ∈ tl M r.2 → ∃ v, sem fns (k + 2) 68 [.d (eW w), .d (.list (gotL w M w.zones.length)), .d (.int (p : Int)), .d (.str "keys"), .d (eNT r.1), .d (.int e)] S = some (v, S) ∧ Wk w M p r.1.1 r.1.2 e k v)
    {n : Nat} {s : List Key} (hr : (n, s) ∈ rdAt w p) {t : Int} (ht : t ∈ tl M s) :
    ∃ v, sem fns (k + 3) 68 [.d (eW w), .d (.list (gotL w M w.zones.length)), .d (.int (p : Int)), .d (.str "rest"), .d (.int (n : Int)), .d (.int t)] S = some (v, S) ∧ Wr w M p n t v := by
  obtain ⟨m, b, c, e, pg⟩ := (hB.pl p hp).pg
  obtain ⟨h1, h3⟩ := rd_time pg hr ht
  simp only at h1 h3
  have hnl : n < (zO w p).line.length := rd_lt hr
  obtain ⟨tr0, htr0⟩ := (hB.pl p hp).tv _ hr
  simp only at htr0
  have hx := gx_k w M p
  have hgo := ix_got w M hp
  have hz' : ixD (.tuple (w.zones.map eZ)) (.int (p : Int)) = some (eZ (zO w p)) := by
    rw [ix_nat, zO_eq hp]; simp [hp]
  have ht0 := l_time0 ht
  have hsv := pg.g.sv
  have z1 := for_inv (tg := .tp [(.nm 9), (.nm 10)]) (body := fun env' S' => evB (sem fns (k + 2)) clsT wrOut env' S') (enc := fun r : (Nat × List Key) × List Key => eNT r.1)
    (fun dn env' S' => S' = S ∧ (∀ r, r ∈ dn → rcF M (zO w p) w.each n t r = false) ∧ ∃ a8 a9 a10 a11 a12 a13, env' = [some (.d (eW w)), some (.d (.list (gotL w M w.zones.length))), some (.d (.int (p : Int))), some (.d (.str "rest")), some (.d (.int (n : Int))), some (.d (.int t)), some (.d (eZ (zO w p))), some (.d (gotRow w M p)), a8, a9, a10, a11, a12, a13])
    (fun v S' => S' = S ∧ Wr w M p n t v) (kdAt w p) []
    (env := [some (.d (eW w)), some (.d (.list (gotL w M w.zones.length))), some (.d (.int (p : Int))), some (.d (.str "rest")), some (.d (.int (n : Int))), some (.d (.int t)), some (.d (eZ (zO w p))), some (.d (gotRow w M p)), none, none, none, none, none, none]) (S := S)
    ⟨rfl, fun _ h => (by cases h), none, none, none, none, none, none, rfl⟩ fun dn r rest env1 S1 hdq hp1 => by
      obtain ⟨rfl, hno, a8, a9, a10, a11, a12, a13, rfl⟩ := hp1
      have hrm : r ∈ kdAt w p := mem_split hdq
      have hrl := kd_lt hrm
      have hv := verO_eq hrl
      have hvn := verO_eq hnl
      have hgr := kd_get hB hp hrm
      have hir : ixD (lK M (kdAt w p)) (.tuple [.int (r.1.1 : Int), eT r.1.2]) = some (.list ((tl M r.2).map enI)) := by
        show ixD (lK M (kdAt w p)) (eNT r.1) = _
        rw [ix_lK, hgr]; rfl
      have h58 := rest_ok (v := (zO w p).line[n].2) (s := (zO w p).line[r.1.1].2) (t := r.1.2) (each := w.each) k S1
      refine ⟨[some (.d (eW w)), some (.d (.list (gotL w M w.zones.length))), some (.d (.int (p : Int))), some (.d (.str "rest")), some (.d (.int (n : Int))), some (.d (.int t)), some (.d (eZ (zO w p))), some (.d (gotRow w M p)), a8, some (.d (.int (r.1.1 : Int))), some (.d (eT r.1.2)), a11, a12, a13], rfl, ?_⟩
      by_cases hb : restB (zO w p).line[n].2 (zO w p).line[r.1.1].2 r.1.2 w.each = true
      · rw [hb] at h58
        have hb' : restB (verO (zO w p) n) (verO (zO w p) r.1.1) r.1.2 w.each = true := by rw [hv, hvn]; exact hb
        have y1 := for_inv (tg := .nm 11) (body := fun env' S' => evB (sem fns (k + 2)) clsT wrIn env' S') (enc := enI)
          (fun dn env' S' => S' = S1 ∧ (∀ e, e ∈ dn → fitS (zO w p) e r.1.1 t n = false) ∧ ∃ a11 a12 a13, env' = [some (.d (eW w)), some (.d (.list (gotL w M w.zones.length))), some (.d (.int (p : Int))), some (.d (.str "rest")), some (.d (.int (n : Int))), some (.d (.int t)), some (.d (eZ (zO w p))), some (.d (gotRow w M p)), a8, some (.d (.int (r.1.1 : Int))), some (.d (eT r.1.2)), a11, a12, a13])
          (fun v S' => S' = S1 ∧ Wr w M p n t v) (tl M r.2).reverse []
          (env := [some (.d (eW w)), some (.d (.list (gotL w M w.zones.length))), some (.d (.int (p : Int))), some (.d (.str "rest")), some (.d (.int (n : Int))), some (.d (.int t)), some (.d (eZ (zO w p))), some (.d (gotRow w M p)), a8, some (.d (.int (r.1.1 : Int))), some (.d (eT r.1.2)), a11, a12, a13]) (S := S1)
          ⟨rfl, fun _ h => (by cases h), a11, a12, a13, rfl⟩ fun dn2 x rest2 env2 S2 hdq2 hp2 => by
            obtain ⟨rfl, hno2, a11, a12, a13, rfl⟩ := hp2
            have hxm : x ∈ tl M r.2 := List.mem_reverse.mp (mem_split hdq2)
            refine ⟨_, rfl, ?_⟩
            have hor : ∃ bb : Bool, bb = (decide (1 < (zO w p).servers) || oneS x r.1.1 t n) ∧ ∀ a12', evE (sem fns (k + 2)) clsT (.or [(.cmp .gt (.ix (.var 6) (.cst (.int 1))) (.cst (.int 1))), (.fc 59 [(.tup [(.var 11), (.var 9)]), (.tup [(.var 5), (.var 4)])])]) [some (.d (eW w)), some (.d (.list (gotL w M w.zones.length))), some (.d (.int (p : Int))), some (.d (.str "rest")), some (.d (.int (n : Int))), some (.d (.int t)), some (.d (eZ (zO w p))), some (.d (gotRow w M p)), a8, some (.d (.int (r.1.1 : Int))), some (.d (eT r.1.2)), some (.d (.int x)), a12', a13] S2 = some (.d (.bool bb), S2) := by
              refine ⟨_, rfl, fun a12' => ?_⟩
              by_cases c0 : 1 < (zO w p).servers <;> simp [c0, oneS_ok]
            obtain ⟨bb, hbb, hor⟩ := hor
            cases hf : fitS (zO w p) x r.1.1 t n with
            | true =>
              have hf' := hf
              unfold fitS at hf'
              simp only [Bool.and_eq_true, decide_eq_true_eq] at hf'
              obtain ⟨⟨c1, c2⟩, c3⟩ := hf'
              rw [← hbb] at c3
              obtain ⟨v, hs, l, f0, f2, f3, rfl⟩ := hW r hrm x hxm
              have hs' : sem fns (k + 2) 68 [.d (eW w), .d (.list (gotL w M w.zones.length)), .d (.int (p : Int)), .d (.str "keys"), .d (.tuple [.int (r.1.1 : Int), eT r.1.2]), .d (.int x)] S2 = some (.d (.tuple (ansFrom 0 (l ++ [(x, r.1.1)]))), S2) := hs
              have hcat := ans_cat (l ++ [(x, r.1.1)]) t n p true (by simp; have := hB.n3; omega) (by simp) (by simp [f3, pDiv] <;> omega) (by simp [f3] <;> omega)
              have hcat' : binD .add (.tuple (ansFrom 0 (l ++ [(x, r.1.1)]))) (.tuple [.tuple [.int t, .int (p : Int), .str "rest", .int (n : Int)]]) = some (.tuple (ansFrom 0 (l ++ [(x, r.1.1)] ++ [(t, n)]))) := hcat
              refine .inr ⟨.d (.tuple (ansFrom 0 (l ++ [(x, r.1.1)] ++ [(t, n)]))), S2, ?_, rfl, l ++ [(x, r.1.1)], tr0, htr0, ?_, by simp [f3], rfl⟩
              · simp [wrIn, enI, -E_or, hor, c1, c2, c3, hs']
                simp at hcat'
                simp [hcat']
              · have e5 : pDiv (l.length + 1) = p := by rw [f3]; unfold pDiv; omega
                obtain ⟨m1, m2, m3, e6, m4, m5, m6⟩ := acc_odd f2 (p := p) (by simp [f3])
                have htrn : r.1.2 ≠ [] := by
                  obtain ⟨_, _, q, hq, e1, _⟩ := kd_time pg hrm hxm
                  rw [← e1]; exact td_ne hB.an _ q hq
                refine Acc.rest f2 (by rw [f3]; omega) (by rw [e5]; exact hp) htrn ht0 (by rw [e5]; exact hrl) ?_ ?_ (by rw [e5]; exact htr0)
                · unfold heldB
                  have e7 : lifeB w (l ++ [(x, r.1.1)]).length = (zO w p).kl := by
                    unfold lifeB
                    have e8 : (l ++ [(x, r.1.1)]).length = l.length + 1 := by simp
                    rw [e8, e5, if_pos (by rw [f3]; omega)]
                  rw [e7]
                  simp [c1, c2]
                · unfold takeR
                  rw [e5, h1, hb']
                  simp only [Bool.true_and, Bool.and_true]
                  rw [hbb] at c3
                  by_cases c4 : (zO w p).servers = 1
                  · have c5 : ¬ 1 < (zO w p).servers := by omega
                    simp [c5] at c3
                    unfold oneS at c3
                    unfold ostB
                    simp only [c4, decide_true, Bool.not_true, Bool.false_or]
                    split at c3
                    · rename_i h; simp at c3; simp [c3]; omega
                    · rename_i h; simp at c3
                      rcases Nat.lt_or_ge r.1.1 n with c6 | c6
                      · simp [c6]; right; omega
                      · have : r.1.1 = n := by omega
                        simp [this]; omega
                  · simp [c4]
            | false =>
              refine .inl ⟨[some (.d (eW w)), some (.d (.list (gotL w M w.zones.length))), some (.d (.int (p : Int))), some (.d (.str "rest")), some (.d (.int (n : Int))), some (.d (.int t)), some (.d (eZ (zO w p))), some (.d (gotRow w M p)), a8, some (.d (.int (r.1.1 : Int))), some (.d (eT r.1.2)), some (.d (.int x)), some (.d (.bool bb)), a13], S2, ?_, rfl, ?_, _, _, _, rfl⟩
              · unfold fitS at hf
                rw [← hbb] at hf
                by_cases c1 : x ≤ t
                · by_cases c2 : t < x + (zO w p).kl
                  · simp [c1, c2] at hf
                    simp [wrIn, enI, -E_or, hor, c1, c2, hf]
                  · simp [wrIn, enI, -E_or, hor, c1, c2]
                · simp [wrIn, enI, -E_or, hor, c1]
              · intro e he
                rcases List.mem_append.mp he with he | he
                · exact hno2 e he
                · simp at he; subst he; exact hf
        have hi2 : evIt (sem fns (k + 2)) clsT (.seq (.rev (.ix (.ix (.var 7) (.cst (.str "keys"))) (.tup [(.var 9), (.var 10)])))) [some (.d (eW w)), some (.d (.list (gotL w M w.zones.length))), some (.d (.int (p : Int))), some (.d (.str "rest")), some (.d (.int (n : Int))), some (.d (.int t)), some (.d (eZ (zO w p))), some (.d (gotRow w M p)), a8, some (.d (.int (r.1.1 : Int))), some (.d (eT r.1.2)), a11, a12, a13] S1 = some ((tl M r.2).reverse.map enI, S1) := by
          simp [hx, hir, revD]
        rcases y1 with ⟨env2, S2, y2, rfl, hno2, b11, b12, b13, rfl⟩ | ⟨v, S2, y2, rfl, hwk⟩
        · have y3 : evS (sem fns (k + 2)) clsT (.for_ (.nm 11) (.seq (.rev (.ix (.ix (.var 7) (.cst (.str "keys"))) (.tup [(.var 9), (.var 10)])))) wrIn) [some (.d (eW w)), some (.d (.list (gotL w M w.zones.length))), some (.d (.int (p : Int))), some (.d (.str "rest")), some (.d (.int (n : Int))), some (.d (.int t)), some (.d (eZ (zO w p))), some (.d (gotRow w M p)), a8, some (.d (.int (r.1.1 : Int))), some (.d (eT r.1.2)), a11, a12, a13] S2
              = some (.nx [some (.d (eW w)), some (.d (.list (gotL w M w.zones.length))), some (.d (.int (p : Int))), some (.d (.str "rest")), some (.d (.int (n : Int))), some (.d (.int t)), some (.d (eZ (zO w p))), some (.d (gotRow w M p)), a8, some (.d (.int (r.1.1 : Int))), some (.d (eT r.1.2)), b11, b12, b13], S2) := by
            rw [S_for, hi2]; exact y2
          refine .inl ⟨[some (.d (eW w)), some (.d (.list (gotL w M w.zones.length))), some (.d (.int (p : Int))), some (.d (.str "rest")), some (.d (.int (n : Int))), some (.d (.int t)), some (.d (eZ (zO w p))), some (.d (gotRow w M p)), a8, some (.d (.int (r.1.1 : Int))), some (.d (eT r.1.2)), b11, b12, b13], S2, ?_, rfl, ?_, _, _, _, _, _, _, rfl⟩
          · simp [wrOut, ix_nat, hnl, hrl, h58, y3]
          · intro r2 hr2
            rcases List.mem_append.mp hr2 with hr2 | hr2
            · exact hno r2 hr2
            · simp at hr2; subst hr2
              unfold rcF
              rw [hb', Bool.true_and, List.any_eq_false]
              intro e he
              rw [hno2 e (by simp; exact he)]
              exact Bool.false_ne_true
        · have y3 : evS (sem fns (k + 2)) clsT (.for_ (.nm 11) (.seq (.rev (.ix (.ix (.var 7) (.cst (.str "keys"))) (.tup [(.var 9), (.var 10)])))) wrIn) [some (.d (eW w)), some (.d (.list (gotL w M w.zones.length))), some (.d (.int (p : Int))), some (.d (.str "rest")), some (.d (.int (n : Int))), some (.d (.int t)), some (.d (eZ (zO w p))), some (.d (gotRow w M p)), a8, some (.d (.int (r.1.1 : Int))), some (.d (eT r.1.2)), a11, a12, a13] S2
              = some (.rt v, S2) := by
            rw [S_for, hi2]; exact y2
          refine .inr ⟨v, S2, ?_, rfl, hwk⟩
          simp [wrOut, ix_nat, hnl, hrl, h58, y3]
      · rw [Bool.not_eq_true] at hb
        rw [hb] at h58
        refine .inl ⟨[some (.d (eW w)), some (.d (.list (gotL w M w.zones.length))), some (.d (.int (p : Int))), some (.d (.str "rest")), some (.d (.int (n : Int))), some (.d (.int t)), some (.d (eZ (zO w p))), some (.d (gotRow w M p)), a8, some (.d (.int (r.1.1 : Int))), some (.d (eT r.1.2)), a11, a12, a13], S1, ?_, rfl, ?_, _, _, _, _, _, _, rfl⟩
        · simp [wrOut, ix_nat, hnl, hrl, h58]
        · intro r2 hr2
          rcases List.mem_append.mp hr2 with hr2 | hr2
          · exact hno r2 hr2
          · simp at hr2; subst hr2
            unfold rcF
            rw [hv, hvn, hb]; rfl
  have hi : evIt (sem fns (k + 2)) clsT (.keys (.ix (.var 7) (.cst (.str "keys")))) [some (.d (eW w)), some (.d (.list (gotL w M w.zones.length))), some (.d (.int (p : Int))), some (.d (.str "rest")), some (.d (.int (n : Int))), some (.d (.int t)), some (.d (eZ (zO w p))), some (.d (gotRow w M p)), none, none, none, none, none, none] S = some ((kdAt w p).map fun r => eNT r.1, S) := by
    have e : itemsOf 3 (lK M (kdAt w p)) = some ((kdAt w p).map fun r => eNT r.1) := by
      show some ((eD eNT (vLI M) (kdAt w p)).map (·.1)) = _
      unfold eD; rw [List.map_map]; rfl
    simp [hx, e]
  rcases z1 with ⟨env2, S2, y2, rfl, hno, _⟩ | ⟨v, S2, y2, rfl, hwk⟩
  · exfalso
    obtain ⟨r, hr', hrc⟩ := List.any_eq_true.mp h3
    rw [hno r (by simpa using hr')] at hrc
    cases hrc
  · have y3 : evS (sem fns (k + 2)) clsT (.for_ (.tp [(.nm 9), (.nm 10)]) (.keys (.ix (.var 7) (.cst (.str "keys")))) wrOut) [some (.d (eW w)), some (.d (.list (gotL w M w.zones.length))), some (.d (.int (p : Int))), some (.d (.str "rest")), some (.d (.int (n : Int))), some (.d (.int t)), some (.d (eZ (zO w p))), some (.d (gotRow w M p)), none, none, none, none, none, none] S2 = some (.rt v, S2) := by
      rw [S_for, hi]; exact y2
    refine ⟨v, ?_, hwk⟩
    rw [semS rfl]
    have hfin : fin S2.length v S2 = (v, S2) := by
      obtain ⟨l, _, _, _, _, rfl⟩ := hwk
      simp
    unfold wrOut wrIn at y3
    simp [runF, envOf, cd__law_way, hgo, hz', c_rk, y3, hfin]
/-- keys, at every place -/
theorem way_keys {w : Wld} {M : Nat} (hB : WB w M) (k : Nat) (S : Sto) : ∀ p, p < w.zones.length → ∀ r, r ∈ kdAt w p → ∀ t, t ∈ tl M r.2 →
    ∃ v, sem fns (k + 2 * p + 2) 68 [.d (eW w), .d (.list (gotL w M w.zones.length)), .d (.int (p : Int)), .d (.str "keys"), .d (eNT r.1), .d (.int t)] S = some (v, S) ∧ Wk w M p r.1.1 r.1.2 t k v
  | 0, hp, r, hr, t, ht => way_0 hB hp hr ht S (k + 1)
  | p + 1, hp, r, hr, t, ht => by
    have h1 := fun r hr t ht => way_keys hB k S p (by omega) r hr t ht
    have h2 : ∀ r, r ∈ rdAt w p → ∀ e, e ∈ tl M r.2 → ∃ v, sem fns (k + 2 * p + 3) 68 [.d (eW w), .d (.list (gotL w M w.zones.length)), .d (.int (p : Int)), .d (.str "rest"), .d (.int (r.1 : Int)), .d (.int e)] S = some (v, S) ∧ Wr w M p r.1 e v := fun r hr e he => way_r hB (by omega) (k := k + 2 * p) h1 hr he
    have h3 := way_k hB hp h2 hr ht
    have e : k + 2 * (p + 1) + 2 = k + 2 * p + 3 + 1 := by omega
    rw [e]
    exact h3
theorem way_rest {w : Wld} {M : Nat} (hB : WB w M) (k : Nat) (S : Sto) {p : Nat} (hp : p < w.zones.length) {r : Nat × List Key} (hr : r ∈ rdAt w p) {t : Int} (ht : t ∈ tl M r.2) :
    ∃ v, sem fns (k + 2 * p + 3) 68 [.d (eW w), .d (.list (gotL w M w.zones.length)), .d (.int (p : Int)), .d (.str "rest"), .d (.int (r.1 : Int)), .d (.int t)] S = some (v, S) ∧ Wr w M p r.1 t v :=
  way_r hB hp (k := k + 2 * p) (fun r hr t ht => way_keys hB k S p hp r hr t ht) hr ht
end VI.M
set_option Elab.async false
set_option linter.all false
set_option maxRecDepth 100000
/-! M44: the law's made ways. -/
namespace VI.M
open PySem
def last2 {α : Type} (xs : List α) : List α := xs.drop (xs.length - 2)
theorem last2_mem {α : Type} {xs : List α} {x : α} (h : x ∈ last2 xs) : x ∈ xs := List.mem_of_mem_drop h
theorem last2_len {α : Type} (xs : List α) : (last2 xs).length ≤ 2 := by unfold last2; simp; omega
theorem last2_last {α : Type} {xs : List α} {x : α} (h : xs.getLast? = some x) : x ∈ last2 xs := by
  rcases List.eq_nil_or_concat xs with rfl | ⟨a, y, rfl⟩
  · simp at h
  · simp at h
    subst h
    unfold last2
    simp
    rw [List.drop_append_of_le_length (by omega)]
    simp
theorem sl2 {α : Type} (f : α → D) (xs : List α) : slD (.list (xs.map f)) (some (-2)) none = some (.list ((last2 xs).map f)) := by
  show some (PyData.list (cutD (xs.map f) (some (-2)) none)) = _
  unfold cutD
  have e1 : HT.sIx (xs.map f).length 0 (some (-2)) = xs.length - 2 := by
    show (if (-2 : Int) < 0 then ((-2 : Int) + ((xs.map f).length : Nat)).toNat else min (-2 : Int).toNat (xs.map f).length) = _
    rw [if_pos (by omega), List.length_map]; omega
  have e2 : HT.sIx (xs.map f).length (xs.map f).length none = xs.length := by
    show (xs.map f).length = _
    rw [List.length_map]
  rw [e1, e2, List.take_of_length_le (by simp)]
  unfold last2
  rw [List.map_drop]
def mkT (t x rl : Int) : Int := if x + rl - 1 < t then x + rl - 1 else t
/-- a way over a trust that is held, for the place behind p -/
def MadeW (w : Wld) (M : Nat) (p : Nat) (tr : List Key) (t : Int) (d : D) : Prop := ∃ (l : List (Int × Nat)) (n : Nat) (x : Int) (s : List Key), (n, s) ∈ rdAt w p ∧ (verO (zO w p) n).trust = some tr ∧ x ∈ tl M s ∧ Acc w (l ++ [(x, n)]) tr ∧ l.length = 2 * p + 1 ∧ x ≤ mkT t x (zO w p).rl ∧ t < mkT t x (zO w p).rl + (zO w (p + 1)).kl ∧ d = .tuple [.tuple (ansFrom 0 (l ++ [(x, n)])), .int (mkT t x (zO w p).rl), .int t]
def mCond (w : Wld) (p : Nat) (t x : Int) : Prop := x ≤ mkT t x (zO w p).rl ∧ t < mkT t x (zO w p).rl + (zO w (p + 1)).kl
def mGood (w : Wld) (M : Nat) (p : Nat) (tr : List Key) (t : Int) (r : Nat × List Key) : Prop := (verO (zO w p) r.1).trust = some tr ∧ ∃ x, (tl M r.2).getLast? = some x ∧ mCond w p t x
def mwIn : List Sc := [(.asg (.nm 10) (.b2 .min (.var 4) (.bin .sub (.bin .add (.var 9) (.var 8)) (.cst (.int 1))))), (.ifs (.and [(.cmp .le (.var 9) (.var 10)), (.cmp .lt (.var 4) (.bin .add (.var 10) (.ix (.ix (.ix (.var 0) (.cst (.int 0))) (.var 2)) (.cst (.int 4)))))]) [(.app 6 (.tup [(.fc 68 [(.var 0), (.var 1), (.bin .sub (.var 2) (.cst (.int 1))), (.cst (.str "rest")), (.var 5), (.var 9)]), (.var 10), (.var 4)]))] [])]
def mwOut : List Sc := [(.ifs (.cmp .eq (.ix (.ix (.ix (.ix (.ix (.ix (.var 0) (.cst (.int 0))) (.bin .sub (.var 2) (.cst (.int 1)))) (.cst (.int 0))) (.var 5)) (.cst (.int 1))) (.cst (.int 2))) (.var 3)) [(.for_ (.nm 9) (.seq (.sl (.ix (.var 7) (.var 5)) (some (-2)) none)) mwIn)] [])]
theorem made_ways {w : Wld} {M : Nat} (hB : WB w M) {p : Nat} (hp : p + 1 < w.zones.length) (tr : List Key) (t : Int) (S : Sto) (k : Nat) :
    ∃ ds : List D, sem fns (k + 2 * p + 4) 77 [.d (eW w), .d (.list (gotL w M w.zones.length)), .d (.int ((p + 1 : Nat) : Int)), .d (eT tr), .d (.int t)] S = some (.d (.list ds), S) ∧ (∀ d, d ∈ ds → MadeW w M p tr t d) ∧ ds.length ≤ (rdAt w p).length * 2 ∧ ((∃ r, r ∈ rdAt w p ∧ mGood w M p tr t r) → ds ≠ []) := by
  obtain ⟨m, b, c, e, pg⟩ := (hB.pl p (by omega)).pg
  have hx := gx_r w M p
  have hgo := ix_got w M (show p < w.zones.length by omega)
  have hz : ixD (.tuple (w.zones.map eZ)) (.int ((p : Int) + 1)) = some (eZ (zO w (p + 1))) := by
    rw [ix_suc, zO_eq hp]; simp [hp]
  have hz' : ixD (.tuple (w.zones.map eZ)) (.int (p : Int)) = some (eZ (zO w p)) := by
    rw [ix_nat, zO_eq (show p < w.zones.length by omega)]; simp [show p < w.zones.length by omega]
  have hm1 : ((p : Int) + 1 - 1) = (p : Int) := by omega
  have hrl : (rdAt w p).length ≤ 3 := by
    rw [← gr_rd]
    have := List.length_filterMap_le (grF w p (zO w p) (kdAt w p)) (List.range (zO w p).line.length)
    rw [List.length_range] at this
    have := pg.g.l3
    omega
  have z1 := for_nx (tg := .nm 5) (body := fun env' S' => evB (sem fns (k + 2 * p + 3)) clsT mwOut env' S') (enc := fun r : Nat × List Key => .int (r.1 : Int)) (xs := rdAt w p) (S := S)
    (env := [some (.d (eW w)), some (.d (.list (gotL w M w.zones.length))), some (.d (.int ((p : Int) + 1))), some (.d (eT tr)), some (.d (.int t)), none, some (.own (.list [])), some (.d (lR M (rdAt w p))), some (.d (.int (zO w p).rl)), none, none])
    (fun dn env' S' => S' = S ∧ ∃ ds : List D, (∀ d, d ∈ ds → MadeW w M p tr t d) ∧ ds.length ≤ dn.length * 2 ∧ ((∃ r, r ∈ dn ∧ mGood w M p tr t r) → ds ≠ []) ∧ ∃ a5 a9 a10, env' = [some (.d (eW w)), some (.d (.list (gotL w M w.zones.length))), some (.d (.int ((p : Int) + 1))), some (.d (eT tr)), some (.d (.int t)), a5, some (.own (.list ds)), some (.d (lR M (rdAt w p))), some (.d (.int (zO w p).rl)), a9, a10])
    ⟨rfl, [], fun _ h => (by cases h), Nat.le_refl _, fun ⟨_, h, _⟩ => (by cases h), none, none, none, rfl⟩ fun dn r rest env1 S1 hdq hp1 => by
      obtain ⟨rfl, ds, d1, d2, d3, a5, a9, a10, rfl⟩ := hp1
      have hrm : r ∈ rdAt w p := by rw [hdq]; simp
      have hlen : dn.length + 1 ≤ (rdAt w p).length := by rw [hdq]; simp
      have hrl2 := rd_lt hrm
      obtain ⟨tr', htr'⟩ := (hB.pl p (by omega)).tv r hrm
      have hv := verO_eq hrl2
      have htv : ((zO w p).line[r.1].2).trust = some tr' := by rw [← hv]; exact htr'
      have hgr : getA (rdAt w p) r.1 = some r.2 := getA_mem (rd_nodup w p) hrm
      have hir : ixD (lR M (rdAt w p)) (.int (r.1 : Int)) = some (.list ((tl M r.2).map enI)) := by rw [ix_lR, hgr]; rfl
      by_cases hte : tr' = tr
      · subst hte
        have y1 := for_nx (tg := .nm 9) (body := fun env' S' => evB (sem fns (k + 2 * p + 3)) clsT mwIn env' S') (enc := enI) (xs := last2 (tl M r.2)) (S := S1)
          (env := [some (.d (eW w)), some (.d (.list (gotL w M w.zones.length))), some (.d (.int ((p : Int) + 1))), some (.d (eT tr')), some (.d (.int t)), some (.d (.int (r.1 : Int))), some (.own (.list ds)), some (.d (lR M (rdAt w p))), some (.d (.int (zO w p).rl)), a9, a10])
          (fun dn2 env' S' => S' = S1 ∧ ∃ ds2 : List D, (∀ d, d ∈ ds2 → MadeW w M p tr' t d) ∧ ds2.length ≤ ds.length + dn2.length ∧ ((ds ≠ [] ∨ ∃ x, x ∈ dn2 ∧ mCond w p t x) → ds2 ≠ []) ∧ ∃ a9 a10, env' = [some (.d (eW w)), some (.d (.list (gotL w M w.zones.length))), some (.d (.int ((p : Int) + 1))), some (.d (eT tr')), some (.d (.int t)), some (.d (.int (r.1 : Int))), some (.own (.list ds2)), some (.d (lR M (rdAt w p))), some (.d (.int (zO w p).rl)), a9, a10])
          ⟨rfl, ds, d1, by simp, (fun h => by
            rcases h with h | ⟨_, h, _⟩
            · exact h
            · cases h), a9, a10, rfl⟩ fun dn2 x rest2 env2 S2 hdq2 hp2 => by
            obtain ⟨rfl, ds2, f1, f2, f3, a9, a10, rfl⟩ := hp2
            have hxm2 : x ∈ last2 (tl M r.2) := by rw [hdq2]; simp
            have hxm : x ∈ tl M r.2 := last2_mem hxm2
            have hl2 := last2_len (tl M r.2)
            have hl3 : dn2.length + 1 ≤ (last2 (tl M r.2)).length := by rw [hdq2]; simp
            by_cases hc : mCond w p t x
            · obtain ⟨v, hs, l, tr2, g1, g2, g3, rfl⟩ := way_rest hB k S2 (show p < w.zones.length by omega) hrm hxm
              rw [htr'] at g1
              simp at g1
              subst g1
              have hc1 : x ≤ (if x + (zO w p).rl - 1 < t then x + (zO w p).rl - 1 else t) := hc.1
              have hc2 : t < (if x + (zO w p).rl - 1 < t then x + (zO w p).rl - 1 else t) + (zO w (p + 1)).kl := hc.2
              have hap : appD (.list ds2) (.tuple [.tuple (ansFrom 0 (l ++ [(x, r.1)])), .int (if x + (zO w p).rl - 1 < t then x + (zO w p).rl - 1 else t), .int t]) = some (.list (ds2 ++ [.tuple [.tuple (ansFrom 0 (l ++ [(x, r.1)])), .int (mkT t x (zO w p).rl), .int t]])) := app_ok (by unfold sizeLine; omega) _
              refine ⟨_, [some (.d (eW w)), some (.d (.list (gotL w M w.zones.length))), some (.d (.int ((p : Int) + 1))), some (.d (eT tr')), some (.d (.int t)), some (.d (.int (r.1 : Int))), some (.own (.list (ds2 ++ [.tuple [.tuple (ansFrom 0 (l ++ [(x, r.1)])), .int (mkT t x (zO w p).rl), .int t]]))), some (.d (lR M (rdAt w p))), some (.d (.int (zO w p).rl)), some (.d (.int x)), some (.d (.int (mkT t x (zO w p).rl)))], S2, rfl, ?_, rfl, _, ?_, ?_, ?_, _, _, rfl⟩
              · simp [mwIn, enI, hz, hm1, hs, hc1, hc2, hap]
                rfl
              · intro d hd
                rcases List.mem_append.mp hd with hd | hd
                · exact f1 d hd
                · simp at hd
                  exact ⟨l, r.1, x, r.2, hrm, htr', hxm, g2, g3, hc.1, hc.2, hd⟩
              · simp; omega
              · simp
            · refine ⟨_, [some (.d (eW w)), some (.d (.list (gotL w M w.zones.length))), some (.d (.int ((p : Int) + 1))), some (.d (eT tr')), some (.d (.int t)), some (.d (.int (r.1 : Int))), some (.own (.list ds2)), some (.d (lR M (rdAt w p))), some (.d (.int (zO w p).rl)), some (.d (.int x)), some (.d (.int (mkT t x (zO w p).rl)))], S2, rfl, ?_, rfl, ds2, f1, ?_, ?_, _, _, rfl⟩
              · by_cases hc1 : x ≤ (if x + (zO w p).rl - 1 < t then x + (zO w p).rl - 1 else t)
                · have hc2 : ¬ t < (if x + (zO w p).rl - 1 < t then x + (zO w p).rl - 1 else t) + (zO w (p + 1)).kl := fun h => hc ⟨hc1, h⟩
                  simp [mwIn, enI, hz, hm1, hc1, hc2]
                  rfl
                · simp [mwIn, enI, hz, hm1, hc1]
                  rfl
              · simp; omega
              · rintro (h | ⟨x', h, h'⟩)
                · exact f3 (.inl h)
                · rcases List.mem_append.mp h with h | h
                  · exact f3 (.inr ⟨x', h, h'⟩)
                  · simp at h; subst h; exact absurd h' hc
        obtain ⟨env2, S2, y2, rfl, ds2, f1, f2, f3, b9, b10, rfl⟩ := y1
        have hi2 : evIt (sem fns (k + 2 * p + 3)) clsT (.seq (.sl (.ix (.var 7) (.var 5)) (some (-2)) none)) [some (.d (eW w)), some (.d (.list (gotL w M w.zones.length))), some (.d (.int ((p : Int) + 1))), some (.d (eT tr')), some (.d (.int t)), some (.d (.int (r.1 : Int))), some (.own (.list ds)), some (.d (lR M (rdAt w p))), some (.d (.int (zO w p).rl)), a9, a10] S2 = some ((last2 (tl M r.2)).map enI, S2) := by
          simp [hir, sl2]
        have y3 : evS (sem fns (k + 2 * p + 3)) clsT (.for_ (.nm 9) (.seq (.sl (.ix (.var 7) (.var 5)) (some (-2)) none)) mwIn) [some (.d (eW w)), some (.d (.list (gotL w M w.zones.length))), some (.d (.int ((p : Int) + 1))), some (.d (eT tr')), some (.d (.int t)), some (.d (.int (r.1 : Int))), some (.own (.list ds)), some (.d (lR M (rdAt w p))), some (.d (.int (zO w p).rl)), a9, a10] S2
            = some (.nx [some (.d (eW w)), some (.d (.list (gotL w M w.zones.length))), some (.d (.int ((p : Int) + 1))), some (.d (eT tr')), some (.d (.int t)), some (.d (.int (r.1 : Int))), some (.own (.list ds2)), some (.d (lR M (rdAt w p))), some (.d (.int (zO w p).rl)), b9, b10], S2) := by
          rw [S_for, hi2]; exact y2
        refine ⟨_, [some (.d (eW w)), some (.d (.list (gotL w M w.zones.length))), some (.d (.int ((p : Int) + 1))), some (.d (eT tr')), some (.d (.int t)), some (.d (.int (r.1 : Int))), some (.own (.list ds2)), some (.d (lR M (rdAt w p))), some (.d (.int (zO w p).rl)), b9, b10], S2, rfl, ?_, rfl, ds2, f1, ?_, ?_, _, _, _, rfl⟩
        · simp [mwOut, hm1, hz', ix_nat, hrl2, htv, eO, y3]
        · have := last2_len (tl M r.2)
          simp; omega
        · rintro ⟨r2, h, h'⟩
          rcases List.mem_append.mp h with h | h
          · exact f3 (.inl (d3 ⟨r2, h, h'⟩))
          · simp at h; subst h
            obtain ⟨_, x, hx, hxc⟩ := h'
            exact f3 (.inr ⟨x, last2_last hx, hxc⟩)
      · refine ⟨_, [some (.d (eW w)), some (.d (.list (gotL w M w.zones.length))), some (.d (.int ((p : Int) + 1))), some (.d (eT tr)), some (.d (.int t)), some (.d (.int (r.1 : Int))), some (.own (.list ds)), some (.d (lR M (rdAt w p))), some (.d (.int (zO w p).rl)), a9, a10], S1, rfl, ?_, rfl, ds, d1, ?_, ?_, _, _, _, rfl⟩
        · simp [mwOut, hm1, hz', ix_nat, hrl2, htv, eO, hte]
        · simp; omega
        · rintro ⟨r2, h, h'⟩
          rcases List.mem_append.mp h with h | h
          · exact d3 ⟨r2, h, h'⟩
          · simp at h; subst h
            have := h'.1
            rw [htr'] at this; simp at this; exact absurd this hte
  obtain ⟨env2, S2, y2, rfl, ds, d1, d2, d3, b5, b9, b10, rfl⟩ := z1
  have hi : evIt (sem fns (k + 2 * p + 3)) clsT (.keys (.var 7)) [some (.d (eW w)), some (.d (.list (gotL w M w.zones.length))), some (.d (.int ((p : Int) + 1))), some (.d (eT tr)), some (.d (.int t)), none, some (.own (.list [])), some (.d (lR M (rdAt w p))), some (.d (.int (zO w p).rl)), none, none] S2 = some ((rdAt w p).map fun r => .int (r.1 : Int), S2) := by
    have e : itemsOf 3 (lR M (rdAt w p)) = some ((rdAt w p).map fun q => .int (q.1 : Int)) := by
      show some ((eD (fun n : Nat => PyData.int (n : Int)) (vLI M) (rdAt w p)).map _) = _
      unfold eD; rw [List.map_map]; rfl
    simp [e]
  have y3 : evS (sem fns (k + 2 * p + 3)) clsT (.for_ (.nm 5) (.keys (.var 7)) mwOut) [some (.d (eW w)), some (.d (.list (gotL w M w.zones.length))), some (.d (.int ((p : Int) + 1))), some (.d (eT tr)), some (.d (.int t)), none, some (.own (.list [])), some (.d (lR M (rdAt w p))), some (.d (.int (zO w p).rl)), none, none] S2
      = some (.nx [some (.d (eW w)), some (.d (.list (gotL w M w.zones.length))), some (.d (.int ((p : Int) + 1))), some (.d (eT tr)), some (.d (.int t)), b5, some (.own (.list ds)), some (.d (lR M (rdAt w p))), some (.d (.int (zO w p).rl)), b9, b10], S2) := by
    rw [S_for, hi]; exact y2
  refine ⟨ds, ?_, d1, d2, d3⟩
  rw [semS rfl]
  unfold mwOut mwIn at y3
  simp [runF, envOf, cd__law_made_ways, hgo, hz', hm1, hx, y3]
end VI.M
set_option Elab.async false
set_option linter.all false
set_option maxRecDepth 100000
/-! M45: the law's ways. -/
namespace VI.M
open PySem
def GenW (w : Wld) (M : Nat) (p : Nat) (key : Key) (t : Int) (d : D) : Prop := ∃ (l : List (Int × Nat)) (n : Nat) (tr : List Key) (x : Int) (s : List Key), ((n, tr), s) ∈ kdAt w p ∧ enV key (verO (zO w p) n) tr w.each = true ∧ x ∈ tl M s ∧ Acc w l tr ∧ Acc w (l ++ [(x, n)]) tr ∧ l.length = 2 * p ∧ x ≤ t ∧ t < x + (zO w p).kl ∧ d = .tuple [.tuple (ansFrom 0 (l ++ [(x, n)])), .none, .int t]
def WayOk (w : Wld) (M : Nat) (p : Nat) (key : Key) (t : Int) (d : D) : Prop := (p = 0 ∧ enT key w.anchors w.each = true ∧ d = .tuple [.tuple [], .int t, .int t]) ∨ (∃ p' q, p = p' + 1 ∧ q ∈ tdAt w p ∧ enT key q.1 w.each = true ∧ MadeW w M p' q.1 t d) ∨ GenW w M p key t d
def tGood (w : Wld) (M : Nat) (p : Nat) (key : Key) (t : Int) (q : List Key × Option (List Key)) : Prop := enT key q.1 w.each = true ∧ (p = 0 ∨ ∃ p', p = p' + 1 ∧ ∃ r, r ∈ rdAt w p' ∧ mGood w M p' q.1 t r)
def kGood (w : Wld) (M : Nat) (p : Nat) (key : Key) (t : Int) (r : (Nat × List Key) × List Key) : Prop := enV key (verO (zO w p) r.1.1) r.1.2 w.each = true ∧ ∃ x, (tl M r.2).getLast? = some x ∧ x ≤ t ∧ t < x + (zO w p).kl
theorem rd_len {w : Wld} {M : Nat} (hB : WB w M) {p : Nat} (hp : p < w.zones.length) : (rdAt w p).length ≤ 3 := by
  obtain ⟨m, b, c, e, pg⟩ := (hB.pl p hp).pg
  rw [← gr_rd]
  have := List.length_filterMap_le (grF w p (zO w p) (kdAt w p)) (List.range (zO w p).line.length)
  rw [List.length_range] at this
  have := pg.g.l3
  omega
theorem rows_len {z : Zone} {td : TD} {each : Bool} {life : Int} : ∀ n, ((List.range n).flatMap (rowK z td each life)).length ≤ n * td.length
  | 0 => by simp
  | n + 1 => by
    rw [List.range_succ, List.flatMap_append, List.length_append]
    have h1 : (rowK z td each life n).length ≤ td.length := List.length_filterMap_le _ _
    have h2 := rows_len (z := z) (td := td) (each := each) (life := life) n
    simp only [List.flatMap_cons, List.flatMap_nil, List.append_nil]
    rw [Nat.succ_mul]
    omega
theorem kd_len {w : Wld} {M : Nat} (hB : WB w M) {p : Nat} (hp : p < w.zones.length) : (kdAt w p).length ≤ 3000 := by
  obtain ⟨m, b, c, e, pg⟩ := (hB.pl p hp).pg
  rw [kd_life]
  have h1 := rows_len (z := zO w p) (td := tdAt w p) (each := w.each) (life := lifeAt w p) (zO w p).line.length
  have h2 := pg.g.l3
  have h3 := pg.tl
  have h4 : (zO w p).line.length * (tdAt w p).length ≤ 3 * 1000 := Nat.mul_le_mul h2 h3
  exact Nat.le_trans h1 h4
def wyT : List Sc := [(.ifs (.fc 66 [(.var 3), (.var 5), (.ix (.var 0) (.cst (.int 2)))]) [(.ifs (.cmp .eq (.var 2) (.cst (.int 0))) [(.app 9 (.tup [(.tup []), (.var 4), (.var 4)]))] [(.asg (.own 9) (.bin .add (.var 9) (.fc 77 [(.var 0), (.var 1), (.var 2), (.var 5), (.var 4)])))])] [])]
def wyI : List Sc := [(.ifs (.chain (.var 10) .le (.var 4) .lt (.bin .add (.var 10) (.ix (.var 7) (.cst (.int 4))))) [(.app 9 (.tup [(.fc 68 [(.var 0), (.var 1), (.var 2), (.cst (.str "keys")), (.var 6), (.var 10)]), (.cst .none), (.var 4)]))] [])]
def wyK : List Sc := [(.ifs (.fc 67 [(.var 3), (.ix (.ix (.ix (.var 7) (.cst (.int 0))) (.ix (.var 6) (.cst (.int 0)))) (.cst (.int 1))), (.ix (.var 6) (.cst (.int 1))), (.ix (.var 0) (.cst (.int 2)))]) [(.for_ (.nm 10) (.seq (.sl (.ix (.ix (.var 8) (.cst (.str "keys"))) (.var 6)) (some (-2)) none)) wyI)] [])]
section
variable {w : Wld} {M : Nat}
theorem wy_t (hB : WB w M) {p : Nat} (hp : p < w.zones.length) (key : Key) (t : Int) (S : Sto) (k : Nat) :
    ∃ ds : List D, (∀ d, d ∈ ds → WayOk w M p key t d) ∧ ds.length ≤ 6000 ∧ ((∃ q, q ∈ tdAt w p ∧ tGood w M p key t q) → ds ≠ []) ∧ ∃ b5, evS (sem fns (k + 2 * p + 2)) clsT (.for_ (.nm 5) (.keys (.ix (.var 8) (.cst (.str "trusts")))) wyT) [some (.d (eW w)), some (.d (.list (gotL w M w.zones.length))), some (.d (.int (p : Int))), some (.d (enP key)), some (.d (.int t)), none, none, some (.d (eZ (zO w p))), some (.d (gotRow w M p)), some (.own (.list [])), none] S
      = some (.nx [some (.d (eW w)), some (.d (.list (gotL w M w.zones.length))), some (.d (.int (p : Int))), some (.d (enP key)), some (.d (.int t)), b5, none, some (.d (eZ (zO w p))), some (.d (gotRow w M p)), some (.own (.list ds)), none], S) := by
  obtain ⟨m, b, c, e, pg⟩ := (hB.pl p hp).pg
  have htl := pg.tl
  have z1 := for_nx (tg := .nm 5) (body := fun env' S' => evB (sem fns (k + 2 * p + 2)) clsT wyT env' S') (enc := fun q : List Key × Option (List Key) => eT q.1) (xs := tdAt w p) (S := S)
    (env := [some (.d (eW w)), some (.d (.list (gotL w M w.zones.length))), some (.d (.int (p : Int))), some (.d (enP key)), some (.d (.int t)), none, none, some (.d (eZ (zO w p))), some (.d (gotRow w M p)), some (.own (.list [])), none])
    (fun dn env' S' => S' = S ∧ ∃ ds : List D, (∀ d, d ∈ ds → WayOk w M p key t d) ∧ ds.length ≤ dn.length * 6 ∧ ((∃ q, q ∈ dn ∧ tGood w M p key t q) → ds ≠ []) ∧ ∃ a5, env' = [some (.d (eW w)), some (.d (.list (gotL w M w.zones.length))), some (.d (.int (p : Int))), some (.d (enP key)), some (.d (.int t)), a5, none, some (.d (eZ (zO w p))), some (.d (gotRow w M p)), some (.own (.list ds)), none])
    ⟨rfl, [], fun _ h => (by cases h), Nat.le_refl _, fun ⟨_, h, _⟩ => (by cases h), none, rfl⟩ fun dn q rest env1 S1 hdq hp1 => by
      obtain ⟨rfl, ds, d1, d2, d3, a5, rfl⟩ := hp1
      have hqm : q ∈ tdAt w p := by rw [hdq]; simp
      have hlen : dn.length + 1 ≤ (tdAt w p).length := by rw [hdq]; simp
      have h66 := lawMade_ok key q.1 w.each (k + 2 * p) S1
      by_cases he : enT key q.1 w.each = true
      · rw [he] at h66
        cases p with
        | zero =>
          have hap := app_ok (xs := ds) (by unfold sizeLine; omega) (.tuple [.tuple [], .int t, .int t])
          have hqa : q.1 = w.anchors := by
            unfold tdAt at hqm
            simp at hqm
            rw [hqm]
          refine ⟨_, [some (.d (eW w)), some (.d (.list (gotL w M w.zones.length))), some (.d (.int ((0 : Nat) : Int))), some (.d (enP key)), some (.d (.int t)), some (.d (eT q.1)), none, some (.d (eZ (zO w 0))), some (.d (gotRow w M 0)), some (.own (.list (ds ++ [.tuple [.tuple [], .int t, .int t]]))), none], S1, rfl, ?_, rfl, _, ?_, ?_, ?_, _, rfl⟩
          · have h66' : sem fns (k + 2) 66 [.d (enP key), .d (eT q.1), .d (eR w.each)] S1 = some (.d (.bool true), S1) := h66
            simp [wyT, h66', hap]
          · intro d hd
            rcases List.mem_append.mp hd with hd | hd
            · exact d1 d hd
            · simp at hd
              exact .inl ⟨rfl, by rw [← hqa]; exact he, hd⟩
          · simp; omega
          · simp
        | succ p =>
          obtain ⟨ds2, g1, g2, g3, g4⟩ := made_ways hB hp q.1 t S1 k
          have hrl := rd_len hB (show p < w.zones.length by omega)
          have ek : k + 2 * (p + 1) + 2 = k + 2 * p + 4 := by omega
          rw [ek] at h66 ⊢
          have hne0 : ¬ ((p : Int) + 1 = 0) := by omega
          have hbl : binD .add (.list ds) (.list ds2) = some (.list (ds ++ ds2)) := by
            rw [b_addL, decide_eq_true (by unfold sizeLine; omega)]; rfl
          simp only [Int.natCast_add, Int.cast_ofNat_Int] at g1
          refine ⟨_, [some (.d (eW w)), some (.d (.list (gotL w M w.zones.length))), some (.d (.int ((p + 1 : Nat) : Int))), some (.d (enP key)), some (.d (.int t)), some (.d (eT q.1)), none, some (.d (eZ (zO w (p + 1)))), some (.d (gotRow w M (p + 1))), some (.own (.list (ds ++ ds2))), none], S1, rfl, ?_, rfl, _, ?_, ?_, ?_, _, rfl⟩
          · simp [wyT, h66, hne0, g1, hbl]
          · intro d hd
            rcases List.mem_append.mp hd with hd | hd
            · exact d1 d hd
            · exact .inr (.inl ⟨p, q, rfl, hqm, he, g2 d hd⟩)
          · simp; omega
          · rintro ⟨q2, h, h'⟩
            rcases List.mem_append.mp h with h | h
            · have := d3 ⟨q2, h, h'⟩
              simp [this]
            · simp at h; subst h
              obtain ⟨_, h0 | ⟨p2, hp2, h5⟩⟩ := h'
              · omega
              · have : p2 = p := by omega
                subst this
                have := g4 h5
                simp [this]
      · rw [Bool.not_eq_true] at he
        rw [he] at h66
        refine ⟨_, [some (.d (eW w)), some (.d (.list (gotL w M w.zones.length))), some (.d (.int (p : Int))), some (.d (enP key)), some (.d (.int t)), some (.d (eT q.1)), none, some (.d (eZ (zO w p))), some (.d (gotRow w M p)), some (.own (.list ds)), none], S1, rfl, ?_, rfl, ds, d1, ?_, ?_, _, rfl⟩
        · simp [wyT, h66]
        · simp; omega
        · rintro ⟨q2, h, h'⟩
          rcases List.mem_append.mp h with h | h
          · exact d3 ⟨q2, h, h'⟩
          · simp at h; subst h
            have := h'.1
            rw [he] at this; cases this
  obtain ⟨env2, S2, y2, rfl, ds, d1, d2, d3, b5, rfl⟩ := z1
  have hi : evIt (sem fns (k + 2 * p + 2)) clsT (.keys (.ix (.var 8) (.cst (.str "trusts")))) [some (.d (eW w)), some (.d (.list (gotL w M w.zones.length))), some (.d (.int (p : Int))), some (.d (enP key)), some (.d (.int t)), none, none, some (.d (eZ (zO w p))), some (.d (gotRow w M p)), some (.own (.list [])), none] S2 = some ((tdAt w p).map fun q => eT q.1, S2) := by
    have e : itemsOf 3 (lT M (tdAt w p)) = some ((tdAt w p).map fun q => eT q.1) := by
      show some ((eD eT (vLO M) (tdAt w p)).map (·.1)) = _
      unfold eD; rw [List.map_map]; rfl
    simp [gx_t, e]
  refine ⟨ds, d1, by omega, d3, b5, ?_⟩
  rw [S_for, hi]; exact y2
theorem wy_k (hB : WB w M) {p : Nat} (hp : p < w.zones.length) (key : Key) (t : Int) {ds : List D} (d1 : ∀ d, d ∈ ds → WayOk w M p key t d) (d2 : ds.length ≤ 6000) (a5 : Option Sl) (S : Sto) (k : Nat) :
    ∃ ds2 : List D, (∀ d, d ∈ ds2 → WayOk w M p key t d) ∧ ds2.length ≤ 12000 ∧ ((ds ≠ [] ∨ ∃ r, r ∈ kdAt w p ∧ kGood w M p key t r) → ds2 ≠ []) ∧ ∃ b6 b10, evS (sem fns (k + 2 * p + 2)) clsT (.for_ (.nm 6) (.keys (.ix (.var 8) (.cst (.str "keys")))) wyK) [some (.d (eW w)), some (.d (.list (gotL w M w.zones.length))), some (.d (.int (p : Int))), some (.d (enP key)), some (.d (.int t)), a5, none, some (.d (eZ (zO w p))), some (.d (gotRow w M p)), some (.own (.list ds)), none] S
      = some (.nx [some (.d (eW w)), some (.d (.list (gotL w M w.zones.length))), some (.d (.int (p : Int))), some (.d (enP key)), some (.d (.int t)), a5, b6, some (.d (eZ (zO w p))), some (.d (gotRow w M p)), some (.own (.list ds2)), b10], S) := by
  have hkl := kd_len hB hp
  have hx := gx_k w M p
  have z1 := for_nx (tg := .nm 6) (body := fun env' S' => evB (sem fns (k + 2 * p + 2)) clsT wyK env' S') (enc := fun r : (Nat × List Key) × List Key => eNT r.1) (xs := kdAt w p) (S := S)
    (env := [some (.d (eW w)), some (.d (.list (gotL w M w.zones.length))), some (.d (.int (p : Int))), some (.d (enP key)), some (.d (.int t)), a5, none, some (.d (eZ (zO w p))), some (.d (gotRow w M p)), some (.own (.list ds)), none])
    (fun dn env' S' => S' = S ∧ ∃ ds2 : List D, (∀ d, d ∈ ds2 → WayOk w M p key t d) ∧ ds2.length ≤ ds.length + dn.length * 2 ∧ ((ds ≠ [] ∨ ∃ r, r ∈ dn ∧ kGood w M p key t r) → ds2 ≠ []) ∧ ∃ a6 a10, env' = [some (.d (eW w)), some (.d (.list (gotL w M w.zones.length))), some (.d (.int (p : Int))), some (.d (enP key)), some (.d (.int t)), a5, a6, some (.d (eZ (zO w p))), some (.d (gotRow w M p)), some (.own (.list ds2)), a10])
    ⟨rfl, ds, d1, by simp, (fun h => by
      rcases h with h | ⟨_, h, _⟩
      · exact h
      · cases h), none, none, rfl⟩ fun dn r rest env1 S1 hdq hp1 => by
      obtain ⟨rfl, ds1, f1, f2, f3, a6, a10, rfl⟩ := hp1
      have hrm : r ∈ kdAt w p := by rw [hdq]; simp
      have hlen : dn.length + 1 ≤ (kdAt w p).length := by rw [hdq]; simp
      have hrl := kd_lt hrm
      have hv := verO_eq hrl
      have hgr := kd_get hB hp hrm
      have hir : ixD (lK M (kdAt w p)) (eNT r.1) = some (.list ((tl M r.2).map enI)) := by
        rw [ix_lK, hgr]; rfl
      have i0 : ixD (eNT r.1) (.int 0) = some (.int (r.1.1 : Int)) := atI0 _ _
      have i1 : ixD (eNT r.1) (.int 1) = some (eT r.1.2) := atI1 _ _ _
      have h67 := lawUses_ok key ((zO w p).line[r.1.1].2) r.1.2 w.each (k + 2 * p) S1
      by_cases he : enV key ((zO w p).line[r.1.1].2) r.1.2 w.each = true
      · rw [he] at h67
        have he' : enV key (verO (zO w p) r.1.1) r.1.2 w.each = true := by rw [hv]; exact he
        have y1 := for_nx (tg := .nm 10) (body := fun env' S' => evB (sem fns (k + 2 * p + 2)) clsT wyI env' S') (enc := enI) (xs := last2 (tl M r.2)) (S := S1)
          (env := [some (.d (eW w)), some (.d (.list (gotL w M w.zones.length))), some (.d (.int (p : Int))), some (.d (enP key)), some (.d (.int t)), a5, some (.d (eNT r.1)), some (.d (eZ (zO w p))), some (.d (gotRow w M p)), some (.own (.list ds1)), a10])
          (fun dn2 env' S' => S' = S1 ∧ ∃ ds2 : List D, (∀ d, d ∈ ds2 → WayOk w M p key t d) ∧ ds2.length ≤ ds1.length + dn2.length ∧ ((ds1 ≠ [] ∨ ∃ x, x ∈ dn2 ∧ x ≤ t ∧ t < x + (zO w p).kl) → ds2 ≠ []) ∧ ∃ a10, env' = [some (.d (eW w)), some (.d (.list (gotL w M w.zones.length))), some (.d (.int (p : Int))), some (.d (enP key)), some (.d (.int t)), a5, some (.d (eNT r.1)), some (.d (eZ (zO w p))), some (.d (gotRow w M p)), some (.own (.list ds2)), a10])
          ⟨rfl, ds1, f1, by simp, (fun h => by
            rcases h with h | ⟨_, h, _⟩
            · exact h
            · cases h), a10, rfl⟩ fun dn2 x rest2 env2 S2 hdq2 hp2 => by
            obtain ⟨rfl, ds2, g1, g2, g3, a10, rfl⟩ := hp2
            have hxm2 : x ∈ last2 (tl M r.2) := by rw [hdq2]; simp
            have hxm : x ∈ tl M r.2 := last2_mem hxm2
            have hl2 := last2_len (tl M r.2)
            have hl3 : dn2.length + 1 ≤ (last2 (tl M r.2)).length := by rw [hdq2]; simp
            by_cases hc1 : x ≤ t
            · by_cases hc2 : t < x + (zO w p).kl
              · obtain ⟨v, hs, l, h0, h2, h3, rfl⟩ := way_keys hB k S2 p hp r hrm x hxm
                have hap := app_ok (xs := ds2) (by unfold sizeLine; omega) (.tuple [.tuple (ansFrom 0 (l ++ [(x, r.1.1)])), .none, .int t])
                refine ⟨_, [some (.d (eW w)), some (.d (.list (gotL w M w.zones.length))), some (.d (.int (p : Int))), some (.d (enP key)), some (.d (.int t)), a5, some (.d (eNT r.1)), some (.d (eZ (zO w p))), some (.d (gotRow w M p)), some (.own (.list (ds2 ++ [.tuple [.tuple (ansFrom 0 (l ++ [(x, r.1.1)])), .none, .int t]]))), some (.d (.int x))], S2, rfl, ?_, rfl, _, ?_, ?_, ?_, _, rfl⟩
                · simp [wyI, enI, hc1, hc2, hs, hap]
                · intro d hd
                  rcases List.mem_append.mp hd with hd | hd
                  · exact g1 d hd
                  · simp at hd
                    exact .inr (.inr ⟨l, r.1.1, r.1.2, x, r.2, hrm, he', hxm, h0, h2, h3, hc1, hc2, hd⟩)
                · simp; omega
                · simp
              · refine ⟨_, [some (.d (eW w)), some (.d (.list (gotL w M w.zones.length))), some (.d (.int (p : Int))), some (.d (enP key)), some (.d (.int t)), a5, some (.d (eNT r.1)), some (.d (eZ (zO w p))), some (.d (gotRow w M p)), some (.own (.list ds2)), some (.d (.int x))], S2, rfl, ?_, rfl, ds2, g1, ?_, ?_, _, rfl⟩
                · simp [wyI, enI, hc1, hc2]
                · simp; omega
                · rintro (h | ⟨x', h, h'⟩)
                  · exact g3 (.inl h)
                  · rcases List.mem_append.mp h with h | h
                    · exact g3 (.inr ⟨x', h, h'⟩)
                    · simp at h; subst h; exact absurd h'.2 hc2
            · refine ⟨_, [some (.d (eW w)), some (.d (.list (gotL w M w.zones.length))), some (.d (.int (p : Int))), some (.d (enP key)), some (.d (.int t)), a5, some (.d (eNT r.1)), some (.d (eZ (zO w p))), some (.d (gotRow w M p)), some (.own (.list ds2)), some (.d (.int x))], S2, rfl, ?_, rfl, ds2, g1, ?_, ?_, _, rfl⟩
              · simp [wyI, enI, hc1]
              · simp; omega
              · rintro (h | ⟨x', h, h'⟩)
                · exact g3 (.inl h)
                · rcases List.mem_append.mp h with h | h
                  · exact g3 (.inr ⟨x', h, h'⟩)
                  · simp at h; subst h; exact absurd h'.1 hc1
        obtain ⟨env2, S2, y2, rfl, ds2, g1, g2, g3, b10, rfl⟩ := y1
        have hi2 : evIt (sem fns (k + 2 * p + 2)) clsT (.seq (.sl (.ix (.ix (.var 8) (.cst (.str "keys"))) (.var 6)) (some (-2)) none)) [some (.d (eW w)), some (.d (.list (gotL w M w.zones.length))), some (.d (.int (p : Int))), some (.d (enP key)), some (.d (.int t)), a5, some (.d (eNT r.1)), some (.d (eZ (zO w p))), some (.d (gotRow w M p)), some (.own (.list ds1)), a10] S2 = some ((last2 (tl M r.2)).map enI, S2) := by
          simp [hx, hir, sl2]
        have y3 : evS (sem fns (k + 2 * p + 2)) clsT (.for_ (.nm 10) (.seq (.sl (.ix (.ix (.var 8) (.cst (.str "keys"))) (.var 6)) (some (-2)) none)) wyI) [some (.d (eW w)), some (.d (.list (gotL w M w.zones.length))), some (.d (.int (p : Int))), some (.d (enP key)), some (.d (.int t)), a5, some (.d (eNT r.1)), some (.d (eZ (zO w p))), some (.d (gotRow w M p)), some (.own (.list ds1)), a10] S2
            = some (.nx [some (.d (eW w)), some (.d (.list (gotL w M w.zones.length))), some (.d (.int (p : Int))), some (.d (enP key)), some (.d (.int t)), a5, some (.d (eNT r.1)), some (.d (eZ (zO w p))), some (.d (gotRow w M p)), some (.own (.list ds2)), b10], S2) := by
          rw [S_for, hi2]; exact y2
        refine ⟨_, [some (.d (eW w)), some (.d (.list (gotL w M w.zones.length))), some (.d (.int (p : Int))), some (.d (enP key)), some (.d (.int t)), a5, some (.d (eNT r.1)), some (.d (eZ (zO w p))), some (.d (gotRow w M p)), some (.own (.list ds2)), b10], S2, rfl, ?_, rfl, ds2, g1, ?_, ?_, _, _, rfl⟩
        · simp [wyK, i0, i1, ix_nat, hrl, h67, y3]
        · have := last2_len (tl M r.2)
          simp; omega
        · rintro (h | ⟨r2, h, h'⟩)
          · exact g3 (.inl (f3 (.inl h)))
          · rcases List.mem_append.mp h with h | h
            · exact g3 (.inl (f3 (.inr ⟨r2, h, h'⟩)))
            · simp at h; subst h
              obtain ⟨_, x, hx, hxc⟩ := h'
              exact g3 (.inr ⟨x, last2_last hx, hxc⟩)
      · rw [Bool.not_eq_true] at he
        rw [he] at h67
        refine ⟨_, [some (.d (eW w)), some (.d (.list (gotL w M w.zones.length))), some (.d (.int (p : Int))), some (.d (enP key)), some (.d (.int t)), a5, some (.d (eNT r.1)), some (.d (eZ (zO w p))), some (.d (gotRow w M p)), some (.own (.list ds1)), a10], S1, rfl, ?_, rfl, ds1, f1, ?_, ?_, _, _, rfl⟩
        · simp [wyK, i0, i1, ix_nat, hrl, h67]
        · simp; omega
        · rintro (h | ⟨r2, h, h'⟩)
          · exact f3 (.inl h)
          · rcases List.mem_append.mp h with h | h
            · exact f3 (.inr ⟨r2, h, h'⟩)
            · simp at h; subst h
              have := h'.1
              rw [hv, he] at this; cases this
  obtain ⟨env2, S2, y2, rfl, ds2, g1, g2, g3, b6, b10, rfl⟩ := z1
  have hi : evIt (sem fns (k + 2 * p + 2)) clsT (.keys (.ix (.var 8) (.cst (.str "keys")))) [some (.d (eW w)), some (.d (.list (gotL w M w.zones.length))), some (.d (.int (p : Int))), some (.d (enP key)), some (.d (.int t)), a5, none, some (.d (eZ (zO w p))), some (.d (gotRow w M p)), some (.own (.list ds)), none] S2 = some ((kdAt w p).map fun r => eNT r.1, S2) := by
    have e : itemsOf 3 (lK M (kdAt w p)) = some ((kdAt w p).map fun r => eNT r.1) := by
      show some ((eD eNT (vLI M) (kdAt w p)).map (·.1)) = _
      unfold eD; rw [List.map_map]; rfl
    simp [hx, e]
  refine ⟨ds2, g1, by omega, g3, b6, b10, ?_⟩
  rw [S_for, hi]; exact y2
theorem ways_ok (hB : WB w M) {p : Nat} (hp : p < w.zones.length) (key : Key) (t : Int) (S : Sto) (k : Nat) :
    ∃ ds : List D, sem fns (k + 2 * p + 3) 76 [.d (eW w), .d (.list (gotL w M w.zones.length)), .d (.int (p : Int)), .d (enP key), .d (.int t)] S = some (.d (.list ds), S) ∧ (∀ d, d ∈ ds → WayOk w M p key t d) ∧ ds.length ≤ 12000 ∧ (((∃ q, q ∈ tdAt w p ∧ tGood w M p key t q) ∨ ∃ r, r ∈ kdAt w p ∧ kGood w M p key t r) → ds ≠ []) := by
  obtain ⟨ds, d1, d2, d3, b5, y1⟩ := wy_t hB hp key t S k
  obtain ⟨ds2, g1, g2, g3, b6, b10, y2⟩ := wy_k hB hp key t d1 d2 b5 S k
  refine ⟨ds2, ?_, g1, g2, fun h => g3 (h.imp d3 id)⟩
  have hgo := ix_got w M hp
  have hz' : ixD (.tuple (w.zones.map eZ)) (.int (p : Int)) = some (eZ (zO w p)) := by
    rw [ix_nat, zO_eq hp]; simp [hp]
  rw [semS rfl]
  unfold wyT at y1
  unfold wyK wyI at y2
  simp [runF, envOf, cd__law_ways, hgo, hz', y1, y2]
end
end VI.M
set_option Elab.async false
set_option linter.all false
set_option maxRecDepth 100000
/-! M46: the last moments. -/
namespace VI.M
open PySem
theorem maxend {s : List Key} (h : s ≠ []) : ∃ q, q ∈ s ∧ q.2 = maxL (s.map (·.2)) := by
  have h1 := (maxL_spec (l := s.map (·.2)) (by simpa using h)).1
  obtain ⟨q, hq, e⟩ := List.mem_map.mp h1
  exact ⟨q, hq, e⟩
theorem cov_max {s : List Key} {x : Int} (h : Cov s x) : x ≤ maxL (s.map (·.2)) := by
  obtain ⟨q, hq, _, h2⟩ := h
  have hne : s ≠ [] := by intro e; rw [e] at hq; cases hq
  have := (maxL_spec (l := s.map (·.2)) (by simpa using hne)).2 q.2 (List.mem_map.mpr ⟨q, hq, rfl⟩)
  omega
theorem last_sorted {l : List Int} (hs : l.Pairwise (· < ·)) {x : Int} (hx : x ∈ l) (hm : ∀ y, y ∈ l → y ≤ x) : l.getLast? = some x := by
  rcases List.eq_nil_or_concat l with rfl | ⟨a, y, rfl⟩
  · cases hx
  · rw [List.concat_eq_append] at *
    simp
    have h1 := hm y (by simp)
    rcases List.mem_append.mp hx with h | h
    · have := (List.pairwise_append.mp hs).2.2 x h y (by simp)
      omega
    · simp at h; omega
section
variable {w : Wld} {M : Nat} {p : Nat} {key : Key} {m b c e : Int}
theorem lg_le {r : (Nat × List Key) × List Key} (hr : r ∈ kdAt w p) (he : enV key (verO (zO w p) r.1.1) r.1.2 w.each = true) : lastH r.2 (zO w p).kl ≤ lgB w p key := by
  unfold lgB
  refine (maxL_spec (by simp)).2 _ (List.mem_cons_of_mem _ (List.mem_filterMap.mpr ⟨r, hr, ?_⟩))
  unfold lgF; rw [if_pos he]
theorem lm_le {q : List Key × Option (List Key)} (hq : q ∈ tdAt w p) (he : enT key q.1 w.each = true) : (match q.2 with | none => 1000000000 | some s => lastH s (zO w (p - 1)).rl) + (zO w p).kl - 1 ≤ lmB w p key := by
  unfold lmB
  refine (maxL_spec (by simp)).2 _ (List.mem_cons_of_mem _ (List.mem_filterMap.mpr ⟨q, hq, ?_⟩))
  unfold lmF; first | (rw [if_pos he]; done) | (rw [if_pos he]; rfl)
theorem lg_in (h : 0 ≤ lgB w p key) : ∃ r, r ∈ kdAt w p ∧ enV key (verO (zO w p) r.1.1) r.1.2 w.each = true ∧ lgB w p key = lastH r.2 (zO w p).kl := by
  have h1 := (maxL_spec (l := -1 :: (kdAt w p).filterMap (lgF (zO w p) key w.each)) (by simp)).1
  rcases List.mem_cons.mp h1 with h2 | h2
  · have : lgB w p key = -1 := h2
    omega
  · obtain ⟨r, hr, e⟩ := List.mem_filterMap.mp h2
    unfold lgF at e
    split at e
    · rename_i he
      simp at e
      exact ⟨r, hr, he, e.symm⟩
    · cases e
theorem lm_in (h : 0 ≤ lmB w p key) : ∃ q, q ∈ tdAt w p ∧ enT key q.1 w.each = true ∧ lmB w p key = (match q.2 with | none => 1000000000 | some s => lastH s (zO w (p - 1)).rl) + (zO w p).kl - 1 := by
  have h1 := (maxL_spec (l := -1 :: (tdAt w p).filterMap (lmF key w.each (zO w (p - 1)).rl (zO w p).kl)) (by simp)).1
  rcases List.mem_cons.mp h1 with h2 | h2
  · have : lmB w p key = -1 := h2
    omega
  · obtain ⟨r, hr, e⟩ := List.mem_filterMap.mp h2
    unfold lmF at e
    split at e
    · rename_i he
      simp only [Option.some.injEq] at e
      exact ⟨r, hr, he, e.symm⟩
    · cases e
theorem lf_max : lgB w p key ≤ lastF w p key ∧ lmB w p key ≤ lastF w p key ∧ (lastF w p key = lgB w p key ∨ lastF w p key = lmB w p key) := by
  unfold lastF
  split <;> omega
theorem td_from (hB : WB w M) (hp : p + 1 < w.zones.length) {q : List Key × Option (List Key)} (hq : q ∈ tdAt w (p + 1)) : ∃ s, q.2 = some s ∧ NE s ∧ s ≠ [] ∧ ∀ e, Cov s e ↔ ∃ r, r ∈ rdAt w p ∧ (verO (zO w p) r.1).trust = some q.1 ∧ Cov r.2 e := by
  obtain ⟨m', b', c', e', pg'⟩ := (hB.pl p (by omega)).pg
  have hrg := pg'.rgs
  obtain ⟨_, ha, _⟩ := tb_all (zO w p) (rdAt w p) fun r hr => ⟨(hrg r hr).1.ne, (hrg r hr).2⟩
  exact ha q hq
/-! bounds of the ways -/
theorem gen_bound {r : (Nat × List Key) × List Key} (hr : r ∈ kdAt w p) (he : enV key (verO (zO w p) r.1.1) r.1.2 w.each = true) {x : Int} (hx : x ∈ tl M r.2) : x + (zO w p).kl - 1 ≤ lastF w p key := by
  have h1 := lg_le hr he
  have h2 := (lf_max (w := w) (p := p) (key := key)).1
  have h3 := cov_max (mem_tl.mp hx).2
  unfold lastH at h1
  omega
theorem made_bound (hB : WB w M) (hp : p + 1 < w.zones.length) {q : List Key × Option (List Key)} (hq : q ∈ tdAt w (p + 1)) (he : enT key q.1 w.each = true) {r : Nat × List Key} (hr : r ∈ rdAt w p) (hrt : (verO (zO w p) r.1).trust = some q.1) {x : Int} (hx : x ∈ tl M r.2) : x + (zO w p).rl - 1 + (zO w (p + 1)).kl - 1 ≤ lastF w (p + 1) key := by
  obtain ⟨s, g1, g2, g3, g4⟩ := td_from hB hp hq
  have h1 := lm_le hq he
  rw [g1] at h1
  have h2 := (lf_max (w := w) (p := p + 1) (key := key)).2.1
  have h3 := cov_max ((g4 x).mpr ⟨r, hr, hrt, (mem_tl.mp hx).2⟩)
  unfold lastH at h1
  simp only [Nat.add_sub_cancel] at h1
  omega
theorem anc_bound (hk : 1 ≤ (zO w 0).kl) (he : enT key w.anchors w.each = true) : EV ≤ lastF w 0 key := by
  have hq : (w.anchors, none) ∈ tdAt w 0 := by unfold tdAt; simp
  have h1 := lm_le hq (key := key) he
  have h2 := (lf_max (w := w) (p := 0) (key := key)).2.1
  simp only at h1
  unfold EV
  omega
/-! there is a way -/
theorem gs_end {s : List Key} {b : Int} (h : GS b s) (hne : s ≠ []) (hb : b < EV) : (maxL (s.map (·.2)) = EV ∧ ∀ M : Nat, b < (M : Int) → (M : Int) ≤ EV → Cov s ((M : Int) - 1)) ∨ (maxL (s.map (·.2)) ≤ b ∧ Cov s (maxL (s.map (·.2))) ∧ 0 ≤ maxL (s.map (·.2))) := by
  obtain ⟨q, hq, e⟩ := maxend hne
  obtain ⟨a1, a2, a3, a4⟩ := h q hq
  rcases a4 with a4 | a4
  · left
    refine ⟨by rw [← e]; exact a4, fun M h1 h2 => ⟨q, hq, by omega, by omega⟩⟩
  · right
    rw [← e]
    exact ⟨a4, ⟨q, hq, a2, Int.le_refl _⟩, by omega⟩
theorem tl_lastM {s : List Key} (hM : 0 < M) (h : Cov s ((M : Int) - 1)) : (tl M s).getLast? = some ((M : Int) - 1) :=
  last_sorted (tl_sorted M s) (mem_tl.mpr ⟨by omega, h⟩) fun y hy => by have := (mem_tl.mp hy).1; omega
theorem tl_lastX {s : List Key} {x : Int} (h0 : 0 ≤ x) (h1 : x < (M : Int)) (h : Cov s x) (hm : ∀ y, Cov s y → y ≤ x) : (tl M s).getLast? = some x :=
  last_sorted (tl_sorted M s) (mem_tl.mpr ⟨⟨h0, h1⟩, h⟩) fun y hy => hm y (mem_tl.mp hy).2
theorem some_way (hB : WB w M) (hp : p < w.zones.length) (hM : 0 < M) {t : Int} (ht : t = match lastO w p key with | none => (M : Int) - 1 | some L => L) (h0 : 0 ≤ t) :
    (∃ q, q ∈ tdAt w p ∧ tGood w M p key t q) ∨ ∃ r, r ∈ kdAt w p ∧ kGood w M p key t r := by
  obtain ⟨m, b, c, e, pg⟩ := (hB.pl p hp).pg
  have hkl := pg.g.kl
  have hME := pg.hM
  have hce := pg.ce
  have hc1 := pg.c1
  have heM := pg.eM
  have hbl := pg.bl
  have hkg : ∀ r, r ∈ kdAt w p → GS c r.2 ∧ r.2 ≠ [] := fun r hr => by
    obtain ⟨a1, a2, _⟩ := pg.kgs r (by rw [← kd_life]; exact hr)
    exact ⟨a1, a2⟩
  obtain ⟨_, _, hlf⟩ := lf_max (w := w) (p := p) (key := key)
  have hpos : 0 ≤ lastF w p key := by
    unfold lastO at ht
    split at ht
    · rename_i hx
      split at hx
      · omega
      · cases hx
    · rename_i L hx
      split at hx
      · cases hx
      · simp at hx; omega
  rcases hlf with hlf | hlf
  · right
    obtain ⟨r, hr, he, hv⟩ := lg_in (w := w) (p := p) (key := key) (by omega)
    obtain ⟨hg, hne⟩ := hkg r hr
    refine ⟨r, hr, he, ?_⟩
    unfold lastH at hv
    rcases gs_end hg hne (by omega) with ⟨h1, h2⟩ | ⟨h1, h2, h3⟩
    · have hno : lastO w p key = none := by unfold lastO; rw [if_pos (by unfold EV at h1; omega)]
      rw [hno] at ht
      simp only at ht
      exact ⟨(M : Int) - 1, tl_lastM hM (h2 M (by omega) hME), by omega, by omega⟩
    · have hso : lastO w p key = some (lastF w p key) := by unfold lastO; rw [if_neg (by unfold EV at hME; omega)]
      rw [hso] at ht
      simp only at ht
      exact ⟨_, tl_lastX h3 (by omega) h2 fun y hy => cov_max hy, by omega, by omega⟩
  · left
    obtain ⟨q, hq, he, hv⟩ := lm_in (w := w) (p := p) (key := key) (by omega)
    refine ⟨q, hq, he, ?_⟩
    cases p with
    | zero => exact .inl rfl
    | succ p =>
      right
      refine ⟨p, rfl, ?_⟩
      obtain ⟨s, g1, g2, g3, g4⟩ := td_from hB hp hq
      have hgs : GS b s := pg.q q hq s g1
      have hl : lifeAt w (p + 1) = (zO w p).rl := rfl
      have hl1 := pg.l1
      rw [hl] at hl1 hbl
      rw [g1] at hv
      simp only [Nat.add_sub_cancel] at hv
      unfold lastH at hv
      rcases gs_end hgs g3 (by omega) with ⟨h1, h2⟩ | ⟨h1, h2, h3⟩
      · have hno : lastO w (p + 1) key = none := by unfold lastO; rw [if_pos (by unfold EV at h1; omega)]
        rw [hno] at ht
        simp only at ht
        obtain ⟨r, hr, hrt, hrc⟩ := (g4 _).mp (h2 M (by omega) hME)
        refine ⟨r, hr, hrt, (M : Int) - 1, tl_lastM hM hrc, ?_⟩
        unfold mCond mkT
        split <;> omega
      · have hso : lastO w (p + 1) key = some (lastF w (p + 1) key) := by unfold lastO; rw [if_neg (by unfold EV at hME; omega)]
        rw [hso] at ht
        simp only at ht
        obtain ⟨r, hr, hrt, hrc⟩ := (g4 _).mp h2
        refine ⟨r, hr, hrt, _, tl_lastX h3 (by omega) hrc fun y hy => cov_max ((g4 y).mpr ⟨r, hr, hrt, hy⟩), ?_⟩
        unfold mCond mkT
        split <;> omega
theorem last_neg : -1 ≤ lastF w p key := by
  have h1 := (maxL_spec (l := -1 :: (kdAt w p).filterMap (lgF (zO w p) key w.each)) (by simp)).2 (-1) (List.mem_cons_self ..)
  have h2 := (lf_max (w := w) (p := p) (key := key)).1
  have h3 : -1 ≤ lgB w p key := h1
  omega
end
end VI.M
set_option Elab.async false
set_option linter.all false
set_option maxRecDepth 100000
/-! M47: all ways are shown, none a moment later. -/
namespace VI.M
open PySem
def wy0 (d : D) : D := match ixD d (.int 0) with
  | some x => x
  | none => .none
def wy1 (d : D) : D := match ixD d (.int 1) with
  | some x => x
  | none => .none
def lat1 (L : Int) (d : D) : D := .tuple [wy0 d, wy1 d, .int (L + 1)]
def lat2 (L : Int) (d : D) : D := .tuple [wy0 d, .int (L + 1), .int (L + 1)]
theorem wy0_t (a b c : D) : wy0 (.tuple [a, b, c]) = a := by
  have e : ixD (.tuple [a, b, c]) (.int 0) = some a := atI0 _ _
  unfold wy0; rw [e]
theorem wy1_t (a b c : D) : wy1 (.tuple [a, b, c]) = b := by
  have e : ixD (.tuple [a, b, c]) (.int 1) = some b := atI1 _ _ _
  unfold wy1; rw [e]
section
variable {w : Wld} {M : Nat} {p : Nat} {key : Key} {d : D} {t : Int}
theorem way_ix (h : WayOk w M p key t d) : ixD d (.int 0) = some (wy0 d) ∧ ixD d (.int 1) = some (wy1 d) := by
  have z : ∀ a b c : D, ixD (.tuple [a, b, c]) (.int 0) = some (wy0 (.tuple [a, b, c])) ∧ ixD (.tuple [a, b, c]) (.int 1) = some (wy1 (.tuple [a, b, c])) := fun a b c => by
    rw [wy0_t, wy1_t]; exact ⟨atI0 _ _, atI1 _ _ _⟩
  rcases h with ⟨_, _, rfl⟩ | ⟨_, _, _, _, _, _, _, _, _, _, _, _, _, _, _, _, rfl⟩ | ⟨_, _, _, _, _, _, _, _, _, _, _, _, _, rfl⟩
  · exact z _ _ _
  · exact z _ _ _
  · exact z _ _ _
theorem way_now (hB : WB w M) (hp : p < w.zones.length) (h0 : 0 ≤ t) (h : WayOk w M p key t d) (S : Sto) (k : Nat) : sem fns (k + 14) 51 [.d (eW w), .d (.int (p : Int)), .d (enP key), .d d] S = some (.d (.bool true), S) := by
  obtain ⟨m, b, c, e, pg⟩ := (hB.pl p hp).pg
  have hkl := pg.g.kl
  have h3 := hB.n3
  rcases h with ⟨rfl, he, rfl⟩ | ⟨p', q, rfl, hq, he, l, n, x, s, g1, g2, g3, g4, g5, g6, g7, rfl⟩ | ⟨l, n, tr, x, s, g1, he, g2, g3, g4, g5, g6, g7, rfl⟩
  · have z := made_zero w key t S k
    have y := show_m (A := []) (tm := t) (mk := t) hp h0 h0 fun _ _ => z
    rw [y, he]
    simp
    omega
  · have hx0 := l_time0 g3
    obtain ⟨m', b', c', e', pg'⟩ := (hB.pl p' (by omega)).pg
    have hrl := pg'.g.rl
    have z := made_ok g4 (p := p') (by simp [g5]; omega) (by omega) (by omega) key (mkT t x (zO w p').rl) S k
    have y := show_m (p := p' + 1) (A := ansFrom 0 (l ++ [(x, n)])) (tm := t) (mk := mkT t x (zO w p').rl) hp h0 (by omega) fun _ _ => z
    rw [y, he]
    have h1 : mkT t x (zO w p').rl ≤ t := by unfold mkT; split <;> omega
    have h2 : mkT t x (zO w p').rl < x + (zO w p').rl := by unfold mkT; split <;> omega
    simp [h1, h2, g6, g7]
  · have hnl := kd_lt g1
    have z := gen_ok g3 g4 g5 (by omega) hp hnl key t S k
    have y := show_n hp h0 z
    rw [y, he]
    simp [g6, g7]
theorem way_later (hB : WB w M) (hp : p < w.zones.length) (h0 : 0 ≤ t) (hl : lastO w p key = some t) (h : WayOk w M p key t d) (S : Sto) (k : Nat) :
    sem fns (k + 14) 51 [.d (eW w), .d (.int (p : Int)), .d (enP key), .d (lat1 t d)] S = some (.d (.bool false), S) ∧ sem fns (k + 14) 51 [.d (eW w), .d (.int (p : Int)), .d (enP key), .d (lat2 t d)] S = some (.d (.bool false), S) := by
  obtain ⟨m, b, c, e, pg⟩ := (hB.pl p hp).pg
  have hkl := pg.g.kl
  have h3 := hB.n3
  have hlt : lastF w p key = t ∧ t < EV := by
    unfold lastO at hl
    split at hl
    · cases hl
    · simp at hl
      refine ⟨hl, ?_⟩
      unfold EV; omega
  rcases h with ⟨rfl, he, rfl⟩ | ⟨p', q, rfl, hq, he, l, n, x, s, g1, g2, g3, g4, g5, g6, g7, rfl⟩ | ⟨l, n, tr, x, s, g1, he, g2, g3, g4, g5, g6, g7, rfl⟩
  · have := anc_bound hkl he
    omega
  · have hx0 := l_time0 g3
    obtain ⟨m', b', c', e', pg'⟩ := (hB.pl p' (by omega)).pg
    have hrl := pg'.g.rl
    have hbd := made_bound hB hp hq he g1 g2 g3
    have h1 : mkT t x (zO w p').rl ≤ x + (zO w p').rl - 1 := by unfold mkT; split <;> omega
    refine ⟨?_, ?_⟩
    · unfold lat1
      rw [wy0_t, wy1_t]
      have y := show_m (b := false) (p := p' + 1) (q := key) (A := ansFrom 0 (l ++ [(x, n)])) (tm := t + 1) (mk := mkT t x (zO w p').rl) (S := S) (k := k) hp (by omega) (by omega) fun _ h => by omega
      rw [y]
      simp
    · unfold lat2
      rw [wy0_t]
      have z := made_ok g4 (p := p') (by simp [g5]; omega) (by omega) (by omega) key (t + 1) S k
      have y := show_m (p := p' + 1) (A := ansFrom 0 (l ++ [(x, n)])) (tm := t + 1) (mk := t + 1) hp (by omega) (by omega) fun _ _ => z
      rw [y]
      have h2 : ¬ t + 1 < x + (zO w p').rl := by omega
      simp [h2]
  · have hnl := kd_lt g1
    have hx0 := l_time0 g2
    have hbd := gen_bound g1 he g2
    refine ⟨?_, ?_⟩
    · unfold lat1
      rw [wy0_t, wy1_t]
      have z := gen_ok g3 g4 g5 (by omega) hp hnl key (t + 1) S k
      have y := show_n hp (by omega) z
      rw [y]
      have h2 : ¬ t + 1 < x + (zO w p).kl := by omega
      simp [h2]
    · unfold lat2
      rw [wy0_t]
      have z := made_odd g4 (p := p) (by simp [g5]) (by omega) key (t + 1) S k
      have y := show_m (A := ansFrom 0 (l ++ [(x, n)])) (tm := t + 1) (mk := t + 1) hp (by omega) (by omega) fun _ _ => z
      rw [y]
      simp
theorem asB_const (b : Bool) (l : List D) : asBools (l.map fun _ => PyData.bool b) = some (l.map fun _ => b) := asBools_map (fun _ => b) l
theorem isb_t (b : Bool) : cmpD .isb (.bool b) (.bool true) = some b := by cases b <;> rfl
theorem shown_ok (hB : WB w M) (hp : p < w.zones.length) {ds : List D} (hlen : ds.length ≤ 12000) (ht : t = match lastO w p key with | none => (M : Int) - 1 | some L => L) (hds : ∀ d, d ∈ ds → 0 ≤ t ∧ WayOk w M p key t d) (S : Sto) (k : Nat) :
    sem fns (k + 15) 79 [.d (eW w), .d (.int (p : Int)), .d (enP key), .d (.list ds), .d (eOI (lastO w p key))] S = some (.d (.bool true), S) := by
  rw [semS rfl]
  have h1 : evE (sem fns (k + 14)) clsT (.comp (.cmp .isb (.fc 51 [(.var 0), (.var 1), (.var 2), (.var 6)]) (.cst (.bool true))) (.nm 6) (.seq (.var 3)) none) [some (.d (eW w)), some (.d (.int (p : Int))), some (.d (enP key)), some (.d (.list ds)), some (.d (eOI (lastO w p key))), none, none] S = some (.d (.list (ds.map fun _ => .bool true)), S) :=
    comp_all (enc := fun d : D => d) (g := fun _ => .bool true) (by simp) fun d hd => ⟨_, rfl, by
      have z := way_now hB hp (hds d hd).1 (hds d hd).2 S k
      simp [wipeE, tgSlots, z, isb_t]⟩
  have a1 : (ds.map fun _ => true).all id = true := by rw [all_id]; simp
  cases hlo : lastO w p key with
  | none =>
    rw [hlo] at h1
    have eo : eOI none = .none := rfl
    rw [eo] at h1 ⊢
    simp [runF, envOf, cd__law_shown, h1, asB_const, a1]
  | some L =>
    rw [hlo] at h1 ht
    simp only at ht
    subst ht
    have h2 : ∀ a5, evE (sem fns (k + 14)) clsT (.comp (.tup [(.ix (.var 6) (.cst (.int 0))), (.ix (.var 6) (.cst (.int 1))), (.bin .add (.var 4) (.cst (.int 1)))]) (.nm 6) (.seq (.var 3)) none) [some (.d (eW w)), some (.d (.int (p : Int))), some (.d (enP key)), some (.d (.list ds)), some (.d (.int t)), a5, none] S = some (.d (.list (ds.map (lat1 t))), S) := fun a5 =>
      comp_all (enc := fun d : D => d) (g := lat1 t) (by simp) fun d hd => ⟨_, rfl, by
        obtain ⟨z1, z2⟩ := way_ix (hds d hd).2
        simp [wipeE, tgSlots, z1, z2, lat1]⟩
    have h3 : ∀ a5, evE (sem fns (k + 14)) clsT (.comp (.tup [(.ix (.var 6) (.cst (.int 0))), (.bin .add (.var 4) (.cst (.int 1))), (.bin .add (.var 4) (.cst (.int 1)))]) (.nm 6) (.seq (.var 3)) none) [some (.d (eW w)), some (.d (.int (p : Int))), some (.d (enP key)), some (.d (.list ds)), some (.d (.int t)), a5, none] S = some (.d (.list (ds.map (lat2 t))), S) := fun a5 =>
      comp_all (enc := fun d : D => d) (g := lat2 t) (by simp) fun d hd => ⟨_, rfl, by
        obtain ⟨z1, z2⟩ := way_ix (hds d hd).2
        simp [wipeE, tgSlots, z1, lat2]⟩
    have h4 : evE (sem fns (k + 14)) clsT (.comp (.fc 51 [(.var 0), (.var 1), (.var 2), (.var 6)]) (.nm 6) (.seq (.var 5)) none) [some (.d (eW w)), some (.d (.int (p : Int))), some (.d (enP key)), some (.d (.list ds)), some (.d (.int t)), some (.d (.list (ds.map (lat1 t) ++ ds.map (lat2 t)))), none] S = some (.d (.list ((ds.map (lat1 t) ++ ds.map (lat2 t)).map fun _ => .bool false)), S) :=
      comp_all (enc := fun d : D => d) (g := fun _ => .bool false) (by rw [List.map_id']; simp) fun x hx => ⟨_, rfl, by
        have z : sem fns (k + 14) 51 [.d (eW w), .d (.int (p : Int)), .d (enP key), .d x] S = some (.d (.bool false), S) := by
          rcases List.mem_append.mp hx with hx | hx
          · obtain ⟨d, hd, rfl⟩ := List.mem_map.mp hx
            exact (way_later hB hp (hds d hd).1 hlo (hds d hd).2 S k).1
          · obtain ⟨d, hd, rfl⟩ := List.mem_map.mp hx
            exact (way_later hB hp (hds d hd).1 hlo (hds d hd).2 S k).2
        simp [wipeE, tgSlots, z]⟩
    have hb : binD .add (.list (ds.map (lat1 t))) (.list (ds.map (lat2 t))) = some (.list (ds.map (lat1 t) ++ ds.map (lat2 t))) := by
      rw [b_addL, decide_eq_true (by simp; unfold sizeLine; omega)]; rfl
    have a2 := asB_const false (ds.map (lat1 t) ++ ds.map (lat2 t))
    have a3 : ((ds.map (lat1 t) ++ ds.map (lat2 t)).map fun _ => false).any id = false := by rw [any_id]; simp
    have eo : eOI (some t) = .int t := rfl
    rw [eo] at h1 ⊢
    generalize hX : ds.map (lat1 t) ++ ds.map (lat2 t) = X at *
    simp [runF, envOf, cd__law_shown, h1, asB_const, a1, h2, h3, hb, h4]
end
end VI.M
set_option Elab.async false
set_option linter.all false
set_option maxRecDepth 100000
/-! M48: the KEYs of a zone; one KEY asked. -/
namespace VI.M
open PySem
def trK (x : Int × Ver) : List Key := match x.2.trust with
  | some t => t
  | none => []
def keyL (w : Wld) (p : Nat) : List Key := (if p = 0 then w.anchors else []) ++ (zO w p).line.flatMap (fun x => x.2.keys) ++ (if 0 < p then (zO w (p - 1)).line.flatMap trK else [])
structure KO (w : Wld) (p : Nat) : Prop where
  len : (keyL w p).length < 64
  rg : ∀ q, q ∈ keyL w p → (0 ≤ q.1 ∧ q.1 < 64) ∧ (0 ≤ q.2 ∧ q.2 < 64)
  tr : 0 < p → ∀ x, x ∈ (zO w (p - 1)).line → ∃ t, x.2.trust = some t
theorem srtD_P {ps : List Key} (h1 : ps.length < 64) (h2 : ∀ q, q ∈ ps → (0 ≤ q.1 ∧ q.1 < 64) ∧ (0 ≤ q.2 ∧ q.2 < 64)) : srtD (.list (ps.map enP)) = some (.list ((srtP (ddp ps)).map enP)) := by
  unfold srtD
  simp only
  cases ps with
  | nil =>
    have e : asInts (([] : List Key).map enP) = some [] := rfl
    rw [e]
    simp only
    have e2 : srtI (ddp ([] : List Int)) = [] := by simp [ddp, srtI]
    have e3 : srtP (ddp ([] : List Key)) = [] := by simp [ddp, srtP]
    rw [e2, e3]; rfl
  | cons p ps =>
    have e : asInts ((p :: ps).map enP) = none := rfl
    rw [e]
    simp only
    rw [asPairs_map]
    show gd (decide ((p :: ps).length < 64) && (p :: ps).all fun p => decide (0 ≤ p.1) && decide (p.1 < 64) && decide (0 ≤ p.2) && decide (p.2 < 64)) _ = _
    rw [decide_eq_true h1]
    have e2 : ((p :: ps).all fun p => decide (0 ≤ p.1) && decide (p.1 < 64) && decide (0 ≤ p.2) && decide (p.2 < 64)) = true := by
      rw [List.all_eq_true]
      intro q hq
      obtain ⟨⟨a1, a2⟩, a3, a4⟩ := h2 q hq
      simp [a1, a2, a3, a4]
    rw [e2]; rfl
theorem fm_snoc2 {α β : Type} (f : α → List β) (l : List α) (x : α) : (l ++ [x]).flatMap f = l.flatMap f ++ f x := by
  rw [List.flatMap_append]; simp
theorem addP {a b : List Key} (h : a.length + b.length ≤ 10000) : binD .add (.list (a.map enP)) (.list (b.map enP)) = some (.list ((a ++ b).map enP)) := by
  rw [b_addL, decide_eq_true (by simp; unfold sizeLine; omega), List.map_append]; rfl
theorem pre_len {α β : Type} (f : α → List β) {l a r : List α} {x : α} (h : l = a ++ x :: r) : (a.flatMap f).length + (f x).length ≤ (l.flatMap f).length := by
  rw [h, List.flatMap_append, List.flatMap_cons]; simp only [List.length_append]; omega
theorem keys_of_ok {w : Wld} {p : Nat} (hp : p < w.zones.length) (h : KO w p) (S : Sto) (k : Nat) : ∃ ks : List Key, sem fns (k + 1) 78 [.d (eW w), .d (.int (p : Int))] S = some (.d (.list (ks.map enP)), S) := by
  refine ⟨srtP (ddp (keyL w p)), ?_⟩
  rw [semS rfl]
  have hlen := h.len
  have hz : ixD (.tuple (w.zones.map eZ)) (.int (p : Int)) = some (eZ (zO w p)) := by
    rw [ix_nat, zO_eq hp]; simp [hp]
  have l1 : ∀ t : List Key, b1D .list (eT t) = some (.list (t.map enP)) := fun _ => rfl
  have h0 : evS (sem fns k) clsT (.asg (.nm 2) (.ifx (.cmp .eq (.var 1) (.cst (.int 0))) (.b1 .list (.ix (.var 0) (.cst (.int 1)))) (.lst []))) [some (.d (eW w)), some (.d (.int (p : Int))), none, none, none] S = some (.nx [some (.d (eW w)), some (.d (.int (p : Int))), some (.d (.list ((if p = 0 then w.anchors else []).map enP))), none, none], S) := by
    by_cases h0 : p = 0
    · subst h0; simp [l1]
    · have h0' : ¬ (p : Int) = 0 := by omega
      simp [h0, h0']
  generalize hA : (if p = 0 then w.anchors else []) = A at h0
  have hkl : keyL w p = A ++ (zO w p).line.flatMap (fun x => x.2.keys) ++ (if 0 < p then (zO w (p - 1)).line.flatMap trK else []) := by unfold keyL; rw [hA]
  rw [hkl] at hlen
  simp only [List.length_append] at hlen
  have z1 := for_nx (tg := .tp [(.nm 3), (.nm 4)]) (body := fun env' S' => evB (sem fns k) clsT [(.asg (.nm 2) (.bin .add (.var 2) (.b1 .list (.ix (.var 4) (.cst (.int 0))))))] env' S') (enc := eL) (xs := (zO w p).line) (S := S) (env := [some (.d (eW w)), some (.d (.int (p : Int))), some (.d (.list (A.map enP))), none, none])
    (fun dn env' S' => S' = S ∧ ∃ a3 a4, env' = [some (.d (eW w)), some (.d (.int (p : Int))), some (.d (.list ((A ++ dn.flatMap (fun x => x.2.keys)).map enP))), a3, a4])
    ⟨rfl, none, none, by simp⟩ fun dn x rest env1 S1 hdq hp1 => by
      obtain ⟨rfl, a3, a4, rfl⟩ := hp1
      have hpl := pre_len (fun x : Int × Ver => x.2.keys) hdq
      have ha := addP (a := A ++ dn.flatMap (fun x => x.2.keys)) (b := x.2.keys) (by simp only [List.length_append]; omega)
      refine ⟨_, [some (.d (eW w)), some (.d (.int (p : Int))), some (.d (.list ((A ++ (dn ++ [x]).flatMap (fun x => x.2.keys)).map enP))), some (.d (.int x.1)), some (.d (eV x.2))], S1, rfl, ?_, rfl, _, _, rfl⟩
      rw [fm_snoc2, ← List.append_assoc]
      simp [l1, ha, -List.map_append]
  obtain ⟨env1, S1, y1, rfl, b3, b4, rfl⟩ := z1
  have hi1 : evIt (sem fns k) clsT (.seq (.ix (.ix (.ix (.var 0) (.cst (.int 0))) (.var 1)) (.cst (.int 0)))) [some (.d (eW w)), some (.d (.int (p : Int))), some (.d (.list (A.map enP))), none, none] S1 = some ((zO w p).line.map eL, S1) := by simp [hz]
  have y1' : evS (sem fns k) clsT (.for_ (.tp [(.nm 3), (.nm 4)]) (.seq (.ix (.ix (.ix (.var 0) (.cst (.int 0))) (.var 1)) (.cst (.int 0)))) [(.asg (.nm 2) (.bin .add (.var 2) (.b1 .list (.ix (.var 4) (.cst (.int 0))))))]) [some (.d (eW w)), some (.d (.int (p : Int))), some (.d (.list (A.map enP))), none, none] S1
      = some (.nx [some (.d (eW w)), some (.d (.int (p : Int))), some (.d (.list ((A ++ (zO w p).line.flatMap (fun x => x.2.keys)).map enP))), b3, b4], S1) := by
    rw [S_for, hi1]; exact y1
  generalize hB : A ++ (zO w p).line.flatMap (fun x => x.2.keys) = B at y1' hkl
  have hBl : B.length = A.length + ((zO w p).line.flatMap (fun x => x.2.keys)).length := by rw [← hB]; simp only [List.length_append]
  have hs := srtD_P (ps := keyL w p) h.len h.rg
  by_cases h0p : 0 < p
  · rw [if_pos h0p] at hkl hlen
    have hm1 : ((p : Int) - 1) = ((p - 1 : Nat) : Int) := by omega
    have hz' : ixD (.tuple (w.zones.map eZ)) (.int ((p : Int) - 1)) = some (eZ (zO w (p - 1))) := by
      rw [hm1, ix_nat, zO_eq (show p - 1 < w.zones.length by omega)]; simp [show p - 1 < w.zones.length by omega]
    have z2 := for_nx (tg := .tp [(.nm 3), (.nm 4)]) (body := fun env' S' => evB (sem fns k) clsT [(.asg (.nm 2) (.bin .add (.var 2) (.b1 .list (.ix (.var 4) (.cst (.int 2))))))] env' S') (enc := eL) (xs := (zO w (p - 1)).line) (S := S1) (env := [some (.d (eW w)), some (.d (.int (p : Int))), some (.d (.list (B.map enP))), b3, b4])
      (fun dn env' S' => S' = S1 ∧ ∃ a3 a4, env' = [some (.d (eW w)), some (.d (.int (p : Int))), some (.d (.list ((B ++ dn.flatMap trK).map enP))), a3, a4])
      ⟨rfl, b3, b4, by simp⟩ fun dn x rest env1 S1 hdq hp1 => by
        obtain ⟨rfl, a3, a4, rfl⟩ := hp1
        obtain ⟨t, ht⟩ := h.tr h0p x (by rw [hdq]; simp)
        have htk : trK x = t := by unfold trK; rw [ht]
        have hpl := pre_len trK hdq
        have ha := addP (a := B ++ dn.flatMap trK) (b := t) (by rw [htk] at hpl; simp only [List.length_append]; omega)
        refine ⟨_, [some (.d (eW w)), some (.d (.int (p : Int))), some (.d (.list ((B ++ (dn ++ [x]).flatMap trK).map enP))), some (.d (.int x.1)), some (.d (eV x.2))], S1, rfl, ?_, rfl, _, _, rfl⟩
        rw [fm_snoc2, ← List.append_assoc, htk]
        simp [ht, eO, l1, ha, -List.map_append]
    obtain ⟨env2, S2, y2, rfl, c3, c4, rfl⟩ := z2
    have hi2 : evIt (sem fns k) clsT (.seq (.ifx (.cmp .gt (.var 1) (.cst (.int 0))) (.ix (.ix (.ix (.var 0) (.cst (.int 0))) (.bin .sub (.var 1) (.cst (.int 1)))) (.cst (.int 0))) (.tup []))) [some (.d (eW w)), some (.d (.int (p : Int))), some (.d (.list (B.map enP))), b3, b4] S2 = some ((zO w (p - 1)).line.map eL, S2) := by
      have : (0 : Int) < (p : Int) := by omega
      simp [this, hz', h0p]
    have y2' : evS (sem fns k) clsT (.for_ (.tp [(.nm 3), (.nm 4)]) (.seq (.ifx (.cmp .gt (.var 1) (.cst (.int 0))) (.ix (.ix (.ix (.var 0) (.cst (.int 0))) (.bin .sub (.var 1) (.cst (.int 1)))) (.cst (.int 0))) (.tup []))) [(.asg (.nm 2) (.bin .add (.var 2) (.b1 .list (.ix (.var 4) (.cst (.int 2))))))]) [some (.d (eW w)), some (.d (.int (p : Int))), some (.d (.list (B.map enP))), b3, b4] S2
        = some (.nx [some (.d (eW w)), some (.d (.int (p : Int))), some (.d (.list ((B ++ (zO w (p - 1)).line.flatMap trK).map enP))), c3, c4], S2) := by
      rw [S_for, hi2]; exact y2
    rw [← hkl] at y2'
    simp [runF, envOf, cd__law_keys_of, h0, y1', y2', hs, -S_asg4, -List.map_append]
  · rw [if_neg h0p] at hkl
    rw [List.append_nil] at hkl
    have hi2 : evIt (sem fns k) clsT (.seq (.ifx (.cmp .gt (.var 1) (.cst (.int 0))) (.ix (.ix (.ix (.var 0) (.cst (.int 0))) (.bin .sub (.var 1) (.cst (.int 1)))) (.cst (.int 0))) (.tup []))) [some (.d (eW w)), some (.d (.int (p : Int))), some (.d (.list (B.map enP))), b3, b4] S1 = some ([], S1) := by
      have : ¬ (0 : Int) < (p : Int) := by omega
      simp [this, h0p]
    have y2' : evS (sem fns k) clsT (.for_ (.tp [(.nm 3), (.nm 4)]) (.seq (.ifx (.cmp .gt (.var 1) (.cst (.int 0))) (.ix (.ix (.ix (.var 0) (.cst (.int 0))) (.bin .sub (.var 1) (.cst (.int 1)))) (.cst (.int 0))) (.tup []))) [(.asg (.nm 2) (.bin .add (.var 2) (.b1 .list (.ix (.var 4) (.cst (.int 2))))))]) [some (.d (eW w)), some (.d (.int (p : Int))), some (.d (.list (B.map enP))), b3, b4] S1
        = some (.nx [some (.d (eW w)), some (.d (.int (p : Int))), some (.d (.list (B.map enP))), b3, b4], S1) := by
      rw [S_for, hi2]; rfl
    rw [← hkl] at y1' y2'
    simp [runF, envOf, cd__law_keys_of, h0, y1', y2', hs, -S_asg4, -List.map_append]
end VI.M
set_option Elab.async false
set_option linter.all false
set_option maxRecDepth 100000
/-! M49: a good world keeps the law. -/
namespace VI.M
open PySem
structure WOk (w : Wld) (M : Nat) : Prop where
  B : WB w M
  mo : mostB w = (M : Int)
  M60 : M ≤ 60
  M0 : 0 < M
  ln : ∀ z, z ∈ w.zones → z.line ≠ []
  cp : ∀ p, p < w.zones.length → CpOk w p
  n3 : w.zones.length ≤ 3
  ko : ∀ p, p < w.zones.length → KO w p
theorem sh_list {l : List D} {n : Nat} (h : ∀ x, x ∈ l → ShO x n) : ShO (.list l) (n + 1) := by
  have z := ShO.lst (f := fun x : D => x) (l := l) h
  rw [List.map_id'] at z
  exact z
theorem sh_tup {l : List D} {n : Nat} (h : ∀ x, x ∈ l → ShO x n) : ShO (.tuple l) (n + 1) := by
  have z := ShO.tup (f := fun x : D => x) (l := l) h
  rw [List.map_id'] at z
  exact z
theorem sh_non : ShO .none 0 := ⟨rfl, Nat.le_refl _⟩
theorem way_sh {w : Wld} {M p : Nat} {key : Key} {t : Int} {d : D} (h : WayOk w M p key t d) : ShO d 3 := by
  have z : ∀ (l : List (Int × Nat)) (b c : D), ShO b 2 → ShO c 2 → ShO (.tuple [.tuple (ansFrom 0 l), b, c]) 3 := fun l b c hb hc => sh_tup fun x hx => by
    simp at hx
    rcases hx with rfl | rfl | rfl
    · exact sh_tup (ans_sh l 0)
    · exact hb
    · exact hc
  rcases h with ⟨_, _, rfl⟩ | ⟨_, _, _, _, _, _, _, _, _, _, _, _, _, _, _, _, rfl⟩ | ⟨_, _, _, _, _, _, _, _, _, _, _, _, _, rfl⟩
  · exact z [] _ _ ((ShO.int _).mono (by omega)) ((ShO.int _).mono (by omega))
  · exact z _ _ _ ((ShO.int _).mono (by omega)) ((ShO.int _).mono (by omega))
  · exact z _ _ _ (sh_non.mono (by omega)) ((ShO.int _).mono (by omega))
theorem c_eqNilD {l : List D} {n : Nat} (h : ∀ x, x ∈ l → ShO x n) (hn : n + 1 ≤ 64) : cmpD .eq (.list l) (.list []) = some (decide (l = [])) := by
  rw [d_eq, (sh_list h).shaped hn, show SeqAt.shaped (.list []) = true from by decide +kernel, PyData.eqv]
  cases l <;> rfl
theorem c_neB (a b : Bool) : cmpD .ne (.bool a) (.bool b) = some (a != b) := by cases a <;> cases b <;> decide +kernel
def rtK : List Sc := [(.asg (.nm 6) (.fc 47 [(.var 2), (.var 4), (.var 5)])), (.asg (.nm 7) (.ifx (.isN (.var 6)) (.bin .sub (.fc 60 [(.var 2)]) (.cst (.int 1))) (.var 6))), (.asg (.nm 8) (.ifx (.cmp .ge (.var 7) (.cst (.int 0))) (.fc 76 [(.var 2), (.var 3), (.var 4), (.var 5), (.var 7)]) (.lst []))), (.ifs (.cmp .ne (.cmp .eq (.var 8) (.lst [])) (.cmp .lt (.var 7) (.cst (.int 0)))) [(.ret (.cst (.bool false)))] []), (.ifs (.not (.fc 79 [(.var 2), (.var 4), (.var 5), (.var 8), (.var 6)])) [(.ret (.cst (.bool false)))] [])]
def rtP : List Sc := [(.for_ (.nm 5) (.seq (.fc 78 [(.var 2), (.var 4)])) rtK)]
theorem td_nonnil {w : Wld} {M : Nat} (hB : WB w M) {p : Nat} (hp : p < w.zones.length) : ∀ q, q ∈ tdAt w p → ∀ s, q.2 = some s → s ≠ [] := by
  intro q hq s hs
  cases p with
  | zero =>
    unfold tdAt at hq
    simp at hq
    rw [hq] at hs; cases hs
  | succ p =>
    obtain ⟨s', g1, _, g3, _⟩ := td_from hB hp hq
    rw [g1] at hs
    simp at hs
    subst hs; exact g3
theorem rt_key {w : Wld} {M : Nat} (h : WOk w M) {p : Nat} (hp : p < w.zones.length) (key : Key) (a0 a1 a6 a7 a8 : Option Sl) (S : Sto) :
    ∃ b6 b7 b8, evB (sem fns 18) clsT rtK [a0, a1, some (.d (eW w)), some (.d (.list (gotL w M w.zones.length))), some (.d (.int (p : Int))), some (.d (enP key)), a6, a7, a8] S = some (.nx [a0, a1, some (.d (eW w)), some (.d (.list (gotL w M w.zones.length))), some (.d (.int (p : Int))), some (.d (enP key)), b6, b7, b8], S) := by
  have hB := h.B
  have h47 := last_ok h.cp (by have := h.n3; omega) hp (td_nonnil hB hp) (fun r hr => by
    obtain ⟨m, b, c, e, pg⟩ := (hB.pl p hp).pg
    exact (pg.kgs r (by rw [← kd_life]; exact hr)).2.1) (by have := kd_len hB hp; omega) key S 6
  have h60 := most_ok h.ln S 17
  rw [h.mo] at h60
  have h3 := h.n3
  have hM0 := h.M0
  generalize ht : (match lastO w p key with | none => (M : Int) - 1 | some L => L) = t
  have hneg := last_neg (w := w) (p := p) (key := key)
  have h7 : ∀ e : Env, e = [a0, a1, some (.d (eW w)), some (.d (.list (gotL w M w.zones.length))), some (.d (.int (p : Int))), some (.d (enP key)), some (.d (eOI (lastO w p key))), a7, a8] → evE (sem fns 18) clsT (.ifx (.isN (.var 6)) (.bin .sub (.fc 60 [(.var 2)]) (.cst (.int 1))) (.var 6)) e S = some (.d (.int t), S) := by
    rintro _ rfl
    cases hlo : lastO w p key with
    | none =>
      rw [hlo] at ht
      simp only at ht
      have eo : eOI none = .none := rfl
      rw [eo]
      simp [h60, ← ht]
    | some L =>
      rw [hlo] at ht
      simp only at ht
      have eo : eOI (some L) = .int L := rfl
      rw [eo]
      simp [← ht]
  by_cases h0 : 0 ≤ t
  · obtain ⟨ds, g1, g2, g3, g4⟩ := ways_ok hB hp key t S (15 - 2 * p)
    have ek : 15 - 2 * p + 2 * p + 3 = 18 := by omega
    rw [ek] at g1
    have hne : ds ≠ [] := g4 (some_way hB hp h.M0 ht.symm h0)
    have hs := shown_ok hB hp g3 ht.symm (fun d hd => ⟨h0, g2 d hd⟩) S 3
    have hq := c_eqNilD (l := ds) (n := 3) (fun d hd => way_sh (g2 d hd)) (by omega)
    rw [decide_eq_false hne] at hq
    have hlt : ¬ t < 0 := by omega
    refine ⟨some (.d (eOI (lastO w p key))), some (.d (.int t)), some (.d (.list ds)), ?_⟩
    simp [rtK, h47, h7, h0, g1, hq, hlt, c_neB, hs, -E_ifx, E_ifx (t := .cmp _ _ _)]
  · have hlt : t < 0 := by omega
    have hs := shown_ok hB hp (ds := []) (by simp) ht.symm (fun d hd => by cases hd) S 3
    have hq := c_eqNilD (l := []) (n := 3) (fun d hd => by cases hd) (by omega)
    refine ⟨some (.d (eOI (lastO w p key))), some (.d (.int t)), some (.d (.list [])), ?_⟩
    simp at hq
    simp [rtK, h47, h7, h0, hq, hlt, c_neB, hs, -E_ifx, E_ifx (t := .cmp _ _ _)]
theorem rt_place {w : Wld} {M : Nat} (h : WOk w M) {p : Nat} (hp : p < w.zones.length) (a0 a1 a5 a6 a7 a8 : Option Sl) (S : Sto) :
    ∃ b5 b6 b7 b8, evB (sem fns 18) clsT rtP [a0, a1, some (.d (eW w)), some (.d (.list (gotL w M w.zones.length))), some (.d (.int (p : Int))), a5, a6, a7, a8] S = some (.nx [a0, a1, some (.d (eW w)), some (.d (.list (gotL w M w.zones.length))), some (.d (.int (p : Int))), b5, b6, b7, b8], S) := by
  obtain ⟨ks, hks⟩ := keys_of_ok hp (h.ko p hp) S 17
  have hi : evIt (sem fns 18) clsT (.seq (.fc 78 [(.var 2), (.var 4)])) [a0, a1, some (.d (eW w)), some (.d (.list (gotL w M w.zones.length))), some (.d (.int (p : Int))), a5, a6, a7, a8] S = some (ks.map enP, S) := by
    simp [hks]
  have z1 := for_nx (tg := .nm 5) (body := fun env' S' => evB (sem fns 18) clsT rtK env' S') (enc := enP) (xs := ks) (S := S) (env := [a0, a1, some (.d (eW w)), some (.d (.list (gotL w M w.zones.length))), some (.d (.int (p : Int))), a5, a6, a7, a8])
    (fun dn env' S' => S' = S ∧ ∃ b5 b6 b7 b8, env' = [a0, a1, some (.d (eW w)), some (.d (.list (gotL w M w.zones.length))), some (.d (.int (p : Int))), b5, b6, b7, b8])
    ⟨rfl, a5, a6, a7, a8, rfl⟩ fun dn key rest env1 S1 hdq hp1 => by
      obtain ⟨rfl, b5, b6, b7, b8, rfl⟩ := hp1
      obtain ⟨c6, c7, c8, hc⟩ := rt_key h hp key a0 a1 b6 b7 b8 S1
      exact ⟨_, _, _, rfl, hc, rfl, some (.d (enP key)), c6, c7, c8, rfl⟩
  obtain ⟨env1, S1, y1, rfl, b5, b6, b7, b8, rfl⟩ := z1
  have y2 : evS (sem fns 18) clsT (.for_ (.nm 5) (.seq (.fc 78 [(.var 2), (.var 4)])) rtK) [a0, a1, some (.d (eW w)), some (.d (.list (gotL w M w.zones.length))), some (.d (.int (p : Int))), a5, a6, a7, a8] S1 = some (.nx [a0, a1, some (.d (eW w)), some (.d (.list (gotL w M w.zones.length))), some (.d (.int (p : Int))), b5, b6, b7, b8], S1) := by
    rw [S_for, hi]; exact y1
  refine ⟨b5, b6, b7, b8, ?_⟩
  simp [rtP, y2]
theorem for_one {tg : Tg} {body : Env → Sto → Option (Out × Sto)} {x : D} {env env1 env2 : Env} {S S2 : Sto} (h1 : bindTg tg x env = some env1) (h2 : body env1 S = some (.nx env2, S2)) : forLoop tg body [x] env S = some (.nx env2, S2) := by
  unfold forLoop
  rw [h1, ob_some, h2, bnd_some]
  rfl
/-- one drawn world; what draws it is told by h74 -/
theorem right_ok {w : Wld} {M : Nat} (h : WOk w M) {i : Nat} {S S1 : Sto} (hS : S1.length = S.length) (h74 : sem fns 18 74 [.c i, .d (.int 3), .d (.int 3)] S = some (.d (eW w), S1)) : sem fns 19 80 [.c i] S = some (.d (.bool true), S1) := by
  have h3 := h.n3
  have h62 := got_ok h.M60 h.mo h.ln (by omega) h.B.pl S1 14
  have hr3 : itemsOf 1 (.int (w.zones.length : Int)) = some ((List.range w.zones.length).map fun (n : Nat) => PyData.int (n : Int)) := by
    show gd (decide _ && decide _) _ = _
    rw [decide_eq_true (by omega), decide_eq_true (by omega)]
    rfl
  have hi : evIt (sem fns 18) clsT (.rng (.b1 .len (.ix (.var 2) (.cst (.int 0))))) [some (.c i), some (.d (.int 0)), some (.d (eW w)), some (.d (.list (gotL w M w.zones.length))), none, none, none, none, none] S1 = some ((List.range w.zones.length).map fun (n : Nat) => PyData.int (n : Int), S1) := by
    simp [hr3]
  have z1 := for_nx (tg := .nm 4) (body := fun env' S' => evB (sem fns 18) clsT rtP env' S') (enc := fun n : Nat => PyData.int (n : Int)) (xs := List.range w.zones.length) (S := S1) (env := [some (.c i), some (.d (.int 0)), some (.d (eW w)), some (.d (.list (gotL w M w.zones.length))), none, none, none, none, none])
    (fun dn env' S' => S' = S1 ∧ ∃ b4 b5 b6 b7 b8, env' = [some (.c i), some (.d (.int 0)), some (.d (eW w)), some (.d (.list (gotL w M w.zones.length))), b4, b5, b6, b7, b8])
    ⟨rfl, none, none, none, none, none, rfl⟩ fun dn p rest env1 S2 hdq hp1 => by
      obtain ⟨rfl, b4, b5, b6, b7, b8, rfl⟩ := hp1
      obtain ⟨rfl, hp⟩ := range_split hdq
      obtain ⟨c5, c6, c7, c8, hc⟩ := rt_place h hp (some (.c i)) (some (.d (.int 0))) b5 b6 b7 b8 S2
      exact ⟨_, _, _, rfl, hc, rfl, some (.d (.int (p : Int))), c5, c6, c7, c8, rfl⟩
  obtain ⟨env1, S2, y1, rfl, b4, b5, b6, b7, b8, rfl⟩ := z1
  have y2 : evS (sem fns 18) clsT (.for_ (.nm 4) (.rng (.b1 .len (.ix (.var 2) (.cst (.int 0))))) rtP) [some (.c i), some (.d (.int 0)), some (.d (eW w)), some (.d (.list (gotL w M w.zones.length))), none, none, none, none, none] S2 = some (.nx [some (.c i), some (.d (.int 0)), some (.d (eW w)), some (.d (.list (gotL w M w.zones.length))), b4, b5, b6, b7, b8], S2) := by
    rw [S_for, hi]; exact y1
  have hr1 : itemsOf 1 (.int 1) = some [.int 0] := by
    show gd (decide ((1 : Int) ≤ 16777216) && decide (-(2 ^ 62) ≤ (1 : Int))) _ = _
    rw [decide_eq_true (by omega), decide_eq_true (by omega)]
    rfl
  rw [semS rfl]
  unfold rtP rtK at y2
  have hb : evB (sem fns 18) clsT [(.asg (.nm 2) (.fc 74 [(.var 0), (.cst (.int 3)), (.cst (.int 3))])), (.asg (.nm 3) (.fc 62 [(.var 2)])), (.for_ (.nm 4) (.rng (.b1 .len (.ix (.var 2) (.cst (.int 0))))) rtP)] [some (.c i), some (.d (.int 0)), none, none, none, none, none, none, none] S = some (.nx [some (.c i), some (.d (.int 0)), some (.d (eW w)), some (.d (.list (gotL w M w.zones.length))), b4, b5, b6, b7, b8], S2) := by
    unfold rtP rtK
    simp [h74, h62, y2]
  unfold rtP rtK at hb
  have hf : evS (sem fns 18) clsT (.for_ (.nm 1) (.rng (.cst (.int 1))) [(.asg (.nm 2) (.fc 74 [(.var 0), (.cst (.int 3)), (.cst (.int 3))])), (.asg (.nm 3) (.fc 62 [(.var 2)])), (.for_ (.nm 4) (.rng (.b1 .len (.ix (.var 2) (.cst (.int 0))))) [(.for_ (.nm 5) (.seq (.fc 78 [(.var 2), (.var 4)])) [(.asg (.nm 6) (.fc 47 [(.var 2), (.var 4), (.var 5)])), (.asg (.nm 7) (.ifx (.isN (.var 6)) (.bin .sub (.fc 60 [(.var 2)]) (.cst (.int 1))) (.var 6))), (.asg (.nm 8) (.ifx (.cmp .ge (.var 7) (.cst (.int 0))) (.fc 76 [(.var 2), (.var 3), (.var 4), (.var 5), (.var 7)]) (.lst []))), (.ifs (.cmp .ne (.cmp .eq (.var 8) (.lst [])) (.cmp .lt (.var 7) (.cst (.int 0)))) [(.ret (.cst (.bool false)))] []), (.ifs (.not (.fc 79 [(.var 2), (.var 4), (.var 5), (.var 8), (.var 6)])) [(.ret (.cst (.bool false)))] [])])])]) [some (.c i), none, none, none, none, none, none, none, none] S
      = some (.nx [some (.c i), some (.d (.int 0)), some (.d (eW w)), some (.d (.list (gotL w M w.zones.length))), b4, b5, b6, b7, b8], S2) := by
    rw [S_for]
    have hi0 : evIt (sem fns 18) clsT (.rng (.cst (.int 1))) [some (.c i), none, none, none, none, none, none, none, none] S = some ([.int 0], S) := by simp [hr1]
    rw [hi0, bnd_some]
    exact for_one (env1 := [some (.c i), some (.d (.int 0)), none, none, none, none, none, none, none]) rfl hb
  simp [runF, envOf, cd__law_right, hf]
  rw [← hS]; simp
end VI.M
set_option Elab.async false
set_option linter.all false
set_option maxRecDepth 100000
/-! N1: the box of draws. -/
namespace VI.M
open PySem
structure Bx where
  a : Int
  b : Int
  c : Int
def Bx.cell (x : Bx) : Cell := .own (.list [.int x.a, .int x.b, .int x.c])
def Bx.ok (x : Bx) (n : Nat) : Prop := 0 ≤ x.a ∧ 0 ≤ x.b ∧ x.b ≤ 8589934592 ∧ 0 ≤ x.c ∧ x.c ≤ (n : Int)
theorem Bx.ok.mono {x : Bx} {n m : Nat} (h : x.ok n) (hm : n ≤ m) : x.ok m := by
  obtain ⟨h1, h2, h3, h4, h5⟩ := h
  exact ⟨h1, h2, h3, h4, by omega⟩
theorem bm_mod (i : Int) {j : Int} (h : 0 < j) : binD .mod (.int i) (.int j) = some (.int (i % j)) := by
  show gd (decide (0 < j)) _ = _
  rw [decide_eq_true h]; rfl
theorem bm_fdiv (i : Int) {j : Int} (h : 0 < j) (h2 : j < 1073741824) : binD .fdiv (.int i) (.int j) = some (.int (i / j)) := by
  show gd (decide (0 < j) && decide (j < 1073741824)) _ = _
  rw [decide_eq_true h, decide_eq_true h2]; rfl
theorem inP {i : Int} (h : -(2 ^ 64) < i) (h2 : i < 2 ^ 64) : inPow64 i = true := by
  unfold inPow64
  rw [decide_eq_true h, decide_eq_true h2]; rfl
theorem bm_mul {i j : Int} (h : inPow64 i = true ∨ inPow64 j = true) : binD .mul (.int i) (.int j) = some (.int (i * j)) := by
  show gd (inPow64 i || inPow64 j) _ = _
  rcases h with h | h <;> rw [h] <;> simp
theorem bm_pow {i : Int} (h : i.natAbs < 2 ^ 64) : binD .pow (.int i) (.int 5) = some (.int (i ^ 5)) := by
  show gd (decide ((0 : Int) ≤ 5) && decide ((5 : Int) ≤ 1000000) && decide (i.natAbs < 2 ^ 64)) _ = _
  rw [decide_eq_true h]; rfl
theorem l_int (i : Int) : b1D .int (.int i) = some (.int i) := rfl
theorem tk1 (S0 : Sto) (y : Cell) : (S0 ++ [y]).take (S0.length + 1) = S0 ++ [y] := List.take_of_length_le (by simp)
theorem take_ok {x : Bx} {n : Nat} (h : x.ok n) (hn : n ≤ 1000000) {m : Int} (h0 : 0 < m) (hm : m < 1073741824) (S0 : Sto) (k : Nat) :
    ∃ v x', sem fns (k + 1) 53 [.c S0.length, .d (.int m)] (S0 ++ [x.cell]) = some (.d (.int v), S0 ++ [Bx.cell x']) ∧ 0 ≤ v ∧ v < m ∧ x'.ok (n + 1) := by
  obtain ⟨h1, h2, h3, h4, h5⟩ := h
  have i0 : ∀ a b c : Int, ixD (.list [.int a, .int b, .int c]) (.int 0) = some (.int a) := fun _ _ _ => atI0 _ _
  have i1 : ∀ a b c : Int, ixD (.list [.int a, .int b, .int c]) (.int 1) = some (.int b) := fun _ _ _ => atI1 _ _ _
  have i2 : ∀ a b c : Int, ixD (.list [.int a, .int b, .int c]) (.int 2) = some (.int c) := fun _ _ _ => atI2 _ _ _ _
  have p0 : ∀ a b c v : Int, putOwn (.list [.int a, .int b, .int c]) (.int 0) (.int v) = some (.list [.int v, .int b, .int c]) := fun _ _ _ _ => rfl
  have p2 : ∀ a b c v : Int, putOwn (.list [.int a, .int b, .int c]) (.int 2) (.int v) = some (.list [.int a, .int b, .int v]) := fun _ _ _ _ => rfl
  by_cases ha : 0 < x.a
  · refine ⟨x.a % m, ⟨x.a / m, x.b, x.c⟩, ?_, Int.emod_nonneg _ (by omega), Int.emod_lt_of_pos _ h0, ?_, h2, h3, h4, by simp; omega⟩
    · rw [semS rfl]
      simp [runF, envOf, cd__law_take, Bx.cell, gl, sl, i0, ha, rd, l_int, bm_mod _ h0, bm_fdiv _ h0 hm, p0, tk1]
    · exact Int.ediv_nonneg h1 (by omega)
  · have hc1 : 0 ≤ x.c + 1 := by omega
    have hb : (x.b + 48271 * (x.c + 1)).natAbs < 2 ^ 64 := by omega
    have m1 : binD .mul (.int 48271) (.int (x.c + 1)) = some (.int (48271 * (x.c + 1))) := bm_mul (.inl (inP (by omega) (by omega)))
    generalize ho : ((x.b + 48271 * (x.c + 1)) ^ 5) % 2147483647 = o
    have o1 : 0 ≤ o := by rw [← ho]; exact Int.emod_nonneg _ (by omega)
    have o2 : o < 2147483647 := by rw [← ho]; exact Int.emod_lt_of_pos _ (by omega)
    have m2 : ∀ j : Int, binD .mul (.int o) (.int j) = some (.int (o * j)) := fun j => bm_mul (.inl (inP (by omega) (by omega)))
    have m3 : binD .mul (.int (x.c + 1)) (.int 7919) = some (.int ((x.c + 1) * 7919)) := bm_mul (.inr (inP (by omega) (by omega)))
    generalize hq : ((o * (o % 30011 + 7) + (x.c + 1) * 7919) % 2147483629) = q
    refine ⟨(q / 64) % m, ⟨x.a, x.b, x.c + 1⟩, ?_, Int.emod_nonneg _ (by omega), Int.emod_lt_of_pos _ h0, h1, h2, h3, hc1, by simp; omega⟩
    rw [semS rfl]
    simp [runF, envOf, cd__law_take, Bx.cell, gl, sl, i0, i1, i2, ha, rd, l_int, p2, tk1, m1, bm_pow hb, bm_mod (j := 2147483647) _ (by omega), ho, bm_mod (j := 30011) _ (by omega), m2, m3, bm_mod (j := 2147483629) _ (by omega), hq, bm_fdiv (j := 64) _ (by omega) (by omega), bm_mod _ h0]
theorem pick_ok {x : Bx} {n : Nat} (h : x.ok n) (hn : n ≤ 1000000) {xs : List D} (hx : xs ≠ []) (hl : xs.length < 1000) (S0 : Sto) (k : Nat) :
    ∃ v x', sem fns (k + 2) 54 [.c S0.length, .d (.list xs)] (S0 ++ [x.cell]) = some (.d v, S0 ++ [Bx.cell x']) ∧ v ∈ xs ∧ x'.ok (n + 1) := by
  have hp : 0 < xs.length := List.length_pos_iff.mpr hx
  obtain ⟨v, x', e, h1, h2, h3⟩ := take_ok h hn (m := (xs.length : Int)) (by omega) (by omega) S0 k
  obtain ⟨j, rfl⟩ := Int.eq_ofNat_of_zero_le h1
  have hv : j < xs.length := by omega
  have e1 : ixD (.list xs) (.int (j : Int)) = some xs[j] := by
    rw [ix_natL]
    simp [hv]
  refine ⟨xs[j], x', ?_, List.getElem_mem _, h3⟩
  rw [semS rfl]
  simp [runF, envOf, cd__law_pick, e, e1, tk1]
/-! row -/
theorem ddp_len {α : Type} [DecidableEq α] : ∀ l : List α, (ddp l).length ≤ l.length
  | [] => Nat.le_refl _
  | x :: l => by
    rw [ddp]
    have := ddp_len l
    split
    · simp; omega
    · simp; omega
def rowN (l : List Int) : List Int := srtI (ddp l)
def rowP (l : List Key) : List Key := srtP (ddp l)
theorem rowN_len (l : List Int) : (rowN l).length ≤ l.length := by
  unfold rowN srtI
  rw [List.length_mergeSort]; exact ddp_len l
theorem rowP_len (l : List Key) : (rowP l).length ≤ l.length := by
  unfold rowP
  rw [len_srtP]; exact ddp_len l
theorem rowP_mem {l : List Key} {q : Key} : q ∈ rowP l ↔ q ∈ l := by
  unfold rowP; rw [mem_srtP, mem_ddp]
def KR (l : List Key) : Prop := ∀ q, q ∈ l → (0 ≤ q.1 ∧ q.1 < 64) ∧ (0 ≤ q.2 ∧ q.2 < 64)
theorem rowN_ok {l : List Int} (h : l.length < 64) (S : Sto) (k : Nat) : sem fns (k + 1) 69 [.d (.list (l.map enI))] S = some (.d (eN (rowN l)), S) := by
  rw [semS rfl]
  have h2 := rowN_len l
  unfold rowN at h2
  have e : srtD (.list (l.map enI)) = some (.list ((rowN l).map enI)) := by
    rw [srtD_of (asInts_map l), decide_eq_true (by omega), decide_eq_true (by omega)]; rfl
  simp [runF, envOf, cd__law_row, e]
  rfl
theorem rowP_ok {l : List Key} (h : l.length < 64) (hr : KR l) (S : Sto) (k : Nat) : sem fns (k + 1) 69 [.d (.list (l.map enP))] S = some (.d (eT (rowP l)), S) := by
  rw [semS rfl]
  have e := srtD_P h hr
  simp [runF, envOf, cd__law_row, e]
  rfl
theorem without_ok (l : List Int) (a : Int) (S : Sto) (k : Nat) : sem fns (k + 1) 71 [.d (eN l), .d (.int a)] S = some (.d (eN (l.filter fun b => !decide (b = a))), S) := by
  rw [semS rfl]
  have hl : evE (sem fns k) clsT (.comp (.var 2) (.nm 2) (.seq (.var 0)) (some (.cmp .ne (.var 2) (.var 1)))) [some (.d (eN l)), some (.d (.int a)), none] S = some (.d (.list ((l.filter fun b => !decide (b = a)).map enI)), S) :=
    comp_ok (enc := enI) (g := enI) (by simp [eN]) fun b hb => ⟨_, rfl, by simp [wipeE, tgSlots, enI, evT], fun _ => by simp [wipeE, tgSlots]⟩
  simp [runF, envOf, cd__law_without, hl]
  rfl
end VI.M
set_option Elab.async false
set_option linter.all false
set_option maxRecDepth 100000
/-! N2: a first version. -/
namespace VI.M
open PySem
structure VO (c : Nat) (v : Ver) : Prop where
  kl : v.keys.length ≤ 3 + c
  hl : v.heads.length ≤ 3 + c
  ml : v.marks.length ≤ 6 + c
  gl : v.gone.length ≤ c
  kr : KR v.keys
  tr : ∀ t, v.trust = some t → t.length ≤ 2 + c ∧ KR t
theorem KR.app {a b : List Key} (h1 : KR a) (h2 : KR b) : KR (a ++ b) := fun q hq => by
  rcases List.mem_append.mp hq with h | h
  · exact h1 q h
  · exact h2 q h
theorem KR.one {a b : Int} (h1 : 0 ≤ a ∧ a < 64) (h2 : 0 ≤ b ∧ b < 64) : KR [(a, b)] := fun q hq => by
  simp at hq; subst hq; exact ⟨h1, h2⟩
theorem KR.row {l : List Key} (h : KR l) : KR (rowP l) := fun q hq => h q (rowP_mem.mp hq)
theorem KR.filter {l : List Key} (h : KR l) (f : Key → Bool) : KR (l.filter f) := fun q hq => h q (List.mem_filter.mp hq).1
theorem marks_loop {a1 a2 a3 a4 a5 a6 : Option Sl} (S0 : Sto) (k : Nat) : ∀ (ks : List Key) {x : Bx} {n : Nat}, x.ok n → n + ks.length ≤ 1000000 → ∃ ns x', compLoop (.nm 7) (fun env' S' => evT (sem fns (k + 1)) clsT (some (.cmp .gt (.fc 53 [(.var 0), (.cst (.int 3))]) (.cst (.int 0)))) env' S') (fun env' S' => evE (sem fns (k + 1)) clsT (.ix (.var 7) (.cst (.int 0))) env' S') [some (.c S0.length), a1, a2, a3, a4, a5, a6, none] (ks.map enP) (S0 ++ [x.cell]) = some ((ns : List Int).map enI, S0 ++ [Bx.cell x']) ∧ ns.length ≤ ks.length ∧ x'.ok (n + ks.length)
  | [], x, n, h, _ => ⟨[], x, rfl, Nat.le_refl _, h⟩
  | q :: ks, x, n, h, hn => by
    simp only [List.length_cons] at hn
    obtain ⟨v, x1, e1, h1, h2, h3⟩ := take_ok h (by omega) (m := 3) (by omega) (by omega) S0 k
    obtain ⟨ns, x2, e2, h4, h5⟩ := marks_loop (a1 := a1) (a2 := a2) (a3 := a3) (a4 := a4) (a5 := a5) (a6 := a6) S0 k ks h3 (by omega)
    rw [List.map_cons, compL_cons]
    have ht : evT (sem fns (k + 1)) clsT (some (.cmp .gt (.fc 53 [(.var 0), (.cst (.int 3))]) (.cst (.int 0)))) [some (.c S0.length), a1, a2, a3, a4, a5, a6, some (.d (enP q))] (S0 ++ [x.cell]) = some (decide (0 < v), S0 ++ [x1.cell]) := by
      simp [evT, e1]
    show ∃ ns x', bnd (evT (sem fns (k + 1)) clsT (some (.cmp .gt (.fc 53 [(.var 0), (.cst (.int 3))]) (.cst (.int 0)))) [some (.c S0.length), a1, a2, a3, a4, a5, a6, some (.d (enP q))] (S0 ++ [x.cell])) _ = _ ∧ _
    rw [ht, bnd_some]
    by_cases hv : 0 < v
    · refine ⟨q.1 :: ns, x2, ?_, by simp; omega, ?_⟩
      · rw [decide_eq_true hv]
        have he : evE (sem fns (k + 1)) clsT (.ix (.var 7) (.cst (.int 0))) ([some (.c S0.length), a1, a2, a3, a4, a5, a6, none].set 7 (some (.d (enP q)))) (S0 ++ [x1.cell]) = some (.d (.int q.1), S0 ++ [x1.cell]) := by simp
        simp only
        rw [he, bnd_some]
        simp only [pu_d, ob_some]
        rw [e2]; rfl
      · have : n + 1 + ks.length = n + (ks.length + 1) := by omega
        rw [List.length_cons, ← this]; exact h5
    · refine ⟨ns, x2, ?_, by simp; omega, ?_⟩
      · rw [decide_eq_false hv]
        exact e2
      · have : n + 1 + ks.length = n + (ks.length + 1) := by omega
        rw [List.length_cons, ← this]; exact h5
theorem b_addN (a b : List Int) (h : a.length + b.length ≤ 10000) : binD .add (.list (a.map enI)) (.list (b.map enI)) = some (.list ((a ++ b).map enI)) := by
  rw [b_addL, decide_eq_true (by simp; unfold sizeLine; omega), List.map_append]; rfl
theorem begin_ok2 {x : Bx} {n : Nat} (h : x.ok n) (hn : n ≤ 900000) {t : List Key} (htl : t.length ≤ 2) (htr : KR t) (last : Bool) (S0 : Sto) (k : Nat) :
    ∃ v x', sem fns (k + 3) 70 [.c S0.length, .d (eT t), .d (.bool last)] (S0 ++ [x.cell]) = some (.d (eV v), S0 ++ [Bx.cell x']) ∧ VO 0 v ∧ (last = true → v.trust = none) ∧ (last = false → ∃ t', v.trust = some t' ∧ t'.length ≤ 2 ∧ KR t') ∧ x'.ok (n + 10) := by
  obtain ⟨v1, x1, e1, a1, a2, ok1⟩ := take_ok h (by omega) (m := 2) (by omega) (by omega) S0 (k + 1)
  obtain ⟨v2, x2, e2, b1, b2, ok2⟩ := take_ok ok1 (by omega) (m := 2) (by omega) (by omega) S0 (k + 1)
  have lt : ∀ t : List Key, b1D .list (eT t) = some (.list (t.map enP)) := fun _ => rfl
  -- the keys
  obtain ⟨ks, x3, hks, hkl, hkr, ok3⟩ : ∃ (ks : List Key) (x3 : Bx), evS (sem fns (k + 2)) clsT (.ifs (.cmp .eq (.fc 53 [(.var 0), (.cst (.int 2))]) (.cst (.int 0))) [(.app 3 (.tup [(.cst (.int 9)), (.fc 53 [(.var 0), (.cst (.int 2))])]))] []) [some (.c S0.length), some (.d (eT t)), some (.d (.bool last)), some (.own (.list (t.map enP))), none, none, none, none] (S0 ++ [x.cell])
      = some (.nx [some (.c S0.length), some (.d (eT t)), some (.d (.bool last)), some (.own (.list (ks.map enP))), none, none, none, none], S0 ++ [x3.cell]) ∧ ks.length ≤ 3 ∧ KR ks ∧ x3.ok (n + 2) := by
    by_cases hv : v1 = 0
    · refine ⟨t ++ [(9, v2)], x2, ?_, by simp; omega, htr.app (KR.one ⟨by omega, by omega⟩ ⟨b1, by omega⟩), ok2⟩
      have ha : appD (.list (t.map enP)) (.tuple [.int 9, .int v2]) = some (.list ((t ++ [(9, v2)]).map enP)) := by
        rw [app_ok (by simp; unfold sizeLine; omega), List.map_append]; rfl
      simp [e1, hv, e2, ha, -List.map_append]
    · refine ⟨t, x1, ?_, by omega, htr, ok1.mono (by omega)⟩
      simp [e1, hv]
  have hh : ∀ a3, evE (sem fns (k + 2)) clsT (.comp (.ix (.var 7) (.cst (.int 0))) (.nm 7) (.seq (.var 1)) none) [some (.c S0.length), some (.d (eT t)), some (.d (.bool last)), a3, none, none, none, none] (S0 ++ [x3.cell]) = some (.d (.list ((t.map (·.1)).map enI)), S0 ++ [x3.cell]) := fun a3 => by
    have z := comp_all (enc := enP) (g := fun q => enI q.1) (xs := t) (call := sem fns (k + 2)) (e := .ix (.var 7) (.cst (.int 0))) (tg := .nm 7) (it := .seq (.var 1)) (env := [some (.c S0.length), some (.d (eT t)), some (.d (.bool last)), a3, none, none, none, none]) (S := S0 ++ [x3.cell]) (by simp [eT]) fun q hq => ⟨_, rfl, by simp [wipeE, tgSlots]; rfl⟩
    rw [z, List.map_map]; rfl
  obtain ⟨ns, x4, hm, hml, ok4⟩ := marks_loop (a1 := some (.d (eT t))) (a2 := some (.d (.bool last))) (a3 := some (.d (.list (ks.map enP)))) (a4 := some (.d (.list ((t.map (·.1)).map enI)))) (a5 := none) (a6 := none) S0 (k + 1) ks ok3 (by omega)
  have hmc := comp_run (call := sem fns (k + 2)) (e := .ix (.var 7) (.cst (.int 0))) (tg := .nm 7) (it := .seq (.var 3)) (t := some (.cmp .gt (.fc 53 [(.var 0), (.cst (.int 3))]) (.cst (.int 0)))) (env := [some (.c S0.length), some (.d (eT t)), some (.d (.bool last)), some (.d (.list (ks.map enP))), some (.d (.list ((t.map (·.1)).map enI))), none, none, none]) (S := S0 ++ [x3.cell]) (by simp) hm
  have hadd := b_addN ns (t.map (·.1)) (by simp; omega)
  obtain ⟨y, x5, e5, hy, ok5⟩ := pick_ok ok4 (by omega) (xs := [eT [(1, 0)], eT [(1, 0)], eT [(1, 0), (2, 1)]]) (by simp) (by simp) S0 k
  have e5' : sem fns (k + 2) 54 [.c S0.length, .d (.list [.tuple [.tuple [.int 1, .int 0]], .tuple [.tuple [.int 1, .int 0]], .tuple [.tuple [.int 1, .int 0], .tuple [.int 2, .int 1]]])] (S0 ++ [x4.cell]) = some (.d y, S0 ++ [x5.cell]) := e5
  have hyt : ∃ t', y = eT t' ∧ t'.length ≤ 2 ∧ KR t' := by
    have k1 : KR [((1 : Int), (0 : Int))] := KR.one ⟨by omega, by omega⟩ ⟨by omega, by omega⟩
    have k2 : KR [((1 : Int), (0 : Int)), (2, 1)] := k1.app (KR.one ⟨by omega, by omega⟩ ⟨by omega, by omega⟩)
    simp at hy
    rcases hy with rfl | rfl
    · exact ⟨_, rfl, by simp, k1⟩
    · exact ⟨_, rfl, by simp, k2⟩
  obtain ⟨t', rfl, ht1, ht2⟩ := hyt
  have hr1 := rowP_ok (l := ks) (by omega) hkr (S0 ++ [x5.cell]) (k + 1)
  have hr2 := rowN_ok (l := t.map (·.1)) (by simp; omega) (S0 ++ [x5.cell]) (k + 1)
  have hr3 := rowN_ok (l := ns ++ t.map (·.1)) (by simp; omega) (S0 ++ [x5.cell]) (k + 1)
  refine ⟨⟨rowP ks, rowN (t.map (·.1)), if last then none else some t', rowN (ns ++ t.map (·.1)), []⟩, x5, ?_, ?_, ?_, ?_, ok5.mono (by omega)⟩
  · rw [semS rfl]
    cases last with
    | true =>
      simp [runF, envOf, cd__law_begin_of, lt, hks, hh, hmc, hadd, e5', hr1, hr2, hr3, tk1, -S_ifs, -List.map_append, -List.map_map]
      rfl
    | false =>
      simp [runF, envOf, cd__law_begin_of, lt, hks, hh, hmc, hadd, e5', hr1, hr2, hr3, tk1, -S_ifs, -List.map_append, -List.map_map]
      rfl
  · have g1 := rowP_len ks
    have g2 := rowN_len (t.map (·.1))
    have g3 := rowN_len (ns ++ t.map (·.1))
    simp only [List.length_append, List.length_map] at g2 g3
    refine ⟨by simp only; omega, by simp only; omega, by simp only; omega, by simp, hkr.row, fun u hu => ?_⟩
    cases last with
    | true => simp at hu
    | false => simp at hu; subst hu; exact ⟨ht1, ht2⟩
  · intro hl; simp [hl]
  · intro hl; simp [hl]; exact ⟨ht1, ht2⟩
end VI.M
set_option Elab.async false
set_option linter.all false
set_option maxRecDepth 100000
/-! N3: a version with one thing changed. -/
namespace VI.M
open PySem
theorem c_neNilP (l : List Key) : cmpD .ne (.list (l.map enP)) (.list []) = some (!decide (l = [])) := by
  rw [d_ne, shPL, show SeqAt.shaped (.list []) = true from by decide +kernel, eqvp_nil]; rfl
def putC (j : Nat) : C := .ifx (.cmp .isin (.var 9) (.var j)) (.fc 71 [(.var j), (.var 9)]) (.fc 69 [(.bin .add (.b1 .list (.var j)) (.lst [(.var 9)]))])
theorem put_ok {env : Env} {j : Nat} {l : List Int} {a : Int} (h1 : env[j]? = some (some (.d (eN l)))) (h2 : env[9]? = some (some (.d (.int a)))) (hl : l.length < 63) (S : Sto) (k : Nat) : ∃ l', evE (sem fns (k + 1)) clsT (putC j) env S = some (.d (eN l'), S) ∧ l'.length ≤ l.length + 1 := by
  have ll : b1D .list (eN l) = some (.list (l.map enI)) := rfl
  by_cases h : a ∈ l
  · refine ⟨_, ?_, Nat.le_succ_of_le (List.length_filter_le (fun b => !decide (b = a)) l)⟩
    simp [putC, h1, h2, h, without_ok]
  · refine ⟨rowN (l ++ [a]), ?_, by have := rowN_len (l ++ [a]); simpa using this⟩
    have hadd := b_addN l [a] (by simp; omega)
    have hr := rowN_ok (l := l ++ [a]) (by simp; omega) S k
    have e1 : PyData.list [.int a] = .list ([a].map enI) := rfl
    simp only [putC, E_ifx, E_cmp, E_var, h1, h2, slW_d, bnd_some, pu_d, ob_some, c_inN, decide_eq_false h, boolOf_b, E_fc, Ws_cons, Ws_nil, E_bin, E_b1, rd_d, ll, E_lst, Es_cons, Es_nil, e1, hadd, argW_d, hr]
def chA : List Sc := [(.ifs (.and [(.cmp .lt (.var 10) (.cst (.int 3))), (.cmp .eq (.var 2) (.lst []))]) [(.ret (.tup [(.fc 69 [(.bin .add (.b1 .list (.var 4)) (.lst [(.tup [(.var 9), (.fc 53 [(.var 0), (.cst (.int 2))])])]))]), (.var 5), (.var 6), (.var 7), (.var 8)]))] []), (.ifs (.and [(.cmp .eq (.var 10) (.cst (.int 3))), (.cmp .gt (.b1 .len (.var 4)) (.cst (.int 1)))]) [(.asg (.nm 3) (.b1 .tuple (.comp (.var 12) (.nm 12) (.seq (.var 4)) (some (.cmp .ne (.ix (.var 12) (.cst (.int 0))) (.var 9)))))), (.ret (.tup [(.var 3), (.var 5), (.var 6), (.var 7), (.fc 71 [(.var 8), (.var 9)])]))] []), (.ifs (.cmp .lt (.var 10) (.cst (.int 6))) [(.asg (.nm 11) (putC 5)), (.ret (.tup [(.var 4), (.var 11), (.var 6), (.var 7), (.var 8)]))] []), (.ifs (.cmp .lt (.var 10) (.cst (.int 9))) [(.asg (.nm 11) (putC 7)), (.ret (.tup [(.var 4), (.var 5), (.var 6), (.var 11), (.var 8)]))] []), (.ifs (.and [(.cmp .eq (.var 10) (.cst (.int 9))), (.cmp .ne (.var 2) (.lst []))]) [(.asg (.nm 11) (putC 8)), (.ret (.tup [(.var 4), (.var 5), (.var 6), (.var 7), (.var 11)]))] []), (.ifs (.or [(.isN (.var 6)), (.cmp .eq (.var 10) (.cst (.int 9)))]) [(.ret (.tup [(.var 4), (.var 5), (.var 6), (.var 7), (.var 8)]))] []), (.asg (.nm 3) (.b1 .tuple (.comp (.var 12) (.nm 12) (.seq (.var 6)) (some (.cmp .ne (.ix (.var 12) (.cst (.int 0))) (.var 9)))))), (.ifs (.cmp .eq (.b1 .len (.var 3)) (.b1 .len (.var 6))) [(.asg (.nm 3) (.fc 69 [(.bin .add (.b1 .list (.var 6)) (.lst [(.tup [(.var 9), (.fc 53 [(.var 0), (.cst (.int 2))])])]))]))] []), (.ret (.tup [(.var 4), (.var 5), (.var 3), (.var 7), (.var 8)]))]
theorem ne_comp {env : Env} {j : Nat} {l : List Key} {a : Int} {S : Sto} {k : Nat} (h1 : env[j]? = some (some (.d (eT l)))) (h2 : env[9]? = some (some (.d (.int a)))) (h3 : env.length = 13) : evE (sem fns k) clsT (.comp (.var 12) (.nm 12) (.seq (.var j)) (some (.cmp .ne (.ix (.var 12) (.cst (.int 0))) (.var 9)))) env S = some (.d (.list ((l.filter fun q => !decide (q.1 = a)).map enP)), S) :=
  comp_ok (enc := enP) (g := enP) (by simp [h1, eT]) fun q hq => ⟨_, rfl, by
    have e9 : (((env.set 12 none).set 12 (some (Sl.d (enP q)))))[9]? = some (some (.d (.int a))) := by simp [h2]
    have e12 : (((env.set 12 none).set 12 (some (Sl.d (enP q)))))[12]? = some (some (.d (enP q))) := by simp [h3]
    simp only [wipeE, tgSlots, evT, E_cmp, E_ix, E_var, e12, e9, slW_d, bnd_some, E_cst, rd_d, pu_d, ob_some, p0, c_neI, boolOf_b], fun _ => by
    have e12 : (((env.set 12 none).set 12 (some (Sl.d (enP q)))))[12]? = some (some (.d (enP q))) := by simp [h3]
    simp only [wipeE, tgSlots, E_var, e12, slW_d]⟩
theorem chA_ok {x : Bx} {n : Nat} (h : x.ok n) (hn : n ≤ 900000) {c : Nat} (hc : c ≤ 40) {v : Ver} (hv : VO c v) {num wy : Int} (hn1 : 1 ≤ num ∧ num ≤ 5) (hw : 0 ≤ wy ∧ wy < 12) {K1 : List Key} (S0 : Sto) (k : Nat) :
    ∃ v' x', evB (sem fns (k + 1)) clsT chA [some (.c S0.length), some (.d (eV v)), some (.d (.list (K1.map enP))), none, some (.d (eT v.keys)), some (.d (eN v.heads)), some (.d (eO v.trust)), some (.d (eN v.marks)), some (.d (eN v.gone)), some (.d (.int num)), some (.d (.int wy)), none, none] (S0 ++ [x.cell]) = some (.rt (.d (eV v')), S0 ++ [Bx.cell x']) ∧ VO (c + 1) v' ∧ v'.trust.isSome = v.trust.isSome ∧ x'.ok (n + 1) := by
  obtain ⟨vk, vh, vm, vg, vr, vt⟩ := hv
  obtain ⟨d2, x2, e2, a1, a2, ok2⟩ := take_ok h (by omega) (m := 2) (by omega) (by omega) S0 k
  have lt : ∀ t : List Key, b1D .list (eT t) = some (.list (t.map enP)) := fun _ => rfl
  have e1 : PyData.list [.tuple [.int num, .int d2]] = .list ([(num, d2)].map enP) := rfl
  have kr1 : KR [(num, d2)] := KR.one ⟨by omega, by omega⟩ ⟨a1, by omega⟩
  have lev : eV v = .tuple [eT v.keys, eN v.heads, eO v.trust, eN v.marks, eN v.gone] := rfl
  by_cases c1 : wy < 3 ∧ K1 = []
  · obtain ⟨c1, rfl⟩ := c1
    have hadd := addP (a := v.keys) (b := [(num, d2)]) (by simp; omega)
    have hr := rowP_ok (l := v.keys ++ [(num, d2)]) (by simp; omega) (vr.app kr1) (S0 ++ [x2.cell]) k
    have hq := c_eqNilP []
    refine ⟨{ v with keys := rowP (v.keys ++ [(num, d2)]) }, x2, ?_, ⟨?_, by simp only; omega, by simp only; omega, by simp only; omega, (vr.app kr1).row, fun t ht => ?_⟩, rfl, ok2⟩
    · simp at hq
      have eD : PyData.list [enP (num, d2)] = .list ([(num, d2)].map enP) := rfl
      have eP : PyData.tuple [.int num, .int d2] = enP (num, d2) := rfl
      simp [chA, c1, hq, lt, e2, eP, -List.map_append]
      simp at hadd hr
      simp [hadd, hr]
      rfl
    · have := rowP_len (v.keys ++ [(num, d2)])
      simp only [List.length_append, List.length_cons, List.length_nil] at this
      simp only; omega
    · obtain ⟨b1, b2⟩ := vt t ht
      exact ⟨by omega, b2⟩
  · have cc1 : evE (sem fns (k + 1)) clsT (.and [(.cmp .lt (.var 10) (.cst (.int 3))), (.cmp .eq (.var 2) (.lst []))]) [some (.c S0.length), some (.d (eV v)), some (.d (.list (K1.map enP))), none, some (.d (eT v.keys)), some (.d (eN v.heads)), some (.d (eO v.trust)), some (.d (eN v.marks)), some (.d (eN v.gone)), some (.d (.int num)), some (.d (.int wy)), none, none] (S0 ++ [x.cell]) = some (.d (.bool false), S0 ++ [x.cell]) := by
      by_cases b1 : wy < 3
      · have b2 : K1 ≠ [] := fun e => c1 ⟨b1, e⟩
        simp [b1, c_eqNilP, b2]
      · simp [b1]
    by_cases c2 : wy = 3 ∧ 1 < v.keys.length
    · obtain ⟨c2, c3⟩ := c2
      have hcm := ne_comp (j := 4) (l := v.keys) (a := num) (S := S0 ++ [x.cell]) (k := k + 1) (env := [some (.c S0.length), some (.d (eV v)), some (.d (.list (K1.map enP))), none, some (.d (eT v.keys)), some (.d (eN v.heads)), some (.d (eO v.trust)), some (.d (eN v.marks)), some (.d (eN v.gone)), some (.d (.int num)), some (.d (.int wy)), none, none]) rfl rfl rfl
      have hwo := without_ok v.gone num (S0 ++ [x.cell]) k
      have cc2 : evE (sem fns (k + 1)) clsT (.and [(.cmp .eq (.var 10) (.cst (.int 3))), (.cmp .gt (.b1 .len (.var 4)) (.cst (.int 1)))]) [some (.c S0.length), some (.d (eV v)), some (.d (.list (K1.map enP))), none, some (.d (eT v.keys)), some (.d (eN v.heads)), some (.d (eO v.trust)), some (.d (eN v.marks)), some (.d (eN v.gone)), some (.d (.int num)), some (.d (.int wy)), none, none] (S0 ++ [x.cell]) = some (.d (.bool true), S0 ++ [x.cell]) := by
        have : (1 : Int) < (v.keys.length : Int) := by omega
        simp [c2, this]
      refine ⟨{ v with keys := v.keys.filter fun q => !decide (q.1 = num), gone := v.gone.filter fun b => !decide (b = num) }, x, ?_, ⟨?_, by simp only; omega, by simp only; omega, ?_, vr.filter _, fun t ht => ?_⟩, rfl, h.mono (by omega)⟩
      · have z1 : evB (sem fns (k + 1)) clsT [(.asg (.nm 3) (.b1 .tuple (.comp (.var 12) (.nm 12) (.seq (.var 4)) (some (.cmp .ne (.ix (.var 12) (.cst (.int 0))) (.var 9)))))), (.ret (.tup [(.var 3), (.var 5), (.var 6), (.var 7), (.fc 71 [(.var 8), (.var 9)])]))] [some (.c S0.length), some (.d (eV v)), some (.d (.list (K1.map enP))), none, some (.d (eT v.keys)), some (.d (eN v.heads)), some (.d (eO v.trust)), some (.d (eN v.marks)), some (.d (eN v.gone)), some (.d (.int num)), some (.d (.int wy)), none, none] (S0 ++ [x.cell])
            = some (.rt (.d (eV { v with keys := v.keys.filter fun q => !decide (q.1 = num), gone := v.gone.filter fun b => !decide (b = num) })), S0 ++ [x.cell]) := by
          simp [hcm, hwo]
          rfl
        rw [chA, B_cons, S_ifs, cc1]
        simp only [bnd_some, pu_d, ob_some, boolOf_b, B_nil]
        rw [B_cons, S_ifs, cc2]
        simp only [bnd_some, pu_d, ob_some, boolOf_b]
        rw [z1]; rfl
      · have := List.length_filter_le (fun q : Key => !decide (q.1 = num)) v.keys
        simp only; omega
      · have := List.length_filter_le (fun b : Int => !decide (b = num)) v.gone
        simp only; omega
      · obtain ⟨b1, b2⟩ := vt t ht
        exact ⟨by omega, b2⟩
    · have cc2 : evE (sem fns (k + 1)) clsT (.and [(.cmp .eq (.var 10) (.cst (.int 3))), (.cmp .gt (.b1 .len (.var 4)) (.cst (.int 1)))]) [some (.c S0.length), some (.d (eV v)), some (.d (.list (K1.map enP))), none, some (.d (eT v.keys)), some (.d (eN v.heads)), some (.d (eO v.trust)), some (.d (eN v.marks)), some (.d (eN v.gone)), some (.d (.int num)), some (.d (.int wy)), none, none] (S0 ++ [x.cell]) = some (.d (.bool false), S0 ++ [x.cell]) := by
        by_cases b1 : wy = 3
        · have b2 : ¬ (1 : Int) < (v.keys.length : Int) := fun e => c2 ⟨b1, by omega⟩
          simp [b1, b2]
        · simp [b1]
      rw [chA]
      -- the two first tests fail
      have skip2 : ∀ r : List Sc, evB (sem fns (k + 1)) clsT ((.ifs (.and [(.cmp .lt (.var 10) (.cst (.int 3))), (.cmp .eq (.var 2) (.lst []))]) [(.ret (.tup [(.fc 69 [(.bin .add (.b1 .list (.var 4)) (.lst [(.tup [(.var 9), (.fc 53 [(.var 0), (.cst (.int 2))])])]))]), (.var 5), (.var 6), (.var 7), (.var 8)]))] []) :: (.ifs (.and [(.cmp .eq (.var 10) (.cst (.int 3))), (.cmp .gt (.b1 .len (.var 4)) (.cst (.int 1)))]) [(.asg (.nm 3) (.b1 .tuple (.comp (.var 12) (.nm 12) (.seq (.var 4)) (some (.cmp .ne (.ix (.var 12) (.cst (.int 0))) (.var 9)))))), (.ret (.tup [(.var 3), (.var 5), (.var 6), (.var 7), (.fc 71 [(.var 8), (.var 9)])]))] []) :: r) [some (.c S0.length), some (.d (eV v)), some (.d (.list (K1.map enP))), none, some (.d (eT v.keys)), some (.d (eN v.heads)), some (.d (eO v.trust)), some (.d (eN v.marks)), some (.d (eN v.gone)), some (.d (.int num)), some (.d (.int wy)), none, none] (S0 ++ [x.cell])
          = evB (sem fns (k + 1)) clsT r [some (.c S0.length), some (.d (eV v)), some (.d (.list (K1.map enP))), none, some (.d (eT v.keys)), some (.d (eN v.heads)), some (.d (eO v.trust)), some (.d (eN v.marks)), some (.d (eN v.gone)), some (.d (.int num)), some (.d (.int wy)), none, none] (S0 ++ [x.cell]) := fun r => by
        rw [B_cons, S_ifs, cc1]
        simp only [bnd_some, pu_d, ob_some, boolOf_b, B_nil]
        rw [B_cons, S_ifs, cc2]
        simp only [bnd_some, pu_d, ob_some, boolOf_b, B_nil]
      rw [skip2]
      by_cases c3 : wy < 6
      · obtain ⟨l', hp, hl'⟩ := put_ok (j := 5) (l := v.heads) (a := num) (env := [some (.c S0.length), some (.d (eV v)), some (.d (.list (K1.map enP))), none, some (.d (eT v.keys)), some (.d (eN v.heads)), some (.d (eO v.trust)), some (.d (eN v.marks)), some (.d (eN v.gone)), some (.d (.int num)), some (.d (.int wy)), none, none]) rfl rfl (by omega) (S0 ++ [x.cell]) k
        refine ⟨{ v with heads := l' }, x, ?_, ⟨by simp only; omega, by simp only; omega, by simp only; omega, by simp only; omega, vr, fun t ht => ?_⟩, rfl, h.mono (by omega)⟩
        · simp [c3, hp]
          rfl
        · obtain ⟨b1, b2⟩ := vt t ht
          exact ⟨by omega, b2⟩
      · by_cases c4 : wy < 9
        · obtain ⟨l', hp, hl'⟩ := put_ok (j := 7) (l := v.marks) (a := num) (env := [some (.c S0.length), some (.d (eV v)), some (.d (.list (K1.map enP))), none, some (.d (eT v.keys)), some (.d (eN v.heads)), some (.d (eO v.trust)), some (.d (eN v.marks)), some (.d (eN v.gone)), some (.d (.int num)), some (.d (.int wy)), none, none]) rfl rfl (by omega) (S0 ++ [x.cell]) k
          refine ⟨{ v with marks := l' }, x, ?_, ⟨by simp only; omega, by simp only; omega, by simp only; omega, by simp only; omega, vr, fun t ht => ?_⟩, rfl, h.mono (by omega)⟩
          · simp [c3, c4, hp]
            rfl
          · obtain ⟨b1, b2⟩ := vt t ht
            exact ⟨by omega, b2⟩
        · by_cases c5 : wy = 9
          · by_cases c6 : K1 = []
            · refine ⟨v, x, ?_, ⟨by omega, by omega, by omega, by omega, vr, fun t ht => ?_⟩, rfl, h.mono (by omega)⟩
              · subst c6
                have hq := c_neNilP []
                simp at hq
                cases ht : v.trust with
                | none => simp [c3, c4, c5, hq, eO, lev, ht]
                | some t =>
                  have e0 : eT t = .tuple (t.map enP) := rfl
                  simp [c3, c4, c5, hq, eO, lev, ht, e0]
              · obtain ⟨b1, b2⟩ := vt t ht
                exact ⟨by omega, b2⟩
            · obtain ⟨l', hp, hl'⟩ := put_ok (j := 8) (l := v.gone) (a := num) (env := [some (.c S0.length), some (.d (eV v)), some (.d (.list (K1.map enP))), none, some (.d (eT v.keys)), some (.d (eN v.heads)), some (.d (eO v.trust)), some (.d (eN v.marks)), some (.d (eN v.gone)), some (.d (.int num)), some (.d (.int wy)), none, none]) rfl rfl (by omega) (S0 ++ [x.cell]) k
              refine ⟨{ v with gone := l' }, x, ?_, ⟨by simp only; omega, by simp only; omega, by simp only; omega, by simp only; omega, vr, fun t ht => ?_⟩, rfl, h.mono (by omega)⟩
              · subst c5
                simp [c_neNilP, c6, hp]
                rfl
              · obtain ⟨b1, b2⟩ := vt t ht
                exact ⟨by omega, b2⟩
          · cases ht : v.trust with
            | none =>
              refine ⟨v, x, ?_, ⟨by omega, by omega, by omega, by omega, vr, fun t ht' => by rw [ht] at ht'; cases ht'⟩, by rw [ht], h.mono (by omega)⟩
              simp [c3, c4, c5, eO, lev, ht]
            | some t =>
              obtain ⟨b1, b2⟩ := vt t ht
              have hcm := ne_comp (j := 6) (l := t) (a := num) (S := S0 ++ [x.cell]) (k := k + 1) (env := [some (.c S0.length), some (.d (eV v)), some (.d (.list (K1.map enP))), none, some (.d (eT v.keys)), some (.d (eN v.heads)), some (.d (eT t)), some (.d (eN v.marks)), some (.d (eN v.gone)), some (.d (.int num)), some (.d (.int wy)), none, none]) rfl rfl rfl
              have isn : ∀ z : List D, (PyData.tuple z = .none) = False := fun z => by simp
              have cN : evE (sem fns (k + 1)) clsT (.or [(.isN (.var 6)), (.cmp .eq (.var 10) (.cst (.int 9)))]) [some (.c S0.length), some (.d (eV v)), some (.d (.list (K1.map enP))), none, some (.d (eT v.keys)), some (.d (eN v.heads)), some (.d (eT t)), some (.d (eN v.marks)), some (.d (eN v.gone)), some (.d (.int num)), some (.d (.int wy)), none, none] (S0 ++ [x.cell]) = some (.d (.bool false), S0 ++ [x.cell]) := by
                have e0 : eT t = .tuple (t.map enP) := rfl
                simp [e0, c5]
              have eo : eO (some t) = eT t := rfl
              have tup : ∀ l : List Key, b1D .tuple (.list (l.map enP)) = some (eT l) := fun _ => rfl
              by_cases c7 : (t.filter fun q => !decide (q.1 = num)).length = t.length
              · have hadd := addP (a := t) (b := [(num, d2)]) (by simp; omega)
                have hr := rowP_ok (l := t ++ [(num, d2)]) (by simp; omega) (b2.app kr1) (S0 ++ [x2.cell]) k
                refine ⟨{ v with trust := some (rowP (t ++ [(num, d2)])) }, x2, ?_, ⟨by simp only; omega, by simp only; omega, by simp only; omega, by simp only; omega, vr, fun t' ht' => ?_⟩, rfl, ok2⟩
                · have eP : PyData.tuple [.int num, .int d2] = enP (num, d2) := rfl
                  have c7' : (((t.filter fun q => !decide (q.1 = num)).length : Nat) : Int) = (t.length : Int) := by omega
                  rw [eo]
                  simp [c3, c4, c5, cN, -E_or, hcm, tup, c7', lt, e2, eP]
                  simp at hadd hr
                  simp [hadd, hr]
                  rfl
                · simp at ht'; subst ht'
                  refine ⟨?_, (b2.app kr1).row⟩
                  have := rowP_len (t ++ [(num, d2)])
                  simp only [List.length_append, List.length_cons, List.length_nil] at this
                  omega
              · refine ⟨{ v with trust := some (t.filter fun q => !decide (q.1 = num)) }, x, ?_, ⟨by simp only; omega, by simp only; omega, by simp only; omega, by simp only; omega, vr, fun t' ht' => ?_⟩, rfl, h.mono (by omega)⟩
                · have c7' : ¬ (((t.filter fun q => !decide (q.1 = num)).length : Nat) : Int) = (t.length : Int) := by omega
                  rw [eo]
                  simp [c3, c4, c5, cN, -E_or, hcm, tup, c7']
                  rfl
                · simp at ht'; subst ht'
                  refine ⟨?_, b2.filter _⟩
                  have := List.length_filter_le (fun q : Key => !decide (q.1 = num)) t
                  omega
end VI.M
set_option Elab.async false
set_option linter.all false
set_option maxRecDepth 100000
/-! N4: a changed version, a zone. -/
namespace VI.M
open PySem
theorem changed_ok {x : Bx} {n : Nat} (h : x.ok n) (hn : n ≤ 800000) {c : Nat} (hc : c ≤ 40) {v : Ver} (hv : VO c v) (S0 : Sto) (k : Nat) :
    ∃ v' x', sem fns (k + 2) 72 [.c S0.length, .d (eV v)] (S0 ++ [x.cell]) = some (.d (eV v'), S0 ++ [Bx.cell x']) ∧ VO (c + 1) v' ∧ v'.trust.isSome = v.trust.isSome ∧ x'.ok (n + 3) := by
  obtain ⟨v1, x1, e1, a1, a2, ok1⟩ := take_ok h (by omega) (m := 5) (by omega) (by omega) S0 k
  obtain ⟨v2, x2, e2, b1, b2, ok2⟩ := take_ok ok1 (by omega) (m := 12) (by omega) (by omega) S0 k
  obtain ⟨v', x3, e3, h1, h2, h3⟩ := chA_ok ok2 (by omega) hc hv (num := 1 + v1) (wy := v2) ⟨by omega, by omega⟩ ⟨b1, b2⟩ (K1 := v.keys.filter fun q => decide (q.1 = 1 + v1)) S0 k
  refine ⟨v', x3, ?_, h1, h2, h3⟩
  rw [semS rfl]
  have hu : evS (sem fns (k + 1)) clsT (.unp [(.nm 4), (.nm 5), (.nm 6), (.nm 7), (.nm 8)] (.var 1)) [some (.c S0.length), some (.d (eV v)), none, none, none, none, none, none, none, none, none, none, none] (S0 ++ [x.cell])
      = some (.nx [some (.c S0.length), some (.d (eV v)), none, none, some (.d (eT v.keys)), some (.d (eN v.heads)), some (.d (eO v.trust)), some (.d (eN v.marks)), some (.d (eN v.gone)), none, none, none, none], S0 ++ [x.cell]) := by simp [eV]
  have hc1 : evE (sem fns (k + 1)) clsT (.comp (.var 12) (.nm 12) (.seq (.var 4)) (some (.cmp .eq (.ix (.var 12) (.cst (.int 0))) (.var 9)))) [some (.c S0.length), some (.d (eV v)), none, none, some (.d (eT v.keys)), some (.d (eN v.heads)), some (.d (eO v.trust)), some (.d (eN v.marks)), some (.d (eN v.gone)), some (.d (.int (1 + v1))), some (.d (.int v2)), none, none] (S0 ++ [x2.cell]) = some (.d (.list ((v.keys.filter fun q => decide (q.1 = 1 + v1)).map enP)), S0 ++ [x2.cell]) :=
    comp_ok (enc := enP) (g := enP) (by simp [eT]) fun q hq => ⟨_, rfl, by simp [wipeE, tgSlots, evT], fun _ => by simp [wipeE, tgSlots]⟩
  unfold chA putC at e3
  have hb : evB (sem fns (k + 1)) clsT cd__law_changed [some (.c S0.length), some (.d (eV v)), none, none, none, none, none, none, none, none, none, none, none] (S0 ++ [x.cell]) = some (.rt (.d (eV v')), S0 ++ [x3.cell]) := by
    unfold cd__law_changed
    rw [B_cons, hu]
    simp only [bnd_some]
    have ht : evS (sem fns (k + 1)) clsT (.tupA [(.nm 9), (.nm 10)] [(.bin .add (.cst (.int 1)) (.fc 53 [(.var 0), (.cst (.int 5))])), (.fc 53 [(.var 0), (.cst (.int 12))])]) [some (.c S0.length), some (.d (eV v)), none, none, some (.d (eT v.keys)), some (.d (eN v.heads)), some (.d (eO v.trust)), some (.d (eN v.marks)), some (.d (eN v.gone)), none, none, none, none] (S0 ++ [x.cell])
        = some (.nx [some (.c S0.length), some (.d (eV v)), none, none, some (.d (eT v.keys)), some (.d (eN v.heads)), some (.d (eO v.trust)), some (.d (eN v.marks)), some (.d (eN v.gone)), some (.d (.int (1 + v1))), some (.d (.int v2)), none, none], S0 ++ [x2.cell]) := by simp [e1, e2]
    rw [B_cons, ht]
    simp only [bnd_some]
    rw [B_cons, S_asg4, hc1]
    exact e3
  have he : envOf 13 [.c S0.length, .d (eV v)] = some [some (.c S0.length), some (.d (eV v)), none, none, none, none, none, none, none, none, none, none, none] := rfl
  unfold runF
  show gd (decide ((2 : Nat) = 2)) (ob (envOf 13 [.c S0.length, .d (eV v)]) _) = _
  rw [he]
  simp only [ob_some, decide_true, gd_true]
  rw [hb]
  simp [tk1]
structure LO (last : Bool) (t : Nat) (at_ : Int) (l : List (Int × Ver)) (v : Ver) : Prop where
  len : l.length = t + 1
  asc : l.Pairwise fun a b => a.1 < b.1
  t0 : ∀ p, p ∈ l → 0 ≤ p.1 ∧ p.1 ≤ at_
  at_le : at_ ≤ 7 * t
  at0 : 0 ≤ at_
  vo : ∀ p, p ∈ l → VO (2 * t) p.2
  vv : VO (2 * t) v
  tr : ∀ p, p ∈ l → p.2.trust.isSome = !last
  tv : v.trust.isSome = !last
theorem VO.mono {c d : Nat} {v : Ver} (h : VO c v) (hd : c ≤ d) : VO d v := by
  obtain ⟨h1, h2, h3, h4, h5, h6⟩ := h
  exact ⟨by omega, by omega, by omega, by omega, h5, fun t ht => ⟨by have := (h6 t ht).1; omega, (h6 t ht).2⟩⟩
def znIn : List Sc := [(.asg (.nm 8) (.fc 72 [(.var 0), (.var 8)]))]
def znOut : List Sc := [(.asg (.nm 9) (.bin .add (.bin .add (.var 9) (.cst (.int 1))) (.fc 53 [(.var 0), (.cst (.int 7))]))), (.for_ (.nm 10) (.rng (.bin .add (.cst (.int 1)) (.fc 53 [(.var 0), (.cst (.int 2))]))) znIn), (.app 4 (.tup [(.var 9), (.var 8)]))]
theorem rng_int {i : Int} (h0 : 0 ≤ i) (h : i ≤ 1000) : itemsOf 1 (.int i) = some ((List.range i.toNat).map fun (n : Nat) => PyData.int (n : Int)) := by
  show gd (decide _ && decide _) _ = _
  rw [decide_eq_true (by omega), decide_eq_true (by omega)]
  rfl
theorem zn_in {c : Nat} (hc : c ≤ 30) {x : Bx} {n : Nat} (h : x.ok n) (hn : n ≤ 700000) {v : Ver} (hv : VO c v) {m : Nat} (hm : m ≤ 2) (a1 a2 a3 a4 a5 a6 a7 a9 a10 : Option Sl) (S0 : Sto) (k : Nat) :
    ∃ v' x' b10, forLoop (.nm 10) (fun env' S' => evB (sem fns (k + 2)) clsT znIn env' S') ((List.range m).map fun (n : Nat) => PyData.int (n : Int)) [some (.c S0.length), a1, a2, a3, a4, a5, a6, a7, some (.d (eV v)), a9, a10] (S0 ++ [x.cell])
      = some (.nx [some (.c S0.length), a1, a2, a3, a4, a5, a6, a7, some (.d (eV v')), a9, b10], S0 ++ [Bx.cell x']) ∧ VO (c + 2) v' ∧ v'.trust.isSome = v.trust.isSome ∧ x'.ok (n + 6) := by
  have z1 := for_nx (tg := .nm 10) (body := fun env' S' => evB (sem fns (k + 2)) clsT znIn env' S') (enc := fun n : Nat => PyData.int (n : Int)) (xs := List.range m) (S := S0 ++ [x.cell]) (env := [some (.c S0.length), a1, a2, a3, a4, a5, a6, a7, some (.d (eV v)), a9, a10])
    (fun dn env' S' => ∃ v' x' b10, S' = S0 ++ [Bx.cell x'] ∧ VO (c + dn.length) v' ∧ v'.trust.isSome = v.trust.isSome ∧ x'.ok (n + 3 * dn.length) ∧ env' = [some (.c S0.length), a1, a2, a3, a4, a5, a6, a7, some (.d (eV v')), a9, b10])
    ⟨v, x, a10, rfl, hv, rfl, h, rfl⟩ fun dn y rest env1 S1 hdq hp1 => by
      obtain ⟨v1, x1, b10, rfl, f1, f2, f3, rfl⟩ := hp1
      have hl : dn.length + 1 ≤ m := by
        have := congrArg List.length hdq
        simp at this; omega
      obtain ⟨v2, x2, e, g1, g2, g3⟩ := changed_ok f3 (by omega) (by omega) f1 S0 k
      refine ⟨_, [some (.c S0.length), a1, a2, a3, a4, a5, a6, a7, some (.d (eV v2)), a9, some (.d (.int (y : Int)))], _, rfl, by simp [znIn, e], v2, x2, _, rfl, ?_, by rw [g2, f2], ?_, rfl⟩
      · rw [List.length_append]; exact g1
      · have : n + 3 * (dn ++ [y]).length = n + 3 * dn.length + 3 := by simp; omega
        rw [this]; exact g3
  obtain ⟨env', S', h1, v', x', b10, rfl, f1, f2, f3, rfl⟩ := z1
  rw [List.length_range] at f1 f3
  exact ⟨v', x', b10, h1, f1.mono (by omega), f2, f3.mono (by omega)⟩
theorem zn_out {last : Bool} {t : Nat} (ht : t ≤ 3) {at_ : Int} {l : List (Int × Ver)} {v : Ver} (hL : LO last t at_ l v) {x : Bx} {n : Nat} (h : x.ok n) (hn : n ≤ 600000) (a1 a2 a3 a5 a6 a7 a10 : Option Sl) (S0 : Sto) (k : Nat) :
    ∃ at' v' x' b10, evB (sem fns (k + 2)) clsT znOut [some (.c S0.length), a1, a2, a3, some (.own (.list (l.map eL))), a5, a6, a7, some (.d (eV v)), some (.d (.int at_)), a10] (S0 ++ [x.cell])
      = some (.nx [some (.c S0.length), a1, a2, a3, some (.own (.list ((l ++ [(at', v')]).map eL))), a5, a6, a7, some (.d (eV v')), some (.d (.int at')), b10], S0 ++ [Bx.cell x']) ∧ LO last (t + 1) at' (l ++ [(at', v')]) v' ∧ x'.ok (n + 10) := by
  obtain ⟨d1, x1, e1, a1', a2', ok1⟩ := take_ok h (by omega) (m := 7) (by omega) (by omega) S0 (k + 1)
  obtain ⟨d2, x2, e2, b1', b2', ok2⟩ := take_ok ok1 (by omega) (m := 2) (by omega) (by omega) S0 (k + 1)
  obtain ⟨v', x3, b10, e3, f1, f2, f3⟩ := zn_in (c := 2 * t) (by omega) ok2 (by omega) hL.vv (m := (1 + d2).toNat) (by omega) a1 a2 a3 (some (.own (.list (l.map eL)))) a5 a6 a7 (some (.d (.int (at_ + 1 + d1)))) a10 S0 k
  refine ⟨at_ + 1 + d1, v', x3, b10, ?_, ?_, f3.mono (by omega)⟩
  · have hi : evIt (sem fns (k + 2)) clsT (.rng (.bin .add (.cst (.int 1)) (.fc 53 [(.var 0), (.cst (.int 2))]))) [some (.c S0.length), a1, a2, a3, some (.own (.list (l.map eL))), a5, a6, a7, some (.d (eV v)), some (.d (.int (at_ + 1 + d1))), a10] (S0 ++ [x1.cell]) = some ((List.range (1 + d2).toNat).map fun (n : Nat) => PyData.int (n : Int), S0 ++ [x2.cell]) := by
      simp [e2, rng_int (i := 1 + d2) (by omega) (by omega)]
    have hf : evS (sem fns (k + 2)) clsT (.for_ (.nm 10) (.rng (.bin .add (.cst (.int 1)) (.fc 53 [(.var 0), (.cst (.int 2))]))) znIn) [some (.c S0.length), a1, a2, a3, some (.own (.list (l.map eL))), a5, a6, a7, some (.d (eV v)), some (.d (.int (at_ + 1 + d1))), a10] (S0 ++ [x1.cell])
        = some (.nx [some (.c S0.length), a1, a2, a3, some (.own (.list (l.map eL))), a5, a6, a7, some (.d (eV v')), some (.d (.int (at_ + 1 + d1))), b10], S0 ++ [x3.cell]) := by
      rw [S_for, hi]; exact e3
    have hap : appD (.list (l.map eL)) (.tuple [.int (at_ + 1 + d1), eV v']) = some (.list ((l ++ [(at_ + 1 + d1, v')]).map eL)) := by
      rw [app_ok (by rw [List.length_map, hL.len]; unfold sizeLine; omega), List.map_append]; rfl
    simp [znOut, e1, hf, hap, -List.map_append]
  · have h7 := hL.at_le
    have h0 := hL.at0
    refine ⟨by simp [hL.len], ?_, ?_, by omega, by omega, ?_, f1.mono (by omega), ?_, by rw [f2, hL.tv]⟩
    · rw [List.pairwise_append]
      refine ⟨hL.asc, by simp, fun a ha b hb => ?_⟩
      simp at hb; subst hb
      have := (hL.t0 a ha).2
      simp only; omega
    · intro p hp
      rcases List.mem_append.mp hp with hp | hp
      · have := hL.t0 p hp; exact ⟨this.1, by omega⟩
      · simp at hp; subst hp; simp only; omega
    · intro p hp
      rcases List.mem_append.mp hp with hp | hp
      · exact (hL.vo p hp).mono (by omega)
      · simp at hp; subst hp; exact f1.mono (by omega)
    · intro p hp
      rcases List.mem_append.mp hp with hp | hp
      · exact hL.tr p hp
      · simp at hp; subst hp; simp only; rw [f2, hL.tv]
/-- what a drawn zone keeps -/
structure ZD (last : Bool) (z : Zone) : Prop where
  ln : z.line ≠ []
  l3 : z.line.length ≤ 3
  asc : z.line.Pairwise fun a b => a.1 < b.1
  t0 : ∀ p, p ∈ z.line → 0 ≤ p.1 ∧ p.1 ≤ 14
  vo : ∀ p, p ∈ z.line → VO 4 p.2
  tr : ∀ p, p ∈ z.line → p.2.trust.isSome = !last
  lag : 0 ≤ z.lag ∧ z.lag ≤ 3
  kl : 1 ≤ z.kl ∧ z.kl ≤ 5
  rl : 1 ≤ z.rl ∧ z.rl ≤ 5
  sv : 1 ≤ z.servers
  fst : ∀ p, z.line[0]? = some p → ∀ t, p.2.trust = some t → t.length ≤ 2 ∧ KR t
theorem zone_ok {x : Bx} {n : Nat} (h : x.ok n) (hn : n ≤ 500000) {t : List Key} (htl : t.length ≤ 2) (htr : KR t) (last : Bool) (S0 : Sto) (k : Nat) :
    ∃ z x', sem fns (k + 4) 73 [.c S0.length, .d (eT t), .d (.bool last), .d (.int 3)] (S0 ++ [x.cell]) = some (.d (eZ z), S0 ++ [Bx.cell x']) ∧ ZD last z ∧ x'.ok (n + 100) := by
  obtain ⟨v0, x1, e1, w1, w2, w3, ok1⟩ := begin_ok2 h (by omega) htl htr last S0 k
  obtain ⟨d2, x2, e2, a1, a2, ok2⟩ := take_ok ok1 (by omega) (m := 3) (by omega) (by omega) S0 (k + 2)
  have hv0 : v0.trust.isSome = !last := by
    cases last with
    | true => rw [w2 rfl]; rfl
    | false => obtain ⟨t', ht', _⟩ := w3 rfl; rw [ht']; rfl
  have hL0 : LO last 0 0 [(0, v0)] v0 := by
    refine ⟨rfl, by simp, ?_, by omega, by omega, ?_, w1, ?_, hv0⟩
    · intro p hp; simp at hp; subst hp; simp
    · intro p hp; simp at hp; subst hp; exact w1
    · intro p hp; simp at hp; subst hp; exact hv0
  have z1 := for_nx (tg := .nm 5) (body := fun env' S' => evB (sem fns (k + 3)) clsT znOut env' S') (enc := fun n : Nat => PyData.int (n : Int)) (xs := List.range d2.toNat) (S := S0 ++ [x2.cell]) (env := [some (.c S0.length), some (.d (eT t)), some (.d (.bool last)), some (.d (.int 3)), some (.own (.list (([(0, v0)] : List (Int × Ver)).map eL))), none, none, none, some (.d (eV v0)), some (.d (.int 0)), none])
    (fun dn env' S' => ∃ at_ l v x' b5 b10, S' = S0 ++ [Bx.cell x'] ∧ LO last dn.length at_ l v ∧ l[0]? = some (0, v0) ∧ x'.ok (n + 11 + 10 * dn.length) ∧ env' = [some (.c S0.length), some (.d (eT t)), some (.d (.bool last)), some (.d (.int 3)), some (.own (.list (l.map eL))), b5, none, none, some (.d (eV v)), some (.d (.int at_)), b10])
    ⟨0, [(0, v0)], v0, x2, none, none, rfl, hL0, rfl, ok2, rfl⟩ fun dn y rest env1 S1 hdq hp1 => by
      obtain ⟨at_, l, v, x3, b5, b10, rfl, hL, hl0, ok3, rfl⟩ := hp1
      have hl : dn.length + 1 ≤ d2.toNat := by
        have := congrArg List.length hdq
        simp at this; omega
      obtain ⟨at', v', x4, c10, e, hL', ok4⟩ := zn_out (by omega) hL ok3 (by omega) (some (.d (eT t))) (some (.d (.bool last))) (some (.d (.int 3))) (some (.d (.int (y : Int)))) none none b10 S0 (k + 1)
      refine ⟨_, _, _, rfl, e, at', l ++ [(at', v')], v', x4, _, c10, rfl, ?_, ?_, ?_, rfl⟩
      · rw [List.length_append]; exact hL'
      · rw [List.getElem?_append_left (by rw [hL.len]; omega)]; exact hl0
      · have : n + 11 + 10 * (dn ++ [y]).length = n + 11 + 10 * dn.length + 10 := by simp; omega
        rw [this]; exact ok4
  obtain ⟨env', S', h1, at_, l, v, x3, b5, b10, rfl, hL, hl0, ok3, rfl⟩ := z1
  rw [List.length_range] at hL ok3
  obtain ⟨d4, x4, e4, c1, c2, ok4⟩ := take_ok ok3 (by omega) (m := 3) (by omega) (by omega) S0 (k + 2)
  obtain ⟨d5, x5, e5, f1, f2, ok5⟩ := take_ok ok4 (by omega) (m := 5) (by omega) (by omega) S0 (k + 2)
  obtain ⟨d6, x6, e6, g1, g2, ok6⟩ := take_ok ok5 (by omega) (m := 5) (by omega) (by omega) S0 (k + 2)
  obtain ⟨d7, x7, e7, i1, i2, ok7⟩ := take_ok ok6 (by omega) (m := 1 + d4) (by omega) (by omega) S0 (k + 2)
  obtain ⟨d8, x8, e8, j1, j2, ok8⟩ := take_ok ok7 (by omega) (m := 4) (by omega) (by omega) S0 (k + 2)
  refine ⟨⟨l, 1 + d4, 1 + d7, d8, 1 + d5, 1 + d6⟩, x8, ?_, ?_, ok8.mono (by omega)⟩
  · rw [semS rfl]
    have hi : evIt (sem fns (k + 3)) clsT (.rng (.fc 53 [(.var 0), (.var 3)])) [some (.c S0.length), some (.d (eT t)), some (.d (.bool last)), some (.d (.int 3)), some (.own (.list (([(0, v0)] : List (Int × Ver)).map eL))), none, none, none, some (.d (eV v0)), some (.d (.int 0)), none] (S0 ++ [x1.cell]) = some ((List.range d2.toNat).map fun (n : Nat) => PyData.int (n : Int), S0 ++ [x2.cell]) := by
      simp [e2, rng_int (i := d2) (by omega) (by omega)]
    have hf : evS (sem fns (k + 3)) clsT (.for_ (.nm 5) (.rng (.fc 53 [(.var 0), (.var 3)])) znOut) [some (.c S0.length), some (.d (eT t)), some (.d (.bool last)), some (.d (.int 3)), some (.own (.list [.tuple [.int 0, eV v0]])), none, none, none, some (.d (eV v0)), some (.d (.int 0)), none] (S0 ++ [x1.cell])
        = some (.nx [some (.c S0.length), some (.d (eT t)), some (.d (.bool last)), some (.d (.int 3)), some (.own (.list (l.map eL))), b5, none, none, some (.d (eV v)), some (.d (.int at_)), b10], S0 ++ [x3.cell]) := by
      have hi' : evIt (sem fns (k + 3)) clsT (.rng (.fc 53 [(.var 0), (.var 3)])) [some (.c S0.length), some (.d (eT t)), some (.d (.bool last)), some (.d (.int 3)), some (.own (.list [.tuple [.int 0, eV v0]])), none, none, none, some (.d (eV v0)), some (.d (.int 0)), none] (S0 ++ [x1.cell]) = some ((List.range d2.toNat).map fun (n : Nat) => PyData.int (n : Int), S0 ++ [x2.cell]) := hi
      rw [S_for, hi']; exact h1
    have hadd : binD .add (.tuple [.tuple (l.map eL), .int (1 + d4), .int (1 + d7), .int d8]) (.tuple [.int (1 + d5), .int (1 + d6)]) = some (eZ ⟨l, 1 + d4, 1 + d7, d8, 1 + d5, 1 + d6⟩) := rfl
    unfold znOut znIn at hf
    simp [runF, envOf, cd__law_zone, e1, hf, e4, e5, e6, e7, e8, hadd, tk1]
  · have hd2 : d2.toNat ≤ 2 := by omega
    have hat := hL.at_le
    refine ⟨?_, ?_, hL.asc, ?_, ?_, hL.tr, ⟨j1, by simp only; omega⟩, ⟨by simp only; omega, by simp only; omega⟩, ⟨by simp only; omega, by simp only; omega⟩, by simp only; omega, ?_⟩
    · intro e; simp only at e; rw [e] at hl0; simp at hl0
    · have := hL.len
      simp only; omega
    · intro p hp
      have := hL.t0 p hp
      exact ⟨this.1, by omega⟩
    · intro p hp; exact (hL.vo p hp).mono (by omega)
    · intro p hp t' ht'
      simp only at hp
      rw [hl0] at hp
      simp at hp
      subst hp
      simp only at ht'
      have := w1.tr t' ht'
      exact ⟨by omega, this.2⟩
end VI.M
set_option Elab.async false
set_option linter.all false
set_option maxRecDepth 100000
/-! N5: a drawn world is good. -/
namespace VI.M
open PySem
structure DW (w : Wld) : Prop where
  n1 : 1 ≤ w.zones.length
  n3 : w.zones.length ≤ 3
  an : w.anchors ≠ []
  a2 : w.anchors.length ≤ 2
  ar : KR w.anchors
  zd : ∀ p, p < w.zones.length → ZD (decide (p + 1 = w.zones.length)) (zO w p)
def wM (w : Wld) : Int := w.zones.foldl mx 2
theorem fold_mx : ∀ (l : List Zone) (f : Int), f ≤ l.foldl mx f ∧ (∀ z, z ∈ l → lastT z + z.lag ≤ l.foldl mx f) ∧ ∀ B, f ≤ B → (∀ z, z ∈ l → lastT z + z.lag ≤ B) → l.foldl mx f ≤ B
  | [], f => ⟨Int.le_refl _, fun _ h => (by cases h), fun B h _ => h⟩
  | z :: l, f => by
    obtain ⟨h1, h2, h3⟩ := fold_mx l (mx f z)
    rw [List.foldl_cons]
    have h4 : f ≤ mx f z ∧ lastT z + z.lag ≤ mx f z := by unfold mx; split <;> omega
    refine ⟨by omega, fun y hy => ?_, fun B hB hz => h3 B ?_ fun y hy => hz y (List.mem_cons_of_mem _ hy)⟩
    · rcases List.mem_cons.mp hy with rfl | hy
      · omega
      · exact h2 y hy
    · have := hz z (List.mem_cons_self ..)
      unfold mx; split <;> omega
def zf (z : Zone) : Int := z.kl + z.rl + 1
def Bp (w : Wld) (p : Nat) : Int := wM w + ((w.zones.take p).map zf).sum
section
variable {w : Wld}
theorem DW.in (h : DW w) {z : Zone} (hz : z ∈ w.zones) : ∃ p, p < w.zones.length ∧ zO w p = z := by
  obtain ⟨p, hp, e⟩ := List.mem_iff_getElem.mp hz
  exact ⟨p, hp, by rw [zO_eq hp]; exact e⟩
theorem DW.mem (h : DW w) {p : Nat} (hp : p < w.zones.length) : zO w p ∈ w.zones := by
  rw [zO_eq hp]; exact List.getElem_mem _
theorem Bp_succ {p : Nat} (hp : p < w.zones.length) : Bp w (p + 1) = Bp w p + ((zO w p).kl + (zO w p).rl + 1) := by
  unfold Bp
  rw [List.take_succ_eq_append_getElem hp, List.map_append, List.sum_append, zO_eq hp]
  simp [zf]; omega
theorem DW.lastle {last : Bool} {z : Zone} (h : ZD last z) : lastT z ≤ 14 := by
  unfold lastT
  cases hl : z.line.getLast? with
  | none => simp
  | some p => exact (h.t0 p (List.mem_of_getLast? hl)).2
theorem DW.wM_le (h : DW w) : 2 ≤ wM w ∧ wM w ≤ 17 := by
  obtain ⟨h1, h2, h3⟩ := fold_mx w.zones 2
  refine ⟨h1, h3 17 (by omega) fun z hz => ?_⟩
  obtain ⟨p, hp, rfl⟩ := h.in hz
  have := h.zd p hp
  have := DW.lastle this
  have := (h.zd p hp).lag
  omega
theorem DW.Bp_mono (h : DW w) : ∀ (k p : Nat), p + k ≤ w.zones.length → Bp w p ≤ Bp w (p + k) ∧ Bp w (p + k) ≤ Bp w p + 11 * k
  | 0, p, _ => by simp
  | k + 1, p, hk => by
    obtain ⟨h1, h2⟩ := DW.Bp_mono h k p (by omega)
    have e := Bp_succ (w := w) (p := p + k) (by omega)
    have g := h.zd (p + k) (by omega)
    have := g.kl; have := g.rl
    have e2 : p + (k + 1) = p + k + 1 := by omega
    rw [e2, e]
    omega
theorem DW.most (h : DW w) : mostB w = Bp w w.zones.length + 2 := by
  unfold mostB Bp
  rw [List.take_of_length_le (Nat.le_refl _)]
  rfl
theorem DW.zg (h : DW w) {p : Nat} (hp : p < w.zones.length) : ZG (zO w p) (wM w) := by
  have g := h.zd p hp
  exact ⟨g.ln, g.l3, g.asc, fun q hq => (g.t0 q hq).1, g.lag.1, g.kl.1, g.rl.1, g.sv, (fold_mx w.zones 2).2.1 _ (h.mem hp)⟩
theorem DW.rtv (h : DW w) {p : Nat} (hp : p < w.zones.length) : ∀ q, q ∈ rdAt w p → ∃ t, (verO (zO w p) q.1).trust = some t := by
  intro q hq
  obtain ⟨hp1, n, hn, rfl, _⟩ := rd_in hq
  have g := h.zd p hp
  simp only
  rw [verO_eq hn]
  have := g.tr _ (List.getElem_mem hn)
  rw [decide_eq_false (by omega)] at this
  exact Option.isSome_iff_exists.mp this
theorem tb_gs {b : Int} (z : Zone) : ∀ (d : RD) (acc : TD), (∀ q, q ∈ acc → ∀ s, q.2 = some s → GS b s) → (∀ r, r ∈ d → GS b r.2) → ∀ q, q ∈ d.foldl (tbStep z) acc → ∀ s, q.2 = some s → GS b s
  | [], acc, h, _ => h
  | r :: d, acc, h, hd => by
    rw [List.foldl_cons]
    refine tb_gs z d _ (fun q hq s hs => ?_) fun r hr => hd r (List.mem_cons_of_mem _ hr)
    unfold tbStep at hq
    split at hq
    · split at hq
      · exact h q hq s hs
      · rename_i t _ _
        rcases mem_upd hq with h1 | rfl
        · exact h q h1 s hs
        · simp at hs
          subst hs
          apply GS.join
          refine GS.app ?_ (hd r (List.mem_cons_self ..))
          unfold oldS
          cases hg : getA acc t with
          | none => intro q hq; cases hq
          | some o =>
            cases o with
            | none => intro q hq; cases hq
            | some s2 => exact h _ (getA_in hg) s2 rfl
    · exact h q hq s hs
def bT (w : Wld) : Nat → Int
  | 0 => Bp w 0 - 1
  | p + 1 => Bp w p + (zO w p).kl + 1
theorem DW.pg (h : DW w) {M : Nat} (hM : mostB w = (M : Int)) : ∀ p, p < w.zones.length → PG w M (zO w p) (tdAt w p) (wM w) (bT w p) (Bp w p) (Bp w p + (zO w p).kl + 1) (lifeAt w p) := by
  have hw := h.wM_le
  have hmo := h.most
  have hB0 : Bp w 0 = wM w := by unfold Bp; simp
  have hn3 := h.n3
  have hME : (M : Int) ≤ 60 := by
    have := (h.Bp_mono w.zones.length 0 (by omega)).2
    rw [Nat.zero_add] at this
    omega
  have hce : ∀ p, p < w.zones.length → Bp w p + (zO w p).kl + 1 < (M : Int) ∧ wM w ≤ Bp w p := fun p hp => by
    have e := Bp_succ hp
    obtain ⟨m1, m2⟩ := h.Bp_mono (w.zones.length - (p + 1)) (p + 1) (by omega)
    obtain ⟨m3, m4⟩ := h.Bp_mono p 0 (by omega)
    have e2 : p + 1 + (w.zones.length - (p + 1)) = w.zones.length := by omega
    rw [e2] at m1
    rw [Nat.zero_add] at m3
    have := (h.zd p hp).rl
    omega
  intro p
  induction p with
  | zero =>
    intro hp
    obtain ⟨c1, c2⟩ := hce 0 hp
    refine ⟨h.zg hp, by unfold EV; omega, by unfold EV; omega, by simp [tdAt], by simp [tdAt], ?_, by simp [lifeAt], by simp [bT, lifeAt], c2, by omega, by have := (h.zd 0 hp).kl; omega, c1⟩
    intro q hq s hs
    unfold tdAt at hq
    simp at hq
    rw [hq] at hs; cases hs
  | succ p ih =>
    intro hp
    have pg := ih (by omega)
    obtain ⟨c1, c2⟩ := hce (p + 1) hp
    have e := Bp_succ (w := w) (p := p) (by omega)
    have hrg := pg.rgs
    obtain ⟨t1, t2, t3⟩ := tb_all (zO w p) (rdAt w p) fun r hr => ⟨(hrg r hr).1.ne, (hrg r hr).2⟩
    have t4 := (tb_pre (zO w p) (rdAt w p) fun r hr => (hrg r hr).1.ne).2
    have hrl : (rdAt w p).length ≤ 3 := by
      rw [← gr_rd]
      have := List.length_filterMap_le (grF w p (zO w p) (kdAt w p)) (List.range (zO w p).line.length)
      rw [List.length_range] at this
      have := pg.g.l3
      omega
    refine ⟨h.zg hp, by unfold EV; omega, by unfold EV; omega, t1, ?_, ?_, (h.zd p (by omega)).rl.1, ?_, c2, by omega, by have := (h.zd (p + 1) hp).kl; omega, c1⟩
    · show (trustsB (zO w p) (rdAt w p)).length ≤ 1000
      omega
    · intro q hq s hs
      exact tb_gs (b := Bp w p + (zO w p).kl + 1) (zO w p) (rdAt w p) [] (fun _ h => by cases h) (fun r hr => (hrg r hr).1) q hq s hs
    · show Bp w p + (zO w p).kl + 1 + (zO w p).rl ≤ _
      omega
theorem DW.wb (h : DW w) {M : Nat} (hM : mostB w = (M : Int)) : WB w M := ⟨fun p hp => ⟨⟨_, _, _, _, h.pg hM p hp⟩, h.rtv hp⟩, h.an, by have := h.n3; omega⟩
/-! sizes -/
theorem flat_len {α β : Type} (f : α → List β) {c : Nat} : ∀ {l : List α}, (∀ x, x ∈ l → (f x).length ≤ c) → (l.flatMap f).length ≤ l.length * c
  | [], _ => by simp
  | x :: l, h => by
    rw [List.flatMap_cons, List.length_append, List.length_cons, Nat.succ_mul]
    have h1 := h x (List.mem_cons_self ..)
    have h2 := flat_len f (l := l) fun y hy => h y (List.mem_cons_of_mem _ hy)
    omega
theorem sum_len {c : Nat} : ∀ {d : RD}, (∀ r, r ∈ d → r.2.length ≤ c) → totR d ≤ d.length * c
  | [], _ => by simp [totR]
  | r :: d, h => by
    have h1 := h r (List.mem_cons_self ..)
    have h2 := sum_len (d := d) fun y hy => h y (List.mem_cons_of_mem _ hy)
    unfold totR at h2 ⊢
    rw [List.map_cons, List.sum_cons, List.length_cons, Nat.succ_mul]
    omega
theorem beh_len (s : List Key) (life step : Int) (win : Key) : (behB s life step win).length ≤ s.length := by
  unfold behB
  split
  · simp
  · refine Nat.le_trans (List.length_filter_le ..) ?_
    simp
theorem ar_len (z : Zone) (each : Bool) (n : Nat) (r : (Nat × List Key) × List Key) : (arF z each n r).length ≤ r.2.length := by
  unfold arF
  split
  · unfold wkB
    split
    · simp
    · exact beh_len ..
  · simp
theorem ak_len {z : Zone} {rl : Int} {n : Nat} {q : List Key × Option (List Key)} {c : Nat} (hc : 1 ≤ c) (h : ∀ s, q.2 = some s → s.length ≤ c) : (akT z rl n q).length ≤ c := by
  unfold akT
  refine Nat.le_trans (joinB_len _) ?_
  cases hq : q.2 with
  | none => simpa [wtB] using hc
  | some s => exact Nat.le_trans (beh_len ..) (h s hq)
theorem DW.sizes (h : DW w) {M : Nat} (hM : mostB w = (M : Int)) : ∀ p, p < w.zones.length → (tdAt w p).length ≤ 3 ∧ (∀ q, q ∈ tdAt w p → ∀ s, q.2 = some s → 1 ≤ p ∧ s.length ≤ 27 ^ p) ∧ (∀ n, (restRow (zO w p) (kdAt w p) w.each n).length ≤ 9 * 27 ^ p) ∧ totR (rdAt w p) ≤ 27 ^ (p + 1) ∧ (rdAt w p).length ≤ 3 := by
  have hrest : ∀ p, p < w.zones.length → (tdAt w p).length ≤ 3 → (∀ q, q ∈ tdAt w p → ∀ s, q.2 = some s → s.length ≤ 27 ^ p) → (∀ n, (restRow (zO w p) (kdAt w p) w.each n).length ≤ 9 * 27 ^ p) ∧ totR (rdAt w p) ≤ 27 ^ (p + 1) ∧ (rdAt w p).length ≤ 3 := by
    intro p hp h1 h2
    have pg := h.pg hM p hp
    have hpos : 1 ≤ 27 ^ p := Nat.one_le_iff_ne_zero.mpr (by simp)
    have hk : (kdAt w p).length ≤ 9 := by
      rw [kd_life]
      have g1 := rows_len (z := zO w p) (td := tdAt w p) (each := w.each) (life := lifeAt w p) (zO w p).line.length
      have g2 := pg.g.l3
      have g4 : (zO w p).line.length * (tdAt w p).length ≤ 3 * 3 := Nat.mul_le_mul g2 h1
      exact Nat.le_trans g1 g4
    have hkl : ∀ r, r ∈ kdAt w p → r.2.length ≤ 27 ^ p := by
      intro r hr
      rw [kd_life] at hr
      obtain ⟨_, _, _, q, hq, _, e2⟩ := pg.kgs r hr
      unfold akF at e2
      split at e2
      · simp at e2
        rw [← e2]
        exact ak_len hpos (h2 q hq)
      · cases e2
    have hr3 : (rdAt w p).length ≤ 3 := by
      rw [← gr_rd]
      have := List.length_filterMap_le (grF w p (zO w p) (kdAt w p)) (List.range (zO w p).line.length)
      rw [List.length_range] at this
      have := pg.g.l3
      omega
    have hrow : ∀ n, (restRow (zO w p) (kdAt w p) w.each n).length ≤ 9 * 27 ^ p := fun n => by
      unfold restRow
      refine Nat.le_trans (flat_len _ fun r hr => Nat.le_trans (ar_len ..) (hkl r hr)) ?_
      exact Nat.mul_le_mul_right _ hk
    refine ⟨hrow, ?_, hr3⟩
    have := sum_len (d := rdAt w p) (c := 9 * 27 ^ p) fun r hr => by
      obtain ⟨_, n, _, rfl, _⟩ := rd_in hr
      exact Nat.le_trans (joinB_len _) (hrow n)
    have h5 : (rdAt w p).length * (9 * 27 ^ p) ≤ 3 * (9 * 27 ^ p) := Nat.mul_le_mul_right _ hr3
    have h6 : 3 * (9 * 27 ^ p) = 27 ^ (p + 1) := by rw [Nat.pow_succ]; omega
    omega
  intro p
  induction p with
  | zero =>
    intro hp
    have a1 : (tdAt w 0).length ≤ 3 := by simp [tdAt]
    have a2 : ∀ q, q ∈ tdAt w 0 → ∀ s, q.2 = some s → 1 ≤ 0 ∧ s.length ≤ 27 ^ 0 := by
      intro q hq s hs
      unfold tdAt at hq
      simp at hq
      rw [hq] at hs; cases hs
    exact ⟨a1, a2, hrest 0 hp a1 fun q hq s hs => (a2 q hq s hs).2⟩
  | succ p ih =>
    intro hp
    obtain ⟨_, _, _, g4, g5⟩ := ih (by omega)
    obtain ⟨b1, b2⟩ := tb_inv (zO w p) (rdAt w p)
    have a1 : (tdAt w (p + 1)).length ≤ 3 := Nat.le_trans b2 g5
    have a2 : ∀ q, q ∈ tdAt w (p + 1) → ∀ s, q.2 = some s → 1 ≤ p + 1 ∧ s.length ≤ 27 ^ (p + 1) := by
      intro q hq s hs
      obtain ⟨s', e1, e2⟩ := b1 q hq
      rw [e1] at hs
      simp at hs
      subst hs
      exact ⟨by omega, Nat.le_trans e2 g4⟩
    exact ⟨a1, a2, hrest (p + 1) hp a1 fun q hq s hs => (a2 q hq s hs).2⟩
theorem DW.cp (h : DW w) {M : Nat} (hM : mostB w = (M : Int)) {p : Nat} (hp : p < w.zones.length) : CpOk w p := by
  obtain ⟨s1, s2, s3, s4, s5⟩ := h.sizes hM p hp
  have pg := h.pg hM p hp
  have hp3 := h.n3
  have hb : 27 ^ (p + 1) ≤ 27 ^ 3 := Nat.pow_le_pow_right (by omega) (by omega)
  have hb2 : 27 ^ p ≤ 27 ^ 3 := Nat.pow_le_pow_right (by omega) (by omega)
  have hsz : sizeLine = 16777216 := by unfold sizeLine; rfl
  have h27 : 27 ^ 3 = 19683 := rfl
  refine ⟨by have := pg.g.l3; omega, pg.nd, by omega, fun q hq s hs => ?_, ?_, fun n => ?_, by omega, by omega, h.rtv hp⟩
  · obtain ⟨a, b⟩ := s2 q hq s hs
    exact ⟨a, by omega⟩
  · rw [kd_life]; exact allK_nodup pg.nd
  · have := s3 n; omega
theorem DW.kos (h : DW w) {p : Nat} (hp : p < w.zones.length) : KO w p := by
  have g := h.zd p hp
  have hA : ∀ (b : Bool), (if b = true then w.anchors else []).length ≤ 2 ∧ KR (if b = true then w.anchors else []) := fun b => by
    cases b
    · exact ⟨by simp, fun _ h => by cases h⟩
    · exact ⟨h.a2, h.ar⟩
  have hK : ((zO w p).line.flatMap (fun x => x.2.keys)).length ≤ 21 ∧ KR ((zO w p).line.flatMap (fun x => x.2.keys)) := by
    refine ⟨?_, fun q hq => ?_⟩
    · refine Nat.le_trans (flat_len (c := 7) _ fun x hx => (g.vo x hx).kl) ?_
      have := g.l3
      omega
    · obtain ⟨x, hx, hq⟩ := List.mem_flatMap.mp hq
      exact (g.vo x hx).kr q hq
  have hT : (if 0 < p then (zO w (p - 1)).line.flatMap trK else []).length ≤ 18 ∧ KR (if 0 < p then (zO w (p - 1)).line.flatMap trK else []) := by
    by_cases h0 : 0 < p
    · rw [if_pos h0]
      have g' := h.zd (p - 1) (by omega)
      have ht : ∀ x, x ∈ (zO w (p - 1)).line → (trK x).length ≤ 6 ∧ KR (trK x) := fun x hx => by
        unfold trK
        cases hx2 : x.2.trust with
        | none => exact ⟨by simp, fun _ h => by cases h⟩
        | some t => exact (g'.vo x hx).tr t hx2
      refine ⟨?_, fun q hq => ?_⟩
      · refine Nat.le_trans (flat_len (c := 6) _ fun x hx => (ht x hx).1) ?_
        have := g'.l3
        omega
      · obtain ⟨x, hx, hq⟩ := List.mem_flatMap.mp hq
        exact (ht x hx).2 q hq
    · rw [if_neg h0]; exact ⟨by simp, fun _ h => by cases h⟩
  have hA' : (if p = 0 then w.anchors else []).length ≤ 2 ∧ KR (if p = 0 then w.anchors else []) := by
    have := hA (decide (p = 0))
    simpa using this
  refine ⟨?_, ?_, fun h0 x hx => ?_⟩
  · unfold keyL
    simp only [List.length_append]
    omega
  · exact (hA'.2.app hK.2).app hT.2
  · have := (h.zd (p - 1) (by omega)).tr x hx
    rw [decide_eq_false (by omega)] at this
    exact Option.isSome_iff_exists.mp this
theorem DW.wok (h : DW w) : ∃ M, WOk w M := by
  have hw := h.wM_le
  have hmo := h.most
  have hB0 : Bp w 0 = wM w := by unfold Bp; simp
  have hn3 := h.n3
  obtain ⟨m1, m2⟩ := h.Bp_mono w.zones.length 0 (by omega)
  rw [Nat.zero_add] at m1 m2
  have hM : mostB w = ((mostB w).toNat : Int) := by omega
  refine ⟨(mostB w).toNat, h.wb hM, hM, by omega, by omega, fun z hz => ?_, fun p hp => h.cp hM hp, h.n3, fun p hp => h.kos hp⟩
  obtain ⟨p, hp, rfl⟩ := h.in hz
  exact (h.zd p hp).ln
end
end VI.M
set_option Elab.async false
set_option linter.all false
set_option maxRecDepth 100000
/-! N6: the box, the world, the law. -/
namespace VI.M
open PySem
theorem box_ok (ns : List Int) {j : Nat} (hj : j ≤ 1) (S : Sto) (k : Nat) : ∃ x : Bx, sem fns (k + 1) 52 [.d (.list (ns.map enI)), .d (.int (j : Int))] S = some (.c S.length, S ++ [x.cell]) ∧ x.ok 0 := by
  obtain ⟨cell, hc⟩ : ∃ cell : Int, evE (sem fns k) clsT (.ifx (.cmp .lt (.var 1) (.b1 .len (.var 0))) (.ix (.var 0) (.var 1)) (.cst (.int 0))) [some (.d (.list (ns.map enI))), some (.d (.int (j : Int))), none] S = some (.d (.int cell), S) := by
    by_cases h : j < ns.length
    · have h' : (j : Int) < (ns.length : Int) := by omega
      refine ⟨ns[j], ?_⟩
      have e : ixD (.list (ns.map enI)) (.int (j : Int)) = some (.int ns[j]) := by
        rw [ix_natL]; simp [h, enI]
      simp [h, e]
    · have h' : ¬ (j : Int) < (ns.length : Int) := by omega
      exact ⟨0, by simp [h]⟩
  have l_abs : ∀ i : Int, b1D .abs (.int i) = some (.int (if i < 0 then -i else i)) := fun _ => rfl
  have l_ib : ∀ b : Bool, b1D .int (.bool b) = some (.int (if b then 1 else 0)) := fun _ => rfl
  have hpow : binD .pow (.int 10) (.int 18) = some (.int (10 ^ 18)) := by
    show gd (decide ((0 : Int) ≤ 18) && decide ((18 : Int) ≤ 1000000) && decide ((10 : Int).natAbs < 2 ^ 64)) _ = _
    rw [show (decide ((0 : Int) ≤ 18) && decide ((18 : Int) ≤ 1000000) && decide ((10 : Int).natAbs < 2 ^ 64)) = true from by decide]; rfl
  have hm2 : binD .mul (.int 7919) (.int (j : Int)) = some (.int (7919 * (j : Int))) := bm_mul (.inl (inP (by omega) (by omega)))
  have hab : 0 ≤ (if cell < 0 then -cell else cell) := by split <;> omega
  generalize hA : (if cell < 0 then -cell else cell) = A at hab
  have hm1 : ∀ b : Bool, binD .mul (.int A) (.int (if b = true then 1 else 0)) = some (.int (A * (if b = true then 1 else 0))) := fun b => bm_mul (.inr (by cases b <;> exact inP (by simp) (by simp)))
  have hmod := bm_mod cell (j := 2147483629) (by omega)
  have q1 := Int.emod_nonneg cell (b := 2147483629) (by omega)
  have q2 := Int.emod_lt_of_pos cell (b := 2147483629) (by omega)
  refine ⟨⟨A * (if decide (10 ^ 18 ≤ A) = true then 1 else 0), cell % 2147483629 + 7919 * (j : Int) + 73, 0⟩, ?_, ?_, by simp only; omega, by simp only; omega, Int.le_refl _, by simp⟩
  · rw [semS rfl]
    have hb : ∀ e : Env, e = [some (.d (.list (ns.map enI))), some (.d (.int (j : Int))), some (.d (.int cell))] → evE (sem fns k) clsT (.box [(.bin .mul (.b1 .abs (.var 2)) (.b1 .int (.cmp .ge (.b1 .abs (.var 2)) (.bin .pow (.cst (.int 10)) (.cst (.int 18)))))), (.bin .add (.bin .add (.bin .mod (.b1 .int (.var 2)) (.cst (.int 2147483629))) (.bin .mul (.cst (.int 7919)) (.var 1))) (.cst (.int 73))), (.cst (.int 0))]) e S
        = some (.c S.length, S ++ [Bx.cell ⟨A * (if decide (10 ^ 18 ≤ A) = true then 1 else 0), cell % 2147483629 + 7919 * (j : Int) + 73, 0⟩]) := by
      rintro _ rfl
      have hm1' := hm1 (decide ((10 : Int) ^ 18 ≤ A))
      simp only [E_box, Es_cons, Es_nil, E_bin, E_b1, E_var, List.getElem?_cons_zero, List.getElem?_cons_succ, slW_d, bnd_some, rd_d, l_abs, ob_some, E_cmp, E_cst, pu_d, hpow, c_ge, l_ib, hA, hm1', l_int, hmod, hm2, b_add, Bx.cell]
    simp only [runF, cd__law_box]
    simp [envOf, hc, hb, -E_ifx, -E_box]
  · simp only
    split
    · omega
    · omega
structure WS (w : Nat → Bool) (cnt : Nat) (zs : List Zone) : Prop where
  zd : ∀ p (h : p < zs.length), ZD (decide (p + 1 = cnt)) zs[p]
def woBody : List Sc := [(.app 6 (.fc 73 [(.var 0), (.var 3), (.cmp .eq (.bin .add (.var 4) (.cst (.int 1))) (.var 1)), (.var 2)])), (.asg (.nm 3) (.ix (.ix (.ix (.ix (.ix (.var 6) (.neg (.cst (.int 1)))) (.cst (.int 0))) (.cst (.int 0))) (.cst (.int 1))) (.cst (.int 2))))]
theorem world_of_ok {x : Bx} {n : Nat} (h : x.ok n) (hn : n ≤ 1000) {cnt : Nat} (h1 : 1 ≤ cnt) (h3 : cnt ≤ 3) (S0 : Sto) (k : Nat) :
    ∃ w x', sem fns (k + 5) 75 [.c S0.length, .d (.int (cnt : Int)), .d (.int 3)] (S0 ++ [x.cell]) = some (.d (eW w), S0 ++ [Bx.cell x']) ∧ DW w := by
  obtain ⟨y, x1, e1, hy, ok1⟩ := pick_ok h (by omega) (xs := [eT [(7, 0)], eT [(1, 0)], eT [(1, 0), (2, 1)], eT [(7, 0), (8, 1)]]) (by simp) (by simp) S0 (k + 2)
  have e1' : sem fns (k + 4) 54 [.c S0.length, .d (.list [.tuple [.tuple [.int 7, .int 0]], .tuple [.tuple [.int 1, .int 0]], .tuple [.tuple [.int 1, .int 0], .tuple [.int 2, .int 1]], .tuple [.tuple [.int 7, .int 0], .tuple [.int 8, .int 1]]])] (S0 ++ [x.cell]) = some (.d y, S0 ++ [x1.cell]) := e1
  have hyt : ∃ t', y = eT t' ∧ t' ≠ [] ∧ t'.length ≤ 2 ∧ KR t' := by
    have k1 : ∀ a b : Int, 0 ≤ a ∧ a < 64 → 0 ≤ b ∧ b < 64 → KR [(a, b)] := fun a b => KR.one
    simp at hy
    rcases hy with rfl | rfl | rfl | rfl
    · exact ⟨_, rfl, by simp, by simp, k1 _ _ (by omega) (by omega)⟩
    · exact ⟨_, rfl, by simp, by simp, k1 _ _ (by omega) (by omega)⟩
    · exact ⟨_, rfl, by simp, by simp, (k1 1 0 (by omega) (by omega)).app (k1 2 1 (by omega) (by omega))⟩
    · exact ⟨_, rfl, by simp, by simp, (k1 7 0 (by omega) (by omega)).app (k1 8 1 (by omega) (by omega))⟩
  obtain ⟨anc, rfl, an0, an1, an2⟩ := hyt
  have z1 := for_nx (tg := .nm 4) (body := fun env' S' => evB (sem fns (k + 4)) clsT woBody env' S') (enc := fun n : Nat => PyData.int (n : Int)) (xs := List.range cnt) (S := S0 ++ [x1.cell]) (env := [some (.c S0.length), some (.d (.int (cnt : Int))), some (.d (.int 3)), some (.d (eT anc)), none, some (.d (eT anc)), some (.own (.list []))])
    (fun dn env' S' => ∃ (zs : List Zone) (tO : Option (List Key)) (x' : Bx) (b4 : Option Sl), S' = S0 ++ [x'.cell] ∧ zs.length = dn.length ∧ (∀ p (h : p < zs.length), ZD (decide (p + 1 = cnt)) zs[p]) ∧ (dn.length < cnt → ∃ t, tO = some t ∧ t.length ≤ 2 ∧ KR t) ∧ x'.ok (n + 1 + 100 * dn.length) ∧ env' = [some (.c S0.length), some (.d (.int (cnt : Int))), some (.d (.int 3)), some (.d (eO tO)), b4, some (.d (eT anc)), some (.own (.list (zs.map eZ)))])
    ⟨[], some anc, x1, none, rfl, rfl, fun _ h => (by cases h), fun _ => ⟨anc, rfl, an1, an2⟩, ok1, rfl⟩ fun dn p rest env1 S1 hdq hp1 => by
      obtain ⟨zs, tO, x2, b4, rfl, zl, zd, ht, ok2, rfl⟩ := hp1
      obtain ⟨rfl, hp⟩ := range_split hdq
      rw [List.length_range] at zl ht ok2
      obtain ⟨t, rfl, t1, t2⟩ := ht hp
      obtain ⟨z, x3, e3, hz, ok3⟩ := zone_ok ok2 (by omega) t1 t2 (decide (p + 1 = cnt)) S0 k
      obtain ⟨q, hq⟩ : ∃ q, z.line[0]? = some q := by
        cases hl : z.line with
        | nil => exact absurd hl hz.ln
        | cons q l => exact ⟨q, rfl⟩
      have hap : appD (.list (zs.map eZ)) (eZ z) = some (.list ((zs ++ [z]).map eZ)) := by
        rw [app_ok (by rw [List.length_map, zl]; unfold sizeLine; omega), List.map_append]; rfl
      have hla : ixD (.list ((zs ++ [z]).map eZ)) (.int (-1)) = some (eZ z) := by
        rw [List.map_append]; exact atI_last _ _
      have hl0 : ixD (.tuple (z.line.map eL)) (.int 0) = some (eL q) := by
        have := ix_nat (z.line.map eL) 0
        simp only [Int.natCast_zero] at this
        rw [this]; simp [hq]
      have hdec : decide ((p : Int) + 1 = (cnt : Int)) = decide (p + 1 = cnt) := decide_eq_decide.mpr (by omega)
      have eo : eO (some t) = eT t := rfl
      refine ⟨_, [some (.c S0.length), some (.d (.int (cnt : Int))), some (.d (.int 3)), some (.d (eO q.2.trust)), some (.d (.int (p : Int))), some (.d (eT anc)), some (.own (.list ((zs ++ [z]).map eZ)))], _, rfl, ?_, zs ++ [z], q.2.trust, x3, _, rfl, ?_, ?_, ?_, ?_, rfl⟩
      · rw [eo]
        simp [woBody, hdec, e3, hap, hla, hl0, -List.map_append]
      · simp [zl]
      · intro p' hp'
        rw [List.length_append] at hp'
        simp only [List.length_cons, List.length_nil] at hp'
        by_cases hlt : p' < zs.length
        · rw [List.getElem_append_left hlt]; exact zd p' hlt
        · have : p' = zs.length := by omega
          subst this
          simp
          rw [zl]
          exact hz
      · intro hlt
        rw [List.length_append, List.length_range] at hlt
        simp only [List.length_cons, List.length_nil] at hlt
        have htr := hz.tr q (List.mem_of_getElem? hq)
        rw [decide_eq_false (by omega)] at htr
        obtain ⟨t', ht'⟩ := Option.isSome_iff_exists.mp htr
        obtain ⟨g1, g2⟩ := hz.fst q hq t' ht'
        exact ⟨t', ht', g1, g2⟩
      · have : n + 1 + 100 * (List.range p ++ [p]).length = n + 1 + 100 * p + 100 := by simp; omega
        rw [this]; exact ok3
  obtain ⟨env', S', y1, zs, tO, x2, b4, rfl, zl, zd, _, ok2, rfl⟩ := z1
  rw [List.length_range] at zl ok2
  obtain ⟨d, x3, e3, d1, d2, ok3⟩ := take_ok ok2 (by omega) (m := 2) (by omega) (by omega) S0 (k + 3)
  have hr : itemsOf 1 (.int (cnt : Int)) = some ((List.range cnt).map fun (n : Nat) => PyData.int (n : Int)) := by
    show gd (decide _ && decide _) _ = _
    rw [decide_eq_true (by omega), decide_eq_true (by omega)]
    rfl
  have hi : evIt (sem fns (k + 4)) clsT (.rng (.var 1)) [some (.c S0.length), some (.d (.int (cnt : Int))), some (.d (.int 3)), some (.d (eT anc)), none, some (.d (eT anc)), some (.own (.list []))] (S0 ++ [x1.cell]) = some ((List.range cnt).map fun (n : Nat) => PyData.int (n : Int), S0 ++ [x1.cell]) := by
    simp [hr]
  have hf : evS (sem fns (k + 4)) clsT (.for_ (.nm 4) (.rng (.var 1)) woBody) [some (.c S0.length), some (.d (.int (cnt : Int))), some (.d (.int 3)), some (.d (eT anc)), none, some (.d (eT anc)), some (.own (.list []))] (S0 ++ [x1.cell])
      = some (.nx [some (.c S0.length), some (.d (.int (cnt : Int))), some (.d (.int 3)), some (.d (eO tO)), b4, some (.d (eT anc)), some (.own (.list (zs.map eZ)))], S0 ++ [x2.cell]) := by
    rw [S_for, hi]; exact y1
  have hR : ixD (.list [.str "any", .str "each"]) (.int d) = some (eR (decide (d = 1))) := by
    have : d = 0 ∨ d = 1 := by omega
    rcases this with rfl | rfl <;> rfl
  refine ⟨⟨zs, anc, decide (d = 1)⟩, x3, ?_, ?_⟩
  · rw [semS rfl]
    unfold woBody at hf
    simp [runF, envOf, cd__law_world_of, e1', hf, e3, hR, tk1]
    rfl
  · refine ⟨by simp only; omega, by simp only; omega, an0, an1, an2, fun p hp => ?_⟩
    simp only at hp
    rw [zO_eq hp]
    simp only
    rw [zl]
    exact zd p hp
theorem world_ok {x : Bx} (h : x.ok 0) (S0 : Sto) (k : Nat) : ∃ w x', sem fns (k + 6) 74 [.c S0.length, .d (.int 3), .d (.int 3)] (S0 ++ [x.cell]) = some (.d (eW w), S0 ++ [Bx.cell x']) ∧ DW w := by
  obtain ⟨d, x1, e1, d1, d2, ok1⟩ := take_ok h (by omega) (m := 3) (by omega) (by omega) S0 (k + 4)
  obtain ⟨j, rfl⟩ := Int.eq_ofNat_of_zero_le d1
  obtain ⟨w, x2, e2, hw⟩ := world_of_ok ok1 (by omega) (cnt := 1 + j) (by omega) (by omega) S0 k
  refine ⟨w, x2, ?_, hw⟩
  rw [semS rfl]
  simp only [Int.natCast_add, Int.cast_ofNat_Int] at e2
  have e2' : sem fns (k + 5) 75 [.c S0.length, .d (.int (1 + (j : Int))), .d (.int 3)] (S0 ++ [x1.cell]) = some (.d (eW w), S0 ++ [x2.cell]) := e2
  simp [runF, envOf, cd__law_world, e1, e2', tk1]
theorem one_ok (ns : List Int) {j : Nat} (hj : j ≤ 1) (S : Sto) : ∃ S', evE (sem fns 19) clsT (.fc 80 [(.fc 52 [(.var 0), (.var 1)])]) [some (.d (.list (ns.map enI))), some (.d (.int (j : Int)))] S = some (.d (.bool true), S') := by
  obtain ⟨x, e1, ok⟩ := box_ok ns hj S 18
  obtain ⟨w, x', e2, hw⟩ := world_ok ok S 12
  obtain ⟨M, hM⟩ := hw.wok
  have e3 := right_ok hM (i := S.length) (S := S ++ [x.cell]) (S1 := S ++ [x'.cell]) (by simp) e2
  exact ⟨_, by simp [e1, e3]; rfl⟩
theorem law_loop (ns : List Int) : ∀ (js : List Nat) (S : Sto), (∀ j, j ∈ js → j ≤ 1) → ∃ S', compLoop (.nm 1) (fun env' S' => evT (sem fns 19) clsT none env' S') (fun env' S' => evE (sem fns 19) clsT (.fc 80 [(.fc 52 [(.var 0), (.var 1)])]) env' S') [some (.d (.list (ns.map enI))), none] (js.map fun (n : Nat) => PyData.int (n : Int)) S = some (js.map fun _ => .bool true, S')
  | [], S, _ => ⟨S, rfl⟩
  | j :: js, S, h => by
    obtain ⟨S1, e1⟩ := one_ok ns (h j (List.mem_cons_self ..)) S
    obtain ⟨S2, e2⟩ := law_loop ns js S1 fun i hi => h i (List.mem_cons_of_mem _ hi)
    refine ⟨S2, ?_⟩
    rw [List.map_cons, compL_cons]
    have hb : bindTg (.nm 1) (.int (j : Int)) [some (.d (.list (ns.map enI))), none] = some [some (.d (.list (ns.map enI))), some (.d (.int (j : Int)))] := rfl
    have ht : evT (sem fns 19) clsT none [some (.d (.list (ns.map enI))), some (.d (.int (j : Int)))] S = some (true, S) := rfl
    rw [hb, ob_some, ht, bnd_some]
    simp only
    rw [e1, bnd_some]
    simp only [pu_d, ob_some]
    rw [e2]; rfl
theorem at_law (ns : List Int) (hl : ns.length ≤ 63) : ∃ S', sem fns 20 81 [.d (.list (ns.map .int))] [] = some (.d (.bool true), S') := by
  have en : ns.map PyData.int = ns.map enI := rfl
  rw [en]
  obtain ⟨m, hm, hr⟩ : ∃ m : Nat, m ≤ 2 ∧ evIt (sem fns 19) clsT (.rng (.bin .add (.cst (.int 1)) (.b2 .min (.cst (.int 1)) (.b1 .len (.var 0))))) [some (.d (.list (ns.map enI))), none] [] = some ((List.range m).map fun (n : Nat) => PyData.int (n : Int), []) := by
    refine ⟨(1 + (if ((ns.map enI).length : Int) < 1 then ((ns.map enI).length : Int) else 1)).toNat, ?_, ?_⟩
    · split <;> omega
    · have h1 := rng_int (i := 1 + (if ((ns.map enI).length : Int) < 1 then ((ns.map enI).length : Int) else 1)) (by split <;> omega) (by split <;> omega)
      simp at h1 ⊢
      rw [h1]
      simp
  obtain ⟨S', e⟩ := law_loop ns (List.range m) [] fun j hj => by have := List.mem_range.mp hj; omega
  have hc := comp_run (call := sem fns 19) (e := .fc 80 [(.fc 52 [(.var 0), (.var 1)])]) (tg := .nm 1) (it := .rng (.bin .add (.cst (.int 1)) (.b2 .min (.cst (.int 1)) (.b1 .len (.var 0))))) (t := none) (env := [some (.d (.list (ns.map enI))), none]) hr e
  have ea : asBools ((List.range m).map fun _ => PyData.bool true) = some ((List.range m).map fun _ => true) := asBools_map (fun _ => true) _
  have eb : ((List.range m).map fun _ => true).all id = true := by rw [all_id]; simp
  refine ⟨S'.take 0, ?_⟩
  rw [semS rfl]
  simp [runF, envOf, cd_law, hc, ea, eb]
end VI.M
theorem PySem.Challenge.cw_keyturns_k27_whole_shown_at_the_last_mom_holds : PySem.Challenge.rw_keyturns_k27_whole_shown_at_the_last_mom.Holds :=
  VI.holds_of VI.M.at_law
