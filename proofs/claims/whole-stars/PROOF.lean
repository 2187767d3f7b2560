import PyProof.Rows.All
import Wide.All
import OpenK.AllK
import Wide.FinOn
import KE.KStateDown
import HandS.Base
import HandS.Call
import HandS.Ends
import HandS.More
import HandS.Words
import HandS.WordsExc
import HandS.Defaults
import HandS.Head0
import HandS.Head1
import HandS.Head2
import HandS.HeadEnd
import HandS.HeadHook1
import HandS.HeadHook2
import HandS.ForMost
import HandS.IsInst
import HandS.Conv
import HandS.Strs
import HandS.SetFor
import HandS.Deep
import HandS.DictTup
import HandS.DictComp
import HandS.TupAny
import HandS.Star
import KE.SortData
import KE.DataMinMax
import HandS.Iter
import HandS.Walk
import KE.GoesEnum
import KE.GoesMore
import HandS.Style
import KE.KDictKeyed
import PyProof.DictUpdate
import PyProof.DictCompW
import KE.KDictDisplayH
import KE.KDictWalk
import PySem.Challenge.RW_lastholders_k50_whole_stars
set_option Elab.async false
set_option linter.all false
set_option maxRecDepth 100000
set_option maxHeartbeats 0
namespace HD
open PySem PySem.Spec PyProof.Rows L2
def top (i : Nat) : Stmt := PySem.Challenge.pw_lastholders_k50_whole_stars.main.body.getD i (.Pass ⟨0, 0, 0, 0⟩)
abbrev FnP (K : PySem.W.Frag) (x : Str) (st : Stmt) (f : Addr) (fd : FuncData) : Prop := FunD K x x (defArgs st) (defBody st) (defScope st) [] [] f fd

abbrev s_is_integer : Stmt := top 1
abbrev s_is_in : Stmt := top 2
abbrev s_is_list : Stmt := top 3
abbrev s_is_hand : Stmt := top 13
abbrev s_need_hands : Stmt := top 14
abbrev s_need_person : Stmt := top 15
abbrev s_things_in : Stmt := top 16
abbrev s_holders_in : Stmt := top 17
abbrev s_spare_in : Stmt := top 18
abbrev s_pairs_in : Stmt := top 19
abbrev s_neighbours : Stmt := top 20
abbrev s_groups_in : Stmt := top 21
abbrev s_end_in : Stmt := top 22
abbrev s_call_in : Stmt := top 24
abbrev s_movers_in : Stmt := top 25
abbrev s_cover_in : Stmt := top 27
abbrev s_choices : Stmt := top 28
abbrev s_covers_in : Stmt := top 29
abbrev s_least_in : Stmt := top 30
abbrev s_least_covers : Stmt := top 31
abbrev s_calls_to_end : Stmt := top 32
abbrev s_tight_covers : Stmt := top 33
abbrev s_must_call : Stmt := top 34
abbrev s_need_weights : Stmt := top 35
abbrev s_cheapest_cover : Stmt := top 36
abbrev s_way_to_end : Stmt := top 37
abbrev s_has_ring : Stmt := top 39
abbrev s_steps_of : Stmt := top 40
abbrev s_keepers_in : Stmt := top 41
abbrev s_end_by : Stmt := top 42
abbrev s_ends_in : Stmt := top 43
abbrev s_count_ends : Stmt := top 44
abbrev s_fits_end : Stmt := top 45
abbrev s_most_calls : Stmt := top 47
abbrev s_counts_from : Stmt := top 48
abbrev s_row_counts : Stmt := top 49
abbrev s_linked_to : Stmt := top 51
abbrev s_most_linked : Stmt := top 52
abbrev s_splitters : Stmt := top 53
abbrev s_shared : Stmt := top 56
abbrev s_ratio : Stmt := top 57
abbrev s_plus : Stmt := top 58
abbrev s_factorial : Stmt := top 60
abbrev s_steps_to : Stmt := top 61
abbrev s_count_in : Stmt := top 62
abbrev s_chances_in : Stmt := top 63
abbrev s_empty_chance : Stmt := top 64
abbrev s_all_chance : Stmt := top 65
abbrev s_together_in : Stmt := top 67
abbrev s_one_round : Stmt := top 68
abbrev s_fewest_rounds : Stmt := top 69
abbrev s_law_taken : Stmt := top 71
abbrev s_law : Stmt := top 72
def d_is_integer : He.DefD := ⟨("is_integer", none), "is_integer", "is_integer", defArgs s_is_integer, defBody s_is_integer, defScope s_is_integer, [], []⟩
def d_is_in : He.DefD := ⟨("is_in", none), "is_in", "is_in", defArgs s_is_in, defBody s_is_in, defScope s_is_in, [], []⟩
def d_is_list : He.DefD := ⟨("is_list", none), "is_list", "is_list", defArgs s_is_list, defBody s_is_list, defScope s_is_list, [], []⟩
def d_is_hand : He.DefD := ⟨("is_hand", none), "is_hand", "is_hand", defArgs s_is_hand, defBody s_is_hand, defScope s_is_hand, [], []⟩
def d_need_hands : He.DefD := ⟨("need_hands", none), "need_hands", "need_hands", defArgs s_need_hands, defBody s_need_hands, defScope s_need_hands, [], []⟩
def d_need_person : He.DefD := ⟨("need_person", none), "need_person", "need_person", defArgs s_need_person, defBody s_need_person, defScope s_need_person, [], []⟩
def d_things_in : He.DefD := ⟨("things_in", none), "things_in", "things_in", defArgs s_things_in, defBody s_things_in, defScope s_things_in, [], []⟩
def d_holders_in : He.DefD := ⟨("holders_in", none), "holders_in", "holders_in", defArgs s_holders_in, defBody s_holders_in, defScope s_holders_in, [], []⟩
def d_spare_in : He.DefD := ⟨("spare_in", none), "spare_in", "spare_in", defArgs s_spare_in, defBody s_spare_in, defScope s_spare_in, [], []⟩
def d_pairs_in : He.DefD := ⟨("pairs_in", none), "pairs_in", "pairs_in", defArgs s_pairs_in, defBody s_pairs_in, defScope s_pairs_in, [], []⟩
def d_neighbours : He.DefD := ⟨("neighbours", none), "neighbours", "neighbours", defArgs s_neighbours, defBody s_neighbours, defScope s_neighbours, [], []⟩
def d_groups_in : He.DefD := ⟨("groups_in", none), "groups_in", "groups_in", defArgs s_groups_in, defBody s_groups_in, defScope s_groups_in, [], []⟩
def d_end_in : He.DefD := ⟨("end_in", none), "end_in", "end_in", defArgs s_end_in, defBody s_end_in, defScope s_end_in, [], []⟩
def d_call_in : He.DefD := ⟨("call_in", none), "call_in", "call_in", defArgs s_call_in, defBody s_call_in, defScope s_call_in, [], []⟩
def d_movers_in : He.DefD := ⟨("movers_in", none), "movers_in", "movers_in", defArgs s_movers_in, defBody s_movers_in, defScope s_movers_in, [], []⟩
def d_cover_in : He.DefD := ⟨("cover_in", none), "cover_in", "cover_in", defArgs s_cover_in, defBody s_cover_in, defScope s_cover_in, [], []⟩
def d_choices : He.DefD := ⟨("choices", none), "choices", "choices", defArgs s_choices, defBody s_choices, defScope s_choices, [], []⟩
def d_covers_in : He.DefD := ⟨("covers_in", none), "covers_in", "covers_in", defArgs s_covers_in, defBody s_covers_in, defScope s_covers_in, [], []⟩
def d_least_in : He.DefD := ⟨("least_in", none), "least_in", "least_in", defArgs s_least_in, defBody s_least_in, defScope s_least_in, [], []⟩
def d_least_covers : He.DefD := ⟨("least_covers", none), "least_covers", "least_covers", defArgs s_least_covers, defBody s_least_covers, defScope s_least_covers, [], []⟩
def d_calls_to_end : He.DefD := ⟨("calls_to_end", none), "calls_to_end", "calls_to_end", defArgs s_calls_to_end, defBody s_calls_to_end, defScope s_calls_to_end, [], []⟩
def d_tight_covers : He.DefD := ⟨("tight_covers", none), "tight_covers", "tight_covers", defArgs s_tight_covers, defBody s_tight_covers, defScope s_tight_covers, [], []⟩
def d_must_call : He.DefD := ⟨("must_call", none), "must_call", "must_call", defArgs s_must_call, defBody s_must_call, defScope s_must_call, [], []⟩
def d_need_weights : He.DefD := ⟨("need_weights", none), "need_weights", "need_weights", defArgs s_need_weights, defBody s_need_weights, defScope s_need_weights, [], []⟩
def d_cheapest_cover : He.DefD := ⟨("cheapest_cover", none), "cheapest_cover", "cheapest_cover", defArgs s_cheapest_cover, defBody s_cheapest_cover, defScope s_cheapest_cover, [], []⟩
def d_way_to_end : He.DefD := ⟨("way_to_end", none), "way_to_end", "way_to_end", defArgs s_way_to_end, defBody s_way_to_end, defScope s_way_to_end, [], []⟩
def d_has_ring : He.DefD := ⟨("has_ring", none), "has_ring", "has_ring", defArgs s_has_ring, defBody s_has_ring, defScope s_has_ring, [], []⟩
def d_steps_of : He.DefD := ⟨("steps_of", none), "steps_of", "steps_of", defArgs s_steps_of, defBody s_steps_of, defScope s_steps_of, [], []⟩
def d_keepers_in : He.DefD := ⟨("keepers_in", none), "keepers_in", "keepers_in", defArgs s_keepers_in, defBody s_keepers_in, defScope s_keepers_in, [], []⟩
def d_end_by : He.DefD := ⟨("end_by", none), "end_by", "end_by", defArgs s_end_by, defBody s_end_by, defScope s_end_by, [], []⟩
def d_ends_in : He.DefD := ⟨("ends_in", none), "ends_in", "ends_in", defArgs s_ends_in, defBody s_ends_in, defScope s_ends_in, [], []⟩
def d_count_ends : He.DefD := ⟨("count_ends", none), "count_ends", "count_ends", defArgs s_count_ends, defBody s_count_ends, defScope s_count_ends, [], []⟩
def d_fits_end : He.DefD := ⟨("fits_end", none), "fits_end", "fits_end", defArgs s_fits_end, defBody s_fits_end, defScope s_fits_end, [], []⟩
def d_most_calls : He.DefD := ⟨("most_calls", none), "most_calls", "most_calls", defArgs s_most_calls, defBody s_most_calls, defScope s_most_calls, [], []⟩
def d_counts_from : He.DefD := ⟨("counts_from", none), "counts_from", "counts_from", defArgs s_counts_from, defBody s_counts_from, defScope s_counts_from, [], []⟩
def d_row_counts : He.DefD := ⟨("row_counts", none), "row_counts", "row_counts", defArgs s_row_counts, defBody s_row_counts, defScope s_row_counts, [], []⟩
def d_linked_to : He.DefD := ⟨("linked_to", none), "linked_to", "linked_to", defArgs s_linked_to, defBody s_linked_to, defScope s_linked_to, [], []⟩
def d_most_linked : He.DefD := ⟨("most_linked", none), "most_linked", "most_linked", defArgs s_most_linked, defBody s_most_linked, defScope s_most_linked, [], []⟩
def d_splitters : He.DefD := ⟨("splitters", none), "splitters", "splitters", defArgs s_splitters, defBody s_splitters, defScope s_splitters, [], []⟩
def d_shared : He.DefD := ⟨("shared", none), "shared", "shared", defArgs s_shared, defBody s_shared, defScope s_shared, [], []⟩
def d_ratio : He.DefD := ⟨("ratio", none), "ratio", "ratio", defArgs s_ratio, defBody s_ratio, defScope s_ratio, [], []⟩
def d_plus : He.DefD := ⟨("plus", none), "plus", "plus", defArgs s_plus, defBody s_plus, defScope s_plus, [], []⟩
def d_factorial : He.DefD := ⟨("factorial", none), "factorial", "factorial", defArgs s_factorial, defBody s_factorial, defScope s_factorial, [], []⟩
def d_steps_to : He.DefD := ⟨("steps_to", none), "steps_to", "steps_to", defArgs s_steps_to, defBody s_steps_to, defScope s_steps_to, [], []⟩
def d_count_in : He.DefD := ⟨("count_in", none), "count_in", "count_in", defArgs s_count_in, defBody s_count_in, defScope s_count_in, [], []⟩
def d_chances_in : He.DefD := ⟨("chances_in", none), "chances_in", "chances_in", defArgs s_chances_in, defBody s_chances_in, defScope s_chances_in, [], []⟩
def d_empty_chance : He.DefD := ⟨("empty_chance", none), "empty_chance", "empty_chance", defArgs s_empty_chance, defBody s_empty_chance, defScope s_empty_chance, [], []⟩
def d_all_chance : He.DefD := ⟨("all_chance", none), "all_chance", "all_chance", defArgs s_all_chance, defBody s_all_chance, defScope s_all_chance, [], []⟩
def d_together_in : He.DefD := ⟨("together_in", none), "together_in", "together_in", defArgs s_together_in, defBody s_together_in, defScope s_together_in, [], []⟩
def d_one_round : He.DefD := ⟨("one_round", none), "one_round", "one_round", defArgs s_one_round, defBody s_one_round, defScope s_one_round, [], []⟩
def d_fewest_rounds : He.DefD := ⟨("fewest_rounds", none), "fewest_rounds", "fewest_rounds", defArgs s_fewest_rounds, defBody s_fewest_rounds, defScope s_fewest_rounds, [], []⟩
def d_law_taken : He.DefD := ⟨("_law_taken", none), "_law_taken", "_law_taken", defArgs s_law_taken, defBody s_law_taken, defScope s_law_taken, [], []⟩
def d_law : He.DefD := ⟨("law", none), "law", "law", defArgs s_law, defBody s_law, defScope s_law, [], []⟩
def fn0 : List He.DefD := [d_is_integer, d_is_in, d_is_list, d_is_hand, d_need_hands, d_need_person, d_things_in, d_holders_in, d_spare_in, d_pairs_in, d_neighbours, d_groups_in, d_end_in, d_call_in, d_movers_in, d_cover_in, d_choices, d_covers_in, d_least_in, d_least_covers, d_calls_to_end, d_tight_covers, d_must_call, d_need_weights, d_cheapest_cover, d_way_to_end, d_has_ring, d_steps_of, d_keepers_in, d_end_by]
def fn1 : List He.DefD := [d_ends_in, d_count_ends, d_fits_end, d_most_calls, d_counts_from, d_row_counts, d_linked_to, d_most_linked, d_splitters, d_shared, d_ratio, d_plus, d_factorial, d_steps_to, d_count_in, d_chances_in, d_empty_chance, d_all_chance, d_together_in, d_one_round, d_fewest_rounds, d_law_taken, d_law]
def fn : List He.DefD := fn0 ++ fn1
def fa0 : List He.Fa := [.glo "is_integer", .glo "is_in", .glo "is_list", .glo "is_hand", .glo "need_hands", .glo "need_person", .glo "things_in", .glo "holders_in", .glo "spare_in", .glo "pairs_in", .glo "neighbours", .glo "groups_in", .glo "end_in", .glo "call_in", .glo "movers_in", .glo "cover_in", .glo "choices", .glo "covers_in", .glo "least_in", .glo "least_covers", .glo "calls_to_end", .glo "tight_covers", .glo "must_call", .glo "need_weights", .glo "cheapest_cover", .glo "way_to_end", .glo "has_ring", .glo "steps_of", .glo "keepers_in", .glo "end_by"]
def fa1 : List He.Fa := [.glo "ends_in", .glo "count_ends", .glo "fits_end", .glo "most_calls", .glo "counts_from", .glo "row_counts", .glo "linked_to", .glo "most_linked", .glo "splitters", .glo "shared", .glo "ratio", .glo "plus", .glo "factorial", .glo "steps_to", .glo "count_in", .glo "chances_in", .glo "empty_chance", .glo "all_chance", .glo "together_in", .glo "one_round", .glo "fewest_rounds", .glo "_law_taken", .glo "law", .free "abs", .free "all", .free "any", .free "bool", .free "enumerate", .free "int", .free "isinstance"]
def fa2 : List He.Fa := [.free "len", .free "list", .free "max", .free "min", .free "range", .free "set", .free "sorted", .free "sum", .free "tuple", .int "MOST_PEOPLE" 7, .int "MOST_THINGS" 8, .glo "ZERO"]
def fa : List He.Fa := fa0 ++ fa1 ++ fa2
def nm0 : List Str := ["__name__", "is_integer", "is_in", "is_list", "HoldError", "BadHands", "BadPerson", "BadWeights", "NotMade", "MOST_PEOPLE", "MOST_THINGS", "is_hand", "need_hands", "need_person", "things_in", "holders_in", "spare_in", "pairs_in", "neighbours", "groups_in", "end_in", "call_in", "movers_in", "cover_in", "choices", "covers_in", "least_in", "least_covers", "calls_to_end", "tight_covers"]
def nm1 : List Str := ["must_call", "need_weights", "cheapest_cover", "way_to_end", "has_ring", "steps_of", "keepers_in", "end_by", "ends_in", "count_ends", "fits_end", "most_calls", "counts_from", "row_counts", "linked_to", "most_linked", "splitters", "ZERO", "shared", "ratio", "plus", "factorial", "steps_to", "count_in", "chances_in", "empty_chance", "all_chance", "together_in", "one_round", "fewest_rounds"]
def nm2 : List Str := ["_law_taken"]
def nms : List Str := nm0 ++ nm1 ++ nm2

abbrev R : PySem.W.OpenRow := PySem.W.OpenLaw.row PySem.Challenge.rw_lastholders_k50_whole_stars
/-- a global tuple of ints, beside the facts -/
def zero (K : PySem.W.Frag) : Bool := He.tupB K "ZERO" [.int 0, .int 1]
def look (g : Addr → Option Obj) : He.AlD × Bool := (He.obsDG 4 fa fn g, zero (He.frG g (He.asD g 4)))
def hk : PySem.W.Hook where
  α := He.AlD × Bool
  obs := fun s => look s.heap.get?
  val := fun _ => (He.valD fn, true)
  says := fun _ h => ∃ K : PySem.W.Frag, K.In h ∧ He.SaysD fa fn K ∧ zero K = true
  of := fun _ _ e => ⟨_, He.frG_in, congrArg (fun z : He.AlD × Bool => z.1) e, congrArg (fun z : He.AlD × Bool => z.2) e⟩
  keeps := fun _ _ _ ⟨K, a, b, c⟩ k => ⟨K, PySem.W.Frag.In.keeps a k, b, c⟩
def ob (s : PySem.W.SharedT) : He.AlD × Bool := look (HandSHeadRun.getT s)
theorem ob_eq (s : PySem.W.SharedT) : ob s = hk.obs s.abs := by
  have e : HandSHeadRun.getT s = s.abs.heap.get? := funext (HandSHeadRun.getT_eq s)
  show look _ = look _
  rw [e]
theorem run (w : World) : HandSHeadRun.RunEq R (PySem.W.view R.prog [72]) hk ob 3000 nms w := by
  intro os
  kernel_rfl
end HD

set_option Elab.async false
set_option linter.all false
set_option maxRecDepth 100000
set_option maxHeartbeats 1000000
/-! DL1: data described over the abstract heap; what grows; the environment by data. -/
namespace DL
open PySem PySem.Spec PyProof.Rows L2

/-- lists and tuples stay below this -/
def big : Nat := 100000
theorem big_line {n : Nat} (h : n ≤ big) : n ≤ sizeLine := Nat.le_trans h (by decide)
theorem big_lt {n : Nat} (h : n < big) : n < sizeLine := Nat.lt_of_lt_of_le h (by decide)

/-! ### data -/
/-- a thing that stands as ob -/
def NDo (a : Addr) (ob : Obj) : HO := .ext fun h => h.get? a = some ob
mutual
inductive Rp (K : PySem.W.Frag) (G : Hp) : V → PyData → Prop
  | non : Rp K G .non .none
  | bl (b : Bool) : Rp K G (.bl b) (.bool b)
  | int (i : Int) : Rp K G (.int i) (.int i)
  | lst {a : Addr} {xs : List V} {ds : List PyData} : SqL K G a xs → xs.length ≤ big → RpA K G xs ds → Rp K G (.ref a) (.list ds)
  | tup {a : Addr} {xs : List V} {ds : List PyData} : SqT K G a xs → xs.length ≤ big → RpA K G xs ds → Rp K G (.ref a) (.tuple ds)
  | dk {a : Addr} {o : Obj} {kvs : List (Key × V)} {es : List (PyData × PyData)} : G a = some (.frz o (.dK kvs)) → kvs.length ≤ big → RpK K G kvs es → Rp K G (.ref a) (.dict es)
  | dn {a : Addr} {ob : Obj} {arr : Array DictEntry} {ep : Nat} {es : List (PyData × PyData)} : G a = some (NDo a ob) → ob.ExactDict → ob.data = .dict arr ep → arr.size ≤ big → RpN K G arr.toList es → es ≠ [] → (a == sysModules) = false → Rp K G (.ref a) (.dict es)
inductive RpA (K : PySem.W.Frag) (G : Hp) : List V → List PyData → Prop
  | nil : RpA K G [] []
  | cons {v : V} {vs : List V} {d : PyData} {ds : List PyData} : Rp K G v d → RpA K G vs ds → RpA K G (v :: vs) (d :: ds)
inductive RpK (K : PySem.W.Frag) (G : Hp) : List (Key × V) → List (PyData × PyData) → Prop
  | nil : RpK K G [] []
  | cons {i : Int} {v : V} {vs : List (Key × V)} {d : PyData} {ds : List (PyData × PyData)} : Rp K G v d → RpK K G vs ds → RpK K G ((.inl i, v) :: vs) ((.int i, d) :: ds)
inductive RpN (K : PySem.W.Frag) (G : Hp) : List DictEntry → List (PyData × PyData) → Prop
  | nil : RpN K G [] []
  | cons {hh : Int} {q : Addr} {u : Value} {v : V} {xs : List DictEntry} {dk dv : PyData} {ds : List (PyData × PyData)} : Rp K G (.ref q) dk → RelV v u → Rp K G v dv → RpN K G xs ds → RpN K G (⟨hh, .ref q, u⟩ :: xs) ((dk, dv) :: ds)
end

section
variable {K : PySem.W.Frag} {G G' H H' : Hp}
theorem sameL {a : Addr} {xs : List V} (e : Same G G') (h : SqL K G a xs) : SqL K G' a xs := e.seq h
theorem sameT {a : Addr} {xs : List V} (e : Same G G') (h : SqT K G a xs) : SqT K G' a xs := by
  rcases h with (h | ⟨o, h⟩) | h
  · exact .inl (.inl (e _ _ h))
  · exact .inl (.inr ⟨o, e _ _ h⟩)
  · exact .inr h
mutual
theorem Rp.mono (e : Same G G') : ∀ {v : V} {d : PyData}, Rp K G v d → Rp K G' v d
  | _, _, .non => .non
  | _, _, .bl b => .bl b
  | _, _, .int i => .int i
  | _, _, .lst h l r => .lst (sameL e h) l (RpA.mono e r)
  | _, _, .tup h l r => .tup (sameT e h) l (RpA.mono e r)
  | _, _, .dk h l r => .dk (e _ _ h) l (RpK.mono e r)
  | _, _, .dn h x t l r n z => .dn (e _ _ h) x t l (RpN.mono e r) n z
theorem RpA.mono (e : Same G G') : ∀ {vs : List V} {ds : List PyData}, RpA K G vs ds → RpA K G' vs ds
  | _, _, .nil => .nil
  | _, _, .cons r t => .cons (Rp.mono e r) (RpA.mono e t)
theorem RpK.mono (e : Same G G') : ∀ {vs : List (Key × V)} {ds : List (PyData × PyData)}, RpK K G vs ds → RpK K G' vs ds
  | _, _, .nil => .nil
  | _, _, .cons r t => .cons (Rp.mono e r) (RpK.mono e t)
theorem RpN.mono (e : Same G G') : ∀ {xs : List DictEntry} {ds : List (PyData × PyData)}, RpN K G xs ds → RpN K G' xs ds
  | _, _, .nil => .nil
  | _, _, .cons r l q t => .cons (Rp.mono e r) l (Rp.mono e q) (RpN.mono e t)
end
theorem RpA.len : ∀ {vs : List V} {ds : List PyData}, RpA K G vs ds → vs.length = ds.length
  | _, _, .nil => rfl
  | _, _, .cons _ t => congrArg Nat.succ (RpA.len t)
theorem RpA.get : ∀ {vs : List V} {ds : List PyData} {i : Nat} {v : V}, RpA K G vs ds → vs[i]? = some v → ∃ d, ds[i]? = some d ∧ Rp K G v d
  | _, _, _, _, .nil, e => by simp at e
  | _, _, 0, _, .cons r _, e => ⟨_, rfl, Option.some.inj e ▸ r⟩
  | _, _, i + 1, v, .cons _ t, e => RpA.get (i := i) (v := v) t e
theorem RpA.at : ∀ {vs : List V} {ds : List PyData} {i : Nat} {d : PyData}, RpA K G vs ds → ds[i]? = some d → ∃ v, vs[i]? = some v ∧ Rp K G v d
  | _, _, _, _, .nil, e => by simp at e
  | _, _, 0, _, .cons r _, e => ⟨_, rfl, Option.some.inj e ▸ r⟩
  | _, _, i + 1, d, .cons _ t, e => RpA.at (i := i) (d := d) t e
theorem RpA.app : ∀ {vs ws : List V} {ds es : List PyData}, RpA K G vs ds → RpA K G ws es → RpA K G (vs ++ ws) (ds ++ es)
  | _, _, _, _, .nil, s => s
  | _, _, _, _, .cons r t, s => .cons r (RpA.app t s)
theorem RpA.take : ∀ {vs : List V} {ds : List PyData} (n : Nat), RpA K G vs ds → RpA K G (vs.take n) (ds.take n)
  | _, _, 0, _ => .nil
  | _, _, _ + 1, .nil => .nil
  | _, _, n + 1, .cons r t => .cons r (RpA.take n t)
theorem RpA.drop : ∀ {vs : List V} {ds : List PyData} (n : Nat), RpA K G vs ds → RpA K G (vs.drop n) (ds.drop n)
  | _, _, 0, r => r
  | _, _, _ + 1, .nil => .nil
  | _, _, n + 1, .cons _ t => RpA.drop n t
theorem RpA.ints : ∀ (ns : List Int), RpA K G (ns.map V.int) (ns.map .int)
  | [] => .nil
  | n :: r => .cons (.int n) (RpA.ints r)
theorem RpA.of_ints : ∀ {ns : List Int} {vs : List V}, RpA K G vs (ns.map .int) → vs = ns.map V.int
  | [], _, h => by cases h; rfl
  | n :: r, _, h => by
    cases h with
    | cons h1 h2 =>
      cases h1
      exact congrArg (V.int n :: ·) (RpA.of_ints h2)
theorem RpA.bls : ∀ (bs : List Bool), RpA K G (bs.map V.bl) (bs.map .bool)
  | [] => .nil
  | n :: r => .cons (.bl n) (RpA.bls r)
theorem RpA.of_bls : ∀ {ns : List Bool} {vs : List V}, RpA K G vs (ns.map .bool) → vs = ns.map V.bl
  | [], _, h => by cases h; rfl
  | n :: r, _, h => by
    cases h with
    | cons h1 h2 =>
      cases h1
      exact congrArg (V.bl n :: ·) (RpA.of_bls h2)
-- data without dicts, as the library's deep rules read them
mutual
theorem Rp.dp : ∀ {v : V} {d : PyData}, Rp K G v d → d.canLay0 = true → Dp K G v d
  | _, _, .non, _ => .non
  | _, _, .bl b, _ => .bl b
  | _, _, .int i, _ => .int i
  | _, _, .lst h _ r, c => .lst h (RpA.dp r (by simpa [PyData.canLay0] using c))
  | _, _, .tup h _ r, c => .tup h (RpA.dp r (by simpa [PyData.canLay0] using c))
  | _, _, .dk _ _ _, c => by simp [PyData.canLay0] at c
  | _, _, .dn _ _ _ _ _ _ _, c => by simp [PyData.canLay0] at c
theorem RpA.dp : ∀ {vs : List V} {ds : List PyData}, RpA K G vs ds → PyData.canLayAll0 ds = true → DpAll K G vs ds
  | _, _, .nil, _ => .nil
  | _, _, .cons r t, c => by
    have c' := c
    simp only [PyData.canLayAll0, Bool.and_eq_true] at c'
    exact .cons (Rp.dp r c'.1) (RpA.dp t c'.2)
end

/-! ### what grows -/
structure Grow (G H G' H' : Hp) : Prop where
  h : Same H H'
  g : Same G G'
  sub : Same G' H'
  new : ∀ a, H a ≠ none → G a = none → G' a = none
theorem Grow.rfl' (s : Same G H) : Grow G H G H := ⟨Same.refl _, Same.refl _, s, fun _ _ h => h⟩
theorem some_ne {H : Hp} {a : Addr} (h : H a ≠ none) : ∃ o, H a = some o := by
  cases e : H a with
  | none => exact absurd e h
  | some o => exact ⟨o, rfl⟩
theorem Same.ne {H H' : Hp} (s : Same H H') {a : Addr} (h : H a ≠ none) : H' a ≠ none := by
  obtain ⟨o, e⟩ := some_ne h
  rw [s a o e]
  exact fun z => nomatch z
theorem Grow.trans {G1 H1 G2 H2 : Hp} (a : Grow G H G1 H1) (b : Grow G1 H1 G2 H2) : Grow G H G2 H2 :=
  ⟨a.h.trans b.h, a.g.trans b.g, b.sub, fun x hx gx => b.new x (Same.ne a.h hx) (a.new x hx gx)⟩
theorem same_new {H : Hp} {p : Addr} {o : HO} (h : H p = none) : Same H (upd H p o) := fun a u e => by
  rw [upd_ne (ne_of_none e h)]
  exact e
theorem same_both {G H : Hp} {p : Addr} {o : HO} (s : Same G H) : Same (upd G p o) (upd H p o) := fun a u e => by
  by_cases ha : a = p
  · subst ha
    rw [upd_same] at e ⊢
    exact e
  · rw [upd_ne ha] at e ⊢
    exact s a u e
theorem none_sub {G H : Hp} (s : Same G H) {p : Addr} (h : H p = none) : G p = none := by
  cases e : G p with
  | none => rfl
  | some o =>
    rw [s p o e] at h
    cases h
/-- a new object -/
theorem Grow.lay {p : Addr} (o : HO) (s : Same G H) (hp : H p = none) : Grow G H (upd G p o) (upd H p o) :=
  ⟨same_new hp, same_new (none_sub s hp), same_both s, fun a ha ga => by
    have ne : a ≠ p := fun e => ha (by rw [e]; exact hp)
    rw [upd_ne ne]
    exact ga⟩
/-- an object that G does not hold, and that H did not hold at first, is written -/
theorem Grow.put {G1 H1 : Hp} {p : Addr} (o : HO) (g : Grow G H G1 H1) (hH : H p = none) (hG : G1 p = none) : Grow G H G1 (upd H1 p o) :=
  ⟨fun a u e => by rw [upd_ne (ne_of_none e hH)]; exact g.h a u e, g.g, fun a u e => by rw [upd_ne (ne_of_none e hG)]; exact g.sub a u e, g.new⟩
/-- an own object becomes known data -/
theorem Grow.freeze {G1 H1 : Hp} {p : Addr} {o : HO} (g : Grow G H G1 H1) (hH : H p = none) (hG : G1 p = none) (ho : H1 p = some o) : Grow G H (upd G1 p o) H1 :=
  ⟨g.h, fun a u e => by rw [upd_ne (ne_of_none (g.g a u e) hG)]; exact g.g a u e, fun a u e => by
    by_cases ha : a = p
    · subst ha
      rw [upd_same] at e
      rw [ho]
      exact e
    · rw [upd_ne ha] at e
      exact g.sub a u e, fun a ha ga => by
    have ne : a ≠ p := fun e => ha (by rw [e]; exact hH)
    rw [upd_ne ne]
    exact g.new a ha ga⟩
/-- two parts of one heap, together -/
def both (G G' : Hp) : Hp := fun a => match G a with
  | some o => some o
  | none => G' a
theorem both_l {G G' : Hp} : Same G (both G G') := fun a o e => by
  unfold both
  rw [e]
theorem both_sub {G G' H : Hp} (s : Same G H) (s' : Same G' H) : Same (both G G') H := fun a o e => by
  unfold both at e
  cases h : G a with
  | some u =>
    rw [h] at e
    exact Option.some.inj e ▸ s a u h
  | none =>
    rw [h] at e
    exact s' a o e
theorem both_r {G G' H : Hp} (s : Same G H) (s' : Same G' H) : Same G' (both G G') := fun a o e => by
  unfold both
  cases h : G a with
  | some u =>
    have h1 := s a u h
    rw [s' a o e] at h1
    exact h1.symm
  | none => exact e
/-- what grows from a part grows from more of it -/
theorem Grow.more {G1 G2 H1 H2 : Hp} (e : Same G G1) (s : Same G1 H1) (g : Grow G H1 G2 H2) : Grow G1 H1 (both G1 G2) H2 ∧ Same G2 (both G1 G2) :=
  ⟨⟨g.h, both_l, both_sub (s.trans g.h) g.sub, fun a ha ga => by
    unfold both
    rw [ga]
    refine g.new a ha ?_
    cases h : G a with
    | none => rfl
    | some o =>
      rw [e a o h] at ga
      cases ga⟩, both_r (s.trans g.h) g.sub⟩
end

/-! ### the environment -/
inductive En where
  | un
  | dat (d : PyData)
  | own (ds : List PyData)
  | oK (es : List (PyData × PyData))
  | ox (P : Addr → Hp → HO → Prop)
def En.isOwn : En → Bool
  | .un => false
  | .dat _ => false
  | _ => true
def EnAt (K : PySem.W.Frag) (G H : Hp) (s : Option (Option V)) : En → Prop
  | .un => True
  | .dat d => ∃ v, s = some (some v) ∧ Rp K G v d
  | .own ds => ∃ a vs, s = some (some (.ref a)) ∧ H a = some (.lst vs) ∧ vs.length ≤ big ∧ RpA K G vs ds
  | .oK es => ∃ a kvs, s = some (some (.ref a)) ∧ H a = some (.dK kvs) ∧ kvs.length ≤ big ∧ RpK K G kvs es
  | .ox P => ∃ a o, s = some (some (.ref a)) ∧ H a = some o ∧ P a G o ∧ ∀ (G1 G2 : Hp) (u : HO), Same G1 G2 → P a G1 u → P a G2 u
/-- the environment by data: G what is known for good, G0 and H0 as at the entry -/
structure EnvR (K : PySem.W.Frag) (G0 H0 G H : Hp) (σ : L2.St) (env : List En) : Prop where
  grow : Grow G0 H0 G H
  len : σ.length = env.length
  at_ : ∀ (i : Nat) (e : En), env[i]? = some e → EnAt K G H (σ[i]?) e
  own : ∀ (i : Nat) (e : En) (a : Addr), env[i]? = some e → e.isOwn = true → σ[i]? = some (some (V.ref a)) → G a = none ∧ H0 a = none
  sep : ∀ (i j : Nat) (e e' : En) (a : Addr), env[i]? = some e → e.isOwn = true → env[j]? = some e' → e'.isOwn = true → σ[i]? = some (some (.ref a)) → σ[j]? = some (some (.ref a)) → i = j

section
variable {K : PySem.W.Frag} {G0 H0 G H G' H' : Hp} {σ : L2.St} {env : List En}
theorem EnAt.grow {s : Option (Option V)} : ∀ {e : En}, EnAt K G H s e → Grow G H G' H' → EnAt K G' H' s e
  | .un, _, _ => True.intro
  | .dat _, h, g => let ⟨v, e, r⟩ := h; ⟨v, e, r.mono g.g⟩
  | .own _, h, g => let ⟨a, vs, e, h1, l, r⟩ := h; ⟨a, vs, e, g.h _ _ h1, l, r.mono g.g⟩
  | .oK _, h, g => let ⟨a, vs, e, h1, l, r⟩ := h; ⟨a, vs, e, g.h _ _ h1, l, r.mono g.g⟩
  | .ox _, h, g => let ⟨a, o, e, h1, p, m⟩ := h; ⟨a, o, e, g.h _ _ h1, m _ _ _ g.g p, m⟩
theorem EnAt.there {e : En} {a : Addr} (h : EnAt K G H (some (some (.ref a))) e) (o : e.isOwn = true) : H a ≠ none := by
  cases e with
  | un => cases o
  | dat _ => cases o
  | own _ => obtain ⟨b, _, e, h, _⟩ := h; cases e; rw [h]; exact fun z => nomatch z
  | oK _ => obtain ⟨b, _, e, h, _⟩ := h; cases e; rw [h]; exact fun z => nomatch z
  | ox _ => obtain ⟨b, _, e, h, _⟩ := h; cases e; rw [h]; exact fun z => nomatch z
theorem EnvR.more (E : EnvR K G0 H0 G H σ env) (g : Grow G H G' H') : EnvR K G0 H0 G' H' σ env where
  grow := E.grow.trans g
  len := E.len
  at_ := fun i e h => (E.at_ i e h).grow g
  own := fun i e a h o hs => by
    obtain ⟨h1, h2⟩ := E.own i e a h o hs
    have h3 := E.at_ i e h
    rw [hs] at h3
    exact ⟨g.new a (h3.there o) h1, h2⟩
  sep := E.sep
theorem EnvR.sub (E : EnvR K G0 H0 G H σ env) : Same G H := E.grow.sub
theorem set_get {α : Type} {l : List α} {i j : Nat} {x y : α} (h : (l.set i x)[j]? = some y) : (i = j ∧ y = x) ∨ (i ≠ j ∧ l[j]? = some y) := by
  by_cases e : i = j
  · subst e
    have hl : i < l.length := by
      have := (List.getElem?_eq_some_iff.mp h).1
      simpa using this
    rw [List.getElem?_set_self hl] at h
    exact .inl ⟨rfl, (Option.some.inj h).symm⟩
  · rw [List.getElem?_set_ne e] at h
    exact .inr ⟨e, h⟩
/-- a slot is set to known data -/
theorem EnvR.set (E : EnvR K G0 H0 G H σ env) (i : Nat) {v : V} {d : PyData} (r : Rp K G v d) : EnvR K G0 H0 G H (σ.set i (some v)) (env.set i (.dat d)) where
  grow := E.grow
  len := by rw [List.length_set, List.length_set]; exact E.len
  at_ := fun j e h => by
    rcases set_get h with ⟨rfl, rfl⟩ | ⟨ne, h⟩
    · have hl : i < σ.length := by
        rw [E.len]
        have := (List.getElem?_eq_some_iff.mp h).1
        simpa using this
      exact ⟨v, List.getElem?_set_self hl, r⟩
    · rw [List.getElem?_set_ne ne]
      exact E.at_ j e h
  own := fun j e a h o hs => by
    rcases set_get h with ⟨rfl, rfl⟩ | ⟨ne, h⟩
    · cases o
    · rw [List.getElem?_set_ne ne] at hs
      exact E.own j e a h o hs
  sep := fun j k e e' a h o h' o' hs hs' => by
    rcases set_get h with ⟨rfl, rfl⟩ | ⟨ne, h⟩
    · cases o
    · rcases set_get h' with ⟨rfl, rfl⟩ | ⟨ne', h'⟩
      · cases o'
      · rw [List.getElem?_set_ne ne] at hs
        rw [List.getElem?_set_ne ne'] at hs'
        exact E.sep j k e e' a h o h' o' hs hs'
/-- an environment that says less -/
def Wk : List En → List En → Prop
  | [], [] => True
  | e :: r, e' :: r' => (e' = .un ∨ e' = e) ∧ Wk r r'
  | _, _ => False
theorem Wk.at : ∀ {env env' : List En}, Wk env env' → ∀ {i : Nat} {e : En}, env'[i]? = some e → e = .un ∨ env[i]? = some e
  | [], [], _, i, e, h => by simp at h
  | _ :: _, _ :: _, w, 0, e, h => by
    have := Option.some.inj h
    subst this
    rcases w.1 with z | z
    · exact .inl z
    · exact .inr (by rw [z]; rfl)
  | _ :: _, _ :: _, w, i + 1, e, h => Wk.at w.2 (i := i) h
theorem Wk.len : ∀ {env env' : List En}, Wk env env' → env.length = env'.length
  | [], [], _ => rfl
  | _ :: _, _ :: _, w => congrArg Nat.succ (Wk.len w.2)
theorem EnvR.weak {env' : List En} (E : EnvR K G0 H0 G H σ env) (w : Wk env env') : EnvR K G0 H0 G H σ env' where
  grow := E.grow
  len := E.len.trans w.len
  at_ := fun i e h => by
    rcases w.at h with rfl | h'
    · exact True.intro
    · exact E.at_ i e h'
  own := fun i e a h o hs => by
    rcases w.at h with rfl | h'
    · cases o
    · exact E.own i e a h' o hs
  sep := fun i j e e' a h o h2 o2 hs hs2 => by
    rcases w.at h with rfl | h'
    · cases o
    · rcases w.at h2 with rfl | h2'
      · cases o2
      · exact E.sep i j e e' a h' o h2' o2 hs hs2
/-- the slot that holds an own object is set to a new one, laid at p -/
theorem EnvR.setOwn (E : EnvR K G0 H0 G H σ env) (i : Nat) {p : Addr} {o : HO} {e : En} (he : ∀ G H s, EnAt K G H s e → e.isOwn = true) (hp : H p = none) (ho : EnAt K G (upd H p o) (some (some (.ref p))) e) (hi : i < env.length) :
    EnvR K G0 H0 G (upd H p o) (σ.set i (some (.ref p))) (env.set i e) := by
  have own := he _ _ _ ho
  have hG : G p = none := none_sub E.sub hp
  have hH0 : H0 p = none := none_sub E.grow.h hp
  have g : Grow G H G (upd H p o) := ⟨same_new hp, Same.refl _, E.sub.trans (same_new hp), fun _ _ h => h⟩
  have E2 := E.more g
  have old : ∀ (j : Nat) (e' : En) (a : Addr), env[j]? = some e' → e'.isOwn = true → σ[j]? = some (some (V.ref a)) → a ≠ p := fun j e' a h o hs z => by
    have h3 := E.at_ j e' h
    rw [hs] at h3
    exact h3.there o (z ▸ hp)
  refine ⟨E2.grow, by rw [List.length_set, List.length_set]; exact E.len, fun j e' h => ?_, fun j e' a h o hs => ?_, fun j k e1 e2 a h o h' o' hs hs' => ?_⟩
  · rcases set_get h with ⟨rfl, rfl⟩ | ⟨ne, h⟩
    · rw [List.getElem?_set_self (by rw [E.len]; exact hi)]
      exact ho
    · rw [List.getElem?_set_ne ne]
      exact E2.at_ j e' h
  · rcases set_get h with ⟨rfl, rfl⟩ | ⟨ne, h⟩
    · rw [List.getElem?_set_self (by rw [E.len]; exact hi)] at hs
      cases hs
      exact ⟨hG, hH0⟩
    · rw [List.getElem?_set_ne ne] at hs
      exact E2.own j e' a h o hs
  · rcases set_get h with ⟨rfl, rfl⟩ | ⟨ne, _⟩
    · rw [List.getElem?_set_self (by rw [E.len]; exact hi)] at hs
      cases hs
      rcases set_get h' with ⟨rfl, rfl⟩ | ⟨ne', h'⟩
      · rfl
      · rw [List.getElem?_set_ne ne'] at hs'
        exact absurd rfl (old _ _ _ h' o' hs')
    · rename_i hq
      rw [List.getElem?_set_ne ne] at hs
      have q := old _ _ _ hq o hs
      rcases set_get h' with ⟨rfl, rfl⟩ | ⟨ne', h'⟩
      · rw [List.getElem?_set_self (by rw [E.len]; exact hi)] at hs'
        cases hs'
        exact absurd rfl q
      · rw [List.getElem?_set_ne ne'] at hs'
        exact E.sep j k e1 e2 a hq o h' o' hs hs'
/-- the own object of slot i is written -/
theorem EnvR.put (E : EnvR K G0 H0 G H σ env) {i : Nat} {p : Addr} {o : HO} {e e' : En} (he : env[i]? = some e) (ow : e.isOwn = true) (hs : σ[i]? = some (some (.ref p))) (ow' : e'.isOwn = true) (ho : EnAt K G (upd H p o) (some (some (.ref p))) e') :
    EnvR K G0 H0 G (upd H p o) σ (env.set i e') := by
  obtain ⟨hG, hH0⟩ := E.own i e p he ow hs
  have hi : i < env.length := (List.getElem?_eq_some_iff.mp he).1
  refine ⟨E.grow.put o hH0 hG, by rw [List.length_set]; exact E.len, fun j e1 h => ?_, fun j e1 a h o1 hs1 => ?_, fun j k e1 e2 a h o1 h' o2 hs1 hs2 => ?_⟩
  · rcases set_get h with ⟨rfl, rfl⟩ | ⟨ne, h⟩
    · rw [hs]
      exact ho
    · have h3 := E.at_ j e1 h
      have no : e1.isOwn = true → σ[j]? ≠ some (some (.ref p)) := fun o1 z => ne (E.sep i j e e1 p he ow h o1 hs z)
      cases e1 with
      | un => exact True.intro
      | dat d => exact h3
      | own ds => obtain ⟨a, vs, e1, h4, r⟩ := h3; exact ⟨a, vs, e1, by rw [upd_ne (show a ≠ p from fun z => no rfl (by rw [← z]; exact e1))]; exact h4, r⟩
      | oK ds => obtain ⟨a, vs, e1, h4, r⟩ := h3; exact ⟨a, vs, e1, by rw [upd_ne (show a ≠ p from fun z => no rfl (by rw [← z]; exact e1))]; exact h4, r⟩
      | ox ds => obtain ⟨a, vs, e1, h4, r⟩ := h3; exact ⟨a, vs, e1, by rw [upd_ne (show a ≠ p from fun z => no rfl (by rw [← z]; exact e1))]; exact h4, r⟩
  · rcases set_get h with ⟨rfl, rfl⟩ | ⟨ne, h⟩
    · rw [hs] at hs1
      cases hs1
      exact ⟨hG, hH0⟩
    · exact E.own j e1 a h o1 hs1
  · rcases set_get h with ⟨rfl, rfl⟩ | ⟨ne, _⟩
    · rcases set_get h' with ⟨rfl, rfl⟩ | ⟨ne', h'⟩
      · rfl
      · exact E.sep i k e e2 a he ow h' o2 hs1 hs2
    · rename_i hq
      have q := fun z => E.sep j i e1 e a hq o1 he ow hs1 z
      rcases set_get h' with ⟨rfl, rfl⟩ | ⟨ne', h'⟩
      · exact q hs2
      · exact E.sep j k e1 e2 a hq o1 h' o2 hs1 hs2
/-- an own list becomes known data -/
theorem EnvR.freezeL (E : EnvR K G0 H0 G H σ env) {i : Nat} {ds : List PyData} (he : env[i]? = some (.own ds)) : ∃ G', Grow G0 H0 G' H ∧ EnvR K G0 H0 G' H σ (env.set i (.dat (.list ds))) ∧ Same G G' := by
  obtain ⟨a, vs, hs, ha, hl, r⟩ := E.at_ i _ he
  obtain ⟨hG, hH0⟩ := E.own i _ a he rfl hs
  have hi : i < env.length := (List.getElem?_eq_some_iff.mp he).1
  have g := E.grow.freeze (o := .lst vs) hH0 hG ha
  have sg : Same G (upd G a (.lst vs)) := same_new hG
  refine ⟨upd G a (.lst vs), g, ⟨g, by rw [List.length_set]; exact E.len, fun j e1 h => ?_, fun j e1 b h o1 hs1 => ?_, fun j k e1 e2 b h o1 h' o2 hs1 hs2 => ?_⟩, sg⟩
  · rcases set_get h with ⟨rfl, rfl⟩ | ⟨ne, h⟩
    · exact ⟨.ref a, hs, .lst (SqL.of upd_same) hl (r.mono sg)⟩
    · have h3 := E.at_ j e1 h
      cases e1 with
      | un => exact True.intro
      | dat d => obtain ⟨v, e, r⟩ := h3; exact ⟨v, e, r.mono sg⟩
      | own ds => obtain ⟨a, vs, e1, h4, l, r⟩ := h3; exact ⟨a, vs, e1, h4, l, r.mono sg⟩
      | oK ds => obtain ⟨a, vs, e1, h4, l, r⟩ := h3; exact ⟨a, vs, e1, h4, l, r.mono sg⟩
      | ox ds => obtain ⟨a, o, e1, h4, p, m⟩ := h3; exact ⟨a, o, e1, h4, m _ _ _ sg p, m⟩
  · rcases set_get h with ⟨rfl, rfl⟩ | ⟨ne, h⟩
    · cases o1
    · obtain ⟨h1, h2⟩ := E.own j e1 b h o1 hs1
      refine ⟨?_, h2⟩
      rw [upd_ne (show b ≠ a from fun z => ne (E.sep i j _ e1 a he rfl h o1 hs (by rw [← z]; exact hs1)))]
      exact h1
  · rcases set_get h with ⟨rfl, rfl⟩ | ⟨ne, h⟩
    · cases o1
    · rcases set_get h' with ⟨rfl, rfl⟩ | ⟨ne', h'⟩
      · cases o2
      · exact E.sep j k e1 e2 b h o1 h' o2 hs1 hs2
end
end DL

set_option Elab.async false
set_option linter.all false
set_option maxRecDepth 100000
set_option maxHeartbeats 1000000
/-! DL2: what an expression is worth by data: the judgements, one rule a construct. -/
namespace DL
open PySem PySem.Spec PyProof.Rows L2

/-! ### quick answers about ints -/
def ieq : Int → Int → Bool
  | .ofNat a, .ofNat b => Nat.beq a b
  | .negSucc a, .negSucc b => Nat.beq a b
  | .ofNat _, .negSucc _ => false
  | .negSucc _, .ofNat _ => false
theorem ieq_iff : ∀ (i j : Int), ieq i j = true ↔ i = j
  | .ofNat a, .ofNat b => by
    simp only [ieq, Nat.beq_eq]
    show _ ↔ (a : Int) = (b : Int)
    omega
  | .negSucc a, .negSucc b => by simp [ieq]
  | .ofNat _, .negSucc _ => by simp [ieq]
  | .negSucc _, .ofNat _ => by simp [ieq]
theorem ieq_eq (i j : Int) : ieq i j = decide (i = j) := by
  rw [Bool.eq_iff_iff, ieq_iff]
  simp
def ilt : Int → Int → Bool
  | .ofNat a, .ofNat b => Nat.blt a b
  | .negSucc a, .negSucc b => Nat.blt b a
  | .ofNat _, .negSucc _ => false
  | .negSucc _, .ofNat _ => true
theorem ilt_iff : ∀ (i j : Int), ilt i j = true ↔ i < j
  | .ofNat a, .ofNat b => by
    simp only [ilt, Nat.blt_eq]
    show _ ↔ (a : Int) < (b : Int)
    omega
  | .negSucc a, .negSucc b => by
    simp only [ilt, Nat.blt_eq]
    omega
  | .ofNat a, .negSucc b => by
    simp only [ilt]
    show _ ↔ (a : Int) < Int.negSucc b
    constructor
    · intro h; cases h
    · intro h; omega
  | .negSucc a, .ofNat b => by
    simp only [ilt]
    show _ ↔ Int.negSucc a < (b : Int)
    constructor
    · intro _; omega
    · intro _; trivial
theorem ilt_eq (i j : Int) : ilt i j = decide (i < j) := by
  rw [Bool.eq_iff_iff, ilt_iff]
  simp
def ile (i j : Int) : Bool := !ilt j i
theorem ile_eq (i j : Int) : ile i j = decide (i ≤ j) := by
  unfold ile
  rw [ilt_eq, Bool.eq_iff_iff]
  simp

/-! ### the judgements -/
section
variable (K : PySem.W.Frag)
def DE (te : TE) (env : List En) (o : Option PyData) : Prop :=
  ∀ (G0 H0 G H : Hp) (σ : L2.St), EnvR K G0 H0 G H σ env → ∀ d, o = some d → ∀ Q : VK, (∀ v G' H', Grow G H G' H' → Rp K G' v d → Q v H') → te σ H Q
def DT (tt : TT) (env : List En) (o : Option Bool) : Prop :=
  ∀ (G0 H0 G H : Hp) (σ : L2.St), EnvR K G0 H0 G H σ env → ∀ b, o = some b → ∀ Q : Bool → Hp → Prop, (∀ G' H', Grow G H G' H' → Q b H') → tt σ H Q
def DA (ta : TA) (env : List En) (o : Option (List PyData)) : Prop :=
  ∀ (G0 H0 G H : Hp) (σ : L2.St), EnvR K G0 H0 G H σ env → ∀ ds, o = some ds → ∀ Q : List V → Hp → Prop, (∀ vs G' H', Grow G H G' H' → RpA K G' vs ds → Q vs H') → ta σ H Q
/-- an operation on two values; a call on values -/
def V2 (r : R2) (f : PyData → PyData → Option PyData) : Prop :=
  ∀ (G H : Hp) (x y : V) (dx dy d : PyData), Same G H → Rp K G x dx → Rp K G y dy → f dx dy = some d → ∀ Q : VK, (∀ v G' H', Grow G H G' H' → Rp K G' v d → Q v H') → r x y H Q
def VU (r : V → Hp → VK → Prop) (f : PyData → Option PyData) : Prop :=
  ∀ (G H : Hp) (x : V) (dx d : PyData), Same G H → Rp K G x dx → f dx = some d → ∀ Q : VK, (∀ v G' H', Grow G H G' H' → Rp K G' v d → Q v H') → r x H Q
def VC (r : List V → Hp → VK → Prop) (f : List PyData → Option PyData) : Prop :=
  ∀ (G H : Hp) (xs : List V) (ds : List PyData) (d : PyData), Same G H → RpA K G xs ds → f ds = some d → ∀ Q : VK, (∀ v G' H', Grow G H G' H' → Rp K G' v d → Q v H') → r xs H Q
end

section
variable {K : PySem.W.Frag} {env : List En} {ta tb tc te : TE} {oa ob oc : Option PyData} {t u : TT} {pa pb : Option Bool} {xs : TA} {os : Option (List PyData)}
theorem bnd {α β : Type} {o : Option α} {f : α → Option β} {b : β} (h : o.bind f = some b) : ∃ a, o = some a ∧ f a = some b := Option.bind_eq_some_iff.mp h

theorem de_var {i : Nat} {d : PyData} (h : env[i]? = some (.dat d)) : DE K (tVar i) env (some d) := fun G0 H0 G H σ E d' e Q q => by
  cases e
  obtain ⟨v, hs, r⟩ := E.at_ i _ h
  exact ⟨v, hs, q v G H (Grow.rfl' E.sub) r⟩
theorem de_int {i : Int} : DE K (tC (.int i)) env (some (.int i)) := fun G0 H0 G H σ E d' e Q q => by
  cases e
  exact q _ G H (Grow.rfl' E.sub) (.int i)
theorem de_bl {b : Bool} : DE K (tC (.bl b)) env (some (.bool b)) := fun G0 H0 G H σ E d' e Q q => by
  cases e
  exact q _ G H (Grow.rfl' E.sub) (.bl b)
theorem de_op {r : R2} {f : PyData → PyData → Option PyData} (hr : V2 K r f) (ha : DE K ta env oa) (hb : DE K tb env ob) : DE K (tOp r ta tb) env (oa.bind fun x => ob.bind fun y => f x y) := fun G0 H0 G H σ E d e Q q => by
  obtain ⟨x, hx, e⟩ := bnd e
  obtain ⟨y, hy, e⟩ := bnd e
  refine ha _ _ _ _ _ E x hx _ fun v G1 H1 g1 r1 => ?_
  refine hb _ _ _ _ _ (E.more g1) y hy _ fun w G2 H2 g2 r2 => ?_
  exact hr G2 H2 v w x y d g2.sub (r1.mono g2.g) r2 e Q fun z G3 H3 g3 r3 => q z G3 H3 ((g1.trans g2).trans g3) r3
theorem de_un {r : V → Hp → VK → Prop} {f : PyData → Option PyData} (hr : VU K r f) (ha : DE K ta env oa) : DE K (tUn r ta) env (oa.bind f) := fun G0 H0 G H σ E d e Q q => by
  obtain ⟨x, hx, e⟩ := bnd e
  refine ha _ _ _ _ _ E x hx _ fun v G1 H1 g1 r1 => ?_
  exact hr G1 H1 v x d g1.sub r1 e Q fun z G3 H3 g3 r3 => q z G3 H3 (g1.trans g3) r3
/-! arguments -/
theorem da_nil : DA K tNil env (some []) := fun G0 H0 G H σ E d e Q q => by
  cases e
  exact q [] G H (Grow.rfl' E.sub) .nil
theorem da_cons (ha : DE K ta env oa) (hr : DA K xs env os) : DA K (tCons ta xs) env (oa.bind fun x => os.bind fun r => some (x :: r)) := fun G0 H0 G H σ E d e Q q => by
  obtain ⟨x, hx, e⟩ := bnd e
  obtain ⟨y, hy, e⟩ := bnd e
  cases e
  refine ha _ _ _ _ _ E x hx _ fun v G1 H1 g1 r1 => ?_
  exact hr _ _ _ _ _ (E.more g1) y hy _ fun ws G2 H2 g2 r2 => q (v :: ws) G2 H2 (g1.trans g2) (.cons (r1.mono g2.g) r2)
def itemsO : PyData → Option (List PyData)
  | .list ds => some ds
  | .tuple ds => some ds
  | _ => none
theorem items_rp {G : Hp} {v : V} {d : PyData} {ds : List PyData} (r : Rp K G v d) (e : itemsO d = some ds) : ∃ a vs, v = .ref a ∧ (SqL K G a vs ∨ SqT K G a vs) ∧ vs.length ≤ big ∧ RpA K G vs ds := by
  cases r with
  | lst h l r => cases e; exact ⟨_, _, rfl, .inl h, l, r⟩
  | tup h l r => cases e; exact ⟨_, _, rfl, .inr h, l, r⟩
  | non => cases e
  | bl _ => cases e
  | int _ => cases e
  | dk _ _ _ => cases e
  | dn _ _ _ _ _ _ _ => cases e
theorem da_star (ha : DE K ta env oa) (hr : DA K xs env os) : DA K (StX.tStar K ta xs) env (oa.bind fun x => (itemsO x).bind fun l => os.bind fun r => some (l ++ r)) := fun G0 H0 G H σ E d e Q q => by
  obtain ⟨x, hx, e⟩ := bnd e
  obtain ⟨l, hl, e⟩ := bnd e
  obtain ⟨y, hy, e⟩ := bnd e
  cases e
  refine ha _ _ _ _ _ E x hx _ fun v G1 H1 g1 r1 => ?_
  obtain ⟨a, vs, rfl, hs, hb, r⟩ := items_rp r1 hl
  refine ⟨a, vs, rfl, hs.elim (fun h => .inr (sameL g1.sub h)) (fun h => .inl (sameT g1.sub h)), ?_⟩
  exact hr _ _ _ _ _ (E.more g1) y hy _ fun ws G2 H2 g2 r2 => q (vs ++ ws) G2 H2 (g1.trans g2) ((r.mono g2.g).app r2)
/-! displays -/
def smallO (ds : List PyData) : Bool := Nat.ble ds.length 100000
theorem small_of {ds : List PyData} (h : smallO ds = true) : ds.length ≤ big := Nat.le_of_ble_eq_true h
theorem de_tup (h : DA K xs env os) : DE K (tTup xs) env (os.bind fun ds => bif smallO ds then some (.tuple ds) else none) := fun G0 H0 G H σ E d e Q q => by
  obtain ⟨ds, hd, e⟩ := bnd e
  cases hz : smallO ds with
  | false => rw [hz] at e; cases e
  | true =>
    rw [hz] at e
    cases e
    refine h _ _ _ _ _ E ds hd _ fun vs G1 H1 g1 r1 => ?_
    have hl : vs.length ≤ big := by rw [r1.len]; exact small_of hz
    refine ⟨big_line hl, fun p hp => ?_⟩
    have g := Grow.lay (.tup vs) g1.sub hp
    exact q _ _ _ (g1.trans g) (.tup (SqT.of upd_same) hl (r1.mono g.g))
theorem de_lst (h : DA K xs env os) : DE K (tLst xs) env (os.bind fun ds => bif smallO ds then some (.list ds) else none) := fun G0 H0 G H σ E d e Q q => by
  obtain ⟨ds, hd, e⟩ := bnd e
  cases hz : smallO ds with
  | false => rw [hz] at e; cases e
  | true =>
    rw [hz] at e
    cases e
    refine h _ _ _ _ _ E ds hd _ fun vs G1 H1 g1 r1 => ?_
    have hl : vs.length ≤ big := by rw [r1.len]; exact small_of hz
    refine ⟨big_line hl, fun p hp => ?_⟩
    have g := Grow.lay (.lst vs) g1.sub hp
    exact q _ _ _ (g1.trans g) (.lst (SqL.of upd_same) hl (r1.mono g.g))
/-! tests -/
def bO : PyData → Option Bool
  | .bool b => some b
  | _ => none
theorem bO_rp {G : Hp} {v : V} {d : PyData} {b : Bool} (r : Rp K G v d) (e : bO d = some b) : v = .bl b := by
  cases r with
  | bl c => cases e; rfl
  | _ => cases e
theorem dt_B (h : DE K ta env oa) : DT K (tB ta) env (oa.bind bO) := fun G0 H0 G H σ E b e Q q => by
  obtain ⟨x, hx, e⟩ := bnd e
  exact h _ _ _ _ _ E x hx _ fun v G1 H1 g1 r1 => ⟨b, bO_rp r1 e, q G1 H1 g1⟩
theorem dt_test (h : DE K ta env oa) : DT K (tTest ta) env (oa.bind bO) := fun G0 H0 G H σ E b e Q q => by
  obtain ⟨x, hx, e⟩ := bnd e
  exact h _ _ _ _ _ E x hx _ fun v G1 H1 g1 r1 => ⟨b, bO_rp r1 e, q G1 H1 g1⟩
theorem dt_not (h : DT K t env pa) : DT K (tNot t) env (pa.bind fun b => some (!b)) := fun G0 H0 G H σ E b e Q q => by
  obtain ⟨x, hx, e⟩ := bnd e
  cases e
  exact h _ _ _ _ _ E x hx _ fun G1 H1 g1 => q G1 H1 g1
theorem dt_and (h1 : DT K t env pa) (h2 : DT K u env pb) : DT K (tAnd t u) env (pa.bind fun a => bif a then pb else some false) := fun G0 H0 G H σ E b e Q q => by
  obtain ⟨x, hx, e⟩ := bnd e
  refine h1 _ _ _ _ _ E x hx _ fun G1 H1 g1 => ?_
  cases x with
  | true =>
    show u σ H1 Q
    exact h2 _ _ _ _ _ (E.more g1) b e _ fun G2 H2 g2 => q G2 H2 (g1.trans g2)
  | false =>
    cases e
    show Q false H1
    exact q G1 H1 g1
theorem dt_or (h1 : DT K t env pa) (h2 : DT K u env pb) : DT K (tOr t u) env (pa.bind fun a => bif a then some true else pb) := fun G0 H0 G H σ E b e Q q => by
  obtain ⟨x, hx, e⟩ := bnd e
  refine h1 _ _ _ _ _ E x hx _ fun G1 H1 g1 => ?_
  cases x with
  | true =>
    cases e
    show Q true H1
    exact q G1 H1 g1
  | false =>
    show u σ H1 Q
    exact h2 _ _ _ _ _ (E.more g1) b e _ fun G2 H2 g2 => q G2 H2 (g1.trans g2)
theorem dt_yes : DT K tYes env (some true) := fun G0 H0 G H σ E b e Q q => by
  cases e
  exact q G H (Grow.rfl' E.sub)
theorem de_if (h : DT K t env pa) (ha : DE K ta env oa) (hb : DE K tb env ob) : DE K (tIf t ta tb) env (pa.bind fun b => bif b then oa else ob) := fun G0 H0 G H σ E d e Q q => by
  obtain ⟨x, hx, e⟩ := bnd e
  refine h _ _ _ _ _ E x hx _ fun G1 H1 g1 => ?_
  cases x with
  | true =>
    show ta σ H1 Q
    exact ha _ _ _ _ _ (E.more g1) d e _ fun v G2 H2 g2 r2 => q v G2 H2 (g1.trans g2) r2
  | false =>
    show tb σ H1 Q
    exact hb _ _ _ _ _ (E.more g1) d e _ fun v G2 H2 g2 r2 => q v G2 H2 (g1.trans g2) r2
theorem de_andV (ha : DE K ta env oa) (hb : DE K tb env ob) : DE K (tAndV ta tb) env (oa.bind fun x => (bO x).bind fun b => bif b then ob else some (.bool false)) := fun G0 H0 G H σ E d e Q q => by
  obtain ⟨x, hx, e⟩ := bnd e
  obtain ⟨b, hb', e⟩ := bnd e
  refine ha _ _ _ _ _ E x hx _ fun v G1 H1 g1 r1 => ⟨b, bO_rp r1 hb', ?_⟩
  cases b with
  | true =>
    show tb σ H1 Q
    exact hb _ _ _ _ _ (E.more g1) d e _ fun v G2 H2 g2 r2 => q v G2 H2 (g1.trans g2) r2
  | false =>
    cases e
    exact q _ G1 H1 g1 (.bl false)
theorem de_orV (ha : DE K ta env oa) (hb : DE K tb env ob) : DE K (tOrV ta tb) env (oa.bind fun x => (bO x).bind fun b => bif b then some (.bool true) else ob) := fun G0 H0 G H σ E d e Q q => by
  obtain ⟨x, hx, e⟩ := bnd e
  obtain ⟨b, hb', e⟩ := bnd e
  refine ha _ _ _ _ _ E x hx _ fun v G1 H1 g1 r1 => ⟨b, bO_rp r1 hb', ?_⟩
  cases b with
  | true =>
    cases e
    exact q _ G1 H1 g1 (.bl true)
  | false =>
    show tb σ H1 Q
    exact hb _ _ _ _ _ (E.more g1) d e _ fun v G2 H2 g2 r2 => q v G2 H2 (g1.trans g2) r2
theorem de_notV (ha : DE K ta env oa) : DE K (tNotV ta) env (oa.bind fun x => (bO x).bind fun b => some (.bool (!b))) := fun G0 H0 G H σ E d e Q q => by
  obtain ⟨x, hx, e⟩ := bnd e
  obtain ⟨b, hb', e⟩ := bnd e
  cases e
  refine ha _ _ _ _ _ E x hx _ fun v G1 H1 g1 r1 => ⟨b, bO_rp r1 hb', ?_⟩
  exact q _ G1 H1 g1 (.bl _)
/-! calls of built-ins -/
theorem de_cb {r : List V → Hp → VK → Prop} {f : List PyData → Option PyData} (hr : VC K r f) (h : DA K xs env os) : DE K (tCB r xs) env (os.bind f) := fun G0 H0 G H σ E d e Q q => by
  obtain ⟨ds, hd, e⟩ := bnd e
  refine h _ _ _ _ _ E ds hd _ fun vs G1 H1 g1 r1 => ?_
  exact hr G1 H1 vs ds d g1.sub r1 e Q fun z G3 H3 g3 r3 => q z G3 H3 (g1.trans g3) r3
/-- one argument -/
def one (f : PyData → Option PyData) : List PyData → Option PyData
  | [x] => f x
  | _ => none
def VC1 (K : PySem.W.Frag) (r : List V → Hp → VK → Prop) (f : PyData → Option PyData) : Prop :=
  ∀ (G H : Hp) (x : V) (dx d : PyData), Same G H → Rp K G x dx → f dx = some d → ∀ Q : VK, (∀ v G' H', Grow G H G' H' → Rp K G' v d → Q v H') → r [x] H Q
theorem de_cb1 {r : List V → Hp → VK → Prop} {f : PyData → Option PyData} (hr : VC1 K r f) (h : DE K ta env oa) : DE K (tCB r (tCons ta tNil)) env (oa.bind f) := fun G0 H0 G H σ E d e Q q => by
  obtain ⟨x, hx, e⟩ := bnd e
  refine h _ _ _ _ _ E x hx _ fun v G1 H1 g1 r1 => ?_
  exact hr G1 H1 v x d g1.sub r1 e Q fun z G3 H3 g3 r3 => q z G3 H3 (g1.trans g3) r3

/-! ### a def by data -/
/-- the promise of a def that only makes new things: its value f of its arguments' data -/
def spD (K : PySem.W.Frag) (n : Nat) (f : List PyData → Option PyData) : Sp := fun vs H Q _ => vs.length = n ∧ ∃ G ds d, Same G H ∧ RpA K G vs ds ∧ f ds = some d ∧ ∀ v G' H', Grow G H G' H' → Rp K G' v d → Q v H'
theorem de_call {n : Nat} {f : List PyData → Option PyData} (h : DA K xs env os) (hn : ∀ ds, os = some ds → ds.length = n) : DE K (tCall (spD K n f) [] E0 xs) env (os.bind f) := fun G0 H0 G H σ E d e Q q => by
  obtain ⟨ds, hd, e⟩ := bnd e
  refine h _ _ _ _ _ E ds hd _ fun vs G1 H1 g1 r1 => ?_
  refine ⟨by rw [List.append_nil, r1.len, hn ds hd], G1, ds, d, g1.sub, by rw [List.append_nil]; exact r1, e, fun v G2 H2 g2 r2 => q v G2 H2 (g1.trans g2) r2⟩
def f1 (f : PyData → Option PyData) : List PyData → Option PyData
  | [x] => f x
  | _ => none
def f2 (f : PyData → PyData → Option PyData) : List PyData → Option PyData
  | [x, y] => f x y
  | _ => none
def f3 (f : PyData → PyData → PyData → Option PyData) : List PyData → Option PyData
  | [x, y, z] => f x y z
  | _ => none
theorem de_call1 {f : PyData → Option PyData} (ha : DE K ta env oa) : DE K (tCall (spD K 1 (f1 f)) [] E0 (tCons ta tNil)) env (oa.bind f) := fun G0 H0 G H σ E d e Q q => by
  obtain ⟨x, hx, e⟩ := bnd e
  refine ha _ _ _ _ _ E x hx _ fun v G1 H1 g1 r1 => ?_
  exact ⟨rfl, G1, [x], d, g1.sub, .cons r1 .nil, e, fun v G2 H2 g2 r2 => q v G2 H2 (g1.trans g2) r2⟩
theorem de_call2 {f : PyData → PyData → Option PyData} (ha : DE K ta env oa) (hb : DE K tb env ob) : DE K (tCall (spD K 2 (f2 f)) [] E0 (tCons ta (tCons tb tNil))) env (oa.bind fun x => ob.bind fun y => f x y) := fun G0 H0 G H σ E d e Q q => by
  obtain ⟨x, hx, e⟩ := bnd e
  obtain ⟨y, hy, e⟩ := bnd e
  refine ha _ _ _ _ _ E x hx _ fun v G1 H1 g1 r1 => ?_
  refine hb _ _ _ _ _ (E.more g1) y hy _ fun w G2 H2 g2 r2 => ?_
  exact ⟨rfl, G2, [x, y], d, g2.sub, .cons (r1.mono g2.g) (.cons r2 .nil), e, fun v G3 H3 g3 r3 => q v G3 H3 ((g1.trans g2).trans g3) r3⟩
theorem de_call3 {f : PyData → PyData → PyData → Option PyData} (ha : DE K ta env oa) (hb : DE K tb env ob) (hc : DE K tc env oc) :
    DE K (tCall (spD K 3 (f3 f)) [] E0 (tCons ta (tCons tb (tCons tc tNil)))) env (oa.bind fun x => ob.bind fun y => oc.bind fun z => f x y z) := fun G0 H0 G H σ E d e Q q => by
  obtain ⟨x, hx, e⟩ := bnd e
  obtain ⟨y, hy, e⟩ := bnd e
  obtain ⟨z, hz, e⟩ := bnd e
  refine ha _ _ _ _ _ E x hx _ fun v G1 H1 g1 r1 => ?_
  refine hb _ _ _ _ _ (E.more g1) y hy _ fun w G2 H2 g2 r2 => ?_
  refine hc _ _ _ _ _ ((E.more g1).more g2) z hz _ fun w3 G3 H3 g3 r3 => ?_
  exact ⟨rfl, G3, [x, y, z], d, g3.sub, .cons ((r1.mono g2.g).mono g3.g) (.cons (r2.mono g3.g) (.cons r3 .nil)), e, fun v G4 H4 g4 r4 => q v G4 H4 (((g1.trans g2).trans g3).trans g4) r4⟩

/-! ### ints -/
def addI : PyData → PyData → Option PyData
  | .int i, .int j => some (.int (i + j))
  | _, _ => none
def subI : PyData → PyData → Option PyData
  | .int i, .int j => some (.int (i - j))
  | _, _ => none
def smallI (i : Int) : Bool := ilt (-18446744073709551616) i && ilt i 18446744073709551616
def mulI : PyData → PyData → Option PyData
  | .int i, .int j => bif smallI i then some (.int (i * j)) else none
  | _, _ => none
def modI : PyData → PyData → Option PyData
  | .int i, .int j => bif ilt 0 j then some (.int (i % j)) else none
  | _, _ => none
def divI : PyData → PyData → Option PyData
  | .int i, .int j => bif ilt 0 j && ilt j 1073741824 then some (.int (i / j)) else none
  | _, _ => none
def negI : PyData → Option PyData
  | .int i => some (.int (-i))
  | _ => none
theorem int_rp {G : Hp} {v : V} {i : Int} (r : Rp K G v (.int i)) : v = .int i := by cases r; rfl
/-- two ints in -/
theorem ii {G : Hp} {x y : V} {dx dy d : PyData} {f : PyData → PyData → Option PyData} (hf : ∀ a b, (∀ i j, ¬ (a = .int i ∧ b = .int j)) → f a b = none) (rx : Rp K G x dx) (ry : Rp K G y dy) (e : f dx dy = some d) :
    ∃ i j, x = .int i ∧ y = .int j ∧ f (.int i) (.int j) = some d := by
  by_cases h : ∃ i j, dx = .int i ∧ dy = .int j
  · obtain ⟨i, j, rfl, rfl⟩ := h
    exact ⟨i, j, int_rp rx, int_rp ry, e⟩
  · rw [hf dx dy fun i j z => h ⟨i, j, z⟩] at e
    cases e
theorem non_ii {f : Int → Int → Option PyData} {g : PyData → PyData → Option PyData} (hg : ∀ a b, g a b = match a, b with | .int i, .int j => f i j | _, _ => none) : ∀ a b, (∀ i j, ¬ (a = .int i ∧ b = .int j)) → g a b = none := fun a b h => by
  rw [hg]
  cases a <;> first
    | rfl
    | (cases b <;> first
        | rfl
        | exact absurd ⟨rfl, rfl⟩ (h _ _))
theorem v2_I0 {g : Int → Int → V} {h : Int → Int → PyData} {f : PyData → PyData → Option PyData} (hf : ∀ a b, f a b = match a, b with | .int i, .int j => some (h i j) | _, _ => none) (hr : ∀ (G : Hp) i j, Rp K G (g i j) (h i j)) : V2 K (rI0 g) f := fun G H x y dx dy d s rx ry e Q q => by
  obtain ⟨i, j, rfl, rfl, e⟩ := ii (non_ii (f := fun i j => some (h i j)) hf) rx ry e
  rw [hf] at e
  cases e
  exact ⟨i, j, rfl, rfl, q _ G H (Grow.rfl' s) (hr G i j)⟩
theorem v2_add : V2 K (rI0 fun i j => .int (i + j)) addI := v2_I0 (h := fun i j => .int (i + j)) (fun a b => by cases a <;> first | rfl | (cases b <;> rfl)) fun _ _ _ => .int _
theorem v2_sub : V2 K (rI0 fun i j => .int (i - j)) subI := v2_I0 (h := fun i j => .int (i - j)) (fun a b => by cases a <;> first | rfl | (cases b <;> rfl)) fun _ _ _ => .int _
def ltI : PyData → PyData → Option PyData
  | .int i, .int j => some (.bool (ilt i j))
  | _, _ => none
def leI : PyData → PyData → Option PyData
  | .int i, .int j => some (.bool (ile i j))
  | _, _ => none
def gtI : PyData → PyData → Option PyData
  | .int i, .int j => some (.bool (ilt j i))
  | _, _ => none
def eqI : PyData → PyData → Option PyData
  | .int i, .int j => some (.bool (ieq i j))
  | _, _ => none
def neI : PyData → PyData → Option PyData
  | .int i, .int j => some (.bool (!ieq i j))
  | _, _ => none
theorem v2_lt : V2 K (rI0 fun i j => .bl (decide (i < j))) ltI := v2_I0 (h := fun i j => .bool (ilt i j)) (fun a b => by cases a <;> first | rfl | (cases b <;> rfl)) fun _ i j => by rw [ilt_eq]; exact .bl _
theorem v2_le : V2 K (rI0 fun i j => .bl (decide (i ≤ j))) leI := v2_I0 (h := fun i j => .bool (ile i j)) (fun a b => by cases a <;> first | rfl | (cases b <;> rfl)) fun _ i j => by rw [ile_eq]; exact .bl _
theorem v2_gt : V2 K (rI0 fun i j => .bl (decide (j < i))) gtI := v2_I0 (h := fun i j => .bool (ilt j i)) (fun a b => by cases a <;> first | rfl | (cases b <;> rfl)) fun _ i j => by rw [ilt_eq]; exact .bl _
theorem v2_eqI : V2 K rEq eqI := fun G H x y dx dy d s rx ry e Q q => by
  obtain ⟨i, j, rfl, rfl, e⟩ := ii (non_ii (f := fun i j => some (.bool (ieq i j))) fun a b => by cases a <;> first | rfl | (cases b <;> rfl)) rx ry e
  cases e
  refine ⟨rfl, q _ G H (Grow.rfl' s) ?_⟩
  have e1 : decide (V.int i = V.int j) = ieq i j := by rw [ieq_eq]; simp
  rw [e1]
  exact .bl _
theorem v2_neI : V2 K rNe neI := fun G H x y dx dy d s rx ry e Q q => by
  obtain ⟨i, j, rfl, rfl, e⟩ := ii (non_ii (f := fun i j => some (.bool (!ieq i j))) fun a b => by cases a <;> first | rfl | (cases b <;> rfl)) rx ry e
  cases e
  refine ⟨rfl, q _ G H (Grow.rfl' s) ?_⟩
  have e1 : decide (V.int i = V.int j) = ieq i j := by rw [ieq_eq]; simp
  rw [e1]
  exact .bl _
theorem v2_mul : V2 K (rI CMul fun i j => .int (i * j)) mulI := fun G H x y dx dy d s rx ry e Q q => by
  obtain ⟨i, j, rfl, rfl, e⟩ := ii (non_ii (f := fun i j => bif smallI i then some (.int (i * j)) else none) fun a b => by cases a <;> first | rfl | (cases b <;> rfl)) rx ry e
  have e2 : (bif smallI i then some (PyData.int (i * j)) else none) = some d := e
  cases hs : smallI i with
  | false => rw [hs] at e2; cases e2
  | true =>
    rw [hs] at e2
    cases e2
    unfold smallI at hs
    rw [Bool.and_eq_true, ilt_iff, ilt_iff] at hs
    exact ⟨i, j, rfl, rfl, .inl ⟨by omega, by omega⟩, q _ G H (Grow.rfl' s) (.int _)⟩
theorem v2_mod : V2 K (rI (fun _ j => 0 < j) fun i j => .int (i % j)) modI := fun G H x y dx dy d s rx ry e Q q => by
  obtain ⟨i, j, rfl, rfl, e⟩ := ii (non_ii (f := fun i j => bif ilt 0 j then some (.int (i % j)) else none) fun a b => by cases a <;> first | rfl | (cases b <;> rfl)) rx ry e
  have e2 : (bif ilt 0 j then some (PyData.int (i % j)) else none) = some d := e
  cases hs : ilt 0 j with
  | false => rw [hs] at e2; cases e2
  | true =>
    rw [hs] at e2
    cases e2
    exact ⟨i, j, rfl, rfl, (ilt_iff _ _).mp hs, q _ G H (Grow.rfl' s) (.int _)⟩
theorem v2_div : V2 K (rI CDiv fun i j => .int (i / j)) divI := fun G H x y dx dy d s rx ry e Q q => by
  obtain ⟨i, j, rfl, rfl, e⟩ := ii (non_ii (f := fun i j => bif ilt 0 j && ilt j 1073741824 then some (.int (i / j)) else none) fun a b => by cases a <;> first | rfl | (cases b <;> rfl)) rx ry e
  have e2 : (bif ilt 0 j && ilt j 1073741824 then some (PyData.int (i / j)) else none) = some d := e
  cases hs : ilt 0 j && ilt j 1073741824 with
  | false => rw [hs] at e2; cases e2
  | true =>
    rw [hs] at e2
    cases e2
    rw [Bool.and_eq_true, ilt_iff, ilt_iff] at hs
    exact ⟨i, j, rfl, rfl, ⟨hs.1, hs.2⟩, q _ G H (Grow.rfl' s) (.int _)⟩
theorem vu_neg : VU K (rU fun i => .int (-i)) negI := fun G H x dx d s rx e Q q => by
  cases rx with
  | int i => cases e; exact ⟨i, rfl, q _ G H (Grow.rfl' s) (.int _)⟩
  | _ => cases e
end
end DL

set_option Elab.async false
set_option linter.all false
set_option maxRecDepth 100000
set_option maxHeartbeats 1000000
/-! DL3: built-ins on data: in, ==, sorted, min, len, list, tuple, any, all, sum; subscripts, slices. -/
namespace DL
open PySem PySem.Spec PyProof.Rows L2

section
variable {K : PySem.W.Frag} {env : List En} {ta tb tc te : TE} {oa ob oc : Option PyData} {t u : TT} {pa pb : Option Bool} {xs : TA} {os : Option (List PyData)}

/-! ### in, not in: ints in a list or a tuple of ints -/
noncomputable def memI (i : Int) (ds : List PyData) : Option Bool :=
  @List.rec PyData (fun _ => Option Bool) (some false) (fun d _ ih => match d with
    | .int j => ih.bind fun b => some (ieq j i || b)
    | _ => none) ds
theorem memI_of {i : Int} : ∀ {ds : List PyData} {b : Bool}, memI i ds = some b → ∃ ns : List Int, ds = ns.map .int ∧ b = ns.any fun j => ieq j i
  | [], b, e => by
    cases (show some false = some b from e)
    exact ⟨[], rfl, rfl⟩
  | d :: r, b, e => by
    cases d with
    | int j =>
      have e' : (memI i r).bind (fun b => some (ieq j i || b)) = some b := e
      obtain ⟨c, hc, e'⟩ := bnd e'
      obtain ⟨ns, rfl, rfl⟩ := memI_of hc
      cases e'
      exact ⟨j :: ns, rfl, rfl⟩
    | _ => cases (show none = some b from e)
theorem inV_ints (i : Int) : ∀ ns : List Int, inV (.int i) (ns.map V.int) = ns.any fun j => ieq j i
  | [] => rfl
  | n :: r => by
    have h := inV_ints i r
    unfold inV at h ⊢
    rw [List.map_cons, List.any_cons, List.any_cons, h]
    have e : eqV (V.int n) (V.int i) = ieq n i := by
      rw [ieq_eq]
      show (n == i) = _
      rw [Bool.eq_iff_iff]
      simp
    rw [e]
theorem flat_ints : ∀ ns : List Int, (ns.map V.int).all flatV = true
  | [] => rfl
  | n :: r => by
    rw [List.map_cons, List.all_cons, flat_ints r]
    rfl
noncomputable def inI : PyData → PyData → Option PyData
  | .int i, d => (itemsO d).bind fun ds => (memI i ds).bind fun b => some (.bool b)
  | _, _ => none
noncomputable def niI : PyData → PyData → Option PyData
  | .int i, d => (itemsO d).bind fun ds => (memI i ds).bind fun b => some (.bool (!b))
  | _, _ => none
theorem v2_in : V2 K (rIn K false) inI := fun G H x y dx dy d s rx ry e Q q => by
  cases rx with
  | int i =>
    obtain ⟨ds, hd, e⟩ := bnd (show (itemsO dy).bind _ = some d from e)
    obtain ⟨b, hb, e⟩ := bnd e
    cases e
    obtain ⟨a, vs, rfl, hs, hl, r⟩ := items_rp ry hd
    obtain ⟨ns, rfl, rfl⟩ := memI_of hb
    have ev := r.of_ints
    subst ev
    refine ⟨a, _, rfl, hs.elim (fun h => .inl (sameL s h)) (fun h => .inr (sameT s h)), rfl, flat_ints ns, ?_⟩
    show Q (.bl (inV (.int i) (ns.map V.int))) H
    rw [inV_ints]
    exact q _ G H (Grow.rfl' s) (.bl _)
  | _ => cases e
theorem v2_ni : V2 K (rIn K true) niI := fun G H x y dx dy d s rx ry e Q q => by
  cases rx with
  | int i =>
    obtain ⟨ds, hd, e⟩ := bnd (show (itemsO dy).bind _ = some d from e)
    obtain ⟨b, hb, e⟩ := bnd e
    cases e
    obtain ⟨a, vs, rfl, hs, hl, r⟩ := items_rp ry hd
    obtain ⟨ns, rfl, rfl⟩ := memI_of hb
    have ev := r.of_ints
    subst ev
    refine ⟨a, _, rfl, hs.elim (fun h => .inl (sameL s h)) (fun h => .inr (sameT s h)), rfl, flat_ints ns, ?_⟩
    show Q (.bl (!inV (.int i) (ns.map V.int))) H
    rw [inV_ints]
    exact q _ G H (Grow.rfl' s) (.bl _)
  | _ => cases e

/-! ### == of data: ints, lists and tuples of such -/
noncomputable def allB (p : PyData → Bool) (ds : List PyData) : Bool := @List.rec PyData (fun _ => Bool) true (fun d _ ih => p d && ih) ds
theorem allB_iff (p : PyData → Bool) : ∀ ds : List PyData, allB p ds = true ↔ ∀ d ∈ ds, p d = true
  | [] => by simp [allB]
  | d :: r => by
    have h := allB_iff p r
    have e : allB p (d :: r) = (p d && allB p r) := rfl
    rw [e, Bool.and_eq_true, h]
    simp
def eqbs (f : PyData → PyData → Bool) : List PyData → List PyData → Bool
  | [], [] => true
  | x :: xs, y :: ys => f x y && eqbs f xs ys
  | _, _ => false
/-- n levels deep, ints at the bottom -/
noncomputable def shp : Nat → PyData → Bool
  | 0, _ => false
  | n + 1, d => match d with
    | .int _ => true
    | .list xs => allB (shp n) xs
    | .tuple xs => allB (shp n) xs
    | _ => false
noncomputable def eqb : Nat → PyData → PyData → Bool
  | 0, _, _ => false
  | n + 1, d, e => match d, e with
    | .int i, .int j => ieq i j
    | .list xs, .list ys => eqbs (eqb n) xs ys
    | .tuple xs, .tuple ys => eqbs (eqb n) xs ys
    | _, _ => false
theorem shp_all {n : Nat} (ih : ∀ d, shp n d = true → d.canLay0 = true ∧ d.depth ≤ n) : ∀ ds, (∀ d ∈ ds, shp n d = true) → PyData.canLayAll0 ds = true ∧ PyData.depthAll ds ≤ n
  | [], _ => ⟨by simp [PyData.canLayAll0], by simp [PyData.depthAll]⟩
  | d :: r, h => by
    obtain ⟨a, b⟩ := ih d (h d List.mem_cons_self)
    obtain ⟨c, e⟩ := shp_all ih r fun x hx => h x (List.mem_cons_of_mem _ hx)
    simp only [PyData.canLayAll0, PyData.depthAll, a, c]
    exact ⟨rfl, by omega⟩
theorem shp_ok : ∀ {n : Nat} (d : PyData), shp n d = true → d.canLay0 = true ∧ d.depth ≤ n
  | 0, _, h => by cases h
  | n + 1, .int i, _ => ⟨by simp [PyData.canLay0], by simp [PyData.depth]⟩
  | n + 1, .list xs, h => by
    obtain ⟨a, b⟩ := shp_all shp_ok xs ((allB_iff _ _).mp h)
    exact ⟨by simpa [PyData.canLay0] using a, by simp only [PyData.depth]; omega⟩
  | n + 1, .tuple xs, h => by
    obtain ⟨a, b⟩ := shp_all shp_ok xs ((allB_iff _ _).mp h)
    exact ⟨by simpa [PyData.canLay0] using a, by simp only [PyData.depth]; omega⟩
  | n + 1, .none, h => by cases h
  | n + 1, .bool _, h => by cases h
  | n + 1, .str _, h => by cases h
  | n + 1, .dict _, h => by cases h
theorem shaped_of {n : Nat} {d : PyData} (h : shp n d = true) (hn : n ≤ 60) : SeqAt.shaped d = true := by
  obtain ⟨a, b⟩ := shp_ok d h
  unfold SeqAt.shaped
  rw [a, decide_eq_true (show d.depth ≤ 64 by omega)]
  rfl
theorem eqbs_ok {n : Nat} (ih : ∀ d e, shp n d = true → shp n e = true → eqb n d e = PyData.eqv d e) : ∀ xs ys, (∀ d ∈ xs, shp n d = true) → (∀ d ∈ ys, shp n d = true) → eqbs (eqb n) xs ys = PyData.eqvAll xs ys
  | [], [], _, _ => by simp [eqbs, PyData.eqvAll]
  | [], _ :: _, _, _ => by simp [eqbs, PyData.eqvAll]
  | _ :: _, [], _, _ => by simp [eqbs, PyData.eqvAll]
  | x :: xs, y :: ys, h, h' => by
    simp only [eqbs, PyData.eqvAll]
    rw [ih x y (h x List.mem_cons_self) (h' y List.mem_cons_self), eqbs_ok ih xs ys (fun z hz => h z (List.mem_cons_of_mem _ hz)) fun z hz => h' z (List.mem_cons_of_mem _ hz)]
theorem eqb_ok : ∀ {n : Nat} (d e : PyData), shp n d = true → shp n e = true → eqb n d e = PyData.eqv d e
  | 0, _, _, h, _ => by cases h
  | n + 1, .int i, .int j, _, _ => by
    show ieq i j = PyData.eqv (.int i) (.int j)
    rw [ieq_eq]
    simp only [PyData.eqv]
    rw [Bool.eq_iff_iff]
    simp
  | n + 1, .list xs, .list ys, h, h' => by
    show eqbs (eqb n) xs ys = PyData.eqv (.list xs) (.list ys)
    rw [eqbs_ok eqb_ok xs ys ((allB_iff _ _).mp h) ((allB_iff _ _).mp h')]
    simp only [PyData.eqv]
  | n + 1, .tuple xs, .tuple ys, h, h' => by
    show eqbs (eqb n) xs ys = PyData.eqv (.tuple xs) (.tuple ys)
    rw [eqbs_ok eqb_ok xs ys ((allB_iff _ _).mp h) ((allB_iff _ _).mp h')]
    simp only [PyData.eqv]
  | n + 1, .int _, .list _, _, _ => by simp only [PyData.eqv]; rfl
  | n + 1, .int _, .tuple _, _, _ => by simp only [PyData.eqv]; rfl
  | n + 1, .list _, .int _, _, _ => by simp only [PyData.eqv]; rfl
  | n + 1, .list _, .tuple _, _, _ => by simp only [PyData.eqv]; rfl
  | n + 1, .tuple _, .int _, _, _ => by simp only [PyData.eqv]; rfl
  | n + 1, .tuple _, .list _, _, _ => by simp only [PyData.eqv]; rfl
  | n + 1, .none, _, h, _ => by cases h
  | n + 1, .bool _, _, h, _ => by cases h
  | n + 1, .str _, _, h, _ => by cases h
  | n + 1, .dict _, _, h, _ => by cases h
  | n + 1, .int _, .none, _, h => by cases h
  | n + 1, .int _, .bool _, _, h => by cases h
  | n + 1, .int _, .str _, _, h => by cases h
  | n + 1, .int _, .dict _, _, h => by cases h
  | n + 1, .list _, .none, _, h => by cases h
  | n + 1, .list _, .bool _, _, h => by cases h
  | n + 1, .list _, .str _, _, h => by cases h
  | n + 1, .list _, .dict _, _, h => by cases h
  | n + 1, .tuple _, .none, _, h => by cases h
  | n + 1, .tuple _, .bool _, _, h => by cases h
  | n + 1, .tuple _, .str _, _, h => by cases h
  | n + 1, .tuple _, .dict _, _, h => by cases h
/-- a == b, four levels deep at most -/
noncomputable def eqD (a b : PyData) : Option PyData := bif shp 4 a && shp 4 b then some (.bool (eqb 4 a b)) else none
noncomputable def neD (a b : PyData) : Option PyData := bif shp 4 a && shp 4 b then some (.bool (!eqb 4 a b)) else none
theorem cnd {α : Type} {c : Bool} {x : α} {d : α} (h : (bif c then some x else none) = some d) : c = true ∧ x = d := by
  cases c with
  | true => exact ⟨rfl, Option.some.inj h⟩
  | false => cases h
theorem v2_eqD : V2 K (rEqD K) eqD := fun G H x y dx dy d s rx ry e Q q => by
  obtain ⟨c, e⟩ := cnd e
  subst e
  rw [Bool.and_eq_true] at c
  have h1 := shp_ok _ c.1
  have h2 := shp_ok _ c.2
  refine ⟨dx, dy, (rx.mono s).dp h1.1, (ry.mono s).dp h2.1, shaped_of c.1 (by decide), shaped_of c.2 (by decide), ?_⟩
  rw [← eqb_ok _ _ c.1 c.2]
  exact q _ G H (Grow.rfl' s) (.bl _)
theorem v2_neD : V2 K (rNeD K) neD := fun G H x y dx dy d s rx ry e Q q => by
  obtain ⟨c, e⟩ := cnd e
  subst e
  rw [Bool.and_eq_true] at c
  have h1 := shp_ok _ c.1
  have h2 := shp_ok _ c.2
  refine ⟨dx, dy, (rx.mono s).dp h1.1, (ry.mono s).dp h2.1, shaped_of c.1 (by decide), shaped_of c.2 (by decide), ?_⟩
  rw [← eqb_ok _ _ c.1 c.2]
  exact q _ G H (Grow.rfl' s) (.bl _)
/-- a in a list of data -/
noncomputable def anyEq (a : PyData) (ds : List PyData) : Bool := @List.rec PyData (fun _ => Bool) false (fun d _ ih => eqb 4 d a || ih) ds
theorem anyEq_ok {a : PyData} (ha : shp 4 a = true) : ∀ ds : List PyData, (∀ d ∈ ds, shp 4 d = true) → anyEq a ds = ds.any fun z => PyData.eqv z a
  | [], _ => rfl
  | d :: r, h => by
    rw [List.any_cons, ← anyEq_ok ha r fun x hx => h x (List.mem_cons_of_mem _ hx), ← eqb_ok d a (h d List.mem_cons_self) ha]
    rfl
noncomputable def inD (a b : PyData) : Option PyData := match b with
  | .list ds => bif shp 4 a && allB (shp 4) ds then some (.bool (anyEq a ds)) else none
  | _ => none
theorem v2_inD : V2 K (rInD K) inD := fun G H x y dx dy d s rx ry e Q q => by
  cases dy with
  | list ds =>
    obtain ⟨c, e⟩ := cnd (show (bif shp 4 dx && allB (shp 4) ds then some (PyData.bool (anyEq dx ds)) else none) = some d from e)
    subst e
    rw [Bool.and_eq_true] at c
    have h1 := shp_ok _ c.1
    have c2 : shp 5 (.list ds) = true := c.2
    have h2 := shp_ok _ c2
    refine ⟨dx, ds, (rx.mono s).dp h1.1, (ry.mono s).dp h2.1, shaped_of c.1 (by decide), shaped_of c2 (by decide), ?_⟩
    rw [← anyEq_ok c.1 ds ((allB_iff _ _).mp c.2)]
    exact q _ G H (Grow.rfl' s) (.bl _)
  | _ => cases e

/-! ### order -/
/-- data of n levels of tuples over ints -/
noncomputable def isLv : Nat → PyData → Bool
  | 0, d => match d with
    | .int _ => true
    | _ => false
  | n + 1, d => match d with
    | .tuple xs => allB (isLv n) xs
    | _ => false
theorem alikeAll_lv {n : Nat} (ih : ∀ d e, isLv n d = true → isLv n e = true → W.alike d e = true) : ∀ xs ys, (∀ d ∈ xs, isLv n d = true) → (∀ d ∈ ys, isLv n d = true) → W.alikeAll xs ys = true
  | [], _, _, _ => by simp [W.alikeAll]
  | _ :: _, [], _, _ => by simp [W.alikeAll]
  | x :: xs, y :: ys, h, h' => by
    rw [W.alikeAll, ih x y (h x List.mem_cons_self) (h' y List.mem_cons_self), alikeAll_lv ih xs ys (fun z hz => h z (List.mem_cons_of_mem _ hz)) fun z hz => h' z (List.mem_cons_of_mem _ hz)]
    rfl
theorem alike_lv : ∀ {n : Nat} (d e : PyData), isLv n d = true → isLv n e = true → W.alike d e = true
  | 0, .int _, .int _, _, _ => by simp [W.alike]
  | n + 1, .tuple xs, .tuple ys, h, h' => by
    rw [W.alike]
    exact alikeAll_lv alike_lv xs ys ((allB_iff _ _).mp h) ((allB_iff _ _).mp h')
  | 0, .none, _, h, _ => by cases h
  | 0, .bool _, _, h, _ => by cases h
  | 0, .str _, _, h, _ => by cases h
  | 0, .list _, _, h, _ => by cases h
  | 0, .tuple _, _, h, _ => by cases h
  | 0, .dict _, _, h, _ => by cases h
  | 0, .int _, .none, _, h => by cases h
  | 0, .int _, .bool _, _, h => by cases h
  | 0, .int _, .str _, _, h => by cases h
  | 0, .int _, .list _, _, h => by cases h
  | 0, .int _, .tuple _, _, h => by cases h
  | 0, .int _, .dict _, _, h => by cases h
  | n + 1, .none, _, h, _ => by cases h
  | n + 1, .bool _, _, h, _ => by cases h
  | n + 1, .int _, _, h, _ => by cases h
  | n + 1, .str _, _, h, _ => by cases h
  | n + 1, .list _, _, h, _ => by cases h
  | n + 1, .dict _, _, h, _ => by cases h
  | n + 1, .tuple _, .none, _, h => by cases h
  | n + 1, .tuple _, .bool _, _, h => by cases h
  | n + 1, .tuple _, .int _, _, h => by cases h
  | n + 1, .tuple _, .str _, _, h => by cases h
  | n + 1, .tuple _, .list _, _, h => by cases h
  | n + 1, .tuple _, .dict _, _, h => by cases h
theorem lv_shp : ∀ {n : Nat} (d : PyData), isLv n d = true → shp (n + 1) d = true
  | 0, .int _, _ => rfl
  | n + 1, .tuple xs, h => by
    show allB (shp (n + 1)) xs = true
    rw [allB_iff]
    exact fun d hd => lv_shp d ((allB_iff _ _).mp h d hd)
  | 0, .none, h => by cases h
  | 0, .bool _, h => by cases h
  | 0, .str _, h => by cases h
  | 0, .list _, h => by cases h
  | 0, .tuple _, h => by cases h
  | 0, .dict _, h => by cases h
  | n + 1, .none, h => by cases h
  | n + 1, .bool _, h => by cases h
  | n + 1, .int _, h => by cases h
  | n + 1, .str _, h => by cases h
  | n + 1, .list _, h => by cases h
  | n + 1, .dict _, h => by cases h
/-- the first items that differ decide -/
def lexB (eq lt : PyData → PyData → Bool) : List PyData → List PyData → Bool
  | [], [] => false
  | [], _ :: _ => true
  | _ :: _, [] => false
  | x :: xs, y :: ys => bif eq x y then lexB eq lt xs ys else lt x y
noncomputable def ltN : Nat → PyData → PyData → Bool
  | 0, d, e => match d, e with
    | .int i, .int j => ilt i j
    | _, _ => false
  | n + 1, d, e => match d, e with
    | .tuple xs, .tuple ys => lexB (eqb (n + 1)) (ltN n) xs ys
    | _, _ => false
theorem lexB_ok {n : Nat} (ih : ∀ d e, isLv n d = true → isLv n e = true → ltN n d e = W.dataLt d e) : ∀ xs ys, (∀ d ∈ xs, isLv n d = true) → (∀ d ∈ ys, isLv n d = true) → lexB (eqb (n + 1)) (ltN n) xs ys = W.rowLt xs ys
  | [], [], _, _ => by
    have e : W.rowLt [] [] = false := PyProof.Rows.lex_irrefl _
    rw [e]
    rfl
  | [], y :: ys, _, _ => by
    have e : W.rowLt [] (y :: ys) = true := by
      unfold W.rowLt
      rw [W.toks_all_cons]
      simp only [W.keyToksAll]
      rw [PyProof.Rows.lex_diff (O := itemOrd) (by simp)]
      rfl
    rw [e]
    rfl
  | x :: xs, [], _, _ => by
    have e : W.rowLt (x :: xs) [] = false := by
      unfold W.rowLt
      rw [W.toks_all_cons]
      simp only [W.keyToksAll]
      rw [PyProof.Rows.lex_diff (O := itemOrd) (by simp)]
      rfl
    rw [e]
    rfl
  | x :: xs, y :: ys, h, h' => by
    have hx := h x List.mem_cons_self
    have hy := h' y List.mem_cons_self
    show (bif eqb (n + 1) x y then lexB (eqb (n + 1)) (ltN n) xs ys else ltN n x y) = W.rowLt (x :: xs) (y :: ys)
    unfold W.rowLt
    rw [W.dataLt_cons (alike_lv x y hx hy), eqb_ok x y (lv_shp x hx) (lv_shp y hy), lexB_ok ih xs ys (fun z hz => h z (List.mem_cons_of_mem _ hz)) (fun z hz => h' z (List.mem_cons_of_mem _ hz)), ih x y hx hy]
    cases PyData.eqv x y <;> rfl
theorem ltN_ok : ∀ {n : Nat} (d e : PyData), isLv n d = true → isLv n e = true → ltN n d e = W.dataLt d e
  | 0, .int i, .int j, _, _ => by
    rw [W.dataLt_int]
    exact ilt_eq i j
  | n + 1, .tuple xs, .tuple ys, h, h' => by
    rw [W.dataLt_tuple]
    exact lexB_ok ltN_ok xs ys ((allB_iff _ _).mp h) ((allB_iff _ _).mp h')
  | 0, .none, _, h, _ => by cases h
  | 0, .bool _, _, h, _ => by cases h
  | 0, .str _, _, h, _ => by cases h
  | 0, .list _, _, h, _ => by cases h
  | 0, .tuple _, _, h, _ => by cases h
  | 0, .dict _, _, h, _ => by cases h
  | 0, .int _, .none, _, h => by cases h
  | 0, .int _, .bool _, _, h => by cases h
  | 0, .int _, .str _, _, h => by cases h
  | 0, .int _, .list _, _, h => by cases h
  | 0, .int _, .tuple _, _, h => by cases h
  | 0, .int _, .dict _, _, h => by cases h
  | n + 1, .none, _, h, _ => by cases h
  | n + 1, .bool _, _, h, _ => by cases h
  | n + 1, .int _, _, h, _ => by cases h
  | n + 1, .str _, _, h, _ => by cases h
  | n + 1, .list _, _, h, _ => by cases h
  | n + 1, .dict _, _, h, _ => by cases h
  | n + 1, .tuple _, .none, _, h => by cases h
  | n + 1, .tuple _, .bool _, _, h => by cases h
  | n + 1, .tuple _, .int _, _, h => by cases h
  | n + 1, .tuple _, .str _, _, h => by cases h
  | n + 1, .tuple _, .list _, _, h => by cases h
  | n + 1, .tuple _, .dict _, _, h => by cases h
/-! insertion, stable -/
section
variable {α : Type} (lt : α → α → Bool)
def ins (x : α) : List α → List α
  | [] => [x]
  | y :: r => bif lt y x then y :: ins x r else x :: y :: r
def isort : List α → List α
  | [] => []
  | x :: r => ins lt x (isort r)
end
theorem ins_mem {α : Type} {lt : α → α → Bool} {x : α} : ∀ {l : List α} {z : α}, z ∈ ins lt x l ↔ z = x ∨ z ∈ l
  | [], z => by simp [ins]
  | y :: r, z => by
    show z ∈ (bif lt y x then y :: ins lt x r else x :: y :: r) ↔ _
    cases lt y x with
    | true =>
      show z ∈ y :: ins lt x r ↔ _
      rw [List.mem_cons, ins_mem (l := r), List.mem_cons]
      constructor
      · rintro (h | h | h)
        · exact .inr (.inl h)
        · exact .inl h
        · exact .inr (.inr h)
      · rintro (h | h | h)
        · exact .inr (.inl h)
        · exact .inl h
        · exact .inr (.inr h)
    | false =>
      show z ∈ x :: y :: r ↔ _
      rw [List.mem_cons]
theorem ins_filter {α : Type} {lt : α → α → Bool} {x : α} {p : α → Bool} (hp : ∀ y, lt y x = true → p x = true → p y = false) : ∀ l : List α, (ins lt x l).filter p = (x :: l).filter p
  | [] => rfl
  | y :: r => by
    show (bif lt y x then y :: ins lt x r else x :: y :: r).filter p = _
    cases h : lt y x with
    | false => rfl
    | true =>
      show (y :: ins lt x r).filter p = _
      rw [List.filter_cons, ins_filter hp r, List.filter_cons, List.filter_cons (x := x), List.filter_cons (x := y)]
      cases hx : p x with
      | false => rfl
      | true =>
        rw [hp y h hx]
        rfl
theorem ins_sorted {α : Type} {lt : α → α → Bool} (T : W.TotalLe fun a b => !lt b a) {x : α} : ∀ {l : List α}, l.Pairwise (fun a b => (!lt b a) = true) → (ins lt x l).Pairwise fun a b => (!lt b a) = true
  | [], _ => List.pairwise_singleton _ _
  | y :: r, h => by
    obtain ⟨h1, h2⟩ := List.pairwise_cons.mp h
    show (bif lt y x then y :: ins lt x r else x :: y :: r).Pairwise _
    cases e : lt y x with
    | true =>
      refine List.pairwise_cons.mpr ⟨fun z hz => ?_, ins_sorted T h2⟩
      rcases ins_mem.mp hz with rfl | hz
      · rcases T.total y z with q | q
        · exact q
        · rw [e] at q
          cases q
      · exact h1 z hz
    | false =>
      have hxy : (!lt y x) = true := by rw [e]; rfl
      refine List.pairwise_cons.mpr ⟨fun z hz => ?_, h⟩
      rcases List.mem_cons.mp hz with rfl | hz
      · exact hxy
      · exact T.trans x y z hxy (h1 z hz)
theorem isort_eq {α : Type} {lt : α → α → Bool} (T : W.TotalLe fun a b => !lt b a) (l : List α) : isort lt l = l.mergeSort fun a b => !lt b a := by
  have hs : ∀ l : List α, (isort lt l).Pairwise fun a b => (!lt b a) = true := by
    intro l
    induction l with
    | nil => exact List.Pairwise.nil
    | cons x r ih => exact ins_sorted T ih
  refine W.sort_unique T (hs l) fun c => ?_
  induction l with
  | nil => rfl
  | cons x r ih =>
    show (ins lt x (isort lt r)).filter _ = _
    rw [ins_filter, List.filter_cons, ih, ← List.filter_cons]
    intro y hy hx
    unfold W.sameRank at hx ⊢
    rw [Bool.and_eq_true] at hx
    cases h : ((fun a b => !lt b a) c y && (fun a b => !lt b a) y c) with
    | false => rfl
    | true =>
      rw [Bool.and_eq_true] at h
      have q := T.trans x c y hx.2 h.1
      rw [hy] at q
      cases q
end
end DL

set_option Elab.async false
set_option linter.all false
set_option maxRecDepth 100000
set_option maxHeartbeats 3200000
/-! DL4: calls that the layer has no rule for: sorted and min of data, set of a list of ints. -/
namespace DL
open PySem PySem.Spec PyProof.Rows L2

section
variable {X : Cx}
theorem reads_zip {pins : List (Addr × Obj)} {σ : L2.St} {H : Hp} {s : Shared} (I : Inv X pins σ H s) : ∀ {xs : List V} {its : List Value} {ds : List PyData}, Vals xs its → DpAll X.K H xs ds →
    W.EachIs (fun (v : Value) (b : V × PyData) => RelV b.1 v ∧ ∃ as, Reads s.heap v b.2 as) its (xs.zip ds)
  | _, _, _, .nil, .nil => .nil
  | _, _, _, .cons r rs, .cons h hs => .cons ⟨r, Dp.reads I _ _ _ h r⟩ (reads_zip I rs hs)
theorem dpAll_len {K : PySem.W.Frag} {H : Hp} : ∀ {xs : List V} {ds : List PyData}, DpAll K H xs ds → xs.length = ds.length
  | _, _, .nil => rfl
  | _, _, .cons _ t => congrArg Nat.succ (dpAll_len t)
theorem vals_each : ∀ {zs : List (V × PyData)} {out : List Value}, W.EachIs (fun (v : Value) (b : V × PyData) => RelV b.1 v) out zs → Vals (zs.map (·.1)) out
  | _, _, .nil => .nil
  | _, _, .cons r t => .cons r (vals_each t)
theorem lv_depth {n : Nat} {d : PyData} (h : isLv n d = true) : d.depth ≤ n + 1 := (shp_ok d (lv_shp d h)).2
theorem lv_none {n : Nat} {d : PyData} (h : isLv n d = true) : d ≠ .none := fun e => by
  subst e
  cases n <;> cases h
/-- sorted(xs), the items n levels of tuples over ints -/
def rSortD (K : PySem.W.Frag) (n : Nat) : List V → Hp → VK → Prop := fun vs H Q => ∃ (a : Addr) (xs : List V) (ds : List PyData), vs = [V.ref a] ∧ SqL K H a xs ∧ DpAll K H xs ds ∧ (∀ d ∈ ds, isLv n d = true) ∧ (0 < n → ∀ d ∈ ds, d ≠ .tuple []) ∧ n ≤ 8 ∧
  ∀ (p : Addr) (zs : List (V × PyData)), H p = none → zs.Perm (xs.zip ds) → zs.map (·.2) = isort (ltN n) ds → Q (.ref p) (upd H p (.lst (zs.map (·.1))))
theorem total_lv (n : Nat) : W.TotalLe (W.dataLe false (fun b : PyData => b)) := W.sortLe_total _ _ _
theorem isort_congr {lt lt' : PyData → PyData → Bool} : ∀ {l : List PyData}, (∀ a ∈ l, ∀ b ∈ l, lt a b = lt' a b) → isort lt l = isort lt' l
  | [], _ => rfl
  | x :: r, h => by
    have e := isort_congr (l := r) fun a ha b hb => h a (List.mem_cons_of_mem _ ha) b (List.mem_cons_of_mem _ hb)
    show ins lt x (isort lt r) = ins lt' x (isort lt' r)
    rw [e]
    have m : ∀ l : List PyData, (∀ y ∈ l, y ∈ r) → ins lt x l = ins lt' x l := by
      intro l
      induction l with
      | nil => intro _; rfl
      | cons y t ih =>
        intro hm
        show (bif lt y x then y :: ins lt x t else x :: y :: t) = (bif lt' y x then y :: ins lt' x t else x :: y :: t)
        rw [ih fun z hz => hm z (List.mem_cons_of_mem _ hz), h y (List.mem_cons_of_mem _ (hm y List.mem_cons_self)) x List.mem_cons_self]
    refine m _ fun y hy => ?_
    have q : ∀ l : List PyData, y ∈ isort lt' l → y ∈ l := by
      intro l
      induction l with
      | nil => intro z; exact z
      | cons a t ih =>
        intro z
        rcases ins_mem.mp z with rfl | z
        · exact List.mem_cons_self
        · exact List.mem_cons_of_mem _ (ih z)
    exact q r hy
theorem cr_sortedD (hu : X.A.units + 64 < cLine) (n : Nat) : CallR X (.builtin "sorted") (rSortD X.K n) := by
  intro pins s σ H vs us Q I r h
  obtain ⟨a, xs, ds, rfl, hs, hd, hlv, hne, h8, q⟩ := h
  obtain ⟨its, rv, hl, hz⟩ := I.list hs
  rw [Vals.ref1 r]
  have hlen := dpAll_len hd
  have e0 := reads_zip I rv hd
  have em : (xs.zip ds).map (fun b : V × PyData => b.2) = ds := List.map_snd_zip (by omega)
  have zl : (xs.zip ds).length = xs.length := by rw [List.length_zip]; omega
  have mem2 : ∀ b ∈ xs.zip ds, b.2 ∈ ds := fun b hb => by
    have : b.2 ∈ (xs.zip ds).map (fun b : V × PyData => b.2) := List.mem_map.mpr ⟨b, hb, rfl⟩
    rwa [em] at this
  refine W.sorted_data (vs := its) (bs := xs.zip ds) (enc := fun b : V × PyData => b.2) (R := fun v b => RelV b.1 v) hl.isList (e0.mono fun _ _ x => x.1) (e0.mono fun _ _ x => x.2) ?_ ?_ (by rw [zl]; exact hz) (fun b hb => ?_) fun out ho eo => ?_
  · rw [em]
    exact fun d hd d' hd' => alike_lv d d' (hlv d hd) (hlv d' hd')
  · rw [em]
    cases n with
    | zero =>
      refine .inr fun d hd => ⟨lv_none (hlv d hd), fun ys e => ?_⟩
      have := hlv d hd
      rw [e] at this
      cases this
    | succ k =>
      refine .inl fun d hd => ?_
      have h1 := hlv d hd
      have h2 := hne (Nat.succ_pos k) d hd
      cases d with
      | tuple ys =>
        cases ys with
        | nil => exact absurd rfl h2
        | cons y r => exact ⟨y, r, rfl⟩
      | _ => cases h1
  · have h1 := lv_depth (hlv b.2 (mem2 b hb))
    omega
  · obtain ⟨ep, he'⟩ := PyProof.Rows.sortedAll_at s.heap its out.toArray
    have hlen2 : (((xs.zip ds).mergeSort (W.dataLe false fun b : V × PyData => b.2)).map (fun b : V × PyData => b.1)).length ≤ sizeLine := by
      rw [List.length_map, List.length_mergeSort, zl]
      exact hz
    refine ⟨.ref _, upd H (s.heap.objs.size + 1) (.lst (((xs.zip ds).mergeSort (W.dataLe false fun b : V × PyData => b.2)).map (fun b : V × PyData => b.1))), I.laid (t' := s.toks) (fun _ _ => PyProof.Rows.sortedAll_old) (Nat.le_succ _) ⟨hlen2, out, ep, vals_each eo, he'⟩, rfl,
      q _ _ (I.hok.fresh (Nat.le_succ _)) (List.mergeSort_perm _ _) ?_⟩
    have e1 : ((xs.zip ds).mergeSort (W.dataLe false fun b : V × PyData => b.2)).map (fun b : V × PyData => b.2) = ds.mergeSort (W.dataLe false fun b : PyData => b) := by
      have := W.sort_maps (r := W.dataLe false fun b : V × PyData => b.2) (s := W.dataLe false fun b : PyData => b) (fun b : V × PyData => b.2) (l := xs.zip ds) fun _ _ _ _ => rfl
      rw [this, em]
    rw [e1]
    have e2 : isort (ltN n) ds = isort (fun a b => W.dataLt a b) ds := isort_congr fun a ha b hb => ltN_ok a b (hlv a ha) (hlv b hb)
    rw [e2, isort_eq (lt := fun a b => W.dataLt a b) (total_lv n)]
    rfl

/-- min(xs) of such data -/
def minB (lt : PyData → PyData → Bool) : PyData → List PyData → PyData
  | a, [] => a
  | a, y :: r => minB lt (bif lt y a then y else a) r
def rMinD (K : PySem.W.Frag) (n : Nat) : List V → Hp → VK → Prop := fun vs H Q => ∃ (a : Addr) (xs : List V) (d : PyData) (ds : List PyData), vs = [V.ref a] ∧ SqL K H a xs ∧ DpAll K H xs (d :: ds) ∧ (∀ e ∈ d :: ds, isLv n e = true) ∧ n ≤ 8 ∧
  ∀ (i : Nat) (x : V), xs[i]? = some x → (d :: ds)[i]? = some (minB (ltN n) d ds) → Q x H
theorem minB_eq {n : Nat} : ∀ (ds : List PyData) (d : PyData), isLv n d = true → (∀ e ∈ ds, isLv n e = true) → minB (ltN n) d ds = W.minD d ds
  | [], _, _, _ => rfl
  | y :: r, d, h, hs => by
    have hy := hs y List.mem_cons_self
    have hr := fun e he => hs e (List.mem_cons_of_mem y he)
    show minB (ltN n) (bif ltN n y d then y else d) r = W.minD (if W.dataLt y d then y else d) r
    rw [ltN_ok y d hy h]
    cases W.dataLt y d with
    | true => exact minB_eq r y hy hr
    | false => exact minB_eq r d h hr
theorem lv_all {n : Nat} : ∀ {ds : List PyData}, (∀ e ∈ ds, isLv n e = true) → PyData.depthAll ds ≤ n + 1
  | [], _ => by simp [PyData.depthAll]
  | d :: r, h => by
    have h1 := lv_depth (h d List.mem_cons_self)
    have h2 := lv_all fun e he => h e (List.mem_cons_of_mem d he)
    simp only [PyData.depthAll]
    omega
theorem dpAll_reads {pins : List (Addr × Obj)} {σ : L2.St} {H : Hp} {s : Shared} (I : Inv X pins σ H s) {xs : List V} {its : List Value} {ds : List PyData} (r : Vals xs its) (h : DpAll X.K H xs ds) : ∃ as, ReadsAll s.heap its ds as := Dp.readsAll I ds xs its h r
theorem paired_at {α β : Type} {F : α → β → Prop} : ∀ {as : List α} {bs : List β} {i : Nat} {b : β}, Paired F as bs → bs[i]? = some b → ∃ a, as[i]? = some a ∧ F a b
  | _, _, _, _, .nil, e => by simp at e
  | _, _, 0, _, .cons r _, e => ⟨_, rfl, Option.some.inj e ▸ r⟩
  | _, _, i + 1, b, .cons _ t, e => paired_at (i := i) (b := b) t e
theorem minD_mem : ∀ (ds : List PyData) (d : PyData), W.minD d ds ∈ d :: ds
  | [], d => List.mem_cons_self
  | y :: r, d => by
    show W.minD (if W.dataLt y d then y else d) r ∈ _
    have h := minD_mem r (if W.dataLt y d then y else d)
    rcases List.mem_cons.mp h with e | h
    · rw [e]
      split
      · exact List.mem_cons_of_mem _ List.mem_cons_self
      · exact List.mem_cons_self
    · exact List.mem_cons_of_mem _ (List.mem_cons_of_mem _ h)
theorem cr_minD (hc : X.calm = true) (hu : X.A.units + 64 < cLine) (n : Nat) : CallR X (.builtin "min") (rMinD X.K n) := by
  intro pins s σ H vs us Q I r h
  obtain ⟨a, xs, d, ds, rfl, hs, hd, hlv, h8, q⟩ := h
  obtain ⟨its, rv, hl, hz⟩ := I.list hs
  rw [Vals.ref1 r]
  obtain ⟨as, hr⟩ := dpAll_reads I rv hd
  have hdp := lv_all hlv
  refine W.min_list_data (vs := its.toArray) (I.ok.hd hc) hl.isList hr ⟨fun x hx y hy => alike_lv x y (hlv x hx) (hlv y hy), fun x hx => lv_none (hlv x hx)⟩ (by omega) fun i v h' tk bs hv hrd hk => ?_
  have hv' : its[i]? = some v := by simpa using hv
  obtain ⟨x, hx, rx⟩ := paired_at rv hv'
  refine ⟨x, H, I.kept hk, rx, q i x hx ?_⟩
  have hi : i < (d :: ds).length := by
    rw [← dpAll_len hd]
    exact (List.getElem?_eq_some_iff.mp hx).1
  have hg : (d :: ds)[i]? = some (d :: ds)[i] := List.getElem?_eq_getElem hi
  obtain ⟨bs2, hr2⟩ : ∃ bs2, Reads s.heap v (d :: ds)[i] bs2 := by
    have e := reads_zip I rv hd
    have hz2 : (xs.zip (d :: ds))[i]? = some (x, (d :: ds)[i]) := by
      rw [List.getElem?_zip_eq_some]
      exact ⟨hx, hg⟩
    have : ∀ {as : List Value} {zs : List (V × PyData)} {i : Nat} {v : Value} {z : V × PyData}, W.EachIs (fun (v : Value) (b : V × PyData) => RelV b.1 v ∧ ∃ as, Reads s.heap v b.2 as) as zs → as[i]? = some v → zs[i]? = some z → ∃ as, Reads s.heap v z.2 as := by
      intro as zs i v z e
      induction e generalizing i with
      | nil => intro h; simp at h
      | cons r t ih =>
        cases i with
        | zero =>
          intro h1 h2
          cases h1
          cases h2
          exact r.2
        | succ j =>
          intro h1 h2
          exact ih h1 h2
    exact this e hv' hz2
  have el := hlv _ (List.getElem_mem hi)
  have em := minD_mem ds d
  have e3 := W.alike_unique _ _ v _ _ (alike_lv _ _ el (hlv _ em)) (Reads.keeps hk hr2) hrd
  rw [hg, e3, minB_eq ds d (hlv d List.mem_cons_self) fun e he => hlv e (List.mem_cons_of_mem d he)]
end

/-! ### set(xs), xs a list of ints -/
section
variable {P : Program} {w : World} {A : Around} {E : Value → Shared → Prop} {s : Shared}
def freshSet (w : World) : Obj := { cls := .type "set", dict := none, data := .set #[] 0 (.fresh 0 0 (!w.params.followText "set-order")) }
theorem set_of_list {l : Addr} {items : Array Value} {ns : List Int} {Q : Value → Shared → Prop} (calm : A.handled = none) (src : s.heap.IsList l items) (are : IntsAre items.toList ns) (few : ns.length + 1 < scanBound)
    (fin : ∀ (g : Heap) (tk c : Nat), SetR w g s.heap.objs.size (fun j => decide (j ∈ ns)) c → c ≤ ns.length → (∀ b o, s.heap.get? b = some o → g.get? b = some o) → Q (.ref s.heap.objs.size) { s with heap := g, toks := tk }) :
    wpAny (model P w) A (call (.type "set") [.ref l]) Q E s := by
  have sz : items.size = ns.length := (Array.length_toList ▸ IntsAre.length are : _)
  obtain ⟨c0, tl0, mro⟩ := F.called_set.mro
  have made := F.called_set.made
  have sub := F.called_set.sub
  refine wpAny_call (codeAny_of_tree ?_)
  show wpAny _ _ (callAny (.type "set") _) _ _ _
  refine wpAny_pure ⟨Code.quiet_builtin _ (by decide +kernel), codeAny_builtin F.entry_type_call ?_⟩
  rw [Around.under_plain (weight_type_call_type "set" [.ref l] []) rfl]
  have q1 := F.called_set.notType
  have q2 := F.called_set.canCreate
  have q3 := F.typeCall_set_1 (.ref l)
  repeat (any_goals (first | assumption | wp_step))
  generalize hs1 : s.heap.push (freshSet w) = h1
  refine codeAny_mono (code_set_led1 (.ref l) (E := E) (Q₁ := fun u s₁ => u = .ref s.heap.objs.size ∧ s₁ = { s with heap := h1 }) ⟨rfl, by rw [← hs1]; rfl⟩) fun r s₁ hr => ?_
  have hS : h1.get? s.heap.objs.size = some (freshSet w) := by rw [← hs1]; exact Heap.get?_push_size _ rfl
  have old : ∀ b o, s.heap.get? b = some o → h1.get? b = some o := fun b o e => by rw [← hs1]; exact Heap.get?_push_of_some _ e
  have n1 : h1.objs.size = s.heap.objs.size + 1 := by rw [← hs1]; exact Heap.size_push ..
  cases r with
  | error e => exact hr
  | ok fl =>
    cases fl with
    | ret u =>
      obtain ⟨rfl, rfl⟩ := hr
      have ty : Shared.TypeIs { s with heap := h1 } (.ref s.heap.objs.size) "set" := ⟨_, hS, rfl⟩
      have q4 := F.called_set.init.lookup
      have q5 := F.called_set.init.bind (.ref s.heap.objs.size)
      repeat (any_goals (first | assumption | wp_step))
      refine codeAny_mono (codeAny_call_builtin (R := wants (fun r s₂ => r = .none ∧ ∃ g tk c, s₂ = { s with heap := g, toks := tk } ∧ SetR w g s.heap.objs.size (fun j => decide (j ∈ ns)) c ∧ c ≤ ns.length ∧ ∀ b o, s.heap.get? b = some o → g.get? b = some o) E)
        F.called_set.init.plain F.entry_set_init (check_set_init_1 ty ?_)) fun r₂ s₂ hr₂ => ?_
      · obtain ⟨⟨oc, od, dt, sl⟩, hol, cl, k, dat⟩ := src
        simp only at cl dat
        subst cl dat
        have hol' := old _ _ hol
        have q6 := F.sub_list_set
        have q7 := F.sub_list_frozenset
        have q8 : (Value.type "list" == Value.type "dict") = false := by decide
        have src1 : h1.IsList l items := ⟨_, hol', rfl, k, rfl⟩
        unfold Builtin.«set.__init__» noKeywords Builtin.Frozenset.updateFrom
        generalize hPI : pyIter = PI
        wp_walk
        subst hPI
        refine wpAny_pyIter_list src1 ?_
        refine wpAny_bind (wpAny_runValue ?_)
        have lS : l < s.heap.objs.size := Heap.lt_size hol
        have calm3 : A.in1.in1.in1.handled = none := by simp [calm]
        have lI : l ≠ h1.objs.size := by rw [n1]; exact Nat.ne_of_lt (Nat.lt_succ_of_lt lS)
        have Sf : s.heap.objs.size ∉ [h1.objs.size, l] := by
          rw [n1]
          simp only [List.mem_cons, List.not_mem_nil, or_false, not_or]
          exact ⟨Nat.ne_of_lt (Nat.lt_succ_self _), Nat.ne_of_gt lS⟩
        have val : ∀ (i : Nat) (v : Value), items[i]? = some v → ∃ k t, ns[i]? = some k ∧ v = .int k t := fun i v hv => by
          have hi : i < ns.length := by rw [← sz]; exact (Array.getElem?_eq_some_iff.mp hv).1
          obtain ⟨t, e⟩ := PyProof.Rows.IntsAre.int_at are i v (by rw [Array.getElem?_toList]; exact hv)
          refine ⟨ns[i], t, List.getElem?_eq_getElem hi, ?_⟩
          rw [e, List.getD_eq_getElem?_getD, List.getElem?_eq_getElem hi]
          rfl
        refine set_update_ints ((Walks.list calm3 _ l lI items).toS) s.heap.objs.size Sf ns sz few val (items.size - 0) 0 _ (by omega) (Nat.zero_le _) ⟨⟨_, Heap.get?_push_size _ rfl, rfl, rfl⟩, src1.push _⟩ ?start ?stop
        case start => exact ⟨0, Nat.le_refl 0, setR_new_at (Heap.get?_push_of_some _ hS)⟩
        case stop =>
          intro s' c' mv few' set'
          obtain ⟨g, g2, d', tk', os'⟩ := s'
          obtain rfl : g2 = s.gens := mv.gens
          obtain rfl : d' = s.drawn := mv.drawn
          obtain rfl : os' = s.os := mv.os
          show wpAny _ _ _ _ _ _
          refine wpAny_pure ?_
          show wpAny _ _ (ret Value.none) _ _ _
          rw [sz] at few'
          refine wpAny_pure ⟨rfl, g, tk', c', rfl, set', few', fun b o e => mv.heap b o ?_ (Heap.get?_push_of_some _ (old b o e))⟩
          have b0 : b < s.heap.objs.size := Heap.lt_size e
          simp only [List.mem_cons, List.not_mem_nil, or_false, not_or]
          exact ⟨Nat.ne_of_lt b0, by rw [n1]; exact Nat.ne_of_lt (Nat.lt_succ_of_lt b0)⟩
      · cases r₂ with
        | error e => exact hr₂
        | ok fl₂ =>
          cases fl₂ with
          | ret r =>
            obtain ⟨rfl, g, tk, c', rfl, set', few', kept⟩ := hr₂
            repeat (any_goals (first | assumption | wp_step))
            exact fin _ _ _ set' few' kept
          | _ => exact hr₂.elim
    | _ => exact hr.elim
end
section
variable {X : Cx}
/-- set(xs) of a list or a tuple of ints -/
def rSetI (K : PySem.W.Frag) (w : World) : List V → Hp → VK → Prop := fun vs H Q => ∃ (a : Addr) (ns : List Int), vs = [V.ref a] ∧ (SqL K H a (ns.map V.int) ∨ SqT K H a (ns.map V.int)) ∧ ns.length < 64 ∧
  ∀ (p : Addr) (c : Nat), H p = none → c ≤ ns.length → Q (.ref p) (upd H p (SetO w p (fun j => decide (j ∈ ns)) c))
theorem cr_setI (hc : X.calm = true) : CallR X (.type "set") (rSetI X.K X.w) := by
  intro pins s σ H vs us Q I r h
  obtain ⟨a, ns, rfl, hs, h64, q⟩ := h
  rw [Vals.ref1 r]
  have hn : H s.heap.objs.size = none := I.hok.fresh (Nat.le_refl _)
  have few : ns.length + 1 < scanBound := by unfold scanBound; omega
  rcases hs with hs | hs
  · obtain ⟨its, rv, hl, _⟩ := I.list hs
    refine set_of_list (I.ok.hd hc) hl.isList (by simpa using rv.ints) few fun g tk c hS hle hk => ?_
    exact ⟨.ref _, _, I.laid (t' := tk) hk (Nat.le_refl _) (setO_new hS), rfl, q _ c hn hle⟩
  · obtain ⟨its, rv, hl, _⟩ := I.tuple hs
    refine call_set_tupI ns (I.ok.hd hc) hl (by simpa using rv.ints) few fun g tk c hS hle hk => ?_
    exact ⟨.ref _, _, I.laid (t' := tk) hk (Nat.le_refl _) (setO_new hS), rfl, q _ c hn hle⟩
end
end DL

set_option Elab.async false
set_option linter.all false
set_option maxRecDepth 100000
set_option maxHeartbeats 1600000
/-! DL5: built-ins and subscripts by data. -/
namespace DL
open PySem PySem.Spec PyProof.Rows L2

/-! ### kinds of data that one < orders -/
structure Kd (pr : PyData → Bool) (lt : PyData → PyData → Bool) : Prop where
  alike : ∀ a b, pr a = true → pr b = true → W.alike a b = true
  some_ : ∀ a, pr a = true → a ≠ .none
  deep : ∀ a, pr a = true → a.canLay0 = true ∧ a.depth ≤ 12
  is : ∀ a b, pr a = true → pr b = true → lt a b = W.dataLt a b
theorem kd_lv (n : Nat) (h : n ≤ 8) : Kd (isLv n) (ltN n) :=
  ⟨fun a b => alike_lv a b, fun a h => lv_none h, fun a h => by have := shp_ok a (lv_shp a h); exact ⟨this.1, by omega⟩, fun a b => ltN_ok a b⟩
/-- (int, tuple of ints) -/
noncomputable def isPr : PyData → Bool
  | .tuple [.int _, x] => isLv 1 x
  | _ => false
noncomputable def ltPr : PyData → PyData → Bool
  | .tuple [.int i, x], .tuple [.int j, y] => bif ieq i j then (bif eqb 2 x y then false else ltN 1 x y) else ilt i j
  | _, _ => false
theorem isPr_of {d : PyData} (h : isPr d = true) : ∃ i x, d = .tuple [.int i, x] ∧ isLv 1 x = true := by
  unfold isPr at h
  split at h
  · exact ⟨_, _, rfl, h⟩
  · cases h
theorem kd_pr : Kd isPr ltPr := by
  refine ⟨fun a b ha hb => ?_, fun a ha e => ?_, fun a ha => ?_, fun a b ha hb => ?_⟩
  · obtain ⟨i, x, rfl, hx⟩ := isPr_of ha
    obtain ⟨j, y, rfl, hy⟩ := isPr_of hb
    simp only [W.alike, W.alikeAll, alike_lv x y hx hy]
    rfl
  · subst e
    cases ha
  · obtain ⟨i, x, rfl, hx⟩ := isPr_of ha
    have h := shp_ok x (lv_shp x hx)
    simp only [PyData.canLay0, PyData.canLayAll0, PyData.depth, PyData.depthAll, h.1]
    exact ⟨rfl, by omega⟩
  · obtain ⟨i, x, rfl, hx⟩ := isPr_of ha
    obtain ⟨j, y, rfl, hy⟩ := isPr_of hb
    rw [W.dataLt_pair (by simp [W.alike]) (alike_lv x y hx hy), W.dataLt_int, ← ltN_ok x y hx hy, ← eqb_ok x y (lv_shp x hx) (lv_shp y hy), ← ilt_eq]
    have e : PyData.eqv (.int i) (.int j) = ieq i j := by
      simp only [PyData.eqv]
      rw [ieq_eq, Bool.eq_iff_iff]
      simp
    rw [e]
    show (bif ieq i j then (bif eqb 2 x y then false else ltN 1 x y) else ilt i j) = _
    cases ieq i j with
    | false => rfl
    | true => cases eqb 2 x y <;> rfl

section
variable {X : Cx}
def rMinP (K : PySem.W.Frag) (pr : PyData → Bool) (lt : PyData → PyData → Bool) : List V → Hp → VK → Prop := fun vs H Q => ∃ (a : Addr) (xs : List V) (d : PyData) (ds : List PyData), vs = [V.ref a] ∧ SqL K H a xs ∧ DpAll K H xs (d :: ds) ∧ (∀ e ∈ d :: ds, pr e = true) ∧
  ∀ (i : Nat) (x : V), xs[i]? = some x → (d :: ds)[i]? = some (minB lt d ds) → Q x H
theorem minP_eq {pr : PyData → Bool} {lt : PyData → PyData → Bool} (kd : Kd pr lt) : ∀ (ds : List PyData) (d : PyData), pr d = true → (∀ e ∈ ds, pr e = true) → minB lt d ds = W.minD d ds
  | [], _, _, _ => rfl
  | y :: r, d, h, hs => by
    have hy := hs y List.mem_cons_self
    have hr := fun e he => hs e (List.mem_cons_of_mem y he)
    show minB lt (bif lt y d then y else d) r = W.minD (if W.dataLt y d then y else d) r
    rw [kd.is y d hy h]
    cases W.dataLt y d with
    | true => exact minP_eq kd r y hy hr
    | false => exact minP_eq kd r d h hr
theorem kd_all {pr : PyData → Bool} {lt : PyData → PyData → Bool} (kd : Kd pr lt) : ∀ {ds : List PyData}, (∀ e ∈ ds, pr e = true) → PyData.canLayAll0 ds = true ∧ PyData.depthAll ds ≤ 12
  | [], _ => ⟨by simp [PyData.canLayAll0], by simp [PyData.depthAll]⟩
  | d :: r, h => by
    obtain ⟨h1, h3⟩ := kd.deep d (h d List.mem_cons_self)
    obtain ⟨h2, h4⟩ := kd_all kd fun e he => h e (List.mem_cons_of_mem d he)
    simp only [PyData.canLayAll0, PyData.depthAll, h1, h2]
    exact ⟨rfl, by omega⟩
theorem each_at {h : Heap} {as : List Value} {zs : List (V × PyData)} (e : W.EachIs (fun (v : Value) (b : V × PyData) => RelV b.1 v ∧ ∃ as, Reads h v b.2 as) as zs) : ∀ {i : Nat} {v : Value} {z : V × PyData}, as[i]? = some v → zs[i]? = some z → ∃ as, Reads h v z.2 as := by
  induction e with
  | nil => intro i v z h; simp at h
  | cons r t ih =>
    intro i v z
    cases i with
    | zero =>
      intro h1 h2
      cases h1
      cases h2
      exact r.2
    | succ j =>
      intro h1 h2
      exact ih h1 h2
theorem cr_minP {pr : PyData → Bool} {lt : PyData → PyData → Bool} (kd : Kd pr lt) (hc : X.calm = true) (hu : X.A.units + 64 < cLine) : CallR X (.builtin "min") (rMinP X.K pr lt) := by
  intro pins s σ H vs us Q I r h
  obtain ⟨a, xs, d, ds, rfl, hs, hd, hlv, q⟩ := h
  obtain ⟨its, rv, hl, hz⟩ := I.list hs
  rw [Vals.ref1 r]
  obtain ⟨as, hr⟩ := dpAll_reads I rv hd
  have hdp := (kd_all kd hlv).2
  refine W.min_list_data (vs := its.toArray) (I.ok.hd hc) hl.isList hr ⟨fun x hx y hy => kd.alike x y (hlv x hx) (hlv y hy), fun x hx => kd.some_ x (hlv x hx)⟩ (by omega) fun i v h' tk bs hv hrd hk => ?_
  have hv' : its[i]? = some v := by simpa using hv
  obtain ⟨x, hx, rx⟩ := paired_at rv hv'
  refine ⟨x, H, I.kept hk, rx, q i x hx ?_⟩
  have hi : i < (d :: ds).length := by
    rw [← dpAll_len hd]
    exact (List.getElem?_eq_some_iff.mp hx).1
  have hg : (d :: ds)[i]? = some (d :: ds)[i] := List.getElem?_eq_getElem hi
  have hz2 : (xs.zip (d :: ds))[i]? = some (x, (d :: ds)[i]) := by
    rw [List.getElem?_zip_eq_some]
    exact ⟨hx, hg⟩
  obtain ⟨bs2, hr2⟩ := each_at (reads_zip I rv hd) hv' hz2
  have e3 := W.alike_unique _ _ v _ _ (kd.alike _ _ (hlv _ (List.getElem_mem hi)) (hlv _ (minD_mem ds d))) (Reads.keeps hk hr2) hrd
  rw [hg, e3, minP_eq kd ds d (hlv d List.mem_cons_self) fun e he => hlv e (List.mem_cons_of_mem d he)]
/-- list(d) of a known dict of ints -/
def rListF : List V → Hp → VK → Prop := fun xs H Q => ∃ p o kvs, xs = [.ref p] ∧ H p = some (.frz o (.dK kvs)) ∧ ∀ q, H q = none → Q (.ref q) (upd H q (.lst (kvs.map fun kv => kV kv.1)))
theorem cr_listF (hc : X.calm = true) : CallR X (.type "list") rListF := by
  intro pins s σ H xs us Q I r h
  obtain ⟨p, o, kvs, rfl, hk, q⟩ := h
  rw [Vals.ref1 r]
  obtain ⟨sys, ho, hx, es, ep, vs, hdt, hsz, rk, hat⟩ := I.frzK hk
  have z : kvs.length ≤ sizeLine := by
    obtain ⟨_, z, _⟩ := I.hok p _ hk
    exact z
  have hl : kvs.length = vs.length := Paired.length rk
  refine PySem.W.kdl_call (PySem.W.kdl_dict (knd := mixKind X.prog X.w) (kvs := vs) (ep := ep) sys) (I.ok.hd hc) hat (by rw [← hl]; exact z) fun h' tk acc c' keep hS hacc => ?_
  have el : acc.toList.length = acc.size := by simp
  have rel : Vals (kvs.map fun kv => kV kv.1) acc.toList := by
    refine vals_of_at (by rw [List.length_map, el, hacc.1, hl]) fun j x w h1 h2 => ?_
    obtain ⟨k, y, hky, hi⟩ := hacc.2 j w (by rw [← Array.getElem?_toList]; exact h2)
    have e1 : (kvs.map (·.1))[j]? = some k := by rw [KV.keys rk, List.getElem?_map, hky]; rfl
    rw [List.getElem?_map] at h1 e1
    cases e : kvs[j]? with
    | none => rw [e] at e1; cases e1
    | some kv =>
      rw [e] at h1 e1
      cases h1
      cases e1
      exact keyIs_rel hi
  exact ⟨.ref s.heap.objs.size, _, I.laid keep (Nat.le_refl _) (show ObjOk X.prog X.w _ _ _ (.lst (kvs.map fun kv => kV kv.1)) from ⟨by rw [List.length_map]; exact z, acc.toList, c', rel, by rw [Array.toArray_toList]; exact hS⟩), rfl, q _ (I.hok.fresh (Nat.le_refl _))⟩
end

section
variable {K : PySem.W.Frag} {env : List En} {ta tb tc te : TE} {oa ob oc : Option PyData} {xs : TA} {os : Option (List PyData)}
theorem rp_list {G : Hp} {v : V} {ds : List PyData} (r : Rp K G v (.list ds)) : ∃ a vs, v = .ref a ∧ SqL K G a vs ∧ vs.length ≤ big ∧ RpA K G vs ds := by
  cases r with
  | lst h l r => exact ⟨_, _, rfl, h, l, r⟩
theorem rp_tuple {G : Hp} {v : V} {ds : List PyData} (r : Rp K G v (.tuple ds)) : ∃ a vs, v = .ref a ∧ SqT K G a vs ∧ vs.length ≤ big ∧ RpA K G vs ds := by
  cases r with
  | tup h l r => exact ⟨_, _, rfl, h, l, r⟩
theorem rpA_zip {G : Hp} : ∀ {vs : List V} {ds : List PyData}, RpA K G vs ds → ∀ b ∈ vs.zip ds, Rp K G b.1 b.2
  | _, _, .nil, b, h => by simp at h
  | _, _, .cons r t, b, h => by
    rw [List.zip_cons_cons] at h
    rcases List.mem_cons.mp h with rfl | h
    · exact r
    · exact rpA_zip t b h
theorem rpA_of {G : Hp} : ∀ {zs : List (V × PyData)}, (∀ b ∈ zs, Rp K G b.1 b.2) → RpA K G (zs.map (·.1)) (zs.map (·.2))
  | [], _ => .nil
  | z :: r, h => .cons (h z List.mem_cons_self) (rpA_of fun b hb => h b (List.mem_cons_of_mem _ hb))
/-- a new list, a new tuple -/
theorem new_list {G H : Hp} {p : Addr} {vs : List V} {ds : List PyData} {Q : VK} {d : PyData} (s : Same G H) (hp : H p = none) (r : RpA K G vs ds) (hl : vs.length ≤ big) (e : d = .list ds) (q : ∀ v G' H', Grow G H G' H' → Rp K G' v d → Q v H') : Q (.ref p) (upd H p (.lst vs)) := by
  subst e
  have g := Grow.lay (.lst vs) s hp
  exact q _ _ _ g (.lst (SqL.of upd_same) hl (r.mono g.g))
theorem new_tup {G H : Hp} {p : Addr} {vs : List V} {ds : List PyData} {Q : VK} {d : PyData} (s : Same G H) (hp : H p = none) (r : RpA K G vs ds) (hl : vs.length ≤ big) (e : d = .tuple ds) (q : ∀ v G' H', Grow G H G' H' → Rp K G' v d → Q v H') : Q (.ref p) (upd H p (.tup vs)) := by
  subst e
  have g := Grow.lay (.tup vs) s hp
  exact q _ _ _ g (.tup (SqT.of upd_same) hl (r.mono g.g))
/-! sorted, min -/
noncomputable def neT : PyData → Bool
  | .tuple [] => false
  | _ => true
noncomputable def sortO (n : Nat) : PyData → Option PyData
  | .list ds => bif allB (isLv n) ds && allB neT ds then some (.list (isort (ltN n) ds)) else none
  | _ => none
theorem vc_sorted {n : Nat} (h8 : n ≤ 8) : VC1 K (rSortD K n) (sortO n) := fun G H x dx d s rx e Q q => by
  cases dx with
  | list ds =>
    obtain ⟨c, e⟩ := cnd (show (bif allB (isLv n) ds && allB neT ds then some (PyData.list (isort (ltN n) ds)) else none) = some d from e)
    rw [Bool.and_eq_true, allB_iff, allB_iff] at c
    obtain ⟨a, vs, rfl, hs, hl, r⟩ := rp_list rx
    have hd := kd_all (kd_lv n h8) c.1
    refine ⟨a, vs, ds, rfl, sameL s hs, (r.mono s).dp hd.1, c.1, fun _ d hd e => ?_, h8, fun p zs hp pm ez => ?_⟩
    · have := c.2 d hd
      rw [e] at this
      cases this
    · have rz := rpA_of fun b hb => rpA_zip r b (pm.mem_iff.mp hb)
      rw [ez] at rz
      refine new_list s hp rz ?_ e.symm q
      rw [List.length_map, pm.length_eq, List.length_zip]
      omega
  | _ => cases e
noncomputable def minO (pr : PyData → Bool) (lt : PyData → PyData → Bool) : PyData → Option PyData
  | .list (d :: ds) => bif allB pr (d :: ds) then some (minB lt d ds) else none
  | _ => none
theorem vc_min {pr : PyData → Bool} {lt : PyData → PyData → Bool} (kd : Kd pr lt) : VC1 K (rMinP K pr lt) (minO pr lt) := fun G H x dx d s rx e Q q => by
  cases dx with
  | list ds =>
    cases ds with
    | nil => cases e
    | cons d0 ds =>
      obtain ⟨c, e⟩ := cnd (show (bif allB pr (d0 :: ds) then some (minB lt d0 ds) else none) = some d from e)
      rw [allB_iff] at c
      obtain ⟨a, vs, rfl, hs, hl, r⟩ := rp_list rx
      refine ⟨a, vs, d0, ds, rfl, sameL s hs, (r.mono s).dp (kd_all kd c).1, c, fun i x hx hd => ?_⟩
      obtain ⟨d', h1, h2⟩ := r.get hx
      rw [hd] at h1
      cases h1
      rw [← e] at q
      exact q _ G H (Grow.rfl' s) h2
  | _ => cases e
/-! len, list, tuple -/
abbrev rLen' (K : PySem.W.Frag) : List V → Hp → VK → Prop := fun xs H Q => ∃ p ys, xs = [.ref p] ∧ (SqL K H p ys ∨ SqT K H p ys) ∧ Q (.int ys.length) H
abbrev rList' (K : PySem.W.Frag) : List V → Hp → VK → Prop := fun xs H Q => ∃ p ys, xs = [.ref p] ∧ (SqL K H p ys ∨ SqT K H p ys) ∧ ∀ l, H l = none → Q (.ref l) (upd H l (.lst ys))
abbrev rTup' (K : PySem.W.Frag) : List V → Hp → VK → Prop := fun xs H Q => ∃ p ys, xs = [.ref p] ∧ ((SqL K H p ys ∧ ∀ l, H l = none → Q (.ref l) (upd H l (.tup ys))) ∨ (SqT K H p ys ∧ Q (.ref p) H))
theorem c_len {X : Cx} : CallR X (.builtin "len") (rLen' X.K) := call_len_seq
theorem c_list {X : Cx} : CallR X (.type "list") (rList' X.K) := call_list_of
theorem c_tuple {X : Cx} : CallR X (.type "tuple") (rTup' X.K) := call_tuple_of
noncomputable def lenO (d : PyData) : Option PyData := (itemsO d).bind fun ds => some (.int (Int.ofNat ds.length))
theorem vc_len : VC1 K (rLen' K) lenO := fun G H x dx d s rx e Q q => by
  obtain ⟨ds, hd, e⟩ := bnd e
  cases e
  obtain ⟨a, vs, rfl, hs, hl, r⟩ := items_rp rx hd
  refine ⟨a, vs, rfl, hs.elim (fun h => .inl (sameL s h)) (fun h => .inr (sameT s h)), ?_⟩
  rw [r.len]
  exact q _ G H (Grow.rfl' s) (.int _)
noncomputable def listO (d : PyData) : Option PyData := (itemsO d).bind fun ds => some (.list ds)
theorem vc_list : VC1 K (rList' K) listO := fun G H x dx d s rx e Q q => by
  obtain ⟨ds, hd, e⟩ := bnd e
  obtain ⟨a, vs, rfl, hs, hl, r⟩ := items_rp rx hd
  exact ⟨a, vs, rfl, hs.elim (fun h => .inl (sameL s h)) (fun h => .inr (sameT s h)), fun p hp => new_list s hp r hl (Option.some.inj e).symm q⟩
noncomputable def tupO (d : PyData) : Option PyData := (itemsO d).bind fun ds => some (.tuple ds)
theorem vc_tuple : VC1 K (rTup' K) tupO := fun G H x dx d s rx e Q q => by
  obtain ⟨ds, hd, e⟩ := bnd e
  obtain ⟨a, vs, rfl, hs, hl, r⟩ := items_rp rx hd
  refine ⟨a, vs, rfl, ?_⟩
  rcases hs with hs | hs
  · exact .inl ⟨sameL s hs, fun p hp => new_tup s hp r hl (Option.some.inj e).symm q⟩
  · refine .inr ⟨sameT s hs, q _ G H (Grow.rfl' s) ?_⟩
    cases e
    exact .tup hs hl r
/-! any, all, sum, max of ints -/
noncomputable def boolsO (ds : List PyData) : Option (List Bool) := @List.rec PyData (fun _ => Option (List Bool)) (some []) (fun d _ ih => match d with
  | .bool b => ih.bind fun r => some (b :: r)
  | _ => none) ds
theorem boolsO_of : ∀ {ds : List PyData} {bs : List Bool}, boolsO ds = some bs → ds = bs.map .bool
  | [], bs, e => by
    cases (show some [] = some bs from e)
    rfl
  | d :: r, bs, e => by
    cases d with
    | bool b =>
      obtain ⟨c, hc, e'⟩ := bnd (show (boolsO r).bind (fun r => some (b :: r)) = some bs from e)
      cases e'
      rw [boolsO_of hc]
      rfl
    | _ => cases (show none = some bs from e)
noncomputable def intsO (ds : List PyData) : Option (List Int) := @List.rec PyData (fun _ => Option (List Int)) (some []) (fun d _ ih => match d with
  | .int b => ih.bind fun r => some (b :: r)
  | _ => none) ds
theorem intsO_of : ∀ {ds : List PyData} {bs : List Int}, intsO ds = some bs → ds = bs.map .int
  | [], bs, e => by
    cases (show some [] = some bs from e)
    rfl
  | d :: r, bs, e => by
    cases d with
    | int b =>
      obtain ⟨c, hc, e'⟩ := bnd (show (intsO r).bind (fun r => some (b :: r)) = some bs from e)
      cases e'
      rw [intsO_of hc]
      rfl
    | _ => cases (show none = some bs from e)
noncomputable def anyT (bs : List Bool) : Bool := @List.rec Bool (fun _ => Bool) false (fun b _ ih => b || ih) bs
noncomputable def allT (bs : List Bool) : Bool := @List.rec Bool (fun _ => Bool) true (fun b _ ih => b && ih) bs
theorem anyT_eq : ∀ bs : List Bool, anyT bs = bs.any id
  | [] => rfl
  | b :: r => by
    rw [List.any_cons, ← anyT_eq r]
    rfl
theorem allT_eq : ∀ bs : List Bool, allT bs = bs.all id
  | [] => rfl
  | b :: r => by
    rw [List.all_cons, ← allT_eq r]
    rfl
noncomputable def anyO : PyData → Option PyData
  | .list ds => (boolsO ds).bind fun bs => some (.bool (anyT bs))
  | _ => none
noncomputable def allO : PyData → Option PyData
  | .list ds => (boolsO ds).bind fun bs => some (.bool (allT bs))
  | _ => none
noncomputable def sumO : PyData → Option PyData
  | .list ds => (intsO ds).bind fun ns => some (.int ns.sum)
  | _ => none
theorem vc_any : VC1 K (rAny K) anyO := fun G H x dx d s rx e Q q => by
  cases dx with
  | list ds =>
    obtain ⟨bs, hb, e⟩ := bnd (show (boolsO ds).bind _ = some d from e)
    cases e
    have := boolsO_of hb
    subst this
    obtain ⟨a, vs, rfl, hs, hl, r⟩ := rp_list rx
    have ev := r.of_bls
    subst ev
    refine ⟨a, bs, rfl, sameL s hs, ?_⟩
    rw [← anyT_eq]
    exact q _ G H (Grow.rfl' s) (.bl _)
  | _ => cases e
theorem vc_all : VC1 K (rAll K) allO := fun G H x dx d s rx e Q q => by
  cases dx with
  | list ds =>
    obtain ⟨bs, hb, e⟩ := bnd (show (boolsO ds).bind _ = some d from e)
    cases e
    have := boolsO_of hb
    subst this
    obtain ⟨a, vs, rfl, hs, hl, r⟩ := rp_list rx
    have ev := r.of_bls
    subst ev
    refine ⟨a, bs, rfl, sameL s hs, ?_⟩
    rw [← allT_eq]
    exact q _ G H (Grow.rfl' s) (.bl _)
  | _ => cases e
theorem vc_sum : VC1 K (rSum K) sumO := fun G H x dx d s rx e Q q => by
  cases dx with
  | list ds =>
    obtain ⟨bs, hb, e⟩ := bnd (show (intsO ds).bind _ = some d from e)
    cases e
    have := intsO_of hb
    subst this
    obtain ⟨a, vs, rfl, hs, hl, r⟩ := rp_list rx
    have ev := r.of_ints
    subst ev
    exact ⟨a, bs, rfl, sameL s hs, q _ G H (Grow.rfl' s) (.int _)⟩
  | _ => cases e
def maxI : Int → List Int → Int
  | a, [] => a
  | a, y :: r => maxI (bif ilt a y then y else a) r
theorem maxI_ok : ∀ (r : List Int) (a : Int), maxI a r ∈ a :: r ∧ ∀ y ∈ a :: r, y ≤ maxI a r
  | [], a => ⟨List.mem_cons_self, fun y hy => by simp at hy; rw [hy]; exact Int.le_refl a⟩
  | x :: r, a => by
    have h := maxI_ok r (bif ilt a x then x else a)
    show maxI (bif ilt a x then x else a) r ∈ _ ∧ ∀ y ∈ a :: x :: r, y ≤ maxI (bif ilt a x then x else a) r
    cases e : ilt a x with
    | true =>
      rw [e] at h
      rw [ilt_iff] at e
      refine ⟨List.mem_cons_of_mem _ h.1, fun y hy => ?_⟩
      have hx := h.2 x List.mem_cons_self
      rcases List.mem_cons.mp hy with rfl | hy
      · exact Int.le_of_lt (Int.lt_of_lt_of_le e hx)
      · exact h.2 y hy
    | false =>
      rw [e] at h
      have e' : ¬ a < x := fun z => by
        rw [(ilt_iff _ _).mpr z] at e
        cases e
      refine ⟨?_, fun y hy => ?_⟩
      · rcases List.mem_cons.mp h.1 with h1 | h1
        · rw [h1]
          exact List.mem_cons_self
        · exact List.mem_cons_of_mem _ (List.mem_cons_of_mem _ h1)
      · have ha := h.2 a List.mem_cons_self
        rcases List.mem_cons.mp hy with rfl | hy
        · exact ha
        · rcases List.mem_cons.mp hy with rfl | hy
          · exact Int.le_trans (Int.not_lt.mp e') ha
          · exact h.2 y (List.mem_cons_of_mem _ hy)
noncomputable def maxO : PyData → Option PyData
  | .list ds => (intsO ds).bind fun ns => match ns with
    | [] => none
    | n :: r => some (.int (maxI n r))
  | _ => none
theorem vc_max : VC1 K (rMax K) maxO := fun G H x dx d s rx e Q q => by
  cases dx with
  | list ds =>
    obtain ⟨ns, hb, e2⟩ := bnd (show (intsO ds).bind _ = some d from e)
    have := intsO_of hb
    subst this
    cases ns with
    | nil => cases e2
    | cons n r =>
      cases e2
      obtain ⟨a, vs, rfl, hs, hl, rr⟩ := rp_list rx
      have ev := rr.of_ints
      subst ev
      refine ⟨a, n :: r, rfl, sameL s hs, Nat.succ_pos _, fun m hm hle => ?_⟩
      obtain ⟨h1, h2⟩ := maxI_ok r n
      have e : m = maxI n r := Int.le_antisymm (h2 m hm) (hle _ h1)
      rw [e]
      exact q _ G H (Grow.rfl' s) (.int _)
  | _ => cases e
/-! list(d) of a dict of ints -/
noncomputable def keysI (es : List (PyData × PyData)) : Option (List PyData) := @List.rec (PyData × PyData) (fun _ => Option (List PyData)) (some []) (fun e _ ih => match e.1 with
  | .int i => ih.bind fun r => some (.int i :: r)
  | _ => none) es
theorem keysI_rp {G : Hp} : ∀ {kvs : List (Key × V)} {es : List (PyData × PyData)} {ks : List PyData}, RpK K G kvs es → keysI es = some ks → RpA K G (kvs.map fun kv => kV kv.1) ks
  | _, _, ks, .nil, e => by
    cases (show some [] = some ks from e)
    exact .nil
  | _, _, ks, .cons (i := i) (ds := ds) r t, e => by
    obtain ⟨c, hc, e'⟩ := bnd (show (keysI ds).bind (fun r => some (PyData.int i :: r)) = some ks from e)
    cases e'
    exact .cons (.int i) (keysI_rp t hc)
/-- the first key of a dict of tuples is no int -/
theorem rpN_ni {G : Hp} {xs : List DictEntry} {es : List (PyData × PyData)} (r : RpN K G xs es) (n : es ≠ []) : ∃ dk dv t, es = (dk, dv) :: t ∧ ∀ i, dk ≠ .int i := by
  cases r with
  | nil => exact absurd rfl n
  | cons rk _ _ _ => exact ⟨_, _, _, rfl, fun i e => by subst e; cases rk⟩
noncomputable def dlistO : PyData → Option PyData
  | .dict es => (keysI es).bind fun ks => match es with
    | [] => none
    | _ :: _ => some (.list ks)
  | _ => none
theorem vc_dlist : VC1 K rListF dlistO := fun G H x dx d s rx e Q q => by
  cases dx with
  | dict es =>
    obtain ⟨ks, hk, e⟩ := bnd (show (keysI es).bind _ = some d from e)
    cases rx with
    | dk hd hl r =>
      have rk := keysI_rp r hk
      refine ⟨_, _, _, rfl, s _ _ hd, fun p hp => ?_⟩
      cases es with
      | nil => cases e
      | cons _ _ => exact new_list s hp rk (by rw [List.length_map]; exact hl) (Option.some.inj e).symm q
    | dn hd hx ht hl r n =>
      obtain ⟨dk, dv, t, rfl, no⟩ := rpN_ni r n
      cases dk with
      | int i => exact absurd rfl (no i)
      | _ => cases (show none = some ks from hk)
  | _ => cases e
/-! int of a bool, abs -/
abbrev rInt1' : List V → Hp → VK → Prop := fun xs H Q => (∃ i, xs = [.int i] ∧ Q (.int i) H) ∨ ∃ k, xs = [.bl k] ∧ Q (.int (if k then 1 else 0)) H
theorem c_int1 {X : Cx} : CallR X (.type "int") rInt1' := call_int1
def int1O : PyData → Option PyData
  | .int i => some (.int i)
  | .bool b => some (.int (bif b then 1 else 0))
  | _ => none
theorem vc_int1 : VC1 K rInt1' int1O := fun G H x dx d s rx e Q q => by
  cases rx with
  | int i => cases e; exact .inl ⟨i, rfl, q _ G H (Grow.rfl' s) (.int _)⟩
  | bl b =>
    cases e
    refine .inr ⟨b, rfl, q _ G H (Grow.rfl' s) ?_⟩
    cases b <;> exact .int _
  | _ => cases e
abbrev rAbs' : List V → Hp → VK → Prop := fun xs H Q => ∃ i, xs = [.int i] ∧ Q (.int (if i < 0 then -i else i)) H
theorem c_abs {X : Cx} : CallR X (.builtin "abs") rAbs' := call_abs
def absO : PyData → Option PyData
  | .int i => some (.int (bif ilt i 0 then -i else i))
  | _ => none
theorem vc_abs : VC1 K rAbs' absO := fun G H x dx d s rx e Q q => by
  cases rx with
  | int i =>
    cases e
    refine ⟨i, rfl, q _ G H (Grow.rfl' s) ?_⟩
    have e : (if i < 0 then -i else i) = (bif ilt i 0 then -i else i) := by
      rw [ilt_eq]
      by_cases h : i < 0 <;> simp [h]
    rw [e]
    exact .int _
  | _ => cases e
/-! isinstance -/
inductive Ty3 where
  | int | bool | tuple
def Ty3.name : Ty3 → String
  | .int => "int"
  | .bool => "bool"
  | .tuple => "tuple"
def isaO : Ty3 → PyData → Option PyData
  | .int, .int _ => some (.bool true)
  | .bool, .int _ => some (.bool false)
  | .tuple, .tuple _ => some (.bool true)
  | _, _ => none
theorem de_isa {t : Ty3} (ha : DE K ta env oa) : DE K (tCB (rIsi K) (tCons ta (tCons (tC (.ty t.name)) tNil))) env (oa.bind (isaO t)) := fun G0 H0 G H σ E d e Q q => by
  obtain ⟨x, hx, e⟩ := bnd e
  refine ha _ _ _ _ _ E x hx _ fun v G1 H1 g1 r1 => ?_
  have fin : ∀ b, d = .bool b → Q (.bl b) H1 := fun b z => by
    subst z
    exact q _ G1 H1 g1 (.bl b)
  cases t with
  | int =>
    cases r1 with
    | int i => exact ⟨.int i, .ty "int", .type "int", .type "int", true, rfl, .ty _, .base (.int i), kit_ty (by decide +kernel), fin true (Option.some.inj e).symm⟩
    | _ => cases e
  | bool =>
    cases r1 with
    | int i => exact ⟨.int i, .ty "bool", .type "int", .type "bool", false, rfl, .ty _, .base (.int i), kit_ty (by decide +kernel), fin false (Option.some.inj e).symm⟩
    | _ => cases e
  | tuple =>
    cases r1 with
    | tup h l r =>
      have f := fin true (Option.some.inj e).symm
      rcases sameT g1.sub h with (h | ⟨o, h⟩) | ⟨o, its, n, h, c, _⟩
      · exact ⟨_, .ty "tuple", .type "tuple", .type "tuple", true, rfl, .ty _, .base (.tup h), kit_ty (by decide +kernel), f⟩
      · exact ⟨_, .ty "tuple", .type "tuple", .type "tuple", true, rfl, .ty _, .fTuple h, kit_ty (by decide +kernel), f⟩
      · exact ⟨_, .ty "tuple", .type "tuple", .type "tuple", true, rfl, .ty _, .kTuple h c, kit_ty (by decide +kernel), f⟩
    | _ => cases e
/-! items -/
def ixO : PyData → PyData → Option PyData
  | x, .int (.ofNat k) => (itemsO x).bind fun ds => ds[k]?
  | _, _ => none
theorem v2_ix : V2 K (rIx K) ixO := fun G H x y dx dy d s rx ry e Q q => by
  cases ry with
  | int i =>
    cases i with
    | ofNat k =>
      obtain ⟨ds, hd, e⟩ := bnd (show (itemsO dx).bind _ = some d from e)
      obtain ⟨a, vs, rfl, hs, hl, r⟩ := items_rp rx hd
      obtain ⟨v, hv, rv⟩ := r.at e
      have e2 : atI vs (Int.ofNat k) = some v := atI_nat hv
      have f := q v G H (Grow.rfl' s) rv
      rcases hs with hs | hs
      · exact .inl ⟨a, vs, Int.ofNat k, v, rfl, rfl, sameL s hs, e2, f⟩
      · exact .inr (.inl ⟨a, vs, Int.ofNat k, v, rfl, rfl, sameT s hs, e2, f⟩)
    | negSucc k => cases dx <;> cases e
  | _ => cases dx <;> cases e
/-! t[a:], t[:b] -/
def nO : Option PyData → Option (Option Nat)
  | none => some none
  | some (.int (.ofNat k)) => some (some k)
  | some _ => none
def cutD (ds : List PyData) (lo hi : Option Nat) : List PyData := match lo, hi with
  | none, none => ds
  | some a, none => ds.drop a
  | none, some b => ds.take b
  | some a, some b => (ds.take b).drop a
theorem six_some (n d k : Nat) : HT.sIx n d (some (Int.ofNat k)) = min k n := HT.sIx_nat n d k
theorem cut_lo {vs : List V} (k : Nat) : cutV vs (some (Int.ofNat k)) none = vs.drop k := by
  unfold cutV
  rw [six_some, HT.sIx_none]
  by_cases h : k ≤ vs.length
  · rw [Nat.min_eq_left h]
    exact List.take_of_length_le (by rw [List.length_drop]; omega)
  · rw [Nat.min_eq_right (by omega), List.drop_of_length_le (Nat.le_refl _), List.drop_of_length_le (by omega)]
    exact List.take_nil
theorem cut_hi {vs : List V} (k : Nat) : cutV vs none (some (Int.ofNat k)) = vs.take k := by
  unfold cutV
  rw [six_some, HT.sIx_none, List.drop_zero, Nat.sub_zero]
  by_cases h : k ≤ vs.length
  · rw [Nat.min_eq_left h]
  · rw [Nat.min_eq_right (by omega), List.take_of_length_le (Nat.le_refl _), List.take_of_length_le (by omega)]
noncomputable def fromO : PyData → PyData → Option PyData
  | .tuple ds, .int (.ofNat k) => some (.tuple (ds.drop k))
  | _, _ => none
noncomputable def uptoO : PyData → PyData → Option PyData
  | .tuple ds, .int (.ofNat k) => some (.tuple (ds.take k))
  | _, _ => none
theorem slice_fin {G H : Hp} {a : Addr} {vs : List V} {ds : List PyData} {lo hi : Option Int} {es : List PyData} {d : PyData} {Q : VK} (s : Same G H) (h : SqT K G a vs) (hl : vs.length ≤ big) (r : RpA K G vs ds) (rc : RpA K G (cutV vs lo hi) es)
    (he : (HT.sIx vs.length 0 lo = 0 ∧ HT.sIx vs.length vs.length hi = vs.length) → cutV vs lo hi = vs) (e : d = .tuple es) (q : ∀ v G' H', Grow G H G' H' → Rp K G' v d → Q v H') : rSlA K (.ref a) lo hi H Q := by
  refine ⟨a, vs, rfl, sameT s h, fun z => ?_, fun _ p hp => ?_⟩
  · have e2 := he z
    rw [e2] at rc
    subst e
    exact q _ G H (Grow.rfl' s) (.tup h hl rc)
  · exact new_tup s hp rc (Nat.le_trans (cutV_length _ _ _) hl) e q
theorem de_from (ha : DE K ta env oa) (hb : DE K tb env ob) : DE K (tSl (rSlA K) ta (tPart tb) tNoPart) env (oa.bind fun x => ob.bind fun y => fromO x y) := fun G0 H0 G H σ E d e Q q => by
  obtain ⟨x, hx, e⟩ := bnd e
  obtain ⟨y, hy, e⟩ := bnd e
  refine ha _ _ _ _ _ E x hx _ fun v G1 H1 g1 r1 => ?_
  refine hb _ _ _ _ _ (E.more g1) y hy _ fun w G2 H2 g2 r2 => ?_
  have g := g1.trans g2
  cases x with
  | tuple ds =>
    cases r2 with
    | int i =>
      cases i with
      | ofNat k =>
        obtain ⟨a, vs, rfl, hs, hl, r⟩ := rp_tuple (r1.mono g2.g)
        refine ⟨Int.ofNat k, rfl, slice_fin g2.sub hs hl r (by rw [cut_lo]; exact r.drop k) (fun z => ?_) (Option.some.inj e).symm fun v G3 H3 g3 r3 => q v G3 H3 (g.trans g3) r3⟩
        rw [cut_lo]
        have z1 := z.1
        rw [six_some] at z1
        by_cases h0 : k = 0
        · rw [h0]
          rfl
        · have : vs.length = 0 := by omega
          rw [List.drop_of_length_le (by omega), List.eq_nil_of_length_eq_zero this]
      | negSucc k => cases e
    | _ => cases e
  | _ => cases e
theorem de_upto (ha : DE K ta env oa) (hb : DE K tb env ob) : DE K (tSl (rSlA K) ta tNoPart (tPart tb)) env (oa.bind fun x => ob.bind fun y => uptoO x y) := fun G0 H0 G H σ E d e Q q => by
  obtain ⟨x, hx, e⟩ := bnd e
  obtain ⟨y, hy, e⟩ := bnd e
  refine ha _ _ _ _ _ E x hx _ fun v G1 H1 g1 r1 => ?_
  refine hb _ _ _ _ _ (E.more g1) y hy _ fun w G2 H2 g2 r2 => ?_
  have g := g1.trans g2
  cases x with
  | tuple ds =>
    cases r2 with
    | int i =>
      cases i with
      | ofNat k =>
        obtain ⟨a, vs, rfl, hs, hl, r⟩ := rp_tuple (r1.mono g2.g)
        refine ⟨Int.ofNat k, rfl, slice_fin g2.sub hs hl r (by rw [cut_hi]; exact r.take k) (fun z => ?_) (Option.some.inj e).symm fun v G3 H3 g3 r3 => q v G3 H3 (g.trans g3) r3⟩
        rw [cut_hi]
        have z2 := z.2
        rw [six_some] at z2
        exact List.take_of_length_le (by omega)
      | negSucc k => cases e
    | _ => cases e
  | _ => cases e
/-! t + u -/
noncomputable def catO : PyData → PyData → Option PyData
  | .tuple xs, .tuple ys => bif smallO (xs ++ ys) then some (.tuple (xs ++ ys)) else none
  | _, _ => none
theorem v2_cat : V2 K (rCatA K) catO := fun G H x y dx dy d s rx ry e Q q => by
  cases dx with
  | tuple xs =>
    cases dy with
    | tuple ys =>
      obtain ⟨c, e⟩ := cnd (show (bif smallO (xs ++ ys) then some (PyData.tuple (xs ++ ys)) else none) = some d from e)
      subst e
      have hz := small_of c
      rw [List.length_append] at hz
      obtain ⟨a, vs, rfl, hs, hl, r⟩ := rp_tuple rx
      obtain ⟨b, ws, rfl, hs', hl', r'⟩ := rp_tuple ry
      have hv := r.len
      have hw := r'.len
      have hb : vs.length + ws.length ≤ big := by omega
      refine ⟨a, b, vs, ws, rfl, rfl, sameT s hs, sameT s hs', big_line hb, fun z => ?_, fun _ z => ?_, fun _ _ p hp => ?_⟩
      · have : xs = [] := List.eq_nil_of_length_eq_zero (by rw [← hv, z]; rfl)
        subst this
        exact q _ G H (Grow.rfl' s) (.tup hs' hl' r')
      · have : ys = [] := List.eq_nil_of_length_eq_zero (by rw [← hw, z]; rfl)
        subst this
        refine q _ G H (Grow.rfl' s) (.tup hs hl ?_)
        rw [List.append_nil]
        exact r
      · exact new_tup s hp (r.app r') (by rw [List.length_append]; exact hb) rfl q
    | _ => cases e
  | _ => cases e
/-! d[k] of a known dict of ints -/
noncomputable def findI (i : Int) (es : List (PyData × PyData)) : Option PyData := @List.rec (PyData × PyData) (fun _ => Option PyData) none (fun e _ ih => match e.1 with
  | .int j => bif ieq j i then some e.2 else ih
  | _ => none) es
theorem findI_rp {G : Hp} {i : Int} {d : PyData} : ∀ {kvs : List (Key × V)} {es : List (PyData × PyData)}, RpK K G kvs es → findI i es = some d → ∃ v, valV kvs (.inl i) = some v ∧ Rp K G v d
  | _, _, .nil, e => by cases (show none = some d from e)
  | _, _, .cons (i := j) (v := v) (vs := vs) (d := d') (ds := ds) r t, e => by
    have e1 : (bif ieq j i then some d' else findI i ds) = some d := e
    cases h : ieq j i with
    | true =>
      rw [h] at e1
      cases e1
      rw [ieq_iff] at h
      subst h
      exact ⟨v, valV_pos rfl, r⟩
    | false =>
      rw [h] at e1
      obtain ⟨w, h1, h2⟩ := findI_rp t e1
      refine ⟨w, ?_, h2⟩
      rw [valV_neg (p := (.inl j, v)) (r := vs)]
      · exact h1
      · intro z
        have : j = i := Sum.inl.inj z
        rw [(ieq_iff j i).mpr this] at h
        cases h
noncomputable def dgetO : PyData → PyData → Option PyData
  | .dict es, .int i => findI i es
  | _, _ => none
theorem de_dget (ha : DE K ta env oa) (hb : DE K tb env ob) : DE K (tDGet ta tb) env (oa.bind fun x => ob.bind fun y => dgetO x y) := fun G0 H0 G H σ E d e Q q => by
  obtain ⟨x, hx, e⟩ := bnd e
  obtain ⟨y, hy, e⟩ := bnd e
  refine ha _ _ _ _ _ E x hx _ fun v G1 H1 g1 r1 => ?_
  refine hb _ _ _ _ _ (E.more g1) y hy _ fun w G2 H2 g2 r2 => ?_
  have g := g1.trans g2
  cases x with
  | dict es =>
    cases r2 with
    | int i =>
      have e : findI i es = some d := e
      cases (r1.mono g2.g) with
      | dk hd hl r =>
        obtain ⟨u, h1, h2⟩ := findI_rp r e
        exact ⟨_, u, rfl, .inl ⟨_, _, .inr ⟨_, g2.sub _ _ hd⟩, rfl, h1.symm⟩, q u G2 H2 g h2⟩
      | dn hd hx ht hl r n =>
        obtain ⟨dk, dv, t, rfl, no⟩ := rpN_ni r n
        cases dk with
        | int i => exact absurd rfl (no i)
        | _ => cases (show none = some d from e)
    | _ => cases e
  | _ => cases e
/-! sorted(set(xs)) -/
def uins (x : Int) : List Int → List Int
  | [] => [x]
  | y :: r => bif ilt y x then y :: uins x r else bif ieq x y then y :: r else x :: y :: r
def usort : List Int → List Int
  | [] => []
  | x :: r => uins x (usort r)
theorem uins_mem {x : Int} : ∀ {l : List Int} {z : Int}, z ∈ uins x l ↔ z = x ∨ z ∈ l
  | [], z => by simp [uins]
  | y :: r, z => by
    show z ∈ (bif ilt y x then y :: uins x r else bif ieq x y then y :: r else x :: y :: r) ↔ _
    cases ilt y x with
    | true =>
      show z ∈ y :: uins x r ↔ _
      rw [List.mem_cons, uins_mem (l := r), List.mem_cons]
      constructor
      · rintro (h | h | h)
        · exact .inr (.inl h)
        · exact .inl h
        · exact .inr (.inr h)
      · rintro (h | h | h)
        · exact .inr (.inl h)
        · exact .inl h
        · exact .inr (.inr h)
    | false =>
      cases e : ieq x y with
      | true =>
        rw [ieq_iff] at e
        subst e
        show z ∈ x :: r ↔ _
        rw [List.mem_cons]
        constructor
        · intro h
          exact h.elim .inl fun h => .inr (.inr h)
        · rintro (h | h | h)
          · exact .inl h
          · exact .inl h
          · exact .inr h
      | false =>
        show z ∈ x :: y :: r ↔ _
        rw [List.mem_cons]
theorem uins_sorted {x : Int} : ∀ {l : List Int}, l.Pairwise (· < ·) → (uins x l).Pairwise (· < ·)
  | [], _ => List.pairwise_singleton _ _
  | y :: r, h => by
    obtain ⟨h1, h2⟩ := List.pairwise_cons.mp h
    show (bif ilt y x then y :: uins x r else bif ieq x y then y :: r else x :: y :: r).Pairwise _
    cases e : ilt y x with
    | true =>
      rw [ilt_iff] at e
      refine List.pairwise_cons.mpr ⟨fun z hz => ?_, uins_sorted h2⟩
      rcases uins_mem.mp hz with rfl | hz
      · exact e
      · exact h1 z hz
    | false =>
      have e1 : ¬ y < x := fun z => by
        rw [(ilt_iff _ _).mpr z] at e
        cases e
      cases e2 : ieq x y with
      | true => exact h
      | false =>
        have e3 : x ≠ y := fun z => by
          rw [(ieq_iff _ _).mpr z] at e2
          cases e2
        have hxy : x < y := by omega
        refine List.pairwise_cons.mpr ⟨fun z hz => ?_, h⟩
        rcases List.mem_cons.mp hz with rfl | hz
        · exact hxy
        · exact Int.lt_trans hxy (h1 z hz)
theorem usort_ok : ∀ l : List Int, (usort l).Pairwise (· < ·) ∧ ∀ z, z ∈ usort l ↔ z ∈ l
  | [] => ⟨List.Pairwise.nil, fun _ => Iff.rfl⟩
  | x :: r => by
    obtain ⟨h1, h2⟩ := usort_ok r
    refine ⟨uins_sorted h1, fun z => ?_⟩
    show z ∈ uins x (usort r) ↔ _
    rw [uins_mem, h2, List.mem_cons]
theorem sorted_one : ∀ {a b : List Int}, a.Pairwise (· < ·) → b.Pairwise (· < ·) → (∀ z, z ∈ a ↔ z ∈ b) → a = b
  | [], [], _, _, _ => rfl
  | [], y :: r, _, _, h => by
    have := (h y).mpr List.mem_cons_self
    simp at this
  | x :: r, [], _, _, h => by
    have := (h x).mp List.mem_cons_self
    simp at this
  | x :: r, y :: t, ha, hb, h => by
    obtain ⟨a1, a2⟩ := List.pairwise_cons.mp ha
    obtain ⟨b1, b2⟩ := List.pairwise_cons.mp hb
    have e : x = y := by
      rcases List.mem_cons.mp ((h x).mp List.mem_cons_self) with e | m
      · exact e
      · rcases List.mem_cons.mp ((h y).mpr List.mem_cons_self) with e | m'
        · exact e.symm
        · have := b1 x m
          have := a1 y m'
          omega
    subst e
    have : r = t := sorted_one a2 b2 fun z => by
      constructor
      · intro m
        rcases List.mem_cons.mp ((h z).mp (List.mem_cons_of_mem _ m)) with e | m'
        · have := a1 z m
          omega
        · exact m'
      · intro m
        rcases List.mem_cons.mp ((h z).mpr (List.mem_cons_of_mem _ m)) with e | m'
        · have := b1 z m
          omega
        · exact m'
    rw [this]
noncomputable def mapI (ns : List Int) : List PyData := @List.rec Int (fun _ => List PyData) [] (fun n _ ih => .int n :: ih) ns
theorem mapI_eq : ∀ ns : List Int, mapI ns = ns.map .int
  | [] => rfl
  | n :: r => congrArg (PyData.int n :: ·) (mapI_eq r)
noncomputable def usortO (d : PyData) : Option PyData := (itemsO d).bind fun ds => (intsO ds).bind fun ns => bif Nat.blt ns.length 64 then some (.list (mapI (usort ns))) else none
theorem de_sortset {w : World} (ha : DE K ta env oa) : DE K (tCB (rSortedSet w) (tCons (tCB (rSetI K w) (tCons ta tNil)) tNil)) env (oa.bind usortO) := fun G0 H0 G H σ E d e Q q => by
  obtain ⟨x, hx, e⟩ := bnd e
  obtain ⟨ds, hd, e⟩ := bnd e
  obtain ⟨ns, hn, e2⟩ := bnd e
  obtain ⟨c, e2⟩ := cnd e2
  have h64 : ns.length < 64 := by rw [Nat.blt_eq] at c; exact c
  refine ha _ _ _ _ _ E x hx _ fun v G1 H1 g1 r1 => ?_
  have := intsO_of hn
  subst this
  obtain ⟨a, vs, rfl, hs, hl, r⟩ := items_rp r1 hd
  have ev := r.of_ints
  subst ev
  refine ⟨a, ns, rfl, hs.elim (fun h => .inl (sameL g1.sub h)) (fun h => .inr (sameT g1.sub h)), h64, fun p c hp hc => ?_⟩
  refine ⟨p, _, c, rfl, upd_same, by omega, fun ns' p2 srt mem len hp2 => ?_⟩
  have e1 : ns' = usort ns := sorted_one srt (usort_ok ns).1 fun z => by
    rw [mem, (usort_ok ns).2]
    exact decide_eq_true_iff
  have ne : p2 ≠ p := fun z => by
    rw [z, upd_same] at hp2
    cases hp2
  have hp2' : H1 p2 = none := by
    rw [upd_ne ne] at hp2
    exact hp2
  have gG : Grow G1 H1 G1 (upd H1 p (SetO w p (fun j => decide (j ∈ ns)) c)) := ⟨same_new hp, Same.refl _, g1.sub.trans (same_new hp), fun _ _ h => h⟩
  rw [mapI_eq] at e2
  subst e2
  rw [e1]
  refine new_list gG.sub hp2 (RpA.ints _) ?_ rfl fun v G3 H3 g3 r3 => q v G3 H3 ((g1.trans gG).trans g3) r3
  rw [List.length_map, ← e1, len]
  have : (64 : Nat) ≤ big := by decide
  omega
/-! list(range(n)), by numbers -/
noncomputable def rngD (lo : Int) (n : Nat) : List PyData := @Nat.rec (fun _ => Int → List PyData) (fun _ => []) (fun _ ih a => .int a :: ih (a + 1)) n lo
theorem rngD_succ (lo : Int) (n : Nat) : rngD lo (n + 1) = .int lo :: rngD (lo + 1) n := rfl
theorem rngD_len : ∀ (n : Nat) (lo : Int), (rngD lo n).length = n
  | 0, _ => rfl
  | n + 1, lo => congrArg Nat.succ (rngD_len n (lo + 1))
theorem rngD_at : ∀ (n : Nat) (lo : Int) (i : Nat), i < n → (rngD lo n)[i]? = some (.int (lo + i))
  | 0, _, i, h => by omega
  | n + 1, lo, 0, _ => by
    show some (PyData.int lo) = some (.int (lo + 0))
    rw [Int.add_zero]
  | n + 1, lo, i + 1, h => by
    have e := rngD_at n (lo + 1) i (by omega)
    show (rngD (lo + 1) n)[i]? = _
    rw [e]
    congr 2
    omega
theorem rngD_map : ∀ (n : Nat) (lo : Int), rngD lo n = ((List.range n).map fun i => lo + (i : Nat)).map .int := fun n lo => by
  refine List.ext_getElem? fun i => ?_
  by_cases h : i < n
  · rw [rngD_at n lo i h, List.getElem?_map, List.getElem?_map, List.getElem?_range h]
    rfl
  · rw [List.getElem?_eq_none (by rw [rngD_len]; omega), List.getElem?_eq_none (by simp; omega)]
end
end DL

set_option Elab.async false
set_option linter.all false
set_option maxRecDepth 100000
set_option maxHeartbeats 1000000
/-! EN: enumerate over a tuple. -/
namespace EN
open PySem PySem.Spec PyProof.Rows L2

theorem new_one {v : Value} {o : Obj} {B0 : Heap → Prop} (B : Begins v o B0) :
    Meets (Builtin.«enumerate.__new__» ⟨[.type "enumerate", v], []⟩) (fun _ R s => B0 s.heap ∧
      R (.ok (.ret (.ref (s.heap.push o).objs.size))) { s with heap := (s.heap.push o).push { cls := .type "enumerate", data := .fields #[.none, .bool false, .ref s.heap.objs.size, rawInt 0, .none, .none] } }) :=
  .of_wp fun prog w A R s h => by
    obtain ⟨hp, gs, dr, tk, os⟩ := s
    obtain ⟨b0, hR⟩ := h
    have sub := sub_enumerate
    have it0 : ∀ {A' : Around} {E' : Value → Shared → Prop} {Q' : Value → Shared → Prop}, Q' (.ref hp.objs.size) ⟨hp.push o, gs, dr, tk, os⟩ → wpAny (model prog w) A' (pyIter v) Q' E' ⟨hp, gs, dr, tk, os⟩ :=
      fun q => B.iter prog w _ _ ⟨hp, gs, dr, tk, os⟩ _ b0 q
    wp_walk using it0
    refine wpAny_stack_any fun st => wpAny_pure ?_
    split
    · rename_i c _ _ _ _ _
      cases (c == Value.type "enumerate") <;> (wp_walk using it0; exact ⟨_, rfl, hR⟩)
    · wp_walk using it0
      exact ⟨_, rfl, hR⟩
section
variable {prog : Program} {w : World} {A : Around} {E : Value → Shared → Prop} {s : Shared}
theorem call_one {v : Value} {o : Obj} {B0 : Heap → Prop} {Q : Value → Shared → Prop} (B : Begins v o B0) (b0 : B0 s.heap)
    (fin : ∀ h', IsEnum h' (s.heap.objs.size + 1) s.heap.objs.size 0 .none → h'.get? s.heap.objs.size = some o →
      (∀ b u, s.heap.get? b = some u → h'.get? b = some u) → Q (.ref (s.heap.objs.size + 1)) { s with heap := h' }) :
    wpAny (model prog w) A (call (.type "enumerate") [v]) Q E s := by
  refine callType_new F.called_enumerate (by decide) (F.typeCall_enumerate_1 _) (F.newCall_enumerate_1 _) (fun obj => F.args_object_init_2 obj _) F.entry_enumerate_new (new_one B) ⟨b0, ?_⟩
  have z : (s.heap.push o).objs.size = s.heap.objs.size + 1 := Heap.size_push ..
  show _ ∧ _
  rw [z]
  have e0 : IsEnum ((s.heap.push o).push { cls := .type "enumerate", data := .fields #[.none, .bool false, .ref s.heap.objs.size, rawInt 0, .none, .none] }) (s.heap.objs.size + 1) s.heap.objs.size 0 .none := by
    have q := Heap.get?_push_size (s.heap.push o) (o := { cls := .type "enumerate", data := .fields #[.none, .bool false, .ref s.heap.objs.size, rawInt 0, .none, .none] }) rfl
    rwa [z] at q
  exact ⟨⟨_, e0, rfl⟩, fin _ e0 (Heap.get?_push_of_some _ (Heap.get?_push_size _ B.free)) fun b u q => Heap.get?_push_of_some _ (Heap.get?_push_of_some _ q)⟩
end

/-- the tuple at a, each item in a new pair with its place -/
def Itet (K : PySem.W.Frag) (a : Addr) : It :=
  ⟨fun i H => ∃ (xs : List V) (x : V), SqT K H a xs ∧ xs[i]? = some x, fun i H v H' => ∃ T x, v = .ref T ∧ H T = none ∧ H' = upd H T (.tup [.int (i : Nat), x]) ∧ ∀ xs, SqT K H a xs → xs[i]? = some x, fun i H => ∃ xs : List V, SqT K H a xs ∧ xs.length = i⟩
/-- what stands while it runs: the counter, the tuple's iterator, the tuple -/
def Standing (a e it : Addr) (i : Nat) (h : Heap) : Prop := (∃ old, IsEnum h e it ((i : Nat) : Int) old) ∧ h.IsTupleIter it a i ∧ e ≠ it ∧ a ≠ it
theorem turn_enumT {P : Program} {w : World} {K : PySem.W.Frag} {elts : List Expr} {kk : Nat} {tpos : Pos} (a e it : Addr) :
    Turn P w K (.Tuple elts kk tpos) (Itet K a) [e, it] e (Standing a e it) where
  mem := by simp
  obj := fun i h st b hb => by
    obtain ⟨⟨old, q⟩, ⟨o, ho, hc, hd⟩, _⟩ := st
    have two : b = e ∨ b = it := by simpa using hb
    rcases two with rfl | rfl
    · exact ⟨_, q, fun v z => nomatch z⟩
    · exact ⟨o, ho, fun v z => by rw [hd] at z; cases z⟩
  keep := fun i h h' st k => let ⟨⟨old, q⟩, r, n, m⟩ := st; ⟨⟨old, k e (by simp) _ q⟩, r.at fun o z => k it (by simp) o z, n, m⟩
  item := by
    intro X hP hw hK hc i pins s σ H E I hf st hg
    subst hP hw hK
    obtain ⟨⟨old, q⟩, hit, hne, hai⟩ := st
    obtain ⟨xs, x, hx, hi⟩ := hg
    obtain ⟨its, rv, p, hz⟩ := I.tuple hx
    obtain ⟨u, hu, ru⟩ := rv.get hi
    have le : e < s.heap.objs.size := Heap.lt_size q
    have li : it < s.heap.objs.size := by obtain ⟨_, z, _⟩ := hit; exact Heap.lt_size z
    have pt : s.heap.IsTuple a its.toArray := p
    have hs : i < its.toArray.size := by
      have := (List.getElem?_eq_some_iff.mp hu).1
      simpa using this
    have D := Draws.tuple (prog := X.prog) (w := X.w) (A := X.A.in1) (show X.A.in1.handled = none from I.ok.hd hc) it a hai its.toArray
    refine wpAny_pyNext_enum_itemD D q (And.intro hit pt) hs hne ?_ fun y h' tk hy ho st' hT hsz hk => ?_
    · simp only [List.mem_cons, List.not_mem_nil, or_false, not_or]
      refine ⟨hne, fun z => ?_⟩
      rw [z] at q
      obtain ⟨o2, h2, c2, _⟩ := pt
      rw [q] at h2
      cases h2
      exact absurd (show Value.type "enumerate" = Value.type "tuple" from c2) (by decide)
    have ey : y = u := by
      have z := hy
      simp only [List.getElem?_toArray] at z
      rw [hu] at z
      exact (Option.some.inj z).symm
    subst ey
    refine ⟨_, rfl, wpAny_letOwnedTupleGo_enum (s := { s with heap := h', toks := tk + 1 }) ho fun h'' he' sb => ?_⟩
    have hT2 : h''.get? s.heap.objs.size = some { cls := .type "tuple", data := .seq #[.int i tk, y] } := (sb.2 _ (Nat.ne_of_gt le)).trans hT
    have new : ObjOk X.prog X.w (upd H s.heap.objs.size (.tup [.int (i : Nat), x])) h'' s.heap.objs.size (.tup [.int (i : Nat), x]) :=
      ⟨by show 2 ≤ sizeLine; decide, [.int i tk, y], .cons ⟨_, rfl⟩ (.cons ru .nil), ⟨_, hT2, rfl, _, rfl⟩⟩
    have I1 : Inv X pins σ (upd H s.heap.objs.size (.tup [.int (i : Nat), x])) { s with heap := h'', toks := tk + 1 } :=
      I.turnedNew (ch := [e, it]) (fun b ob hb z => (sb.2 b (fun z => hb (by simp [z]))).trans (hk b ob (fun z => hb (by simp [z])) (fun z => hb (by simp [z])) z)) hf (Nat.le_refl _) new
    refine ⟨.ref s.heap.objs.size, _, I1, rfl, ⟨_, x, rfl, I.hok.fresh (Nat.le_refl _), rfl, fun ys hy => by rw [I.tuple_inj hy hx]; exact hi⟩, ⟨⟨y, ?_⟩, st'.1.at fun o z => (sb.2 it (Ne.symm hne)).trans z, hne, hai⟩, fun b hb => ?_⟩
    · have e1 : ((i + 1 : Nat) : Int) = (i : Int) + 1 := by omega
      rw [e1]
      exact he'
    · have lb : b < s.heap.objs.size := by
        have two : b = e ∨ b = it := by simpa using hb
        rcases two with rfl | rfl
        · exact le
        · exact li
      rw [upd_ne (Nat.ne_of_lt lb)]
      exact (hf b hb).1
  done := by
    intro X hP hw hK hc i pins s σ H E I hf st hg
    subst hP hw hK
    obtain ⟨⟨old, q⟩, hit, hne, hai⟩ := st
    obtain ⟨xs, hx, hl⟩ := hg
    obtain ⟨its, rv, p, hz⟩ := I.tuple hx
    obtain ⟨f0, f1, f2, f3, f4, f5⟩ := hf it (by simp)
    have el := rv.length
    have pt : s.heap.IsTuple a its.toArray := p
    have D := Draws.tuple (prog := X.prog) (w := X.w) (A := X.A.in1) (show X.A.in1.handled = none from I.ok.hd hc) it a hai its.toArray
    have ez : its.toArray.size = i := by
      rw [List.size_toArray]
      omega
    exact wpAny_pyNext_enum_endD D q (And.intro (ez.symm ▸ hit) pt) fun h' eb => ⟨rfl, I.turned (t' := s.toks) (fun b o hb z => eb b o hb z) f0 f1 f3 f4 f5⟩
  self := fun A i s Q E st h => let ⟨⟨_, q⟩, _⟩ := st; wpAny_pyIter_enum q h
def iEnumT (K : PySem.W.Frag) (ta : TA) : TI := fun σ H R => ta σ H fun vs H1 => ∃ a xs, vs = [.ref a] ∧ SqT K H1 a xs ∧ R (Itet K a) H1
theorem pi_enumT {X : Cx} {e : Expr} {ta : TA} {p pos tpos : Pos} {elts : List Expr} {kk : Nat} (hg : Gl X "enumerate") (hm : X.mg "enumerate" = none) (ha : PA X [e] ta) (hs : starEach [e] X.env = [(false, eval e X.env)] := by rfl) :
    PI X (.Tuple elts kk tpos) (.Call (.Name "enumerate" p) [e] [] pos) (iEnumT X.K ta) := by
  refine ⟨fun pins s σ H R I h => ?_⟩
  refine Call_ (ld_blt I hg hm boot_enumerate (PyProof.Rows.callWith_type1 (thn (ha.run pos pins s σ H _ I h) fun us s1 ⟨vs, H1, I1, r1, q1⟩ => ?_) hs rfl))
  obtain ⟨a, xs, ex, hq, q⟩ := q1
  subst ex
  cases r1 with
  | cons r rr =>
    cases rr
    cases r
    obtain ⟨its, rv, pt, hz⟩ := I1.tuple hq
    refine call_one (begins_tuple a its.toArray) pt fun h' q0 hit hk => wpAny_pyIter_enum q0 ?_
    have I2 : Inv X pins σ H1 { s1 with heap := h' } := I1.kept (t' := s1.toks) hk
    have la : a < s1.heap.objs.size := by
      obtain ⟨o2, h2, _⟩ := id pt
      exact Heap.lt_size h2
    refine ⟨s1.heap.objs.size + 1, [s1.heap.objs.size + 1, s1.heap.objs.size], _, _, H1, rfl, I2, turn_enumT a (s1.heap.objs.size + 1) s1.heap.objs.size, ⟨⟨.none, q0⟩, ⟨_, hit, rfl, rfl⟩, Nat.succ_ne_self _, Nat.ne_of_lt la⟩, fun b hb => ?_, q⟩
    have le : s1.heap.objs.size ≤ b := by
      have two : b = s1.heap.objs.size + 1 ∨ b = s1.heap.objs.size := by simpa using hb
      rcases two with rfl | rfl
      · exact Nat.le_succ _
      · exact Nat.le_refl _
    exact I1.fpOk le (I1.hok.fresh le)
end EN

set_option Elab.async false
set_option linter.all false
set_option maxRecDepth 100000
set_option maxHeartbeats 1600000
/-! DL6: walks by data; comprehensions by data. -/
namespace DL
open PySem PySem.Spec PyProof.Rows L2

/-- a walk whose turns give the data ds, while what G1 knows is known (G1 of the heap H1 at its start); fr: the heap may be written elsewhere -/
structure WalkD (K : PySem.W.Frag) (J : It) (P : Hp → Hp → Prop) (ds : List PyData) : Prop where
  small : ds.length ≤ big
  go : ∀ (i : Nat) (G H : Hp), P G H → Same G H → i < ds.length → J.go i H
  stop : ∀ (G H : Hp), P G H → Same G H → J.stop ds.length H
  yld : ∀ (i : Nat) (G H : Hp) (x : V) (H' : Hp), P G H → Same G H → i < ds.length → J.yld i H x H' → ∃ (G' : Hp) (d : PyData), Grow G H G' H' ∧ ds[i]? = some d ∧ Rp K G' x d
/-- of known data: a for may write elsewhere -/
def DW (K : PySem.W.Frag) (wi : TI) (env : List En) (o : Option (List PyData)) : Prop :=
  ∀ (G0 H0 G H : Hp) (σ : L2.St), EnvR K G0 H0 G H σ env → ∀ ds, o = some ds → ∀ R : It → Hp → Prop, (∀ J G1 H1, Grow G H G1 H1 → WalkD K J (fun G' _ => Same G1 G') ds → R J H1) → wi σ H R
/-- while the heap grows: a comprehension -/
def DWc (K : PySem.W.Frag) (wi : TI) (env : List En) (o : Option (List PyData)) : Prop :=
  ∀ (G0 H0 G H : Hp) (σ : L2.St), EnvR K G0 H0 G H σ env → ∀ ds, o = some ds → ∀ R : It → Hp → Prop, (∀ J G1 H1, Grow G H G1 H1 → WalkD K J (fun G' H' => Grow G1 H1 G' H') ds → R J H1) → wi σ H R

/-- a new list, not yet known -/
def DNl (K : PySem.W.Frag) (te : TE) (env : List En) (o : Option (List PyData)) : Prop :=
  ∀ (G0 H0 G H : Hp) (σ : L2.St), EnvR K G0 H0 G H σ env → ∀ ds, o = some ds → ∀ Q : VK, (∀ (D : Addr) (vs : List V) (G' H' : Hp), Grow G H G' H' → H D = none → G' D = none → H' D = some (.lst vs) → vs.length ≤ big → RpA K G' vs ds → Q (.ref D) H') → te σ H Q

section
variable {K : PySem.W.Frag} {env : List En} {ta tb tc te : TE} {oa ob oc : Option PyData} {xs : TA} {os : Option (List PyData)} {wi wi1 : TI} {ow : Option (List PyData)} {t u : TT} {vs vs1 : List Nat}
theorem DW.c (h : DW K wi env ow) : DWc K wi env ow := fun G0 H0 G H σ E ds e R r => h G0 H0 G H σ E ds e R fun J G1 H1 g w =>
  r J G1 H1 g ⟨w.small, fun i G' H' p => w.go i G' H' p.g, fun G' H' p => w.stop G' H' p.g, fun i G' H' x H2 p => w.yld i G' H' x H2 p.g⟩
theorem DNl.de (h : DNl K te env ow) : DE K te env (ow.bind fun rs => some (.list rs)) := fun G0 H0 G H σ E d e Q q => by
  obtain ⟨rs, hr, e⟩ := bnd e
  cases e
  refine h _ _ _ _ _ E rs hr _ fun D vs G' H' g hD hG hH hl r => ?_
  have z : Same G' (upd G' D (.lst vs)) := same_new hG
  refine q _ (upd G' D (.lst vs)) H' (g.freeze hD hG hH) (.lst (SqL.of upd_same) hl (r.mono z))
theorem dnl_disp (h : DA K xs env ow) : DNl K (tLst xs) env (ow.bind fun ds => bif smallO ds then some ds else none) := fun G0 H0 G H σ E ds e Q q => by
  obtain ⟨es, hd, e⟩ := bnd e
  obtain ⟨c, e⟩ := cnd e
  subst e
  refine h _ _ _ _ _ E es hd _ fun vs G1 H1 g1 r1 => ?_
  have hl : vs.length ≤ big := by rw [r1.len]; exact small_of c
  refine ⟨big_line hl, fun p hp => ?_⟩
  have hp0 : H p = none := none_sub g1.h hp
  exact q p vs G1 _ (g1.put _ hp0 (none_sub g1.sub hp)) hp0 (none_sub g1.sub hp) upd_same hl r1
theorem dnl_nil : DNl K (tLst tNil) env (some []) := fun G0 H0 G H σ E ds e Q q => by
  cases e
  refine ⟨Nat.zero_le _, fun p hp => ?_⟩
  exact q p [] G _ ((Grow.rfl' E.sub).put _ hp (none_sub E.sub hp)) hp (none_sub E.sub hp) upd_same (Nat.zero_le _) .nil
/-! sources -/
def lstO : PyData → Option (List PyData)
  | .list ds => some ds
  | _ => none
def tplO : PyData → Option (List PyData)
  | .tuple ds => some ds
  | _ => none
theorem walk_at {J : It} {P : Hp → Hp → Prop} {vs : List V} {ds : List PyData} {Gd : Hp → Prop} (w : Walk J vs.length Gd (YAt vs)) (hG : ∀ G H, P G H → Same G H → Gd H ∧ RpA K G vs ds) (hl : vs.length ≤ big) (he : vs.length = ds.length) : WalkD K J P ds :=
  ⟨he ▸ hl, fun i G H p s hi => w.goes i H (by omega) (hG G H p s).1, fun G H p s => by rw [← he]; exact w.stops H (hG G H p s).1, fun i G H x H' p s hi y => by
    obtain ⟨g, r⟩ := hG G H p s
    obtain ⟨rfl, e⟩ := w.yields i H x H' (by omega) g y
    obtain ⟨d, hd, rd⟩ := r.get e
    exact ⟨G, d, Grow.rfl' s, hd, rd⟩⟩
theorem dw_list (h : DE K ta env oa) : DW K (iList K ta) env (oa.bind lstO) := fun G0 H0 G H σ E ds e R q => by
  obtain ⟨x, hx, e⟩ := bnd e
  refine h _ _ _ _ _ E x hx _ fun v G1 H1 g1 r1 => ?_
  cases x with
  | list es =>
    cases e
    obtain ⟨a, vs, rfl, hs, hl, r⟩ := rp_list r1
    exact ⟨a, rfl, ⟨vs, sameL g1.sub hs⟩, q _ G1 H1 g1 (walk_at walk_list (fun G H p s => ⟨sameL (p.trans s) hs, r.mono p⟩) hl r.len)⟩
  | _ => cases e
theorem dw_tup (h : DE K ta env oa) : DW K (iTup K ta) env (oa.bind tplO) := fun G0 H0 G H σ E ds e R q => by
  obtain ⟨x, hx, e⟩ := bnd e
  refine h _ _ _ _ _ E x hx _ fun v G1 H1 g1 r1 => ?_
  cases x with
  | tuple es =>
    cases e
    obtain ⟨a, vs, rfl, hs, hl, r⟩ := rp_tuple r1
    exact ⟨a, rfl, ⟨vs, sameT g1.sub hs⟩, q _ G1 H1 g1 (walk_at walk_tup (fun G H p s => ⟨sameT (p.trans s) hs, r.mono p⟩) hl r.len)⟩
  | _ => cases e
/-- an own list, in a comprehension -/
theorem dw_own {i : Nat} {ds : List PyData} (h : env[i]? = some (.own ds)) : DWc K (iList K (tVar i)) env (some ds) := fun G0 H0 G H σ E ds' e R q => by
  cases e
  obtain ⟨a, vs, hs, ha, hl, r⟩ := E.at_ i _ h
  exact ⟨_, hs, a, rfl, ⟨vs, SqL.of ha⟩, q _ G H (Grow.rfl' E.sub) (walk_at walk_list (fun G' H' p s => ⟨SqL.of (p.h _ _ ha), r.mono p.g⟩) hl r.len)⟩
theorem walk_rng {P : Hp → Hp → Prop} (lo : Int) (n : Nat) (h : n ≤ big) : WalkD K (Itr lo n) P (rngD lo n) :=
  ⟨by rw [rngD_len]; exact h, fun i G H p s hi => by rw [rngD_len] at hi; exact hi, fun G H p s => by rw [rngD_len]; exact Nat.le_refl n, fun i G H x H' p s hi y => by
    rw [rngD_len] at hi
    obtain ⟨rfl, rfl⟩ := y
    exact ⟨G, _, Grow.rfl' s, rngD_at n lo i hi, .int _⟩⟩
noncomputable def rng1 : PyData → Option (List PyData)
  | .int (.ofNat n) => bif Nat.ble n 1000 then some (rngD 0 n) else none
  | _ => none
theorem dw_rng1 (h : DE K ta env oa) : DW K (iRng1 (tCons ta tNil)) env (oa.bind rng1) := fun G0 H0 G H σ E ds e R q => by
  obtain ⟨x, hx, e⟩ := bnd e
  refine h _ _ _ _ _ E x hx _ fun v G1 H1 g1 r1 => ?_
  cases x with
  | int i =>
    cases i with
    | ofNat n =>
      obtain ⟨c, e⟩ := cnd (show (bif Nat.ble n 1000 then some (rngD 0 n) else none) = some ds from e)
      subst e
      have hn : n ≤ 1000 := Nat.le_of_ble_eq_true c
      have hb : n ≤ big := Nat.le_trans hn (by decide)
      cases r1
      refine ⟨Int.ofNat n, rfl, by simp only [Int.ofNat_eq_natCast]; omega, by simp only [Int.ofNat_eq_natCast]; omega, ?_⟩
      exact q _ G1 H1 g1 (walk_rng 0 n hb)
    | negSucc n => cases e
  | _ => cases e
noncomputable def rng2 : PyData → PyData → Option (List PyData)
  | .int (.ofNat m), .int (.ofNat n) => bif Nat.ble n 1000 && Nat.ble m 1000 then some (rngD (.ofNat m) (Nat.sub n m)) else none
  | _, _ => none
theorem dw_rng2 (h : DE K ta env oa) (h2 : DE K tb env ob) : DW K (iRng2 (tCons ta (tCons tb tNil))) env (oa.bind fun x => ob.bind fun y => rng2 x y) := fun G0 H0 G H σ E ds e R q => by
  obtain ⟨x, hx, e⟩ := bnd e
  obtain ⟨y, hy, e⟩ := bnd e
  refine h _ _ _ _ _ E x hx _ fun v G1 H1 g1 r1 => ?_
  refine h2 _ _ _ _ _ (E.more g1) y hy _ fun w G2 H2 g2 r2 => ?_
  have no : ∀ {z : PyData}, rng2 x y = some ds → x = z → (∀ m, z ≠ .int (.ofNat m)) → False := fun {z} e1 e2 h3 => by
    subst e2
    cases x with
    | int i => cases i with
      | ofNat m => exact h3 m rfl
      | negSucc m => cases e1
    | _ => cases e1
  cases x with
  | int i =>
    cases i with
    | ofNat m =>
      cases y with
      | int j =>
        cases j with
        | ofNat n =>
          obtain ⟨c, e⟩ := cnd (show (bif Nat.ble n 1000 && Nat.ble m 1000 then some (rngD (.ofNat m) (Nat.sub n m)) else none) = some ds from e)
          subst e
          rw [Bool.and_eq_true] at c
          have hn : n ≤ 1000 := Nat.le_of_ble_eq_true c.1
          have hm : m ≤ 1000 := Nat.le_of_ble_eq_true c.2
          cases r1
          cases r2
          refine ⟨Int.ofNat m, Int.ofNat n, rfl, by simp only [Int.ofNat_eq_natCast]; omega, ?_⟩
          have e3 : (Int.ofNat n - Int.ofNat m).toNat = Nat.sub n m := by
            show (Int.ofNat n - Int.ofNat m).toNat = n - m
            simp only [Int.ofNat_eq_natCast]
            omega
          rw [e3]
          have hb : n - m ≤ big := Nat.le_trans (Nat.sub_le n m) (Nat.le_trans hn (by decide))
          exact q _ G2 H2 (g1.trans g2) (walk_rng _ _ hb)
        | negSucc n => cases e
      | _ => cases e
    | negSucc m => cases y <;> cases e
  | _ => cases y <;> cases e
/-- pairs of a place and an item -/
noncomputable def enumD (ds : List PyData) : List PyData := @List.rec PyData (fun _ => Nat → List PyData) (fun _ => []) (fun d _ ih i => .tuple [.int (.ofNat i), d] :: ih (Nat.succ i)) ds 0
noncomputable def enumFrom (ds : List PyData) (i : Nat) : List PyData := @List.rec PyData (fun _ => Nat → List PyData) (fun _ => []) (fun d _ ih i => .tuple [.int (.ofNat i), d] :: ih (Nat.succ i)) ds i
theorem enumFrom_len : ∀ (ds : List PyData) (i : Nat), (enumFrom ds i).length = ds.length
  | [], _ => rfl
  | _ :: r, i => congrArg Nat.succ (enumFrom_len r (i + 1))
theorem enumFrom_at : ∀ (ds : List PyData) (i j : Nat) (d : PyData), ds[j]? = some d → (enumFrom ds i)[j]? = some (.tuple [.int (.ofNat (i + j)), d])
  | [], _, _, _, h => by simp at h
  | d :: r, i, 0, _, h => by
    cases h
    rfl
  | d :: r, i, j + 1, x, h => by
    have := enumFrom_at r (i + 1) j x h
    show (enumFrom r (i + 1))[j]? = _
    rw [this]
    have e : i + 1 + j = i + (j + 1) := by omega
    rw [e]
theorem dw_enum (h : DE K ta env oa) : DW K (EN.iEnumT K (tCons ta tNil)) env (oa.bind fun x => (tplO x).bind fun ds => some (enumD ds)) := fun G0 H0 G H σ E ds e R q => by
  obtain ⟨x, hx, e⟩ := bnd e
  refine h _ _ _ _ _ E x hx _ fun v G1 H1 g1 r1 => ?_
  cases x with
  | tuple es =>
    cases e
    obtain ⟨a, vs, rfl, hs, hl, r⟩ := rp_tuple r1
    have en : enumD es = enumFrom es 0 := rfl
    have el : (enumFrom es 0).length = vs.length := by rw [enumFrom_len, r.len]
    refine ⟨a, vs, rfl, sameT g1.sub hs, q _ G1 H1 g1 ⟨by rw [en, el]; exact hl, fun i G H p s hi => ?_, fun G H p s => ⟨vs, sameT (p.trans s) hs, by rw [en, el]⟩, fun i G H x H' p s hi y => ?_⟩⟩
    · rw [en, el] at hi
      exact ⟨vs, vs[i], sameT (p.trans s) hs, by simp [hi]⟩
    · obtain ⟨T, z, rfl, hT, rfl, hz⟩ := y
      have hz' := hz vs (sameT (p.trans s) hs)
      obtain ⟨d, hd, rd⟩ := r.get hz'
      have g := Grow.lay (.tup [.int (i : Nat), z]) s hT
      refine ⟨_, .tuple [.int (.ofNat i), d], g, ?_, .tup (SqT.of upd_same) (by show 2 ≤ big; decide) (.cons (.int _) (.cons ((rd.mono p).mono g.g) .nil))⟩
      have := enumFrom_at es 0 i d hd
      rw [Nat.zero_add] at this
      exact this
  | _ => cases e
/-- the pairs of a known dict of ints -/
noncomputable def pairsD (es : List (PyData × PyData)) : List PyData := @List.rec (PyData × PyData) (fun _ => List PyData) [] (fun e _ ih => .tuple [e.1, e.2] :: ih) es
theorem pairsD_eq : ∀ es : List (PyData × PyData), pairsD es = es.map fun e => .tuple [e.1, e.2]
  | [] => rfl
  | e :: r => congrArg (_ :: ·) (pairsD_eq r)
def itemsK : PyData → Option (List (PyData × PyData))
  | .dict ((.int i, d) :: r) => some ((.int i, d) :: r)
  | _ => none
theorem rpK_len {G : Hp} : ∀ {kvs : List (Key × V)} {es : List (PyData × PyData)}, RpK K G kvs es → kvs.length = es.length
  | _, _, .nil => rfl
  | _, _, .cons _ t => congrArg Nat.succ (rpK_len t)
theorem rpK_at {G : Hp} : ∀ {kvs : List (Key × V)} {es : List (PyData × PyData)} {i : Nat} {k : Key} {v : V}, RpK K G kvs es → kvs[i]? = some (k, v) → ∃ j d, k = .inl j ∧ es[i]? = some (.int j, d) ∧ Rp K G v d
  | _, _, _, _, _, .nil, e => by simp at e
  | _, _, 0, _, _, .cons r _, e => by
    cases e
    exact ⟨_, _, rfl, rfl, r⟩
  | _, _, i + 1, k, v, .cons _ t, e => rpK_at (i := i) (k := k) (v := v) t e
theorem dw_items (h : DE K ta env oa) : DW K (iItems ta) env (oa.bind fun x => (itemsK x).bind fun es => some (pairsD es)) := fun G0 H0 G H σ E ds e R q => by
  obtain ⟨x, hx, e⟩ := bnd e
  obtain ⟨es, he, e⟩ := bnd e
  cases e
  refine h _ _ _ _ _ E x hx _ fun v G1 H1 g1 r1 => ?_
  have fin : ∀ {a : Addr} {o : Obj} {kvs : List (Key × V)}, G1 a = some (.frz o (.dK kvs)) → kvs.length ≤ big → RpK K G1 kvs es → v = .ref a → ∃ d o kvs, v = .ref d ∧ H1 d = some (.frz o (.dK kvs)) ∧ R (Iti d o kvs) H1 := fun {a o kvs} ha hl r ev => by
    have el := rpK_len r
    refine ⟨a, o, kvs, ev, g1.sub _ _ ha, q _ G1 H1 g1 ⟨?_, fun i G H p s hi => ⟨s _ _ (p _ _ ha), ?_⟩, fun G H p s => ⟨s _ _ (p _ _ ha), ?_⟩, fun i G H x H' p s hi y => ?_⟩⟩
    · rw [pairsD_eq, List.length_map, ← el]
      exact hl
    · rw [pairsD_eq, List.length_map] at hi
      omega
    · rw [pairsD_eq, List.length_map]
      omega
    · obtain ⟨T, k, z, hk, rfl, hT, rfl⟩ := y
      obtain ⟨j, d, rfl, hd, rd⟩ := rpK_at r hk
      have g := Grow.lay (.tup [kV (.inl j), z]) s hT
      refine ⟨_, .tuple [.int j, d], g, ?_, .tup (SqT.of upd_same) (by show 2 ≤ big; decide) (.cons (.int _) (.cons ((rd.mono p).mono g.g) .nil))⟩
      rw [pairsD_eq, List.getElem?_map, hd]
      rfl
  cases x with
  | dict ds =>
    cases ds with
    | nil => cases he
    | cons p r =>
      obtain ⟨k, d⟩ := p
      cases k with
      | int i =>
        cases he
        cases r1 with
        | dk ha hl r => exact fin ha hl r rfl
        | dn _ _ _ _ r n =>
          obtain ⟨dk, dv, t, e1, no⟩ := rpN_ni r n
          cases e1
          exact absurd rfl (no i)
      | _ => cases he
  | _ => cases he

/-! wiping -/
theorem wipe_set {σ : L2.St} {j : Nat} {y : Option V} : ∀ {vs : List Nat}, j ∈ vs → ∀ τ : L2.St, τ.length = σ.length → (∀ k, k ∉ vs → τ[k]? = σ[k]?) → wipe τ vs = wipe σ vs := fun {vs} _ τ hl hk => by
  have len : ∀ (a : L2.St) (l : List Nat), (wipe a l).length = a.length := fun a l => wipe_length a l
  refine List.ext_getElem? fun k => ?_
  by_cases h : k ∈ vs
  · have one : ∀ (a : L2.St) (l : List Nat), k ∈ l → k < a.length → (wipe a l)[k]? = some none := by
      intro a l
      induction l with
      | nil => intro h; simp at h
      | cons v r ih =>
        intro h hlt
        unfold wipe
        by_cases e : v = k
        · subst e
          exact List.getElem?_set_self (by rw [wipe_length]; exact hlt)
        · rw [List.getElem?_set_ne e]
          exact ih ((List.mem_cons.mp h).resolve_left fun z => e z.symm) hlt
    by_cases hlt : k < σ.length
    · rw [one σ vs h hlt, one τ vs h (by omega)]
    · rw [List.getElem?_eq_none (by rw [len]; omega), List.getElem?_eq_none (by rw [len]; omega)]
  · rw [wipe_out h, wipe_out h]
    exact hk k h
def inN (j : Nat) : List Nat → Bool
  | [] => false
  | v :: r => Nat.beq v j || inN j r
theorem inN_mem {j : Nat} : ∀ {vs : List Nat}, inN j vs = true → j ∈ vs
  | [], h => by cases h
  | v :: r, h => by
    have h : (Nat.beq v j || inN j r) = true := h
    rw [Bool.or_eq_true] at h
    rcases h with h | h
    · rw [Nat.eq_of_beq_eq_true h]
      exact List.mem_cons_self
    · exact List.mem_cons_of_mem _ (inN_mem h)
theorem wipe_one {σ : L2.St} {j : Nat} {y : Option V} (h : inN j vs = true) : wipe ((wipe σ vs).set j y) vs = wipe σ vs := by
  refine wipe_set (σ := σ) (y := y) (inN_mem h) _ (by rw [List.length_set, wipe_length]) fun k hk => ?_
  rw [List.getElem?_set_ne (show j ≠ k from fun e => hk (e ▸ inN_mem h)), wipe_out hk]
theorem wipe_two {σ : L2.St} {j k : Nat} {y z : Option V} (h : inN j vs = true) (h2 : inN k vs = true) : wipe (((wipe σ vs).set j y).set k z) vs = wipe σ vs := by
  refine wipe_set (σ := σ) (y := y) (inN_mem h) _ (by rw [List.length_set, List.length_set, wipe_length]) fun i hi => ?_
  rw [List.getElem?_set_ne (show k ≠ i from fun e => hi (e ▸ inN_mem h2)), List.getElem?_set_ne (show j ≠ i from fun e => hi (e ▸ inN_mem h)), wipe_out hi]
def wipeE (env : List En) : List Nat → List En
  | [] => env
  | v :: r => (wipeE env r).set v .un
theorem EnvR.unset {G0 H0 G H : Hp} {σ : L2.St} {env : List En} (E : EnvR K G0 H0 G H σ env) (i : Nat) (y : Option V) : EnvR K G0 H0 G H (σ.set i y) (env.set i .un) where
  grow := E.grow
  len := by rw [List.length_set, List.length_set]; exact E.len
  at_ := fun j e h => by
    rcases set_get h with ⟨rfl, rfl⟩ | ⟨ne, h⟩
    · exact True.intro
    · rw [List.getElem?_set_ne ne]
      exact E.at_ j e h
  own := fun j e a h o hs => by
    rcases set_get h with ⟨rfl, rfl⟩ | ⟨ne, h⟩
    · cases o
    · rw [List.getElem?_set_ne ne] at hs
      exact E.own j e a h o hs
  sep := fun j k e e' a h o h' o' hs hs' => by
    rcases set_get h with ⟨rfl, rfl⟩ | ⟨ne, h⟩
    · cases o
    · rcases set_get h' with ⟨rfl, rfl⟩ | ⟨ne', h'⟩
      · cases o'
      · rw [List.getElem?_set_ne ne] at hs
        rw [List.getElem?_set_ne ne'] at hs'
        exact E.sep j k e e' a h o h' o' hs hs'
theorem EnvR.wiped {G0 H0 G H : Hp} {σ : L2.St} {env : List En} (E : EnvR K G0 H0 G H σ env) : ∀ vs : List Nat, EnvR K G0 H0 G H (wipe σ vs) (wipeE env vs)
  | [] => E
  | v :: r => (E.wiped r).unset v none

/-! one clause -/
noncomputable def compL (ft : PyData → Option Bool) (fe : PyData → Option PyData) (ds : List PyData) : Option (List PyData) := @List.rec PyData (fun _ => Option (List PyData)) (some []) (fun d _ ih => (ft d).bind fun b => bif b then (fe d).bind fun r => ih.bind fun rs => some (r :: rs) else ih) ds
theorem compL_len {ft : PyData → Option Bool} {fe : PyData → Option PyData} : ∀ {ds rs : List PyData}, compL ft fe ds = some rs → rs.length ≤ ds.length
  | [], rs, e => by
    cases (show some [] = some rs from e)
    exact Nat.le_refl _
  | d :: r, rs, e => by
    obtain ⟨b, hb, e⟩ := bnd (show (ft d).bind (fun b => bif b then (fe d).bind fun r2 => (compL ft fe r).bind fun rs => some (r2 :: rs) else compL ft fe r) = some rs from e)
    cases b with
    | false => exact Nat.le_trans (compL_len (show compL ft fe r = some rs from e)) (Nat.le_succ _)
    | true =>
      obtain ⟨y, hy, e⟩ := bnd (show (fe d).bind (fun r2 => (compL ft fe r).bind fun rs => some (r2 :: rs)) = some rs from e)
      obtain ⟨ys, hys, e⟩ := bnd e
      cases e
      exact Nat.succ_le_succ (compL_len hys)
/-- what stands as a comprehension runs: D holds what has come, all that G knows grew from G1 -/
def LcP (K : PySem.W.Frag) (G1 H1 : Hp) (D : Addr) (acc : List PyData) (H : Hp) : Prop := ∃ (G : Hp) (vs : List V), Grow G1 H1 G H ∧ G D = none ∧ H D = some (.lst vs) ∧ vs.length ≤ big ∧ RpA K G vs acc
theorem LcP.start {G1 H1 : Hp} {D : Addr} (s : Same G1 H1) (h : H1 D = none) : LcP K G1 H1 D [] (upd H1 D (.lst [])) :=
  ⟨G1, [], (Grow.rfl' s).put _ h (none_sub s h), none_sub s h, upd_same, Nat.zero_le _, .nil⟩
theorem LcP.app {G1 H1 : Hp} {D : Addr} {acc : List PyData} {G H G' H' : Hp} {vs : List V} {y : V} {d : PyData} (hD : H1 D = none) (g : Grow G1 H1 G H) (hG : G D = none) (hH : H D = some (.lst vs)) (r : RpA K G vs acc) (g' : Grow G H G' H') (ry : Rp K G' y d) (hl : vs.length < big) :
    ∃ acc', H' D = some (.lst acc') ∧ acc'.length < sizeLine ∧ LcP K G1 H1 D (acc ++ [d]) (upd H' D (.lst (acc' ++ [y]))) := by
  have hG' : G' D = none := g'.new D (by rw [hH]; exact fun z => nomatch z) hG
  exact ⟨vs, g'.h _ _ hH, big_lt hl, G', vs ++ [y], (g.trans g').put _ hD hG', hG', upd_same, by rw [List.length_append]; exact hl, (r.mono g'.g).app (.cons ry .nil)⟩
theorem LcP.fin {G1 H1 : Hp} {D : Addr} {rs : List PyData} {H : Hp} {Q : VK} {Gs Hs : Hp} (hD : H1 D = none) (g1 : Grow Gs Hs G1 H1) (p : LcP K G1 H1 D rs H) (q : ∀ (D : Addr) (vs : List V) (G' H' : Hp), Grow Gs Hs G' H' → Hs D = none → G' D = none → H' D = some (.lst vs) → vs.length ≤ big → RpA K G' vs rs → Q (.ref D) H') : Q (.ref D) H := by
  obtain ⟨G, vs, g, hG, hH, hl, r⟩ := p
  exact q D vs G H (g1.trans g) (none_sub g1.h hD) hG hH hl r
theorem LcP.grow {G1 H1 : Hp} {D : Addr} {acc : List PyData} {G H G' H' : Hp} {vs : List V} (g : Grow G1 H1 G H) (hG : G D = none) (hH : H D = some (.lst vs)) (hl : vs.length ≤ big) (r : RpA K G vs acc) (g' : Grow G H G' H') : LcP K G1 H1 D acc H' :=
  ⟨G', vs, g.trans g', g'.new D (by rw [hH]; exact fun z => nomatch z) hG, g'.h _ _ hH, hl, r.mono g'.g⟩
/-- the turns of a comprehension by data, for any target: at turn i its slots are σ2, of the environment env2 -/
theorem dnl_lcg {g : TG} {ft : PyData → Option Bool} {fe : PyData → Option PyData} (hw : DWc K wi env ow)
    (hg : ∀ (d : PyData) (b : Bool), ft d = some b → ∀ (G0 H0 G H : Hp) (σ : L2.St) (x : V), EnvR K G0 H0 G H (wipe σ vs) (wipeE env vs) → Rp K G x d → ∀ Q : L2.St → Hp → Prop,
      (∀ σ2 env2, wipe σ2 vs = wipe σ vs → EnvR K G0 H0 G H σ2 env2 → DT K t env2 (ft d) → DE K te env2 (fe d) → Q σ2 H) → g x (wipe σ vs) H Q) :
    DNl K (tLc wi g t te vs) env (ow.bind fun ds => compL ft fe ds) := fun G0 H0 G H σ E rs e Q q => by
  obtain ⟨ds, hd, hr⟩ := bnd e
  refine hw _ _ _ _ _ E ds hd _ fun J G1 H1 g1 w D hD => ?_
  have E1 := E.more g1
  refine ⟨fun i m H => m = ds.length - i ∧ i ≤ ds.length ∧ ∃ acc rest, LcP K G1 H1 D acc H ∧ acc ++ rest = rs ∧ compL ft fe (ds.drop i) = some rest ∧ acc.length ≤ i, ⟨_, rfl, Nat.zero_le _, [], rs, LcP.start E1.sub hD, rfl, hr, Nat.le_refl _⟩, ?_⟩
  rintro i m H2 ⟨rfl, hi, acc, rest, ⟨G2, vs2, g2, hG2, hH2, hl2, r2⟩, hacc, hrest, hai⟩
  by_cases hlt : i < ds.length
  · refine .inr ⟨w.go i G2 H2 g2 g2.sub hlt, fun H' => i + 1 ≤ ds.length ∧ ∃ acc rest, LcP K G1 H1 D acc H' ∧ acc ++ rest = rs ∧ compL ft fe (ds.drop (i + 1)) = some rest ∧ acc.length ≤ i + 1, fun H' p => ⟨_, by omega, rfl, p⟩, fun x H3 y => ?_⟩
    obtain ⟨G3, d, g3, hd3, r3⟩ := w.yld i G2 H2 x H3 g2 g2.sub hlt y
    have edrop : ds.drop i = d :: ds.drop (i + 1) := by
      rw [List.drop_eq_getElem_cons hlt]
      rw [List.getElem?_eq_getElem hlt] at hd3
      rw [Option.some.inj hd3]
    rw [edrop] at hrest
    obtain ⟨b, hb, hrest⟩ := bnd (show (ft d).bind (fun b => bif b then (fe d).bind fun r2 => (compL ft fe (ds.drop (i + 1))).bind fun rs => some (r2 :: rs) else compL ft fe (ds.drop (i + 1))) = some rest from hrest)
    have hH3 : H3 D = some (.lst vs2) := g3.h _ _ hH2
    have hG3 : G3 D = none := g3.new D (by rw [hH2]; exact fun z => nomatch z) hG2
    -- the comprehension's heap as an environment: the list at D is not known
    have E2 : EnvR K G0 H0 G2 H2 σ env := E1.more g2
    have E3 := E2.more g3
    refine hg d b hb G0 H0 G3 H3 σ x (E3.wiped vs) r3 _ fun σ2 env2 hwp E4 ht he => ⟨hwp, ?_⟩
    refine ht _ _ _ _ _ E4 b hb _ fun G5 H5 g5 => ?_
    cases b with
    | false =>
      have hrest : compL ft fe (ds.drop (i + 1)) = some rest := hrest
      exact ⟨hlt, acc, rest, LcP.grow g2 hG2 hH2 hl2 r2 (g3.trans g5), hacc, hrest, by omega⟩
    | true =>
      obtain ⟨z, hz, hrest⟩ := bnd (show (fe d).bind (fun r2 => (compL ft fe (ds.drop (i + 1))).bind fun rs => some (r2 :: rs)) = some rest from hrest)
      obtain ⟨zs, hzs, hrest⟩ := bnd hrest
      cases hrest
      refine he _ _ _ _ _ (E4.more g5) z hz _ fun v G6 H6 g6 r6 => ?_
      have hlv : vs2.length < big := by
        have h1 := w.small
        have h2 := r2.len
        omega
      obtain ⟨acc', a1, a2, a3⟩ := LcP.app hD g2 hG2 hH2 r2 ((g3.trans g5).trans g6) r6 hlv
      refine ⟨acc', a1, a2, hlt, acc ++ [z], zs, a3, ?_, hzs, ?_⟩
      · rw [← hacc, List.append_assoc]
        rfl
      · rw [List.length_append]
        show acc.length + 1 ≤ i + 1
        omega
  · have e : i = ds.length := by omega
    subst e
    rw [List.drop_length] at hrest
    cases (show some [] = some rest from hrest)
    rw [List.append_nil] at hacc
    subst hacc
    exact .inl ⟨w.stop G2 H2 g2 g2.sub, LcP.fin hD g1 ⟨G2, vs2, g2, hG2, hH2, hl2, r2⟩ q⟩
theorem dnl_lc {j : Nat} {ft : PyData → Option Bool} {fe : PyData → Option PyData} (hj : inN j vs = true) (hw : DWc K wi env ow) (ht : ∀ d, DT K t ((wipeE env vs).set j (.dat d)) (ft d)) (he : ∀ d, DE K te ((wipeE env vs).set j (.dat d)) (fe d)) :
    DNl K (tLc wi (gName j) t te vs) env (ow.bind fun ds => compL ft fe ds) :=
  dnl_lcg hw fun d b hb G0 H0 G H σ x E r Q q => q _ _ (wipe_one hj) (E.set j r) (ht d) (he d)
/-- for a, b in pairs -/
def prO {α : Type} (f : PyData → PyData → Option α) : PyData → Option α
  | .tuple [x, y] => f x y
  | _ => none
theorem prO_of {α : Type} {f : PyData → PyData → Option α} {d : PyData} {z : α} (h : prO f d = some z) : ∃ x y, d = .tuple [x, y] := by
  unfold prO at h
  split at h
  · exact ⟨_, _, rfl⟩
  · cases h
theorem g_pair {G H : Hp} {σ : L2.St} {v : V} {x y : PyData} {i j : Nat} {Q : L2.St → Hp → Prop} (s : Same G H) (r : Rp K G v (.tuple [x, y])) (q : ∀ a b, Rp K G a x → Rp K G b y → Q ((σ.set i (some a)).set j (some b)) H) : gTup K 2 (gCons (gName i) (gCons (gName j) gNil)) v σ H Q := by
  obtain ⟨a, vs, rfl, hs, hl, r⟩ := rp_tuple r
  cases r with
  | cons r1 r =>
    cases r with
    | cons r2 r =>
      cases r
      exact ⟨a, _, rfl, sameT s hs, rfl, _, _, rfl, _, _, rfl, rfl, q _ _ r1 r2⟩
theorem dnl_lcp {i j : Nat} {ft : PyData → PyData → Option Bool} {fe : PyData → PyData → Option PyData} (hi : inN i vs = true) (hj : inN j vs = true) (hw : DWc K wi env ow) (ht : ∀ x y, DT K t (((wipeE env vs).set i (.dat x)).set j (.dat y)) (ft x y)) (he : ∀ x y, DE K te (((wipeE env vs).set i (.dat x)).set j (.dat y)) (fe x y)) :
    DNl K (tLc wi (gTup K 2 (gCons (gName i) (gCons (gName j) gNil))) t te vs) env (ow.bind fun ds => compL (prO ft) (prO fe) ds) :=
  dnl_lcg hw fun d b hb G0 H0 G H σ x E r Q q => by
    obtain ⟨x1, x2, rfl⟩ := prO_of hb
    exact g_pair E.sub r fun a b ra rb => q _ _ (wipe_two hi hj) ((E.set i ra).set j rb) (ht x1 x2) (he x1 x2)
end
end DL

set_option Elab.async false
set_option linter.all false
set_option maxRecDepth 100000
set_option maxHeartbeats 1600000
/-! DL6b: comprehensions of two clauses, by data. -/
namespace DL
open PySem PySem.Spec PyProof.Rows L2
section
variable {K : PySem.W.Frag} {env : List En} {te : TE} {wi wi1 : TI} {ow : Option (List PyData)} {t u : TT} {vs vs1 : List Nat}
noncomputable def mapD (fe : PyData → Option PyData) (ds : List PyData) : Option (List PyData) := @List.rec PyData (fun _ => Option (List PyData)) (some []) (fun d _ ih => (fe d).bind fun r => ih.bind fun rs => some (r :: rs)) ds
noncomputable def compL2 (f1 : PyData → Option (List PyData)) (fe : PyData → PyData → Option PyData) (ds : List PyData) : Option (List PyData) := @List.rec PyData (fun _ => Option (List PyData)) (some []) (fun d _ ih => (f1 d).bind fun es => (mapD (fe d) es).bind fun ys => ih.bind fun zs => some (ys ++ zs)) ds
theorem dnl_lc2 {j k : Nat} {f1 : PyData → Option (List PyData)} {fe : PyData → PyData → Option PyData} (hj : inN j vs = true) (hk : inN k vs1 = true) (hw : DWc K wi env ow) (hw1 : ∀ d, DW K wi1 ((wipeE env vs).set j (.dat d)) (f1 d))
    (he : ∀ d e, DE K te ((wipeE ((wipeE env vs).set j (.dat d)) vs1).set k (.dat e)) (fe d e)) :
    DNl K (tLc2 wi (gName j) tYes wi1 (gName k) tYes te vs vs1) env (ow.bind fun ds => (compL2 f1 fe ds).bind fun rs => bif smallO rs then some rs else none) := fun G0 H0 G H σ E d e Q q => by
  obtain ⟨ds, hd, e⟩ := bnd e
  obtain ⟨rs, hr, e⟩ := bnd e
  obtain ⟨hz, e⟩ := cnd e
  subst e
  have hsm := small_of hz
  refine hw _ _ _ _ _ E ds hd _ fun J G1 H1 g1 w D hD => ?_
  have E1 := E.more g1
  refine ⟨fun i m H => m = ds.length - i ∧ i ≤ ds.length ∧ ∃ acc rest, LcP K G1 H1 D acc H ∧ acc ++ rest = rs ∧ compL2 f1 fe (ds.drop i) = some rest, ⟨_, rfl, Nat.zero_le _, [], rs, LcP.start E1.sub hD, rfl, hr⟩, ?_⟩
  rintro i m H2 ⟨rfl, hi, acc, rest, ⟨G2, vs2, g2, hG2, hH2, hl2, r2⟩, hacc, hrest⟩
  by_cases hlt : i < ds.length
  · refine .inr ⟨w.go i G2 H2 g2 g2.sub hlt, fun H' => i + 1 ≤ ds.length ∧ ∃ acc rest, LcP K G1 H1 D acc H' ∧ acc ++ rest = rs ∧ compL2 f1 fe (ds.drop (i + 1)) = some rest, fun H' p => ⟨_, by omega, rfl, p⟩, fun x H3 y => ?_⟩
    obtain ⟨G3, d, g3, hd3, r3⟩ := w.yld i G2 H2 x H3 g2 g2.sub hlt y
    have edrop : ds.drop i = d :: ds.drop (i + 1) := by
      rw [List.drop_eq_getElem_cons hlt]
      rw [List.getElem?_eq_getElem hlt] at hd3
      rw [Option.some.inj hd3]
    rw [edrop] at hrest
    obtain ⟨es, hes, hrest⟩ := bnd (show (f1 d).bind (fun es => (mapD (fe d) es).bind fun ys => (compL2 f1 fe (ds.drop (i + 1))).bind fun zs => some (ys ++ zs)) = some rest from hrest)
    obtain ⟨ys, hys, hrest⟩ := bnd hrest
    obtain ⟨zs, hzs, hrest⟩ := bnd hrest
    cases hrest
    have E2 : EnvR K G0 H0 G2 H2 σ env := E1.more g2
    have E3 := ((E2.more g3).wiped vs).set j r3
    refine ⟨wipe_one hj, ?_⟩
    show wi1 ((wipe σ vs).set j (some x)) H3 _
    refine hw1 d _ _ _ _ _ E3 es hes _ fun J1 G4 H4 g4 w1 => ?_
    have g24 : Grow G1 H1 G4 H4 := (g2.trans g3).trans g4
    refine ⟨fun i' m' H => m' = es.length - i' ∧ i' ≤ es.length ∧ ∃ acc' rest' G vs, Grow G1 H1 G H ∧ Same G4 G ∧ G D = none ∧ H D = some (.lst vs) ∧ vs.length ≤ big ∧ RpA K G vs acc' ∧ acc' ++ rest' = acc ++ ys ∧ mapD (fe d) (es.drop i') = some rest',
      ⟨_, rfl, Nat.zero_le _, acc, ys, G4, vs2, g24, Same.refl _, ?_, ?_, hl2, (r2.mono g3.g).mono g4.g, rfl, hys⟩, ?_⟩
    · exact g4.new D (by rw [g3.h _ _ hH2]; exact fun z => nomatch z) (g3.new D (by rw [hH2]; exact fun z => nomatch z) hG2)
    · exact g4.h _ _ (g3.h _ _ hH2)
    · rintro i' m' H5 ⟨rfl, hi', acc', rest', G5, vs5, g5, s5, hG5, hH5, hl5, r5, hacc', hrest'⟩
      by_cases hlt' : i' < es.length
      · refine .inr ⟨w1.go i' G5 H5 s5 g5.sub hlt', fun H' => i' + 1 ≤ es.length ∧ ∃ acc' rest' G vs, Grow G1 H1 G H' ∧ Same G4 G ∧ G D = none ∧ H' D = some (.lst vs) ∧ vs.length ≤ big ∧ RpA K G vs acc' ∧ acc' ++ rest' = acc ++ ys ∧ mapD (fe d) (es.drop (i' + 1)) = some rest', fun H' p => ⟨_, by omega, rfl, p⟩, fun x' H6 y' => ?_⟩
        obtain ⟨G6, e, g6, he6, r6⟩ := w1.yld i' G5 H5 x' H6 s5 g5.sub hlt' y'
        have edrop' : es.drop i' = e :: es.drop (i' + 1) := by
          rw [List.drop_eq_getElem_cons hlt']
          rw [List.getElem?_eq_getElem hlt'] at he6
          rw [Option.some.inj he6]
        rw [edrop'] at hrest'
        obtain ⟨z, hz1, hrest'⟩ := bnd (show (fe d e).bind (fun r => (mapD (fe d) (es.drop (i' + 1))).bind fun rs => some (r :: rs)) = some rest' from hrest')
        obtain ⟨rs', hrs', hrest'⟩ := bnd hrest'
        cases hrest'
        refine ⟨wipe_one hk, ?_⟩
        show te _ H6 _
        have E6 := (((((E1.more g5).wiped vs).set j (((r3.mono g4.g).mono s5))).more g6).wiped vs1).set k r6
        refine he d e _ _ _ _ _ E6 z hz1 _ fun v G7 H7 g7 r7 => ?_
        have hlv : vs5.length < big := by
          have h1 := congrArg List.length hacc'
          have h2 := congrArg List.length hacc
          have h3 := r5.len
          simp only [List.length_append, List.length_cons] at h1 h2
          omega
        have gg := g6.trans g7
        have hG7 := gg.new D (by rw [hH5]; exact fun z => nomatch z) hG5
        refine ⟨vs5, gg.h _ _ hH5, big_lt hlv, hlt', acc' ++ [z], rs', G7, vs5 ++ [v], (g5.trans gg).put _ hD hG7, s5.trans gg.g, hG7, upd_same, by rw [List.length_append]; exact hlv, (r5.mono gg.g).app (.cons r7 .nil), ?_, hrs'⟩
        rw [← hacc', List.append_assoc]
        rfl
      · have ei : i' = es.length := by omega
        subst ei
        rw [List.drop_length] at hrest'
        cases (show some [] = some rest' from hrest')
        rw [List.append_nil] at hacc'
        subst hacc'
        refine .inl ⟨w1.stop G5 H5 s5 g5.sub, hlt, acc ++ ys, zs, ⟨G5, vs5, g5, hG5, hH5, hl5, r5⟩, ?_, hzs⟩
        rw [← hacc, List.append_assoc]
  · have ei : i = ds.length := by omega
    subst ei
    rw [List.drop_length] at hrest
    cases (show some [] = some rest from hrest)
    rw [List.append_nil] at hacc
    subst hacc
    exact .inl ⟨w.stop G2 H2 g2 g2.sub, LcP.fin hD g1 ⟨G2, vs2, g2, hG2, hH2, hl2, r2⟩ q⟩
end
end DL

set_option Elab.async false
set_option linter.all false
set_option maxRecDepth 100000
set_option maxHeartbeats 1600000
/-! DL7: statements by data. -/
namespace DL
open PySem PySem.Spec PyProof.Rows L2
/-- a slot is set to a new list -/
theorem EnvR.newOwn {K : PySem.W.Frag} {G0 H0 G H G' H' : Hp} {σ : L2.St} {env : List En} {i : Nat} {L : Addr} {vs : List V} {ds : List PyData} (E : EnvR K G0 H0 G H σ env) (g : Grow G H G' H') (hL : H L = none) (hG : G' L = none) (hH : H' L = some (.lst vs)) (hl : vs.length ≤ big) (r : RpA K G' vs ds) (hi : i < env.length) :
    EnvR K G0 H0 G' H' (σ.set i (some (.ref L))) (env.set i (.own ds)) := by
  have E2 := E.more g
  have hH0 : H0 L = none := none_sub E.grow.h hL
  have old : ∀ (j : Nat) (e' : En) (a : Addr), env[j]? = some e' → e'.isOwn = true → σ[j]? = some (some (V.ref a)) → a ≠ L := fun j e' a h o hs z => by
    have h3 := E.at_ j e' h
    rw [hs] at h3
    exact h3.there o (z ▸ hL)
  have hi2 : i < σ.length := by rw [E.len]; exact hi
  refine ⟨E2.grow, by rw [List.length_set, List.length_set]; exact E.len, fun j e' h => ?_, fun j e' a h o hs => ?_, fun j k e1 e2 a h o h' o' hs hs' => ?_⟩
  · rcases set_get h with ⟨rfl, rfl⟩ | ⟨ne, h⟩
    · rw [List.getElem?_set_self hi2]
      exact ⟨L, vs, rfl, hH, hl, r⟩
    · rw [List.getElem?_set_ne ne]
      exact E2.at_ j e' h
  · rcases set_get h with ⟨rfl, rfl⟩ | ⟨ne, h⟩
    · rw [List.getElem?_set_self hi2] at hs
      cases hs
      exact ⟨hG, hH0⟩
    · rw [List.getElem?_set_ne ne] at hs
      exact E2.own j e' a h o hs
  · rcases set_get h with ⟨rfl, rfl⟩ | ⟨ne, hq⟩
    · rw [List.getElem?_set_self hi2] at hs
      cases hs
      rcases set_get h' with ⟨rfl, rfl⟩ | ⟨ne', h'⟩
      · rfl
      · rw [List.getElem?_set_ne ne'] at hs'
        exact absurd rfl (old _ _ _ h' o' hs')
    · rw [List.getElem?_set_ne ne] at hs
      have q := old _ _ _ hq o hs
      rcases set_get h' with ⟨rfl, rfl⟩ | ⟨ne', h'⟩
      · rw [List.getElem?_set_self hi2] at hs'
        cases hs'
        exact absurd rfl q
      · rw [List.getElem?_set_ne ne'] at hs'
        exact E.sep j k e1 e2 a hq o h' o' hs hs'
section
variable (K : PySem.W.Frag)
/-- falls through, to the environment st s -/
def DN {S : Type} (ts : TS) (env : List En) (o : Option S) (st : S → List En) : Prop :=
  ∀ (G0 H0 G H : Hp) (σ : L2.St), EnvR K G0 H0 G H σ env → ∀ s, o = some s → ∀ D : Ends, (∀ σ' G' H', EnvR K G0 H0 G' H' σ' (st s) → Same G G' → D.nx σ' H') → ts D σ H
/-- returns -/
def DR (ts : TS) (env : List En) (o : Option PyData) : Prop :=
  ∀ (G0 H0 G H : Hp) (σ : L2.St), EnvR K G0 H0 G H σ env → ∀ d, o = some d → ∀ D : Ends, (∀ v G' H', Grow G0 H0 G' H' → Rp K G' v d → D.rt v H') → ts D σ H
/-- either -/
inductive Out (S : Type) where
  | ret (d : PyData)
  | nxt (s : S)
def DB {S : Type} (ts : TS) (env : List En) (o : Option (Out S)) (st : S → List En) : Prop :=
  ∀ (G0 H0 G H : Hp) (σ : L2.St), EnvR K G0 H0 G H σ env → ∀ r, o = some r → ∀ D : Ends, (∀ s, r = .nxt s → ∀ σ' G' H', EnvR K G0 H0 G' H' σ' (st s) → Same G G' → D.nx σ' H') →
    (∀ d, r = .ret d → ∀ v G' H', Grow G0 H0 G' H' → Rp K G' v d → D.rt v H') → ts D σ H
end
section
variable {K : PySem.W.Frag} {env : List En} {ta tb tc te : TE} {oa ob oc o : Option PyData} {xs : TA} {os : Option (List PyData)} {wi : TI} {ow : Option (List PyData)} {c : TT} {pb : Option Bool} {t u : TS} {S S' : Type}
theorem dn_nil {st : S → List En} (s : S) (w : Wk env (st s)) : DN K tNext env (some s) st := fun G0 H0 G H σ E s' e D q => by
  cases e
  exact q σ G H (E.weak w) (Same.refl _)
theorem dn_seq {st : S → List En} {st' : S' → List En} {oS : Option S} {f : S → Option S'} (h1 : DN K t env oS st) (h2 : ∀ s, DN K u (st s) (f s) st') : DN K (tSeq t u) env (oS.bind f) st' := fun G0 H0 G H σ E s' e D q => by
  obtain ⟨s, hs, e⟩ := bnd e
  exact h1 _ _ _ _ _ E s hs _ fun σ1 G1 H1 E1 s1 => h2 s _ _ _ _ _ E1 s' e D fun σ2 G2 H2 E2 s2 => q σ2 G2 H2 E2 (s1.trans s2)
theorem dn_end {st : S → List En} {st' : S' → List En} {oS : Option S} {g : S → S'} (h1 : DN K t env oS st) (w : ∀ s, Wk (st s) (st' (g s))) : DN K t env (oS.bind fun s => some (g s)) st' := fun G0 H0 G H σ E s' e D q => by
  obtain ⟨s, hs, e⟩ := bnd e
  cases e
  exact h1 _ _ _ _ _ E s hs _ fun σ1 G1 H1 E1 s1 => q σ1 G1 H1 (E1.weak (w s)) s1
theorem dr_seq {st : S → List En} {oS : Option S} {f : S → Option PyData} (h1 : DN K t env oS st) (h2 : ∀ s, DR K u (st s) (f s)) : DR K (tSeq t u) env (oS.bind f) := fun G0 H0 G H σ E d e D q => by
  obtain ⟨s, hs, e⟩ := bnd e
  exact h1 _ _ _ _ _ E s hs _ fun σ1 G1 H1 E1 s1 => h2 s _ _ _ _ _ E1 d e D fun v G2 H2 g r => q v G2 H2 g r
theorem dr_ret (h : DE K te env o) : DR K (tRet te) env o := fun G0 H0 G H σ E d e D q => h _ _ _ _ _ E d e _ fun v G' H' g r => q v G' H' (E.grow.trans g) r
theorem dn_asg {i : Nat} (h : DE K te env o) : DN K (tAsg te (gName i)) env o (fun d => env.set i (.dat d)) := fun G0 H0 G H σ E d e D q =>
  h _ _ _ _ _ E d e _ fun v G' H' g r => q _ G' H' ((E.more g).set i r) g.g
/-- a new list, its own -/
theorem dn_own {i : Nat} (h : DNl K te env ow) (hi : Nat.blt i env.length = true) : DN K (tAsg te (gName i)) env ow (fun ds => env.set i (.own ds)) := fun G0 H0 G H σ E ds e D q => by
  have hi : i < env.length := by rw [Nat.blt_eq] at hi; exact hi
  refine h _ _ _ _ _ E ds e _ fun L vs G' H' g hL hG hH hl r => ?_
  exact q _ G' H' (EnvR.newOwn E g hL hG hH hl r hi) g.g
theorem dn_pairTo {i j : Nat} (h : DE K te env o) : DN K (tAsg te (gTup K 2 (gCons (gName i) (gCons (gName j) gNil)))) env (o.bind (prO fun x y => some (x, y))) (fun p : PyData × PyData => (env.set i (.dat p.1)).set j (.dat p.2)) := fun G0 H0 G H σ E p e D q => by
  obtain ⟨d, hd, e⟩ := bnd e
  obtain ⟨x, y, rfl⟩ := prO_of e
  cases e
  exact h _ _ _ _ _ E _ hd _ fun v G' H' g r => g_pair g.sub r fun a b ra rb => q _ G' H' (((E.more g).set i ra).set j rb) g.g
theorem dn_par {i j : Nat} (ha : DE K ta env oa) (hb : DE K tb env ob) : DN K (tPar i j (tCons ta (tCons tb tNil))) env (oa.bind fun x => ob.bind fun y => some (x, y)) (fun p : PyData × PyData => (env.set i (.dat p.1)).set j (.dat p.2)) := fun G0 H0 G H σ E p e D q => by
  obtain ⟨x, hx, e⟩ := bnd e
  obtain ⟨y, hy, e⟩ := bnd e
  cases e
  refine ha _ _ _ _ _ E x hx _ fun v G1 H1 g1 r1 => ?_
  refine hb _ _ _ _ _ (E.more g1) y hy _ fun w G2 H2 g2 r2 => ?_
  exact ⟨v, w, rfl, q _ G2 H2 ((((E.more g1).more g2).set i (r1.mono g2.g)).set j r2) (g1.g.trans g2.g)⟩
theorem dn_drop (h : DE K te env o) : DN K (tDrop te) env (o.bind fun _ => some ()) (fun _ => env) := fun G0 H0 G H σ E s e D q => by
  obtain ⟨d, hd, e⟩ := bnd e
  exact h _ _ _ _ _ E d hd _ fun v G' H' g r => q σ G' H' (E.more g) g.g
theorem dn_if {st : S → List En} {o1 o2 : Option S} (h : DT K c env pb) (h1 : DN K t env o1 st) (h2 : DN K u env o2 st) : DN K (tIfS c t u) env (pb.bind fun b => bif b then o1 else o2) st := fun G0 H0 G H σ E s e D q => by
  obtain ⟨b, hb, e⟩ := bnd e
  refine h _ _ _ _ _ E b hb _ fun G1 H1 g1 => ?_
  cases b with
  | true =>
    show t D σ H1
    exact h1 _ _ _ _ _ (E.more g1) s e D fun σ2 G2 H2 E2 s2 => q σ2 G2 H2 E2 (g1.g.trans s2)
  | false =>
    show u D σ H1
    exact h2 _ _ _ _ _ (E.more g1) s e D fun σ2 G2 H2 E2 s2 => q σ2 G2 H2 E2 (g1.g.trans s2)
/-- if c: raise .. -/
theorem dn_never (h : DT K c env pb) : DN K (tIfS c tNever tNext) env (pb.bind fun b => bif b then none else some ()) (fun _ => env) := fun G0 H0 G H σ E s e D q => by
  obtain ⟨b, hb, e⟩ := bnd e
  refine h _ _ _ _ _ E b hb _ fun G1 H1 g1 => ?_
  cases b with
  | true => cases e
  | false => exact q σ G1 H1 (E.more g1) g1.g
theorem dr_ifret {o1 o2 : Option PyData} (h : DT K c env pb) (h1 : DR K t env o1) (h2 : DR K u env o2) : DR K (tSeq (tIfS c t tNext) u) env (pb.bind fun b => bif b then o1 else o2) := fun G0 H0 G H σ E d e D q => by
  obtain ⟨b, hb, e⟩ := bnd e
  refine h _ _ _ _ _ E b hb _ fun G1 H1 g1 => ?_
  cases b with
  | true =>
    show t { D with nx := u D } σ H1
    exact h1 _ _ _ _ _ (E.more g1) d e _ q
  | false =>
    show u D σ H1
    exact h2 _ _ _ _ _ (E.more g1) d e D q
theorem dr_if {o1 o2 : Option PyData} (h : DT K c env pb) (h1 : DR K t env o1) (h2 : DR K u env o2) : DR K (tIfS c t u) env (pb.bind fun b => bif b then o1 else o2) := fun G0 H0 G H σ E d e D q => by
  obtain ⟨b, hb, e⟩ := bnd e
  refine h _ _ _ _ _ E b hb _ fun G1 H1 g1 => ?_
  cases b with
  | true => exact h1 _ _ _ _ _ (E.more g1) d e _ q
  | false => exact h2 _ _ _ _ _ (E.more g1) d e D q
/-! own lists -/
theorem dr_frz {i : Nat} {ds : List PyData} (he : env[i]? = some (.own ds)) (h : DR K t (env.set i (.dat (.list ds))) o) : DR K t env o := fun G0 H0 G H σ E d e D q => by
  obtain ⟨G', g, E', s⟩ := E.freezeL he
  exact h _ _ _ _ _ E' d e D q
theorem dn_frz {i : Nat} {ds : List PyData} {st : S → List En} {oS : Option S} (he : env[i]? = some (.own ds)) (h : DN K t (env.set i (.dat (.list ds))) oS st) : DN K t env oS st := fun G0 H0 G H σ E s e D q => by
  obtain ⟨G', g, E', s1⟩ := E.freezeL he
  exact h _ _ _ _ _ E' s e D fun σ2 G2 H2 E2 s2 => q σ2 G2 H2 E2 (s1.trans s2)
theorem dn_app {i : Nat} {ds : List PyData} (he : env[i]? = some (.own ds)) (h : DE K te env o) : DN K (tDrop (tBM K "list" rAppend (tVar i) (tCons te tNil))) env (o.bind fun d => bif Nat.blt ds.length 100000 then some (ds ++ [d]) else none) (fun ds => env.set i (.own ds)) := fun G0 H0 G H σ E ds' e D q => by
  obtain ⟨d, hd, e⟩ := bnd e
  obtain ⟨hl, e⟩ := cnd e
  subst e
  rw [Nat.blt_eq] at hl
  obtain ⟨a, vs, hs, ha, hlv, r⟩ := E.at_ i _ he
  refine ⟨.ref a, hs, .inl ⟨rfl, vs, SqL.of ha⟩, ?_⟩
  refine h _ _ _ _ _ E d hd _ fun v G1 H1 g1 r1 => ?_
  have hl2 : vs.length < big := by rw [r.len]; exact hl
  refine ⟨a, vs, v, rfl, rfl, g1.h _ _ ha, big_lt hl2, ?_⟩
  refine q σ G1 _ ((E.more g1).put he rfl hs (e' := .own (ds ++ [d])) rfl ⟨a, vs ++ [v], rfl, upd_same, by rw [List.length_append]; exact hl2, (r.mono g1.g).app (.cons r1 .nil)⟩) g1.g
theorem dn_ext {i : Nat} {ds : List PyData} (he : env[i]? = some (.own ds)) (h : DNl K te env ow) : DN K (tDrop (tBM K "list" rExtend (tVar i) (tCons te tNil))) env (ow.bind fun es => bif smallO (ds ++ es) then some (ds ++ es) else none) (fun ds => env.set i (.own ds)) := fun G0 H0 G H σ E ds' e D q => by
  obtain ⟨es, hd, e⟩ := bnd e
  obtain ⟨hl, e⟩ := cnd e
  subst e
  have hl := small_of hl
  rw [List.length_append] at hl
  obtain ⟨a, vs, hs, ha, hlv, r⟩ := E.at_ i _ he
  refine ⟨.ref a, hs, .inl ⟨rfl, vs, SqL.of ha⟩, ?_⟩
  refine h _ _ _ _ _ E es hd _ fun L ws G1 H1 g1 hL hG hH hlw r1 => ?_
  have e1 := r.len
  have e2 := r1.len
  have hl2 : vs.length + ws.length ≤ big := by omega
  refine ⟨a, L, vs, ws, rfl, rfl, g1.h _ _ ha, hH, big_line hl2, ?_⟩
  refine q σ G1 _ ((E.more g1).put he rfl hs (e' := .own (ds ++ es)) rfl ⟨a, vs ++ ws, rfl, upd_same, by rw [List.length_append]; exact hl2, (r.mono g1.g).app r1⟩) g1.g
/-! i += e -/
theorem dn_aug {i : Nat} {x : PyData} (he : env[i]? = some (.dat x)) (h : DE K te env o) : DN K (tAug i te (ipI fun a b => a + b)) env (o.bind fun y => addI x y) (fun d => env.set i (.dat d)) := fun G0 H0 G H σ E d e D q => by
  obtain ⟨y, hy, e⟩ := bnd e
  obtain ⟨v, hs, r⟩ := E.at_ i _ he
  refine ⟨v, hs, h _ _ _ _ _ E y hy _ fun w G1 H1 g1 r1 => ?_⟩
  obtain ⟨a, b, rfl, rfl, e⟩ := ii (non_ii (f := fun i j => some (.int (i + j))) fun a b => by cases a <;> first | rfl | (cases b <;> rfl)) (r.mono g1.g) r1 e
  cases e
  exact ⟨a, b, rfl, rfl, q _ G1 H1 ((E.more g1).set i (.int _)) g1.g⟩
/-! loops -/
noncomputable def foldO (f : S → PyData → Option S) (ds : List PyData) (s : S) : Option S := @List.rec PyData (fun _ => S → Option S) (fun s => some s) (fun d _ ih s => (f s d).bind ih) ds s
theorem foldO_cons {f : S → PyData → Option S} {d : PyData} {r : List PyData} {s z : S} (h : foldO f (d :: r) s = some z) : ∃ s', f s d = some s' ∧ foldO f r s' = some z := bnd (show (f s d).bind (foldO f r) = some z from h)
theorem dn_for {g : TG} {st : S → List En} (s0 : S) {f : S → PyData → Option S} (hw : DW K wi env ow) (h0 : Wk env (st s0))
    (hb : ∀ s d s', f s d = some s' → ∀ (G0 H0 G H : Hp) (σ : L2.St) (x : V), EnvR K G0 H0 G H σ (st s) → Rp K G x d → ∀ D : Ends, (∀ σ' G' H', EnvR K G0 H0 G' H' σ' (st s') → Same G G' → D.nx σ' H') → g x σ H fun σ2 H2 => t D σ2 H2) :
    DN K (tFor wi g t) env (ow.bind fun ds => foldO f ds s0) st := fun G0 H0 G H σ E s e D q => by
  obtain ⟨ds, hd, e⟩ := bnd e
  refine hw _ _ _ _ _ E ds hd _ fun J G1 H1 g1 w => ?_
  refine ⟨fun i m σ H => m = ds.length - i ∧ i ≤ ds.length ∧ ∃ s' G, EnvR K G0 H0 G H σ (st s') ∧ Same G1 G ∧ foldO f (ds.drop i) s' = some s, ⟨_, rfl, Nat.zero_le _, s0, G1, (E.more g1).weak h0, Same.refl _, e⟩, ?_⟩
  rintro i m σ2 H2 ⟨rfl, hi, s', G2, E2, s2, hf⟩
  by_cases hlt : i < ds.length
  · refine .inr ⟨w.go i G2 H2 s2 E2.sub hlt, fun σ H => i + 1 ≤ ds.length ∧ ∃ s' G, EnvR K G0 H0 G H σ (st s') ∧ Same G1 G ∧ foldO f (ds.drop (i + 1)) s' = some s, fun σ' H' p => ⟨_, by omega, rfl, p⟩, fun x H3 y => ?_⟩
    obtain ⟨G3, d, g3, hd3, r3⟩ := w.yld i G2 H2 x H3 s2 E2.sub hlt y
    rw [List.getElem?_eq_getElem hlt] at hd3
    rw [List.drop_eq_getElem_cons hlt, Option.some.inj hd3] at hf
    obtain ⟨s3, hs3, hf⟩ := foldO_cons hf
    exact hb s' d s3 hs3 G0 H0 G3 H3 σ2 x (E2.more g3) r3 _ fun σ4 G4 H4 E4 s4 => ⟨hlt, s3, G4, E4, s2.trans (g3.g.trans s4), hf⟩
  · have ei : i = ds.length := by omega
    subst ei
    rw [List.drop_length] at hf
    cases (show some s' = some s from hf)
    exact .inl ⟨w.stop G2 H2 s2 E2.sub, q σ2 G2 H2 E2 (g1.g.trans s2)⟩
theorem dn_for1 {j : Nat} {st : S → List En} (s0 : S) {f : S → PyData → Option S} (hw : DW K wi env ow) (h0 : Wk env (st s0)) (hb : ∀ s d, DN K t ((st s).set j (.dat d)) (f s d) st) :
    DN K (tFor wi (gName j) t) env (ow.bind fun ds => foldO f ds s0) st :=
  dn_for s0 hw h0 fun s d s' hs G0 H0 G H σ x E r D q => hb s d _ _ _ _ _ (E.set j r) s' hs D q
theorem dn_for2 {i j : Nat} {st : S → List En} (s0 : S) {f : S → PyData → PyData → Option S} (hw : DW K wi env ow) (h0 : Wk env (st s0)) (hb : ∀ s x y, DN K t (((st s).set i (.dat x)).set j (.dat y)) (f s x y) st) :
    DN K (tFor wi (gTup K 2 (gCons (gName i) (gCons (gName j) gNil))) t) env (ow.bind fun ds => foldO (fun s => prO (f s)) ds s0) st :=
  dn_for s0 hw h0 fun s d s' hs G0 H0 G H σ x E r D q => by
    obtain ⟨x1, x2, rfl⟩ := prO_of hs
    exact g_pair E.sub r fun a b ra rb => hb s x1 x2 _ _ _ _ _ ((E.set i ra).set j rb) s' hs D q
noncomputable def whileO (p : S → Option Bool) (f : S → Option S) (n : Nat) (s : S) : Option S := @Nat.rec (fun _ => S → Option S) (fun _ => none) (fun _ ih s => (p s).bind fun b => bif b then (f s).bind ih else some s) n s
theorem dn_while {st : S → List En} (n : Nat) (s0 : S) {p : S → Option Bool} {f : S → Option S} (h0 : Wk env (st s0)) (hc : ∀ s, DT K c (st s) (p s)) (hb : ∀ s, DN K t (st s) (f s) st) : DN K (tWhile c t) env (whileO p f n s0) st := fun G0 H0 G H σ E s e D q => by
  refine ⟨fun m σ H => ∃ s' G', EnvR K G0 H0 G' H σ (st s') ∧ Same G G' ∧ whileO p f m s' = some s, ⟨n, s0, G, E.weak h0, Same.refl _, e⟩, ?_⟩
  rintro m σ2 H2 ⟨s', G2, E2, s2, hf⟩
  cases m with
  | zero => cases (show none = some s from hf)
  | succ m =>
    obtain ⟨b, hb', hf⟩ := bnd (show (p s').bind (fun b => bif b then (f s').bind (whileO p f m) else some s') = some s from hf)
    refine hc s' _ _ _ _ _ E2 b hb' _ fun G3 H3 g3 => ?_
    cases b with
    | true =>
      obtain ⟨s3, hs3, hf⟩ := bnd (show (f s').bind (whileO p f m) = some s from hf)
      show ∃ N : L2.St → Hp → Prop, _
      exact ⟨fun σ H => ∃ s' G', EnvR K G0 H0 G' H σ (st s') ∧ Same G G' ∧ whileO p f m s' = some s, fun σ' H' q' => ⟨m, Nat.lt_succ_self m, q'⟩, hb s' _ _ _ _ _ (E2.more g3) s3 hs3 _ fun σ4 G4 H4 E4 s4 => ⟨s3, G4, E4, s2.trans (g3.g.trans s4), hf⟩⟩
    | false =>
      cases (show some s' = some s from hf)
      show D.nx σ2 H3
      exact q σ2 G3 H3 (E2.more g3) (s2.trans g3.g)
/-! either way -/
theorem db_dn {st : S → List En} {oS : Option S} (h : DN K t env oS st) : DB K t env (oS.bind fun s => some (.nxt s)) st := fun G0 H0 G H σ E r e D q _ => by
  obtain ⟨s, hs, e⟩ := bnd e
  cases e
  exact h _ _ _ _ _ E s hs D fun σ' G' H' E' s' => q s rfl σ' G' H' E' s'
theorem db_seq {st : S → List En} {st' : S' → List En} {oS : Option S} {f : S → Option (Out S')} (h1 : DN K t env oS st) (h2 : ∀ s, DB K u (st s) (f s) st') : DB K (tSeq t u) env (oS.bind f) st' := fun G0 H0 G H σ E r e D q q2 => by
  obtain ⟨s, hs, e⟩ := bnd e
  exact h1 _ _ _ _ _ E s hs _ fun σ1 G1 H1 E1 s1 => h2 s _ _ _ _ _ E1 r e D (fun s' es σ2 G2 H2 E2 s2 => q s' es σ2 G2 H2 E2 (s1.trans s2)) q2
theorem db_ifret {st : S → List En} {o1 : Option PyData} {o2 : Option (Out S)} (h : DT K c env pb) (h1 : DR K t env o1) (h2 : DB K u env o2 st) : DB K (tSeq (tIfS c t tNext) u) env (pb.bind fun b => bif b then o1.bind fun d => some (.ret d) else o2) st := fun G0 H0 G H σ E r e D q q2 => by
  obtain ⟨b, hb, e⟩ := bnd e
  refine h _ _ _ _ _ E b hb _ fun G1 H1 g1 => ?_
  cases b with
  | true =>
    obtain ⟨d, hd, e⟩ := bnd (show o1.bind (fun d => some (Out.ret d)) = some r from e)
    cases e
    show t { D with nx := u D } σ H1
    exact h1 _ _ _ _ _ (E.more g1) d hd _ fun v G' H' g r => q2 d rfl v G' H' g r
  | false =>
    show u D σ H1
    exact h2 _ _ _ _ _ (E.more g1) r e D (fun s' es σ2 G2 H2 E2 s2 => q s' es σ2 G2 H2 E2 (g1.g.trans s2)) q2
def outO (k : S → Option PyData) : Out S → Option PyData
  | .ret d => some d
  | .nxt s => k s
noncomputable def whileR (p : S → Option Bool) (f : S → Option (Out S)) (k : S → Option PyData) (n : Nat) (s : S) : Option PyData := @Nat.rec (fun _ => S → Option PyData) (fun _ => none) (fun _ ih s => (p s).bind fun b => bif b then (f s).bind (outO ih) else k s) n s
theorem dr_while {st : S → List En} (n : Nat) (s0 : S) {p : S → Option Bool} {f : S → Option (Out S)} {k : S → Option PyData} (h0 : Wk env (st s0)) (hc : ∀ s, DT K c (st s) (p s)) (hb : ∀ s, DB K t (st s) (f s) st) (hr : ∀ s, DR K u (st s) (k s)) : DR K (tSeq (tWhile c t) u) env (whileR p f k n s0) := fun G0 H0 G H σ E d e D q => by
  refine ⟨fun m σ H => ∃ s' G', EnvR K G0 H0 G' H σ (st s') ∧ whileR p f k m s' = some d, ⟨n, s0, G, E.weak h0, e⟩, ?_⟩
  rintro m σ2 H2 ⟨s', G2, E2, hf⟩
  cases m with
  | zero => cases (show none = some d from hf)
  | succ m =>
    obtain ⟨b, hb', hf⟩ := bnd (show (p s').bind (fun b => bif b then (f s').bind (outO (whileR p f k m)) else k s') = some d from hf)
    refine hc s' _ _ _ _ _ E2 b hb' _ fun G3 H3 g3 => ?_
    cases b with
    | true =>
      obtain ⟨r, hr3, hf⟩ := bnd (show (f s').bind (outO (whileR p f k m)) = some d from hf)
      show ∃ N : L2.St → Hp → Prop, _
      refine ⟨fun σ H => ∃ s' G', EnvR K G0 H0 G' H σ (st s') ∧ whileR p f k m s' = some d, fun σ' H' q' => ⟨m, Nat.lt_succ_self m, q'⟩, hb s' _ _ _ _ _ (E2.more g3) r hr3 _ (fun s3 es σ4 G4 H4 E4 s4 => ?_) fun d' ed v G' H' g r => ?_⟩
      · subst es
        exact ⟨s3, G4, E4, hf⟩
      · subst ed
        cases (show some d' = some d from hf)
        exact q v G' H' g r
    | false =>
      show u D σ2 H3
      exact hr s' _ _ _ _ _ (E2.more g3) d hf D q
end
end DL

set_option Elab.async false
set_option linter.all false
set_option maxRecDepth 100000
set_option maxHeartbeats 1600000
/-! DL8: a def by data; some further expressions. -/
namespace DL
open PySem PySem.Spec PyProof.Rows L2
section
variable {K : PySem.W.Frag} {env : List En} {ta tb tc te : TE} {oa ob oc o : Option PyData} {xs : TA} {os : Option (List PyData)} {t : TS} {S : Type}
/-! a op1 b op2 c -/
theorem de_chain {r r' : R2} {f f' : PyData → PyData → Option PyData} (hr : V2 K r f) (hr' : V2 K r' f') (ha : DE K ta env oa) (hb : DE K tb env ob) (hc : DE K tc env oc) :
    DE K (tChain r r' ta tb tc) env (oa.bind fun x => ob.bind fun y => (f x y).bind fun z => (bO z).bind fun k => bif k then oc.bind fun w => f' y w else some (.bool false)) := fun G0 H0 G H σ E d e Q q => by
  obtain ⟨x, hx, e⟩ := bnd e
  obtain ⟨y, hy, e⟩ := bnd e
  obtain ⟨z, hz, e⟩ := bnd e
  obtain ⟨k, hk, e⟩ := bnd e
  refine ha _ _ _ _ _ E x hx _ fun v G1 H1 g1 r1 => ?_
  refine hb _ _ _ _ _ (E.more g1) y hy _ fun w G2 H2 g2 r2 => ?_
  refine hr G2 H2 v w x y z g2.sub (r1.mono g2.g) r2 hz _ fun u G3 H3 g3 r3 => ⟨k, bO_rp r3 hk, ?_⟩
  cases k with
  | false =>
    cases e
    exact q _ G3 H3 ((g1.trans g2).trans g3) (.bl false)
  | true =>
    obtain ⟨w2, hw, e⟩ := bnd (show oc.bind (fun w => f' y w) = some d from e)
    show tc σ H3 fun w' H4 => r' w w' H4 Q
    refine hc _ _ _ _ _ (((E.more g1).more g2).more g3) w2 hw _ fun v4 G4 H4 g4 r4 => ?_
    exact hr' G4 H4 w v4 y w2 d g4.sub ((r2.mono g3.g).mono g4.g) r4 e Q fun z5 G5 H5 g5 r5 => q z5 G5 H5 ((((g1.trans g2).trans g3).trans g4).trans g5) r5
/-! list(range(n)) -/
noncomputable def lrngO : PyData → Option (List PyData)
  | .int (.ofNat n) => bif Nat.ble n 1000 then some (rngD 0 n) else none
  | _ => none
theorem dnl_rng (h : DE K ta env oa) : DNl K (tLstRg (tRg1 ta)) env (oa.bind lrngO) := fun G0 H0 G H σ E ds e Q q => by
  obtain ⟨x, hx, e⟩ := bnd e
  refine h _ _ _ _ _ E x hx _ fun v G1 H1 g1 r1 => ?_
  cases x with
  | int i =>
    cases i with
    | ofNat n =>
      obtain ⟨c, e⟩ := cnd (show (bif Nat.ble n 1000 then some (rngD 0 n) else none) = some ds from e)
      subst e
      have hn : n ≤ 1000 := Nat.le_of_ble_eq_true c
      cases r1
      refine ⟨Int.ofNat n, rfl, RgOk.of_le (by omega) (by simp only [Int.ofNat_eq_natCast]; omega) (by omega) (by simp only [Int.ofNat_eq_natCast]; omega), fun p hp => ?_⟩
      have e1 : rgV 0 (Int.ofNat n) = ((List.range n).map fun i => (0 : Int) + (i : Nat)).map V.int := by
        unfold rgV
        rw [List.map_map]
        have : (Int.ofNat n - 0).toNat = n := by simp
        rw [this]
        rfl
      have hp0 := none_sub g1.h hp
      rw [e1]
      refine q p _ G1 _ (g1.put _ hp0 (none_sub g1.sub hp)) hp0 (none_sub g1.sub hp) upd_same ?_ ?_
      · rw [List.length_map, List.length_map, List.length_range]
        exact Nat.le_trans hn (by decide)
      · rw [rngD_map]
        exact RpA.ints _
    | negSucc n => cases e
  | _ => cases e
/-- own list and known data, side by side -/
theorem dn_parL {i j : Nat} {ow : Option (List PyData)} (ha : DNl K ta env ow) (hb : DE K tb env ob) (hi : Nat.blt i env.length = true) : DN K (tPar i j (tCons ta (tCons tb tNil))) env (ow.bind fun x => ob.bind fun y => some (x, y)) (fun p : List PyData × PyData => (env.set i (.own p.1)).set j (.dat p.2)) := fun G0 H0 G H σ E p e D q => by
  have hi : i < env.length := by rw [Nat.blt_eq] at hi; exact hi
  obtain ⟨x, hx, e⟩ := bnd e
  obtain ⟨y, hy, e⟩ := bnd e
  cases e
  refine ha _ _ _ _ _ E x hx _ fun L vs G1 H1 g1 hL hG hH hl r1 => ?_
  refine hb _ _ _ _ _ (E.more g1) y hy _ fun w G2 H2 g2 r2 => ?_
  refine ⟨.ref L, w, rfl, q _ G2 H2 (EnvR.set (EnvR.newOwn E (g1.trans g2) hL (g2.new L (by rw [hH]; exact fun z => nomatch z) hG) (g2.h _ _ hH) hl (r1.mono g2.g) hi) j r2) (g1.g.trans g2.g)⟩
/-- a global that is an int -/
theorem de_c {v : V} {d : PyData} (r : ∀ G : Hp, Rp K G v d) : DE K (tC v) env (some d) := fun G0 H0 G H σ E d' e Q q => by
  cases e
  exact q v G H (Grow.rfl' E.sub) (r G)
end

/-! ### defs -/
section
variable {P : Program} {w : World} {K : PySem.W.Frag} {mg : Str → Option Value} {base : Heap}
/-- the def x of the text keeps the promise sp, at any room from k on -/
def OkD (P : Program) (w : World) (K : PySem.W.Frag) (mg : Str → Option Value) (base : Heap) (k : Nat) (x : Str) (ps : List Str) (sp : Sp) : Prop :=
  ∃ fd, FnOk P w K mg base CX0 k (He.ga K x) fd ps sp ∧ Binds K fd ps [] ∧ PySem.W.keepIn K (.ref (He.ga K x)) = true ∧ mg x = some (.ref (He.ga K x))
theorem OkD.mono {j k : Nat} {x : Str} {ps : List Str} {sp : Sp} (o : OkD P w K mg base j x ps sp) (h : j ≤ k) : OkD P w K mg base k x ps sp :=
  let ⟨fd, a, b, c, d⟩ := o; ⟨fd, a.mono h, b, c, d⟩
theorem pe_callD {X : Cx} {j k : Nat} {x : Str} {ps : List Str} {sp : Sp} {p pos : Pos} {e : Expr} {es : List Expr} {t : TA} (o : OkD X.prog X.w X.K X.mg X.base j x ps sp) (hr : Room k X.A) (hjk : Nat.ble j k = true) (hg : Gl X x) (ha : PA X (e :: es) t)
    (hdb : (x == ("__debug__" : Str)) = false := by decide) (he : starEach (e :: es) X.env = (false, eval e X.env) :: starEach es X.env := by rfl) (hpl : (backTo pos (starEach es X.env)).any (·.1) = false := by rfl) :
    PE X (.Call (.Name x p) (e :: es) [] pos) (tCall sp [] E0 t) := by
  obtain ⟨fd, F, B, kp, g⟩ := o
  exact pe_call F (hr.mono (Nat.le_of_ble_eq_true hjk)) hg g kp B .nil pass0 ha hdb he hpl
theorem start_env {G H : Hp} (s : Same G H) {vs : List V} {ds : List PyData} (r : RpA K G vs ds) (N : List Str) : EnvR K G H G H (L2.start N vs) (ds.map En.dat ++ List.replicate (N.length - ds.length) .un) := by
  have el := r.len
  have no : ∀ (i : Nat) (e : En), (ds.map En.dat ++ List.replicate (N.length - ds.length) En.un)[i]? = some e → e.isOwn = true → False := fun i e h o => by
    by_cases hi : i < ds.length
    · rw [List.getElem?_append_left (by simpa using hi), List.getElem?_map] at h
      cases hd : ds[i]? with
      | none => rw [hd] at h; cases h
      | some d => rw [hd] at h; cases h; cases o
    · rw [List.getElem?_append_right (by simpa using hi), List.getElem?_replicate] at h
      split at h
      · cases h; cases o
      · cases h
  refine ⟨Grow.rfl' s, ?_, fun i e h => ?_, fun i e a h o _ => (no i e h o).elim, fun i j e e' a h o _ _ _ _ => (no i e h o).elim⟩
  · unfold L2.start
    simp only [List.length_append, List.length_map, List.length_replicate, el]
  · unfold L2.start
    by_cases hi : i < ds.length
    · rw [List.getElem?_append_left (by simpa using hi), List.getElem?_map] at h
      rw [List.getElem?_append_left (by rw [List.length_map]; omega), List.getElem?_map]
      cases hd : ds[i]? with
      | none => rw [hd] at h; cases h
      | some d =>
        rw [hd] at h
        cases h
        obtain ⟨v, hv, rv⟩ := r.at hd
        rw [hv]
        exact ⟨v, rfl, rv⟩
    · rw [List.getElem?_append_right (by simpa using hi), List.getElem?_replicate] at h
      split at h
      · cases h; exact True.intro
      · cases h
/-- a def that returns -/
theorem ok_ret {x : Str} {params : Arguments} {body : List Stmt} {scope : Scope} {fd : FuncData} {N ps : List Str} {k n : Nat} {f : List PyData → Option PyData} (F : FunD K x x params body scope [] [] (He.ga K x) fd) (g : mg x = some (.ref (He.ga K x))) (S : FnScope N ps scope)
    (hn : ps.length = n) (hb : ∀ (kV doc pm : Value) (an : Option Addr) (cdv ct : Value) (us : List Value), us.length = ps.length → bindArgs (PySem.W.fnOf x x params body scope .none kV doc pm an cdv ct) ⟨us, []⟩ = pure (ps.zip us))
    (go : ∀ (cdv : Value) (A : Around) (outer : List Env) (s : Shared) (H : Hp) (E : XK), Room k (A.deeper (envOfC x scope s.heap.objs.size (He.ga K x) cdv)) →
      ∃ t, PSs (cxOf CX0 P w K mg base N x scope (He.ga K x) cdv A outer s H E).nox body t ∧ ∀ ds : List PyData, ds.length = n → DR K t (ds.map En.dat ++ List.replicate (N.length - ds.length) .un) (f ds)) :
    OkD P w K mg base (k + 1) x ps (spD K n f) := by
  refine ⟨fd, F.ok S (fun vs H Q E h => h.1.trans hn.symm) fun cdv A outer s H vs Q E hr h => ?_, F.bindsN hb, F.kp, g⟩
  obtain ⟨t, hp, hd⟩ := go cdv A outer s H E hr
  obtain ⟨hl, G, ds, d, sG, r, e, q⟩ := h
  exact ⟨t, hp.nox, hd ds (r.len.symm.trans hl) _ _ _ _ _ (start_env sG r N) d e _ fun v G' H' g r => q v G' H' g r⟩
/-- a def that ends without a value -/
theorem ok_none {x : Str} {params : Arguments} {body : List Stmt} {scope : Scope} {fd : FuncData} {N ps : List Str} {k n : Nat} {f : List PyData → Option Unit} (F : FunD K x x params body scope [] [] (He.ga K x) fd) (g : mg x = some (.ref (He.ga K x))) (S : FnScope N ps scope)
    (hn : ps.length = n) (hb : ∀ (kV doc pm : Value) (an : Option Addr) (cdv ct : Value) (us : List Value), us.length = ps.length → bindArgs (PySem.W.fnOf x x params body scope .none kV doc pm an cdv ct) ⟨us, []⟩ = pure (ps.zip us))
    (go : ∀ (cdv : Value) (A : Around) (outer : List Env) (s : Shared) (H : Hp) (E : XK), Room k (A.deeper (envOfC x scope s.heap.objs.size (He.ga K x) cdv)) →
      ∃ t, PSs (cxOf CX0 P w K mg base N x scope (He.ga K x) cdv A outer s H E).nox body t ∧ ∀ ds : List PyData, ds.length = n → ∃ st : Unit → List En, DN K t (ds.map En.dat ++ List.replicate (N.length - ds.length) .un) (f ds) st) :
    OkD P w K mg base (k + 1) x ps (spD K n fun ds => (f ds).bind fun _ => some .none) := by
  refine ⟨fd, F.ok S (fun vs H Q E h => h.1.trans hn.symm) fun cdv A outer s H vs Q E hr h => ?_, F.bindsN hb, F.kp, g⟩
  obtain ⟨t, hp, hd⟩ := go cdv A outer s H E hr
  obtain ⟨hl, G, ds, d, sG, r, e, q⟩ := h
  obtain ⟨u, hu, e⟩ := bnd e
  cases e
  obtain ⟨st, hd⟩ := hd ds (r.len.symm.trans hl)
  exact ⟨t, hp.nox, hd _ _ _ _ _ (start_env sG r N) u hu _ fun σ' G' H' E' _ => q .non G' H' E'.grow .non⟩
end
end DL

set_option Elab.async false
set_option linter.all false
set_option maxRecDepth 100000
set_option maxHeartbeats 0
/-! HF: the head's facts in short. -/
namespace DL
open PySem PySem.Spec PyProof.Rows L2
structure Hd (K : PySem.W.Frag) (mg : Str → Option Value) : Prop where
  says : He.SaysD HD.fa HD.fn K
  glo : ∀ x : Str, (He.Fa.glo x).ok K = true → mg x = some (.ref (He.ga K x))
  free : ∀ x : Str, (He.Fa.free x).ok K = true → mg x = none
  int : ∀ (x : Str) (i : Int), (He.Fa.int x i).ok K = true → ∃ t, mg x = some (.int i t)
  zero : HD.zero K = true
theorem Hd.of {K : PySem.W.Frag} {h : Heap} {mg : Str → Option Value} (X : K.In h) (G : h.Ns mainGlobals mg) (c : He.SaysD HD.fa HD.fn K) (z : HD.zero K = true) : Hd K mg :=
  ⟨c, fun _ q => He.glo_ok X G q, fun _ q => He.free_ok X G q, fun _ _ q => He.int_ok X G q, z⟩
theorem Hd.zeroR {K : PySem.W.Frag} {mg : Str → Option Value} (c : Hd K mg) (G : Hp) : Rp K G (.ref (He.ga K "ZERO")) (.tuple [.int 0, .int 1]) :=
  .tup (He.tupB_ok (vs := [.int 0, .int 1]) c.zero G) (by show 2 ≤ big; decide) (.cons (.int 0) (.cons (.int 1) .nil))
theorem wk_0 : Wk [] [] := True.intro
theorem wk_u {e : En} {r r' : List En} (h : Wk r r') : Wk (e :: r) (.un :: r') := ⟨.inl rfl, h⟩
theorem wk_s {e : En} {r r' : List En} (h : Wk r r') : Wk (e :: r) (e :: r') := ⟨.inr rfl, h⟩
theorem OkD.imp' {P : Program} {w : World} {K : PySem.W.Frag} {mg : Str → Option Value} {base : Heap} {k n : Nat} {x : Str} {ps : List Str} {f g : List PyData → Option PyData} (o : OkD P w K mg base k x ps (spD K n f)) (h : ∀ ds d, g ds = some d → f ds = some d) : OkD P w K mg base k x ps (spD K n g) :=
  let ⟨fd, a, b, c, d⟩ := o
  ⟨fd, a.imp fun vs H Q E z => let ⟨hl, G, ds, e, s, r, q, t⟩ := z; ⟨hl, G, ds, e, s, r, h ds e q, t⟩, b, c, d⟩
end DL

set_option Elab.async false
set_option linter.all false
set_option maxRecDepth 100000
set_option maxHeartbeats 0
/-! PX: rules whose reading names the written part, with that part put in by hand (a comprehension's block must not reach into the reading). -/
namespace DL
open PySem PySem.Spec PyProof.Rows L2
section
variable {X : Cx} {K : PySem.W.Frag} {w : World} {ta te tl : TE} {t : TA} {e l : Expr} {es : List Expr} {tg : Expr}
theorem xo_in (hK : X.K = K) : OpR X (compareOp .In) (rIn K false) := hK ▸ op_in_seq
theorem xo_ni (hK : X.K = K) : OpR X (compareOp .NotIn) (rIn K true) := hK ▸ op_notIn_seq
theorem xo_eqD (hK : X.K = K) (hu : X.A.units + 64 < cLine) : OpR X (compareOp .Eq) (rEqD K) := hK ▸ op_eqD hu
theorem xo_neD (hK : X.K = K) (hu : X.A.units + 64 < cLine) : OpR X (compareOp .NotEq) (rNeD K) := hK ▸ op_neD hu
theorem xo_inD (hK : X.K = K) {k : Nat} (hr : Room k X.A) : OpR X (compareOp .In) (rInD K) := hK ▸ op_inD (by have := hr.un; omega)
theorem xo_cat (hK : X.K = K) : OpR X (binaryOp .Add) (rCatA K) := hK ▸ op_catA
theorem xo_ix (hK : X.K = K) : IxR X (rIx K) := hK ▸ ix_seq
theorem xo_sl (hK : X.K = K) : SlR X (rSlA K) := hK ▸ sl_tupA
theorem xc_len (hK : X.K = K) : CallR X (.builtin "len") (rLen' K) := hK ▸ c_len
theorem xc_list (hK : X.K = K) : CallR X (.type "list") (rList' K) := hK ▸ c_list
theorem xc_tuple (hK : X.K = K) : CallR X (.type "tuple") (rTup' K) := hK ▸ c_tuple
theorem xc_any (hK : X.K = K) (hc : X.calm = true) : CallR X (.builtin "any") (rAny K) := hK ▸ cr_any hc
theorem xc_all (hK : X.K = K) (hc : X.calm = true) : CallR X (.builtin "all") (rAll K) := hK ▸ cr_all hc
theorem xc_sum (hK : X.K = K) (hc : X.calm = true) : CallR X (.builtin "sum") (rSum K) := hK ▸ cr_sum hc
theorem xc_max (hK : X.K = K) (hc : X.calm = true) : CallR X (.builtin "max") (rMax K) := hK ▸ cr_max hc
theorem xc_min {pr : PyData → Bool} {lt : PyData → PyData → Bool} (kd : Kd pr lt) (hK : X.K = K) (hc : X.calm = true) (hu : X.A.units + 64 < cLine) : CallR X (.builtin "min") (rMinP K pr lt) := hK ▸ cr_minP kd hc hu
theorem xc_sorted (hK : X.K = K) (hu : X.A.units + 64 < cLine) (n : Nat) : CallR X (.builtin "sorted") (rSortD K n) := hK ▸ cr_sortedD hu n
theorem xc_set (hK : X.K = K) (hw : X.w = w) (hc : X.calm = true) : CallR X (.type "set") (rSetI K w) := by
  subst hK hw
  exact cr_setI hc
theorem xc_sortedSet (hw : X.w = w) (hc : X.calm = true) : CallR X (.builtin "sorted") (rSortedSet w) := hw ▸ cr_sortedSet hc
theorem xc_isi (hK : X.K = K) : CallR X (.builtin "isinstance") (rIsi K) := hK ▸ call_isi
theorem xi_list (hK : X.K = K) (hl : PE X l tl) : PI X tg l (iList K tl) := hK ▸ pi_list hl
theorem xi_tup (hK : X.K = K) (hl : PE X l tl) : PI X tg l (iTup K tl) := hK ▸ pi_tup hl
theorem xi_enum {p pos tpos : Pos} {elts : List Expr} {kk : Nat} (hK : X.K = K) (hg : Gl X "enumerate") (hm : X.mg "enumerate" = none) (ha : PA X [e] t) (hs : starEach [e] X.env = [(false, eval e X.env)] := by rfl) :
    PI X (.Tuple elts kk tpos) (.Call (.Name "enumerate" p) [e] [] pos) (EN.iEnumT K t) := hK ▸ EN.pi_enumT hg hm ha hs
theorem xg_tup {es : List Expr} {k : Nat} {t : TGs} {n : Nat} {pos : Pos} (hK : X.K = K) (hc : X.calm = true) (h : PGs X es t)
    (hn : (assignEach es X.env).length = n := by rfl) (hst : (assignEach es X.env).findIdx? (·.1) = none := by rfl) : PG X (.Tuple es k pos) (gTup K n t) := hK ▸ pg_tup hc h hn hst
theorem xa_star {p : Pos} (hK : X.K = K) (he : PE X e te) (hr : PA X es t) (hs : starEach (.Starred e p :: es) X.env = (true, eval e X.env) :: starEach es X.env := by rfl) : PA X (.Starred e p :: es) (StX.tStar K te t) := hK ▸ StX.pa_star he hr hs
end
end DL

set_option Elab.async false
set_option linter.all false
set_option maxRecDepth 100000
set_option maxHeartbeats 1000000
/-! DM: {**d, k: v}. -/
namespace DM
open PySem PySem.Spec PyProof.Rows L2
section
variable {prog : Program} {w : World} {A : Around} {E : Value → Shared → Prop} {s : Shared}
/-- one entry put -/
theorem put_one {d : Addr} {kvs : List (Key × Value)} {k : Key} {key v : Value} {Q : Unit → Shared → Prop} (isk : (mixKind prog w).is k key = true) (D : s.heap.DictOf (mixKind prog w) d kvs) (few : kvs.length ≤ sizeLine)
    (fin : ∀ h', h'.DictOf (mixKind prog w) d (stored kvs k v) → Heap.SameBut d s.heap h' → Q () { s with heap := h' }) : wpAny (model prog w) A (dictPut d ((mixKind prog w).hash k) key v) Q E s := by
  obtain ⟨ob, es, ep, g, ex, dt, ks, ps, nd⟩ := D
  have len : es.size ≤ sizeLine := by
    have a := ps.length
    rw [Array.length_toList] at a
    omega
  have same : (es.findIdx? fun e => (mixKind prog w).is k e.key) = kvs.findIdx? fun kv => decide (kv.1 = k) := by
    rw [← ps.findIdx k]
    obtain ⟨l⟩ := es
    simp
  unfold dictPut
  refine wpAny_bind (wpAny_dictFind_of isk g dt ks ?_)
  generalize place : (es.findIdx? fun e => (mixKind prog w).is k e.key) = at_
  cases at_ with
  | some i =>
    have there : (kvs.any fun kv => decide (kv.1 = k)) = true := any_of_findIdx_some (same ▸ place)
    have es2 : (es.toList.findIdx? fun e => (mixKind prog w).is k e.key) = some i := by
      rw [← place]
      obtain ⟨l⟩ := es
      simp
    refine wpAny_updateDict g dt (fin _ ⟨_, _, ep, Heap.get?_update_self _ g (Obj.isFreed_of_dict (Obj.data_mapDict dt _)), ex.mapDict _, Obj.data_mapDict dt _, ks.modify _ _, ?_, ?_⟩ (Heap.SameBut.update ..))
    · have q := ps.modify nd es2 v
      rw [stored, if_pos there]
      obtain ⟨l⟩ := es
      simpa using q
    · rw [stored, if_pos there, keys_map_store]
      exact nd
  | none =>
    have out : k ∉ kvs.map (·.1) := not_mem_of_findIdx_none (same ▸ place)
    have no : ¬ (kvs.any fun kv => decide (kv.1 = k)) = true := fun h => by
      obtain ⟨kv, m, e⟩ := List.any_eq_true.mp h
      exact out (List.mem_map.mpr ⟨kv, m, of_decide_eq_true e⟩)
    refine wpAny_updateDictKeys (hz := len) g dt (fin _ ⟨_, _, ep + 1, Heap.get?_update_self _ g (Obj.isFreed_of_dict (Obj.data_mapDictKeys dt _)), ex.mapDictKeys _, Obj.data_mapDictKeys dt _, ks.push isk _, ?_, ?_⟩ (Heap.SameBut.update ..))
    · have q := ps.append isk ((mixKind prog w).hash k) v
      rw [stored, if_neg no]
      obtain ⟨l⟩ := es
      simpa using q
    · rw [stored, if_neg no, List.map_append, List.nodup_append]
      refine ⟨nd, by simp, fun a ha b hb => ?_⟩
      have e : b = k := by simpa using hb
      exact fun z => out (e ▸ z ▸ ha)
theorem key_shape {k : Key} {v : Value} (h : (mixKind prog w).is k v = true) : ∀ a, v ≠ .ref a := fun a e => by
  subst e
  have := (mixKind prog w).byValue k _ h
  cases this
/-- all of a put into d -/
theorem put_all {d a : Addr} {kvs more : List (Key × Value)} {Q : Unit → Shared → Prop} (ne : d ≠ a) (hS : (a == sysModules) = false) (D : s.heap.DictOf (mixKind prog w) d kvs) (S : s.heap.DictOf (mixKind prog w) a more) (few : kvs.length + more.length ≤ sizeLine)
    (fin : ∀ h', h'.DictOf (mixKind prog w) d (merged kvs more) → Heap.SameBut d s.heap h' → Q () { s with heap := h' }) : wpAny (model prog w) A (mergeMapping d (.ref a) false) Q E s := by
  obtain ⟨od, ed, pd, gd, xd, td, kd, rd, nd⟩ := id D
  obtain ⟨oa, ea, pa, ga, xa, ta, ka, ra, na⟩ := id S
  have ty : s.TypeIs (.ref a) "dict" := ⟨oa, ga, xa.1⟩
  unfold mergeMapping
  have subd : isSubtype (.type "dict") (.type "dict") = pure true := by rw [isSubtype_type]; kernel_rfl
  refine wpAny_bind (wpAny_isInstance ty subd ?_)
  rw [if_pos rfl]
  refine wpAny_bind (wpAny_specialOf ty F.slot_dict_iter.lookup (wpAny_bind (wpAny_pure ?_)))
  have b0 : ((some (Value.builtin "dict.__iter__") : Option Value) == some (Value.builtin "dict.__iter__")) = true := by decide
  rw [b0]
  dsimp only
  rw [if_neg (by rw [hS]; exact Bool.false_ne_true)]
  refine wpAny_bind (wpAny_dictEntries gd td ?_)
  have size : more.length = ea.size := by
    have q := ra.length
    rw [Array.length_toList] at q
    exact q.symm
  by_cases emp : ed.isEmpty = true
  case' pos =>
    rw [if_pos emp]
    refine wpAny_bind (wpAny_dictEntries ga ta ?_)
    rw [← Array.forIn_toList]
    refine wpAny_bind (wpAny_forIn_list _ (fun rest _ t => t = s ∧ ∀ e ∈ rest, e ∈ ea.toList) _ (fun e rest b t h => ?turn) (fun b t h => ?after) _ _ ⟨rfl, fun _ h => h⟩)
    case turn =>
      obtain ⟨rfl, all⟩ := h
      obtain ⟨k, isk, _⟩ := ka e (Array.mem_toList_iff.mp (all e List.mem_cons_self))
      have no := key_shape isk
      generalize e.key = key at no
      cases key with
      | ref x => exact absurd rfl (no x)
      | _ => exact wpAny_pure ⟨rfl, fun z hz => all z (List.mem_cons_of_mem _ hz)⟩
    obtain ⟨e0, _⟩ := h
    rw [e0]
  case' neg => rw [if_neg emp]
  all_goals
    refine wpAny_bind (wpAny_dictEntries ga ta (wpAny_bind (wpAny_dictEpoch ga ta ?_)))
    refine wpAny_bind (wpAny_forIn_list _ (fun rest _ t => ∃ h i, t = { s with heap := h } ∧ rest = List.range' i (ea.size - i) ∧ i ≤ ea.size ∧ h.DictOf (mixKind prog w) d (merged kvs (more.take i)) ∧ h.get? a = some oa ∧ Heap.SameBut d s.heap h) _ ?_ ?_ _ _
      ⟨s.heap, 0, rfl, by simp [List.range_eq_range'], Nat.zero_le _, by simpa [merged] using D, ga, Heap.SameBut.refl _ _⟩)
    · rintro i rest b t ⟨h, j, rfl, hr, hj, hd, hg, hs⟩
      have lt : j < ea.size := by
        rcases Nat.lt_or_ge j ea.size with z | z
        · exact z
        · rw [Nat.sub_eq_zero_of_le z] at hr
          cases hr
      have e1 : ea.size - j = (ea.size - (j + 1)) + 1 := by omega
      rw [e1, List.range'_succ] at hr
      injection hr with r1 r2
      subst r1
      refine wpAny_bind (wpAny_dictEntries hg ta ?_)
      rw [Array.getElem?_eq_getElem lt]
      obtain ⟨⟨k, v⟩, hkv⟩ : ∃ kv, more[i]? = some kv := ⟨more[i]'(by omega), List.getElem?_eq_getElem _⟩
      obtain ⟨isk, val⟩ := ra.get? (e := ea[i]) (by simp [lt]) hkv
      obtain ⟨k2, isk2, hash⟩ := ka ea[i] (Array.getElem_mem lt)
      obtain rfl : k2 = k := (mixKind prog w).inj _ _ _ isk2 isk
      have few2 : (merged kvs (more.take i)).length ≤ sizeLine := by
        have z := merged_length_le kvs (more.take i)
        rw [List.length_take] at z
        omega
      dsimp only
      rw [if_neg Bool.false_ne_true, hash, val]
      refine wpAny_bind (wpAny_holding (put_one isk hd few2 fun h2 hd2 hs2 => ?_))
      have hg2 : h2.get? a = some oa := (hs2.2 a (Ne.symm ne)).trans hg
      refine wpAny_bind (wpAny_dictEpoch hg2 ta ?_)
      rw [if_neg (by simp)]
      refine wpAny_pure ⟨h2, i + 1, rfl, r2, lt, ?_, hg2, hs.trans hs2⟩
      rw [merged_take_succ kvs more i (k2, v) hkv]
      exact hd2
    · rintro b t ⟨h, j, rfl, hr, hj, hd, hg, hs⟩
      have e0 : j = ea.size := by
        rcases Nat.lt_or_ge j ea.size with z | z
        · have e1 : ea.size - j = (ea.size - (j + 1)) + 1 := by omega
          rw [e1, List.range'_succ] at hr
          cases hr
        · exact Nat.le_antisymm hj z
      rw [e0, ← size, List.take_length] at hd
      exact wpAny_pure (fin h hd hs)
end
end DM

set_option Elab.async false
set_option linter.all false
set_option maxRecDepth 100000
set_option maxHeartbeats 1000000
namespace DM
open PySem PySem.Spec PyProof.Rows L2
section
variable {X : Cx} {d k v : Expr} {pos : Pos} {td tk tv : TE}
def tMerge (td tk tv : TE) : TE := fun σ H Q => ∀ p, H p = none → td σ (upd H p (.dK [])) fun x H1 => ∃ (a : Addr) (kvs : List (Key × V)), x = .ref a ∧ Rd H1 a (.dK kvs) ∧ kvs.length < 1000 ∧ H1 p = some (.dK []) ∧ a ≠ p ∧
  ∀ q, upd H1 p (.dK kvs) q = none → tk σ (upd (upd H1 p (.dK kvs)) q (.dK [])) fun y H2 => tv σ H2 fun z H3 => ∃ k : Key, y = kV k ∧ H3 q = some (.dK []) ∧ H3 p = some (.dK kvs) ∧ p ≠ q ∧ Q (.ref p) (upd (upd H3 q (.dK [(k, z)])) p (.dK (putK kvs k z)))
theorem pe_merge (hd : PE X d td) (hk : PE X k tk) (hv : PE X v tv) : PE X (.Dict [none, some k] [d, v] pos) (tMerge td tk tv) := by
  refine ⟨fun pins s σ H Q I h => ?_⟩
  rw [arm_eval_Dict]
  show wpAny _ _ (standAt pos >>= fun _ => dictDisplay [(none, (do let x ← eval d X.env; standAt pos; pure x)), (some (eval k X.env), (do let x ← eval v X.env; standAt pos; pure x))]) _ _ _
  refine wpAny_bind (wpAny_standAt ?_)
  unfold dictDisplay
  simp only [List.forIn_cons, List.forIn_nil, List.isEmpty_nil, if_true, pure_bind, List.nil_append, List.length_cons, List.length_nil, bind_assoc]
  refine wpAny_bind (wpAny_alloc ?_)
  refine wpAny_bind (wpAny_holding ?_)
  have few16 : ∀ n : Nat, n < 1000 → n + 1 ≤ sizeLine := fun n h => by rw [sizeLine_eq]; omega
  generalize ep : s.heap.objs.size = p at *
  have hp0 : H p = none := I.hok.fresh (Nat.le_of_eq ep)
  have I1 : Inv X pins σ (upd H p (.dK [])) { s with heap := s.heap.push { cls := .type "dict", data := .dict #[] } } := by
    rw [← ep]
    exact I.laid (t' := s.toks) (fun _ _ q => Heap.get?_push_of_some _ q) (Nat.le_refl _) (dk_empty s.heap I.big)
  refine wpAny_bind (wpAny_mono (hd.run pins _ σ _ _ I1 (h p hp0)) (fun m s2 z => ?_) fun _ _ e => e)
  obtain ⟨x, H1, I2, rx, a, kvs, ex, ra, few, hp, nep, q⟩ := z
  subst ex
  cases rx
  refine wpAny_bind (wpAny_standAt (wpAny_pure ?_))
  obtain ⟨za, sa, vs, rel, da⟩ := dk_rd I2.hok ra
  obtain ⟨zp, sp, vs0, rel0, dp⟩ := dk_of I2.hok hp
  cases rel0
  have lv : vs.length = kvs.length := rel.length.symm
  have nodup : (vs.map (·.1)).Nodup := by
    obtain ⟨_, _, _, _, _, _, _, _, n⟩ := da
    exact n
  refine wpAny_bind (wpAny_onRaise (wpAny_tryCatch (wpAny_onRaise (wpAny_holding (put_all (Ne.symm nep) sa dp da (by simpa using by rw [lv]; exact za) fun h' dd hs => ?_)))))
  rw [merged_nil_of_nodup vs nodup] at dd
  have there : ∃ o, h'.get? p = some o := let ⟨o, _, _, g, _⟩ := dd; ⟨o, g⟩
  have I3 : Inv X pins σ (upd H1 p (.dK kvs)) { s2 with heap := h' } := d_write (t' := s2.toks) I2 (by rw [hp]; trivial) hs there (dk_new za sp rel dd)
  rw [if_neg (by decide)]
  refine wpAny_bind (wpAny_pure (wpAny_bind (wpAny_pure ?_)))
  dsimp only [List.isEmpty_cons]
  rw [if_neg Bool.false_ne_true]
  generalize e3 : ({ s2 with heap := h' } : Shared) = s3 at I3
  have I4 : Inv X pins σ (upd (upd H1 p (.dK kvs)) s3.heap.objs.size (.dK [])) { s3 with heap := s3.heap.push { cls := .type "dict", data := .dict #[] } } :=
    I3.laid (t' := s3.toks) (fun _ _ q => Heap.get?_push_of_some _ q) (Nat.le_refl _) (dk_empty s3.heap I3.big)
  have hq0 : upd H1 p (.dK kvs) s3.heap.objs.size = none := I3.hok.fresh (Nat.le_refl _)
  refine wpAny_bind (wpAny_bind (wpAny_holding (wpAny_subDict (knd := mixKind X.prog X.w) (by show 1 ≤ 15; decide) (evalPairs_cons (wpAny_mono (hk.run pins _ σ _ _ I4 (q _ hq0)) (fun u s4 z => ?_) fun _ _ e => e)))))
  generalize s3.heap.objs.size = b at *
  obtain ⟨y, H2, I5, ry, q2⟩ := z
  refine wpAny_bind (wpAny_mono (hv.run pins _ σ _ _ I5 q2) (fun u2 s5 z => ?_) fun _ _ e => e)
  obtain ⟨y2, H3, I6, ry2, k0, ek, hb, hp3, nepb, q3⟩ := z
  subst ek
  refine wpAny_bind (wpAny_standAt (wpAny_pure (evalPairs_nil ?_)))
  obtain ⟨zb, sb, vb, relb, db⟩ := dk_of I6.hok hb
  cases relb
  refine ⟨[(k0, u2)], ⟨kV_is ry, rfl, trivial⟩, db, fun h5 d5 s5b => ?_⟩
  have I7 : Inv X pins σ (upd H3 b (.dK [(k0, y2)])) { s5 with heap := h5, toks := s5.toks + 1 } :=
    d_write I6 (by rw [hb]; trivial) s5b (let ⟨o, _, _, g, _⟩ := d5; ⟨o, g⟩) (dk_new (vs := [(k0, u2)]) (by show 1 ≤ sizeLine; decide) sb (.cons ⟨rfl, ry2⟩ .nil) d5)
  have hp7 : upd H3 b (.dK [(k0, y2)]) p = some (.dK kvs) := by
    rw [upd_ne nepb]
    exact hp3
  obtain ⟨zp7, sp7, vp7, relp7, dp7⟩ := dk_of I7.hok hp7
  have lp : vp7.length = kvs.length := relp7.length.symm
  have f16 := few16 kvs.length few
  refine wpAny_bind (wpAny_onRaise (wpAny_holding (put_all nepb sb dp7 d5 (by show vp7.length + 1 ≤ sizeLine; omega) fun h8 d8 s8 => wpAny_pure ?_)))
  have e8 : merged vp7 (merged [] [(k0, u2)]) = stored vp7 k0 u2 := rfl
  rw [e8] at d8
  have lz : (putK kvs k0 y2).length ≤ sizeLine := by
    have := length_putK kvs k0 y2
    omega
  have I8 : Inv X pins σ (upd (upd H3 b (.dK [(k0, y2)])) p (.dK (putK kvs k0 y2))) { s5 with heap := h8, toks := s5.toks + 1 } :=
    d_write (s := { s5 with heap := h5, toks := s5.toks + 1 }) (t' := s5.toks + 1) I7 (by rw [hp7]; trivial) s8 (let ⟨o, _, _, g, _⟩ := d8; ⟨o, g⟩) (dk_new lz sp7 (relp7.put k0 ry2) d8)
  exact wpAny_pure ⟨.ref p, _, I8, rfl, q3⟩
end
end DM

set_option Elab.async false
set_option linter.all false
set_option maxRecDepth 100000
set_option maxHeartbeats 1000000
/-! DD: dicts that are known for good. -/
namespace DL
open PySem PySem.Spec PyProof.Rows L2
/-- the value is a dict just made; from here on it stays as it is -/
def tFrz (t : TE) : TE := fun σ H Q => t σ H fun v H1 => ∃ (d : Addr) (u : HO), v = .ref d ∧ H1 d = some u ∧ Mut (some u) ∧ ∀ o, Q v (upd H1 d (.frz o u))
theorem pe_frz {X : Cx} {e : Expr} {t : TE} (h : PE X e t) : PE X e (tFrz t) := by
  refine ⟨fun pins s σ H Q I z => ?_⟩
  refine thn (h.run pins s σ H _ I z) fun v s1 ⟨x, H1, I1, r, d, u, ex, hd, mu, q⟩ => ?_
  obtain ⟨o, I2⟩ := I1.lock hd mu
  exact ⟨x, _, I2, r, q o⟩
section
variable {K : PySem.W.Frag} {env : List En} {td tk tv : TE} {od ok ov : Option PyData}
theorem de_newK : DE K (tFrz tDNewK) env (some (.dict [])) := fun G0 H0 G H σ E d e Q q => by
  cases e
  intro p hp
  refine ⟨p, .dK [], rfl, upd_same, trivial, fun o => ?_⟩
  have e2 : upd (upd H p (.dK [])) p (.frz o (.dK [])) = upd H p (.frz o (.dK [])) := by
    funext b
    by_cases h : b = p
    · subst h
      rw [upd_same, upd_same]
    · rw [upd_ne h, upd_ne h, upd_ne h]
  rw [e2]
  have g := Grow.lay (.frz o (.dK [])) E.sub hp
  exact q _ _ _ g (.dk upd_same (Nat.zero_le _) .nil)
noncomputable def hasI (i : Int) (es : List (PyData × PyData)) : Bool := @List.rec (PyData × PyData) (fun _ => Bool) false (fun e _ ih => match e.1 with
  | .int j => ieq j i || ih
  | _ => ih) es
noncomputable def setI (i : Int) (z : PyData) (es : List (PyData × PyData)) : List (PyData × PyData) := @List.rec (PyData × PyData) (fun _ => List (PyData × PyData)) [] (fun e _ ih => match e.1 with
  | .int j => (bif ieq j i then (e.1, z) else e) :: ih
  | _ => e :: ih) es
noncomputable def putI (i : Int) (z : PyData) (es : List (PyData × PyData)) : List (PyData × PyData) := bif hasI i es then setI i z es else es ++ [(.int i, z)]
theorem hasI_ok {G : Hp} {i : Int} : ∀ {kvs : List (Key × V)} {es : List (PyData × PyData)}, RpK K G kvs es → (kvs.any fun kv => decide (kv.1 = .inl i)) = hasI i es
  | _, _, .nil => rfl
  | _, _, .cons (i := j) (v := v) (vs := vs) (d := d) (ds := ds) r t => by
    have e := hasI_ok (i := i) t
    show (decide (Sum.inl j = (Sum.inl i : Key)) || vs.any fun kv => decide (kv.1 = .inl i)) = (ieq j i || hasI i ds)
    rw [e, ieq_eq]
    congr 1
    simp
theorem setI_ok {G : Hp} {i : Int} {v : V} {z : PyData} (rv : Rp K G v z) : ∀ {kvs : List (Key × V)} {es : List (PyData × PyData)}, RpK K G kvs es → RpK K G (kvs.map fun kv => if kv.1 = .inl i then (kv.1, v) else kv) (setI i z es)
  | _, _, .nil => .nil
  | _, _, .cons (i := j) (v := v0) (vs := vs) (d := d) (ds := ds) r t => by
    have e := setI_ok (i := i) rv t
    show RpK K G ((if (Sum.inl j : Key) = .inl i then (.inl j, v) else (.inl j, v0)) :: _) ((bif ieq j i then (PyData.int j, z) else (.int j, d)) :: setI i z ds)
    cases h : ieq j i with
    | true =>
      rw [ieq_iff] at h
      subst h
      rw [if_pos rfl]
      exact .cons rv e
    | false =>
      have ne : ¬ (Sum.inl j : Key) = .inl i := fun q => by
        rw [(ieq_iff j i).mpr (Sum.inl.inj q)] at h
        cases h
      rw [if_neg ne]
      exact .cons r e
theorem rpK_app {G : Hp} {i : Int} {v : V} {z : PyData} (rv : Rp K G v z) : ∀ {kvs : List (Key × V)} {es : List (PyData × PyData)}, RpK K G kvs es → RpK K G (kvs ++ [(.inl i, v)]) (es ++ [(.int i, z)])
  | _, _, .nil => .cons rv .nil
  | _, _, .cons r t => .cons r (rpK_app rv t)
theorem putI_ok {G : Hp} {i : Int} {v : V} {z : PyData} {kvs : List (Key × V)} {es : List (PyData × PyData)} (r : RpK K G kvs es) (rv : Rp K G v z) : RpK K G (putK kvs (.inl i) v) (putI i z es) := by
  unfold putK putI
  rw [← hasI_ok (i := i) r]
  cases h : kvs.any fun kv => decide (kv.1 = .inl i) with
  | true => exact setI_ok (i := i) rv r
  | false => exact rpK_app rv r
theorem rd_dict {G : Hp} {v : V} {es : List (PyData × PyData)} {i : Int} (r : Rp K G v (.dict es)) (h : itemsK (.dict es) = some es ∨ es = []) : ∃ a o kvs, v = .ref a ∧ G a = some (.frz o (.dK kvs)) ∧ kvs.length ≤ big ∧ RpK K G kvs es := by
  cases r with
  | dk ha hl r => exact ⟨_, _, _, rfl, ha, hl, r⟩
  | dn _ _ _ _ r n =>
    obtain ⟨dk, dv, t, rfl, no⟩ := rpN_ni r n
    cases dk with
    | int i => exact absurd rfl (no i)
    | _ =>
      rcases h with h | h
      · cases h
      · cases h
noncomputable def mergeO : PyData → PyData → PyData → Option PyData
  | .dict es, .int i, z => bif Nat.blt es.length 900 then (match es with
    | [] => some (.dict (putI i z es))
    | (.int _, _) :: _ => some (.dict (putI i z es))
    | _ => none) else none
  | _, _, _ => none
theorem de_merge (hd : DE K td env od) (hk : DE K tk env ok) (hv : DE K tv env ov) : DE K (tFrz (DM.tMerge td tk tv)) env (od.bind fun x => ok.bind fun y => ov.bind fun z => mergeO x y z) := fun G0 H0 G H σ E d e Q q => by
  obtain ⟨x, hx, e⟩ := bnd e
  obtain ⟨y, hy, e⟩ := bnd e
  obtain ⟨z, hz, e⟩ := bnd e
  intro p hp
  have hGp := none_sub E.sub hp
  have g0 : Grow G H G (upd H p (.dK [])) := (Grow.rfl' E.sub).put _ hp hGp
  refine hd _ _ _ _ _ (E.more g0) x hx _ fun v G1 H1 g1 r1 => ?_
  have p1 : H1 p = some (.dK []) := g1.h _ _ upd_same
  have pG1 : G1 p = none := g1.new p (by rw [upd_same]; exact fun z => nomatch z) hGp
  cases x with
  | dict es =>
    cases y with
    | int i =>
      obtain ⟨c, es2⟩ : Nat.blt es.length 900 = true ∧ ((itemsK (.dict es) = some es ∨ es = []) ∧ d = .dict (putI i z es)) := by
        cases hb : Nat.blt es.length 900 with
        | false =>
          have e : (bif Nat.blt es.length 900 then _ else none) = some d := e
          rw [hb] at e
          cases e
        | true =>
          have e2 : (bif Nat.blt es.length 900 then (match es with
            | [] => some (.dict (putI i z es))
            | (.int _, _) :: _ => some (.dict (putI i z es))
            | _ => none) else none) = some d := e
          rw [hb] at e2
          refine ⟨rfl, ?_⟩
          cases es with
          | nil => cases e2; exact ⟨.inr rfl, rfl⟩
          | cons a r =>
            obtain ⟨k, w⟩ := a
            cases k with
            | int j => cases e2; exact ⟨.inl rfl, rfl⟩
            | _ => cases e2
      obtain ⟨isK, ed⟩ := es2
      subst ed
      rw [Nat.blt_eq] at c
      obtain ⟨a, o, kvs, rfl, ha, hl, rk⟩ := rd_dict (i := i) r1 isK
      have lk := rpK_len rk
      have nep : a ≠ p := fun z => by
        rw [z, pG1] at ha
        cases ha
      refine ⟨a, kvs, rfl, .inr ⟨o, g1.sub _ _ ha⟩, by omega, p1, nep, fun b hb => ?_⟩
      -- the heap now: p holds what was read, b is new
      have g2 : Grow G H G1 (upd H1 p (.dK kvs)) := (g0.trans g1).put _ hp pG1
      have nb : b ≠ p := fun z => by
        rw [z, upd_same] at hb
        cases hb
      have hHb : H b = none := none_sub g2.h hb
      have hGb : G1 b = none := none_sub g2.sub hb
      have g3 : Grow G H G1 (upd (upd H1 p (.dK kvs)) b (.dK [])) := g2.put _ hHb hGb
      refine hk _ _ _ _ _ (E.more g3) (.int i) hy _ fun v2 G2 H2 g4 r2 => ?_
      cases r2
      refine hv _ _ _ _ _ ((E.more g3).more g4) z hz _ fun v3 G3 H3 g5 r3 => ?_
      have g6 := g4.trans g5
      have p3 : H3 p = some (.dK kvs) := g6.h _ _ (by rw [upd_ne (Ne.symm nb), upd_same])
      have b3 : H3 b = some (.dK []) := g6.h _ _ upd_same
      have pG3 : G3 p = none := g6.new p (by rw [upd_ne (Ne.symm nb), upd_same]; exact fun z => nomatch z) pG1
      have bG3 : G3 b = none := g6.new b (by rw [upd_same]; exact fun z => nomatch z) hGb
      refine ⟨.inl i, rfl, b3, p3, Ne.symm nb, p, .dK (putK kvs (.inl i) v3), rfl, upd_same, trivial, fun o2 => ?_⟩
      have g7 : Grow G H G3 (upd H3 b (.dK [(.inl i, v3)])) := (g3.trans g6).put _ hHb bG3
      have e8 : upd (upd (upd H3 b (.dK [(.inl i, v3)])) p (.dK (putK kvs (.inl i) v3))) p (.frz o2 (.dK (putK kvs (.inl i) v3))) = upd (upd H3 b (.dK [(.inl i, v3)])) p (.frz o2 (.dK (putK kvs (.inl i) v3))) := by
        funext c
        by_cases h : c = p
        · subst h
          rw [upd_same, upd_same]
        · rw [upd_ne h, upd_ne h, upd_ne h]
      rw [e8]
      have g8 : Grow G H G3 (upd (upd H3 b (.dK [(.inl i, v3)])) p (.frz o2 (.dK (putK kvs (.inl i) v3)))) := g7.put _ hp pG3
      have g9 := g8.freeze hp pG3 upd_same
      have s9 : Same G3 (upd G3 p (.frz o2 (.dK (putK kvs (.inl i) v3)))) := same_new pG3
      refine q _ _ _ g9 (.dk upd_same ?_ (putI_ok ((rk.mono g6.g).mono s9) (r3.mono s9)))
      have l1 := length_putK kvs (.inl i) v3
      have : (1000 : Nat) ≤ big := by decide
      omega
    | _ => cases e
  | _ => cases y <;> cases e
end
end DL

set_option Elab.async false
set_option linter.all false
set_option maxRecDepth 100000
set_option maxHeartbeats 1000000
/-! DC2: {k: v for a in xs for b in ys}. -/
namespace DC
open PySem PySem.Spec PyProof.Rows L2
/-- the comprehension's text -/
abbrev two (kx vx t0 i0 t1 i1 : Expr) (scope : Scope) (pos : Pos) : Expr := .DictComp kx vx [⟨t0, i0, [], 0⟩, ⟨t1, i1, [], 0⟩] scope pos
abbrev noX : Value → Shared → Prop := fun _ _ => False
theorem off {α : Type} {M : Model} {A : Around} {m : Sem α} {Q : α → Shared → Prop} {E : Value → Shared → Prop} {s : Shared} (h : wpAny M A m Q noX s) : wpAny M A m Q E s := wpAny_mono h (fun _ _ q => q) fun _ _ z => z.elim
theorem offT {α : Type} {M : Model} {A : Around} {m : Sem α} {Q Q' : α → Shared → Prop} {E : Value → Shared → Prop} {s : Shared} (h : wpAny M A m Q noX s) (k : ∀ a t, Q a t → Q' a t) : wpAny M A m Q' E s := wpAny_mono h k fun _ _ z => z.elim
section
variable {prog : Program} {w : World} {A : Around} {R : Result → Shared → Prop} {s : Shared} {kx vx t0 i0 t1 i1 : Expr} {scope : Scope} {pos : Pos} {it : Value} {d : Addr} {env : Env}
theorem turn0 (kx vx t0 i0 t1 i1 : Expr) (scope : Scope) (pos : Pos) (it acc : Value) (env : Env) :
    compTurn (two kx vx t0 i0 t1 i1 scope pos) 0 it acc env = (standAt i0.pos >>= fun _ => pyNext it >>= fun r => match r with
      | none => pure (.done .next)
      | some v => letOwnedTupleGo t0 it v >>= fun _ => assign t0 env v >>= fun _ => eval i1 env >>= fun x => standAt i1.pos >>= fun _ => foldedSetIterable i1 env x >>= fun x => holding [x] (pyIter x) >>= fun j => runOwn (.compStart (two kx vx t0 i0 t1 i1 scope pos) 1 j acc env) env >>= fun _ => again (.compLoop (two kx vx t0 i0 t1 i1 scope pos) 0 it acc env)) := by rfl
theorem turn1 (kx vx t0 i0 t1 i1 : Expr) (scope : Scope) (pos : Pos) (it : Value) (d : Addr) (env : Env) :
    compTurn (two kx vx t0 i0 t1 i1 scope pos) 1 it (.ref d) env = (standAt i1.pos >>= fun _ => pyNext it >>= fun r => match r with
      | none => pure (.done .next)
      | some v => letOwnedTupleGo t1 it v >>= fun _ => assign t1 env v >>= fun _ => (eval kx env >>= fun a => holding [a] (eval vx env) >>= fun b => standAt { kx.pos with endLine := vx.pos.endLine, endCol := vx.pos.endCol } >>= fun _ => holding [a, b] (dictSet d a b)) >>= fun _ => again (.compLoop (two kx vx t0 i0 t1 i1 scope pos) 1 it (.ref d) env)) := by rfl
/-- the inner loop: J n the state with n to come -/
theorem loop1 (J : Nat → Shared → Prop)
    (go : ∀ n s, J n s → wpAny (model prog w) A (pyNext it) (fun r s => match r with
      | none => R (.ok .next) s
      | some v => wpAny (model prog w) A (letOwnedTupleGo t1 it v) (fun _ s => wpAny (model prog w) A (assign t1 env v) (fun _ s => wpAny (model prog w) A (eval kx env) (fun a s => wpAny (model prog w) A (eval vx env) (fun b s => wpAny (model prog w) A (dictSet d a b) (fun _ s => ∃ m, m < n ∧ J m s) noX s) noX s) noX s) noX s) noX s) noX s)
    (n : Nat) (h : J n s) : codeAny (model prog w) A (.compLoop (two kx vx t0 i0 t1 i1 scope pos) 1 it (.ref d) env) R s := by
  refine codeAny_loop rfl J (fun n s h => ?_) n h
  show wpAny _ A ((compTurn (two kx vx t0 i0 t1 i1 scope pos) 1 it (.ref d) env).onRaise (fun x => do noteFrame x env; theTreesLotGoes x)) _ _ s
  refine wpAny_noted ?_
  rw [turn1]
  refine wpAny_bind (wpAny_standAt (wpAny_bind (offT (go n s h) fun r s h => ?_)))
  cases r with
  | none => exact wpAny_pure h
  | some v =>
    refine wpAny_bind (offT h fun _ s h => wpAny_bind (offT h fun _ s h => wpAny_bind (wpAny_bind (offT h fun a s h => wpAny_bind (wpAny_holding (offT h fun b s h => ?_))))))
    exact wpAny_bind (wpAny_standAt (wpAny_holding (offT h fun _ s h => wpAny_pure ⟨rfl, h⟩)))
theorem start1 (h0 : codeAny (model prog w) A (.compLoop (two kx vx t0 i0 t1 i1 scope pos) 1 it (.ref d) env) R s) (h1 : wpAny (model prog w) A (pyIter it) (fun j s => codeAny (model prog w) A (.compLoop (two kx vx t0 i0 t1 i1 scope pos) 1 j (.ref d) env) R s) noX s) :
    codeAny (model prog w) A (.compStart (two kx vx t0 i0 t1 i1 scope pos) 1 it (.ref d) env) R s := by
  refine codeAny_of_tree ?_
  show wpAny _ _ ((compStart (two kx vx t0 i0 t1 i1 scope pos) 1 it (.ref d) env).onRaise (fun x => do noteFrame x env; standAt theWindowsPlace)) _ _ s
  refine wpAny_notedAt ?_
  unfold compStart
  show wpAny _ _ (ask >>= _) _ _ s
  refine wpAny_bind (wpAny_askSetting (wpAny_ite ?_))
  split
  · first
      | exact wpAny_bind (wpAny_pure (wpAny_pure ⟨rfl, h0⟩))
      | exact wpAny_pure ⟨rfl, h0⟩
  · refine wpAny_bind (wpAny_rule ?_)
    show wpAny _ _ (standAt i1.pos >>= _) _ _ s
    exact wpAny_bind (wpAny_standAt (wpAny_bind (offT h1 fun j s h => wpAny_pure ⟨rfl, h⟩)))
/-- the outer loop -/
theorem loop0 (hf : ∀ x, foldedSetIterable i1 env x = pure x) (J : Nat → Shared → Prop)
    (go : ∀ n s, J n s → wpAny (model prog w) A (pyNext it) (fun r s => match r with
      | none => R (.ok .next) s
      | some v => wpAny (model prog w) A (letOwnedTupleGo t0 it v) (fun _ s => wpAny (model prog w) A (assign t0 env v) (fun _ s => wpAny (model prog w) A (eval i1 env) (fun x s => wpAny (model prog w) A (pyIter x) (fun j s =>
          codeAny (model prog w) A (.compStart (two kx vx t0 i0 t1 i1 scope pos) 1 j (.ref d) env) (fun r s => match r with
            | .ok _ => ∃ m, m < n ∧ J m s
            | .error _ => False) s) noX s) noX s) noX s) noX s) noX s)
    (n : Nat) (h : J n s) : codeAny (model prog w) A (.compLoop (two kx vx t0 i0 t1 i1 scope pos) 0 it (.ref d) env) R s := by
  refine codeAny_loop rfl J (fun n s h => ?_) n h
  show wpAny _ A ((compTurn (two kx vx t0 i0 t1 i1 scope pos) 0 it (.ref d) env).onRaise (fun x => do noteFrame x env; theTreesLotGoes x)) _ _ s
  refine wpAny_noted ?_
  rw [turn0]
  refine wpAny_bind (wpAny_standAt (wpAny_bind (offT (go n s h) fun r s h => ?_)))
  cases r with
  | none => exact wpAny_pure h
  | some v =>
    refine wpAny_bind (offT h fun _ s h => wpAny_bind (offT h fun _ s h => wpAny_bind (offT h fun x s h => ?_)))
    refine wpAny_bind (wpAny_standAt (wpAny_bind (wpAny_of_eq (hf x) (wpAny_bind (wpAny_holding (offT h fun j s h => ?_))))))
    refine wpAny_bind (wpAny_runOwn ?_)
    rw [Around.mark_none]
    refine codeAny_mono h fun r s h => ?_
    cases r with
    | ok f => exact wpAny_pure ⟨rfl, h⟩
    | error e => exact h.elim
end
/-- the reading: D the new dict; j, k the slots of the two targets -/
def tDc2 (wi : TI) (j : Nat) (wi1 : TI) (k : Nat) (tk tv : TE) (vs vs1 : List Nat) : TE := fun σ H Q => wi σ H fun J H1 => ∀ D, H1 D = none → ∃ W : Nat → Nat → Hp → Prop, (∃ m, W 0 m (upd H1 D (.dK []))) ∧ ∀ i m H, W i m H →
  (J.stop i H ∧ Q (.ref D) H) ∨ (J.go i H ∧ ∃ N : Hp → Prop, (∀ H', N H' → ∃ m', m' < m ∧ W (i + 1) m' H') ∧ ∀ x H', J.yld i H x H' → wi1 ((wipe σ vs).set j (some x)) H' fun J1 H2 =>
    ∃ W1 : Nat → Nat → Hp → Prop, (∃ m, W1 0 m H2) ∧ ∀ i m H, W1 i m H →
      (J1.stop i H ∧ N H) ∨ (J1.go i H ∧ ∃ N1 : Hp → Prop, (∀ H', N1 H' → ∃ m', m' < m ∧ W1 (i + 1) m' H') ∧ ∀ y H', J1.yld i H y H' → tk ((wipe ((wipe σ vs).set j (some x)) vs1).set k (some y)) H' fun a H3 => tv ((wipe ((wipe σ vs).set j (some x)) vs1).set k (some y)) H3 fun b H4 =>
        ∃ kvs q, a = kV q ∧ H4 D = some (.dK kvs) ∧ kvs.length < sizeLine ∧ N1 (upd H4 D (.dK (putK kvs q b)))))
/-- what an iterator's objects have to be, so that they may turn within a block -/
theorem fp_blk {X : Cx} {s : Shared} {H H' : Hp} {scope : Scope} {env : Env} {fp : List Addr} {σ : L2.St} {s' : Shared} (I : Inv (X.blk s H scope env fp) [] σ H' s') (n : ∀ b ∈ fp, H' b = none) : ∀ b ∈ fp, FpOk (X.blk s H scope env fp) [] H' b := fun b hb =>
  ⟨n b hb, (I.ok.exf b hb).1, I.ok.exfs b hb, .inl hb, fun y c e => (I.ok.exf b hb).2 y c e, fun p hp => by
    have : p ∈ ([] : List (Addr × Obj)) ++ [] := hp
    simp at this⟩
theorem dc2_core {pins : List (Addr × Obj)} {s : Shared} {σ : L2.St} {H : Hp} {Q : VK} {pos' : Pos} {use : Option (Value → Sem Unit)} {Qf : Value → Shared → Prop} {X : Cx} {kx vx t0 i0 t1 i1 : Expr} {scope : Scope} {own : List (Str × Nat)} {vs1 : List Nat} {pos : Pos} {wi wi1 : TI} {j k : Nat} {tk tv : TE} (hc : X.calm = true) (nd : X.N.Nodup) (src : PI X t0 i0 wi) (ok : BlkOk X.N X.env.scope scope own)
    (in1 : ∀ i ∈ vs1, i ∈ own.map (·.2)) (hj : DL.inN j (own.map (·.2)) = true) (hk : DL.inN k vs1 = true)
    (p0 : ∀ (s : Shared) (H : Hp) (C : Addr) (cl : List (Str × Addr)) (fp : List Addr), PG (X.blk s H scope (compEnvC scope cl C X.env) fp) t0 (gName j))
    (src1 : ∀ (s : Shared) (H : Hp) (C : Addr) (cl : List (Str × Addr)) (fp : List Addr), PI (X.blk s H scope (compEnvC scope cl C X.env) fp) t1 i1 wi1)
    (p1 : ∀ (s : Shared) (H : Hp) (C : Addr) (cl : List (Str × Addr)) (fp : List Addr), PG (X.blk s H scope (compEnvC scope cl C X.env) fp) t1 (gName k))
    (ek : ∀ (s : Shared) (H : Hp) (C : Addr) (cl : List (Str × Addr)) (fp : List Addr), PE (X.blk s H scope (compEnvC scope cl C X.env) fp) kx tk)
    (ev : ∀ (s : Shared) (H : Hp) (C : Addr) (cl : List (Str × Addr)) (fp : List Addr), PE (X.blk s H scope (compEnvC scope cl C X.env) fp) vx tv)
    (f0 : ∀ x, foldedSetIterable i0 X.env x = pure x) (f1 : ∀ env x, foldedSetIterable i1 env x = pure x) (I : Inv X pins σ H s) (h : tDc2 wi j wi1 k tk tv (own.map (·.2)) vs1 σ H Q)
    (fin : ∀ D C s' m H', Inv X pins σ H' s' → Q (.ref D) H' → s'.heap.Ns C m → FpOk X pins H' C → compPost (model X.prog X.w) X.A X.xe use Qf (.ref D) C (.ok .next) s') :
    wpAny (model X.prog X.w) X.A (comprehension (two kx vx t0 i0 t1 i1 scope pos) scope X.env pos' newDict false (eval i0 X.env) use) Qf X.xe s := by
  have caught : ∀ y ∈ scope.names, y.2 = .free → ∃ c, X.env.cells.lookup y.1 = some c := fun y hy e => (ok.free y hy e).elim (fun z => I.ok.has _ (.inl z)) fun z => I.ok.has _ (.inr z)
  refine wpAny_comprehension_free (use := use) rfl f0 (closure_ok caught) ok.kind (fun y hy e => by rw [ok.uniq y hy, e]) (thn (src.run pins s σ H _ I h) fun v s1 z => thn z fun v2 s2 z => ?_)
  obtain ⟨it, fp, tn, J, H2, ev2, I2, T, st, ff, q⟩ := z
  subst ev2
  refine wpAny_newObj_type (newEnv_comp ?_)
  -- the dict
  have hD : H2 s2.heap.objs.size = none := I2.hok.fresh (Nat.le_refl _)
  obtain ⟨W, ⟨m0, w0⟩, turn⟩ := q _ hD
  have I3 : Inv X pins σ (upd H2 s2.heap.objs.size (.dK [])) { s2 with heap := s2.heap.push { cls := .type "dict", data := .dict #[] } } :=
    I2.laid (t' := s2.toks) (fun b o e => Heap.get?_push_of_some _ e) (Nat.le_refl _) (dk_empty s2.heap I2.big)
  have low : ∀ b ∈ fp, b < s2.heap.objs.size := fun b hb => let ⟨o, e, _⟩ := T.obj _ _ st b hb; Heap.lt_size e
  have ff3 : ∀ b ∈ fp, FpOk X pins (upd H2 s2.heap.objs.size (.dK [])) b ∧ b < (s2.heap.push { cls := .type "dict", data := .dict #[] }).objs.size := fun b hb =>
    ⟨⟨by rw [upd_ne (Nat.ne_of_lt (low b hb))]; exact (ff b hb).1, (ff b hb).2⟩, by rw [Heap.size_push]; exact Nat.lt_succ_of_lt (low b hb)⟩
  have st3 : tn 0 (s2.heap.push { cls := .type "dict", data := .dict #[] }) := T.keep _ _ _ st fun b _ o e => Heap.get?_push_of_some _ e
  generalize e3 : ({ s2 with heap := s2.heap.push { cls := .type "dict", data := .dict #[] } } : Shared) = s3 at I3 ⊢
  have h3 : s2.heap.push { cls := .type "dict", data := .dict #[] } = s3.heap := by rw [← e3]
  rw [h3] at ff3 st3
  clear e3 h3
  generalize s2.heap.objs.size = D at *
  generalize eH : upd H2 D (.dK []) = H3 at I3 ff3 w0
  have I4 := block_start I3 ok nd ff3
  have P0 := p0 s3 H3 s3.heap.objs.size (cellsFrom (s3.heap.objs.size + 1) scope.names (cloFrom X.env.cells scope.names [])) fp
  have S1 := src1 s3 H3 s3.heap.objs.size (cellsFrom (s3.heap.objs.size + 1) scope.names (cloFrom X.env.cells scope.names [])) fp
  have P1 := p1 s3 H3 s3.heap.objs.size (cellsFrom (s3.heap.objs.size + 1) scope.names (cloFrom X.env.cells scope.names [])) fp
  have EK := ek s3 H3 s3.heap.objs.size (cellsFrom (s3.heap.objs.size + 1) scope.names (cloFrom X.env.cells scope.names [])) fp
  have EV := ev s3 H3 s3.heap.objs.size (cellsFrom (s3.heap.objs.size + 1) scope.names (cloFrom X.env.cells scope.names [])) fp
  show codeAny _ _ (.compStart (two kx vx t0 i0 t1 i1 scope pos) 0 (.ref it) (.ref D) (compEnvC scope (cellsFrom (s3.heap.objs.size + 1) scope.names (cloFrom X.env.cells scope.names [])) s3.heap.objs.size X.env)) (compPost (model X.prog X.w) X.A X.xe use Qf (.ref D) s3.heap.objs.size) { s3 with heap := pushCells (s3.heap.push { cls := .type "dict", data := .dict #[] }) scope.names }
  generalize ec : compEnvC scope (cellsFrom (s3.heap.objs.size + 1) scope.names (cloFrom X.env.cells scope.names [])) s3.heap.objs.size X.env = ce at I4 P0 S1 P1 EK EV ⊢
  have loc : ce.locals = s3.heap.objs.size := by
    subst ec
    rfl
  have st4 : tn 0 (pushCells (s3.heap.push { cls := .type "dict", data := .dict #[] }) scope.names) := T.keep _ _ _ st3 fun b _ o e => pushCells_keeps _ _ _ _ (Heap.get?_push_of_some _ e)
  generalize e4 : ({ s3 with heap := pushCells (s3.heap.push { cls := .type "dict", data := .dict #[] }) scope.names } : Shared) = s4 at I4 ⊢
  have st5 : tn 0 s4.heap := by
    rw [← e4]
    exact st4
  clear e4 st4 st3
  have kept : ∀ {vs : List Nat} {τ ρ : L2.St} {i : Nat} {v : V}, wipe ρ vs = wipe τ vs → (wipe τ vs)[i]? = some (some v) → ρ[i]? = some (some v) ∧ i ∉ vs := fun e z => by
    rw [← e] at z
    exact wipe_some z
  -- the outer loop's word
  let Wd : Nat → Shared → Prop := fun n t => ∃ i H', Inv (X.blk s3 H3 scope ce fp) [] (wipe σ (own.map (·.2))) H' t ∧ tn i t.heap ∧ (∀ b ∈ fp, H' b = none) ∧ W i n H'
  have main : codeAny (model X.prog X.w) X.A (.compLoop (two kx vx t0 i0 t1 i1 scope pos) 0 (.ref it) (.ref D) ce) (compPost (model X.prog X.w) X.A X.xe use Qf (.ref D) s3.heap.objs.size) s4 := by
    refine loop0 (f1 ce) Wd ?_ m0 ⟨0, H3, I4, st5, fun b hb => (ff3 b hb).1.1, w0⟩
    rintro n t ⟨i, Ht, It, tt, ft, wt⟩
    rcases turn i n Ht wt with ⟨stop, done⟩ | ⟨go, N, hN, step⟩
    · refine thnF (T.done (X.blk s3 H3 scope ce fp) rfl rfl rfl hc i [] t _ Ht noX It (fp_blk It ft) tt stop) fun r t2 z => ?_
      obtain ⟨er, I6⟩ := z
      subst er
      have I7 : Inv X pins σ Ht t2 := I3.call' (ch := fp) I6.os I6.base I6.hok I6.bare fun b hb => ⟨(ff3 b hb).1.2.2.2.1, (ff3 b hb).1.2.1, (ff3 b hb).1.2.2.2.2.1, (ff3 b hb).1.2.2.2.2.2⟩
      have clear0 : Ht s3.heap.objs.size = none := by
        have z : Ht ce.locals = none := I6.free
        rwa [loc] at z
      obtain ⟨mm, hm, _⟩ := I6.loc
      have hm : t2.heap.Ns ce.locals mm := hm
      rw [loc] at hm
      exact fin D s3.heap.objs.size t2 mm Ht I7 done hm (I3.fpOk (Nat.le_refl _) clear0)
    · refine thnF (T.item (X.blk s3 H3 scope ce fp) rfl rfl rfl hc i [] t _ Ht noX It (fp_blk It ft) tt go) fun r t2 z => ?_
      obtain ⟨u, er, z⟩ := z
      subst er
      refine thnF z fun _ t3 z => ?_
      obtain ⟨x, H6, I6, r6, y6, tt6, ft6⟩ := z
      have Ip := I6.pinned (fp_blk I6 ft6) (T.obj _ _ tt6)
      refine thnF (P0.run _ t3 _ H6 x u (fun τ H' => τ = (wipe σ (own.map (·.2))).set j (some x) ∧ wi1 ((wipe σ (own.map (·.2))).set j (some x)) H' _) Ip r6 ⟨rfl, step x H6 y6⟩) fun _ t4 z => ?_
      obtain ⟨τ, H7, I7, eτ, q7⟩ := z
      subst eτ
      -- a turn of the outer loop is over
      have over : ∀ {ρ : L2.St} {t' : Shared} {H' : Hp}, Inv (X.blk s3 H3 scope ce fp) ([] ++ pinsAt fp t3.heap) ρ H' t' → (wipe σ (own.map (·.2))).length = ρ.length → (∀ (i : Nat) v, (wipe σ (own.map (·.2)))[i]? = some (some v) → ρ[i]? = some (some v)) → N H' → ∃ m, m < n ∧ Wd m t' := fun {ρ t' H'} J' l kp nn => by
        obtain ⟨m', lt, w'⟩ := hN H' nn
        refine ⟨m', lt, i + 1, H', (J'.unpinned (pins := [])).weak l kp, T.keep _ _ _ tt6 fun b hb o e => (J'.pin (b, o) (List.mem_append_right _ (List.mem_append_right _ (mem_pinsAt hb e)))).1, fun b hb => ?_, w'⟩
        obtain ⟨o, e, _⟩ := T.obj _ _ tt6 b hb
        exact (J'.pin (b, o) (List.mem_append_right _ (List.mem_append_right _ (mem_pinsAt hb e)))).2.1
      have w1 := DL.wipe_one (σ := σ) (y := some x) hj
      refine thnF (S1.run _ t4 _ H7 _ I7 q7) fun v5 t5 z => thnF z fun v6 t6 z => ?_
      obtain ⟨it1, fp1, tn1, J1, H8, ev8, I8, T1, tt8, ff8, W1, ⟨m1, w1'⟩, turn1⟩ := z
      subst ev8
      have still : ∀ {H' : Hp}, (∀ b ∈ fp1, H' b = none) → ∀ b ∈ fp1, FpOk (X.blk s3 H3 scope ce fp) ([] ++ pinsAt fp t3.heap) H' b := fun nb b hb => ⟨nb b hb, (ff8 b hb).2⟩
      have inner : codeAny (model X.prog X.w) X.A (.compLoop (two kx vx t0 i0 t1 i1 scope pos) 1 (.ref it1) (.ref D) ce) (fun r t => match r with
          | .ok _ => ∃ m, m < n ∧ Wd m t
          | .error _ => False) t6 := by
        refine loop1 (fun p t => ∃ i H', Inv (X.blk s3 H3 scope ce fp) ([] ++ pinsAt fp t3.heap) (wipe ((wipe σ (own.map (·.2))).set j (some x)) vs1) H' t ∧ tn1 i t.heap ∧ (∀ b ∈ fp1, H' b = none) ∧ W1 i p H') ?_ m1
          ⟨0, H8, I8.weak (wipe_length _ _) (fun i v e => (wipe_some e).1), tt8, fun b hb => (ff8 b hb).1, w1'⟩
        rintro p t ⟨i1', H9, I9, tt9, ft9, w9⟩
        rcases turn1 i1' p H9 w9 with ⟨stop1, nn⟩ | ⟨go1, N1, hN1, step1⟩
        · refine thnF (T1.done (X.blk s3 H3 scope ce fp) rfl rfl rfl hc i1' _ t _ H9 noX I9 (still ft9) tt9 stop1) fun r t2 z => ?_
          obtain ⟨er, I10⟩ := z
          subst er
          refine over I10 (by simp only [wipe_length, List.length_set]) (fun i v e => ?_) nn
          obtain ⟨e1, no⟩ := kept w1 e
          rw [wipe_out fun z => no (in1 i z)]
          exact e1
        · refine thnF (T1.item (X.blk s3 H3 scope ce fp) rfl rfl rfl hc i1' _ t _ H9 noX I9 (still ft9) tt9 go1) fun r t2 z => ?_
          obtain ⟨u1, er, z⟩ := z
          subst er
          refine thnF z fun _ t9 z => ?_
          obtain ⟨y, H10, I10, r10, y10, tt10, ft10⟩ := z
          have Ip1 := I10.pinned (still ft10) (T1.obj _ _ tt10)
          refine thnF (P1.run _ t9 _ H10 y u1 (fun τ H' => τ = (wipe ((wipe σ (own.map (·.2))).set j (some x)) vs1).set k (some y) ∧ tk ((wipe ((wipe σ (own.map (·.2))).set j (some x)) vs1).set k (some y)) H' _) Ip1 r10 ⟨rfl, step1 y H10 y10⟩) fun _ t11 z => ?_
          obtain ⟨τ, H11, I11, eτ, q11⟩ := z
          subst eτ
          refine thnF (EK.run _ t11 _ H11 _ I11 q11) fun a t12 z => ?_
          obtain ⟨ya, H12, I12, r12, q12⟩ := z
          refine thnF (EV.run _ t12 _ H12 _ I12 q12) fun b t13 z => ?_
          obtain ⟨yb, H13, I13, r13, kvs, q, ea, hd13, few, nx⟩ := z
          subst ea
          refine d_dictSet (X := X.blk s3 H3 scope ce fp) I13 hd13 few r12 r13 fun t14 I14 => ?_
          obtain ⟨m', lt, w'⟩ := hN1 _ nx
          refine ⟨m', lt, i1' + 1, _, I14.unpinned.weak (by rw [List.length_set]) (fun i v e => ?_), T1.keep _ _ _ tt10 fun b hb o e => (I14.pin (b, o) (List.mem_append_right _ (List.mem_append_right _ (mem_pinsAt hb e)))).1, fun b hb => ?_, w'⟩
          · exact (kept (DL.wipe_one (σ := (wipe σ (own.map (·.2))).set j (some x)) (y := some y) hk) e).1
          · obtain ⟨o, e, _⟩ := T1.obj _ _ tt10 b hb
            exact (I14.pin (b, o) (List.mem_append_right _ (List.mem_append_right _ (mem_pinsAt hb e)))).2.1
      exact start1 inner (T1.self X.A 0 _ _ _ tt8 inner)
  exact codeAny_compStart_dict main (T.self X.A 0 _ _ _ st5 main)
theorem pe_dc2 {X : Cx} {kx vx t0 i0 t1 i1 : Expr} {scope : Scope} {own : List (Str × Nat)} {vs1 : List Nat} {pos : Pos} {wi wi1 : TI} {j k : Nat} {tk tv : TE} (hc : X.calm = true) (nd : X.N.Nodup) (src : PI X t0 i0 wi) (ok : BlkOk X.N X.env.scope scope own)
    (in1 : ∀ i ∈ vs1, i ∈ own.map (·.2)) (hj : DL.inN j (own.map (·.2)) = true) (hk : DL.inN k vs1 = true)
    (p0 : ∀ (s : Shared) (H : Hp) (C : Addr) (cl : List (Str × Addr)) (fp : List Addr), PG (X.blk s H scope (compEnvC scope cl C X.env) fp) t0 (gName j))
    (src1 : ∀ (s : Shared) (H : Hp) (C : Addr) (cl : List (Str × Addr)) (fp : List Addr), PI (X.blk s H scope (compEnvC scope cl C X.env) fp) t1 i1 wi1)
    (p1 : ∀ (s : Shared) (H : Hp) (C : Addr) (cl : List (Str × Addr)) (fp : List Addr), PG (X.blk s H scope (compEnvC scope cl C X.env) fp) t1 (gName k))
    (ek : ∀ (s : Shared) (H : Hp) (C : Addr) (cl : List (Str × Addr)) (fp : List Addr), PE (X.blk s H scope (compEnvC scope cl C X.env) fp) kx tk)
    (ev : ∀ (s : Shared) (H : Hp) (C : Addr) (cl : List (Str × Addr)) (fp : List Addr), PE (X.blk s H scope (compEnvC scope cl C X.env) fp) vx tv)
    (f0 : ∀ x, foldedSetIterable i0 X.env x = pure x := by intro _; rfl) (f1 : ∀ env x, foldedSetIterable i1 env x = pure x := by intro _ _; rfl) :
    PE X (two kx vx t0 i0 t1 i1 scope pos) (tDc2 wi j wi1 k tk tv (own.map (·.2)) vs1) := by
  refine ⟨fun pins s σ H Q I h => ?_⟩
  rw [arm_eval_DictComp]
  refine dc2_core hc nd src ok in1 hj hk p0 src1 p1 ek ev f0 f1 I h fun D C s' m H' J q hn f => ⟨m, hn, fun h2 sb => ?_⟩
  obtain ⟨a0, a1, a2, a3, a4, a5⟩ := f
  exact ⟨.ref D, H', J.turned (t' := s'.toks) (fun b o hb e => (sb.2 b hb).trans e) a0 a1 a3 a4 a5, rfl, q⟩
/-- name = {..} on one line, the name a local; the dict is known for good -/
theorem ps_dc2 {X : Cx} {i : Nat} {y : Str} {py spos : Pos} {kx vx t0 i0 t1 i1 : Expr} {scope : Scope} {own : List (Str × Nat)} {vs1 : List Nat} {pos : Pos} {wi wi1 : TI} {j k : Nat} {tk tv : TE} (hc : X.calm = true) (nd : X.N.Nodup) (hy : X.N[i]? = some y) (hyl : X.env.scope.names.lookup y = some .local) (hsw : swapsWith (two kx vx t0 i0 t1 i1 scope pos) (some (.Name y py)) spos.line X.env = pure true) (src : PI X t0 i0 wi) (ok : BlkOk X.N X.env.scope scope own)
    (in1 : ∀ i ∈ vs1, i ∈ own.map (·.2)) (hj : DL.inN j (own.map (·.2)) = true) (hk : DL.inN k vs1 = true)
    (p0 : ∀ (s : Shared) (H : Hp) (C : Addr) (cl : List (Str × Addr)) (fp : List Addr), PG (X.blk s H scope (compEnvC scope cl C X.env) fp) t0 (gName j))
    (src1 : ∀ (s : Shared) (H : Hp) (C : Addr) (cl : List (Str × Addr)) (fp : List Addr), PI (X.blk s H scope (compEnvC scope cl C X.env) fp) t1 i1 wi1)
    (p1 : ∀ (s : Shared) (H : Hp) (C : Addr) (cl : List (Str × Addr)) (fp : List Addr), PG (X.blk s H scope (compEnvC scope cl C X.env) fp) t1 (gName k))
    (ek : ∀ (s : Shared) (H : Hp) (C : Addr) (cl : List (Str × Addr)) (fp : List Addr), PE (X.blk s H scope (compEnvC scope cl C X.env) fp) kx tk)
    (ev : ∀ (s : Shared) (H : Hp) (C : Addr) (cl : List (Str × Addr)) (fp : List Addr), PE (X.blk s H scope (compEnvC scope cl C X.env) fp) vx tv)
    (f0 : ∀ x, foldedSetIterable i0 X.env x = pure x := by intro _; rfl) (f1 : ∀ env x, foldedSetIterable i1 env x = pure x := by intro _ _; rfl) :
    PS X (.Assign [.Name y py] (two kx vx t0 i0 t1 i1 scope pos) spos) (tAsg (DL.tFrz (tDc2 wi j wi1 k tk tv (own.map (·.2)) vs1)) (gName i)) := by
  refine ⟨fun pins s σ H D I h => ?_⟩
  rw [exec_Assign_Name_used _ _ _ _ hsw]
  refine wpAny_bind (wpAny_standAt (wpAny_bind ?_))
  have h : tDc2 wi j wi1 k tk tv (own.map (·.2)) vs1 σ H (fun v H1 => ∃ (d : Addr) (u : HO), v = .ref d ∧ H1 d = some u ∧ Mut (some u) ∧ ∀ o, D.nx (σ.set i (some v)) (upd H1 d (.frz o u))) := h
  show wpAny _ X.A (comprehension (two kx vx t0 i0 t1 i1 scope pos) scope X.env (firstIterPos [⟨t0, i0, [], 0⟩, ⟨t1, i1, [], 0⟩] pos) newDict false (eval i0 X.env) (some (assign (.Name y py) X.env)) >>= fun _ => pure ()) _ _ s
  refine wpAny_bind (thn (dc2_core (Qf := fun _ t => SP X pins D .next t) hc nd src ok in1 hj hk p0 src1 p1 ek ev f0 f1 I h fun L C t m H' J q hn f => ?_) fun _ t hq => wpAny_pure (wpAny_pure hq))
  obtain ⟨d, u, ed, hd, mu, q⟩ := q
  cases ed
  obtain ⟨o, J2⟩ := J.lock hd mu
  show wpAny _ _ (assign (.Name y py) X.env (.ref L)) _ _ _
  refine wpAny_assign_Name (store_ok2 (v := V.ref L) J2 nd hy (.inl hyl) rfl (fun t2 J3 z => ?_) (.inr hyl))
  obtain ⟨a, sb, ha⟩ := z
  obtain ⟨f0', f1', f2', f3', f4', f5'⟩ := f
  have neC : C ≠ a := by
    rcases ha with z | z
    · rw [z]
      exact f1'
    · exact fun e => f4' y a z e.symm
  have freeC : upd H' L (.frz o u) C = none := by
    rw [upd_ne (fun e => by rw [e] at f0'; rw [f0'] at hd; cases hd)]
    exact f0'
  refine ⟨m, hn.sameBut sb neC, fun h3 sb3 => ?_⟩
  exact ⟨_, _, J3.turned (t' := t2.toks) (fun b o hb e => (sb3.2 b hb).trans e) freeC f1' f3' f4' f5', q o⟩
theorem sw_dict {kx vx : Expr} {gs : List Comprehension} {scope : Scope} {pos py : Pos} {y : Str} {l : Nat} {env : Env} (hk : env.scope.kind = .function) (hy : env.scope.names.lookup y = some .local) (hl : (py.line == pos.line) = true)
    (ha : (scope.names.any fun (n, k) => n == y && (k == .local || k == .cell)) = false) : swapsWith (.DictComp kx vx gs scope pos) (some (.Name y py)) l env = pure true := by
  have h1 : env.kindOf y = some .local := hy
  have h2 : env.blockKind = .function := by
    unfold Env.blockKind
    rw [hk] <;> rfl
  unfold swapsWith
  simp only [h2, h1, ha, Expr.pos, hl]
  rfl
end DC

set_option Elab.async false
set_option linter.all false
set_option maxRecDepth 100000
set_option maxHeartbeats 1000000
/-! DD2: {k: v for a in xs for b in ys} by data. -/
namespace DL
open PySem PySem.Spec PyProof.Rows L2
section
variable {K : PySem.W.Frag} {env : List En} {tk tv : TE} {wi wi1 : TI} {ow : Option (List PyData)} {vs vs1 : List Nat}
abbrev Es := List (PyData × PyData)
noncomputable def storeO (a b : PyData) (acc : Es) : Option Es := match a with
  | .int i => bif Nat.blt acc.length 900 then some (putI i b acc) else none
  | _ => none
noncomputable def dcI (fk fv : PyData → Option PyData) (es : List PyData) (acc : Es) : Option Es := @List.rec PyData (fun _ => Es → Option Es) (fun a => some a) (fun e _ ih a => (fk e).bind fun x => (fv e).bind fun y => (storeO x y a).bind ih) es acc
noncomputable def dcL2 (f1 : PyData → Option (List PyData)) (fk fv : PyData → PyData → Option PyData) (ds : List PyData) (acc : Es) : Option Es := @List.rec PyData (fun _ => Es → Option Es) (fun a => some a) (fun d _ ih a => (f1 d).bind fun es => (dcI (fk d) (fv d) es a).bind ih) ds acc
theorem dcI_cons {fk fv : PyData → Option PyData} {e : PyData} {r : List PyData} {acc z : Es} (h : dcI fk fv (e :: r) acc = some z) : ∃ x y a, fk e = some x ∧ fv e = some y ∧ storeO x y acc = some a ∧ dcI fk fv r a = some z := by
  obtain ⟨x, hx, h⟩ := bnd (show (fk e).bind (fun x => (fv e).bind fun y => (storeO x y acc).bind (dcI fk fv r)) = some z from h)
  obtain ⟨y, hy, h⟩ := bnd h
  obtain ⟨a, ha, h⟩ := bnd h
  exact ⟨x, y, a, hx, hy, ha, h⟩
theorem dcL2_cons {f1 : PyData → Option (List PyData)} {fk fv : PyData → PyData → Option PyData} {d : PyData} {r : List PyData} {acc z : Es} (h : dcL2 f1 fk fv (d :: r) acc = some z) : ∃ es a, f1 d = some es ∧ dcI (fk d) (fv d) es acc = some a ∧ dcL2 f1 fk fv r a = some z := by
  obtain ⟨es, he, h⟩ := bnd (show (f1 d).bind (fun es => (dcI (fk d) (fv d) es acc).bind (dcL2 f1 fk fv r)) = some z from h)
  obtain ⟨a, ha, h⟩ := bnd h
  exact ⟨es, a, he, ha, h⟩
theorem storeO_of {x y : PyData} {acc a : Es} (h : storeO x y acc = some a) : ∃ i, x = .int i ∧ acc.length < 900 ∧ a = putI i y acc := by
  cases x with
  | int i =>
    obtain ⟨c, e⟩ := cnd (show (bif Nat.blt acc.length 900 then some (putI i y acc) else none) = some a from h)
    rw [Nat.blt_eq] at c
    exact ⟨i, rfl, c, e.symm⟩
  | _ => cases h
theorem de_dc2 {j k : Nat} {f1 : PyData → Option (List PyData)} {fk fv : PyData → PyData → Option PyData} (hw : DWc K wi env ow) (hw1 : ∀ d, DW K wi1 ((wipeE env vs).set j (.dat d)) (f1 d))
    (hk : ∀ d e, DE K tk ((wipeE ((wipeE env vs).set j (.dat d)) vs1).set k (.dat e)) (fk d e)) (hv : ∀ d e, DE K tv ((wipeE ((wipeE env vs).set j (.dat d)) vs1).set k (.dat e)) (fv d e)) :
    DE K (tFrz (DC.tDc2 wi j wi1 k tk tv vs vs1)) env (ow.bind fun ds => (dcL2 f1 fk fv ds []).bind fun es => some (.dict es)) := fun G0 H0 G H σ E d e Q q => by
  obtain ⟨ds, hd, e⟩ := bnd e
  obtain ⟨fin, hfin, e⟩ := bnd e
  cases e
  refine hw _ _ _ _ _ E ds hd _ fun J G1 H1 g1 w D hD => ?_
  have E1 := E.more g1
  have G1D := none_sub E1.sub hD
  have b900 : (901 : Nat) ≤ big := by decide
  -- what stands: G grown, D the dict so far
  refine ⟨fun i m H => m = ds.length - i ∧ i ≤ ds.length ∧ ∃ acc G kvs, Grow G1 H1 G H ∧ G D = none ∧ H D = some (.dK kvs) ∧ kvs.length ≤ big ∧ RpK K G kvs acc ∧ dcL2 f1 fk fv (ds.drop i) acc = some fin,
    ⟨_, rfl, Nat.zero_le _, [], G1, [], (Grow.rfl' E1.sub).put _ hD G1D, G1D, upd_same, Nat.zero_le _, .nil, hfin⟩, ?_⟩
  rintro i m H2 ⟨rfl, hi, acc, G2, kvs, g2, hG2, hH2, hl2, r2, hrest⟩
  by_cases hlt : i < ds.length
  · refine .inr ⟨w.go i G2 H2 g2 g2.sub hlt, fun H => i + 1 ≤ ds.length ∧ ∃ acc G kvs, Grow G1 H1 G H ∧ G D = none ∧ H D = some (.dK kvs) ∧ kvs.length ≤ big ∧ RpK K G kvs acc ∧ dcL2 f1 fk fv (ds.drop (i + 1)) acc = some fin, fun H' p => ⟨_, by omega, rfl, p⟩, fun x H3 y => ?_⟩
    obtain ⟨G3, d, g3, hd3, r3⟩ := w.yld i G2 H2 x H3 g2 g2.sub hlt y
    rw [List.getElem?_eq_getElem hlt] at hd3
    rw [List.drop_eq_getElem_cons hlt, Option.some.inj hd3] at hrest
    obtain ⟨es, acc2, hes, hin, hrest⟩ := dcL2_cons hrest
    have E3 := (((E1.more g2).more g3).wiped vs).set j r3
    refine hw1 d _ _ _ _ _ E3 es hes _ fun J1 G4 H4 g4 w1 => ?_
    have g24 := (g2.trans g3).trans g4
    have gg := g3.trans g4
    refine ⟨fun i' m' H => m' = es.length - i' ∧ i' ≤ es.length ∧ ∃ a G kvs, Grow G1 H1 G H ∧ Same G4 G ∧ G D = none ∧ H D = some (.dK kvs) ∧ kvs.length ≤ big ∧ RpK K G kvs a ∧ dcI (fk d) (fv d) (es.drop i') a = some acc2,
      ⟨_, rfl, Nat.zero_le _, acc, G4, kvs, g24, Same.refl _, gg.new D (by rw [hH2]; exact fun z => nomatch z) hG2, gg.h _ _ hH2, hl2, r2.mono gg.g, hin⟩, ?_⟩
    rintro i' m' H5 ⟨rfl, hi', a, G5, kvs5, g5, s5, hG5, hH5, hl5, r5, hin'⟩
    by_cases hlt' : i' < es.length
    · refine .inr ⟨w1.go i' G5 H5 s5 g5.sub hlt', fun H => i' + 1 ≤ es.length ∧ ∃ a G kvs, Grow G1 H1 G H ∧ Same G4 G ∧ G D = none ∧ H D = some (.dK kvs) ∧ kvs.length ≤ big ∧ RpK K G kvs a ∧ dcI (fk d) (fv d) (es.drop (i' + 1)) a = some acc2, fun H' p => ⟨_, by omega, rfl, p⟩, fun x' H6 y' => ?_⟩
      obtain ⟨G6, e, g6, he6, r6⟩ := w1.yld i' G5 H5 x' H6 s5 g5.sub hlt' y'
      rw [List.getElem?_eq_getElem hlt'] at he6
      rw [List.drop_eq_getElem_cons hlt', Option.some.inj he6] at hin'
      obtain ⟨dk, dv, a2, hk1, hv1, hst, hin'⟩ := dcI_cons hin'
      obtain ⟨n, rfl, few, rfl⟩ := storeO_of hst
      have E6 := (((((E1.more g5).wiped vs).set j ((r3.mono g4.g).mono s5)).more g6).wiped vs1).set k r6
      refine hk d e _ _ _ _ _ E6 (.int n) hk1 _ fun v7 G7 H7 g7 r7 => ?_
      cases r7
      refine hv d e _ _ _ _ _ (E6.more g7) dv hv1 _ fun v8 G8 H8 g8 r8 => ?_
      have g68 := (g6.trans g7).trans g8
      have hG8 := g68.new D (by rw [hH5]; exact fun z => nomatch z) hG5
      have lk := rpK_len r5
      have lp := length_putK kvs5 (.inl n) v8
      refine ⟨kvs5, .inl n, rfl, g68.h _ _ hH5, big_lt (by omega), hlt', _, G8, _, (g5.trans g68).put _ hD hG8, s5.trans g68.g, hG8, upd_same, by omega, putI_ok (r5.mono g68.g) r8, hin'⟩
    · have ei : i' = es.length := by omega
      subst ei
      rw [List.drop_length] at hin'
      cases (show some a = some acc2 from hin')
      exact .inl ⟨w1.stop G5 H5 s5 g5.sub, hlt, _, G5, kvs5, g5, hG5, hH5, hl5, r5, hrest⟩
  · have ei : i = ds.length := by omega
    subst ei
    rw [List.drop_length] at hrest
    cases (show some acc = some fin from hrest)
    refine .inl ⟨w.stop G2 H2 g2 g2.sub, D, .dK kvs, rfl, hH2, trivial, fun o => ?_⟩
    have g3 : Grow G1 H1 G2 (upd H2 D (.frz o (.dK kvs))) := g2.put _ hD hG2
    have g4 := g3.freeze hD hG2 upd_same
    have s4 : Same G2 (upd G2 D (.frz o (.dK kvs))) := same_new hG2
    exact q _ _ _ (g1.trans g4) (.dk upd_same hl2 (r2.mono s4))
end
end DL

set_option Elab.async false
set_option linter.all false
set_option maxRecDepth 100000
set_option maxHeartbeats 1000000
/-! ND: dicts whose keys are tuples of tuples; the dict is told by its object. -/
namespace ND
open PySem PySem.Spec PyProof.Rows L2
open DL (NDo)
/-! ### keys -/
mutual
inductive NK (K : PySem.W.Frag) (H : Hp) : V → NestedKey → Prop
  | num (i : Int) : NK K H (.int i) (.num i)
  | tup {a : Addr} {xs : List V} {ks : List NestedKey} : SqT K H a xs → NKs K H xs ks → NK K H (.ref a) (.tup ks)
inductive NKs (K : PySem.W.Frag) (H : Hp) : List V → List NestedKey → Prop
  | nil : NKs K H [] []
  | cons {x : V} {k : NestedKey} {xs : List V} {ks : List NestedKey} : NK K H x k → NKs K H xs ks → NKs K H (x :: xs) (k :: ks)
end
section
variable {X : Cx} {pins : List (Addr × Obj)} {σ : L2.St} {H : Hp} {s : Shared}
mutual
theorem NK.at (I : Inv X pins σ H s) : ∀ {v : V} {k : NestedKey}, NK X.K H v k → ∀ {u : Value}, RelV v u → NestedIs s.heap k u
  | _, _, .num i, u, r => by
    obtain ⟨t, rfl⟩ := r
    exact .int i t
  | _, _, .tup h q, u, r => by
    cases r
    obtain ⟨its, rv, p, _⟩ := I.tuple h
    obtain ⟨o, ho, hc, n, hd⟩ := p
    exact .tup ho hc hd (NKs.at I q rv)
theorem NKs.at (I : Inv X pins σ H s) : ∀ {vs : List V} {ks : List NestedKey}, NKs X.K H vs ks → ∀ {us : List Value}, Vals vs us → NestedAll s.heap ks us
  | _, _, .nil, us, r => by
    cases r
    exact .nil
  | _, _, .cons h q, us, r => by
    cases r with
    | cons r1 r2 => exact .cons (NK.at I h r1) (NKs.at I q r2)
end
end
/-! ### the dict -/
abbrev Xs := List (NestedKey × Addr × Value)
def entN (w : World) (x : NestedKey × Addr × Value) : DictEntry := ⟨x.1.hash w, .ref x.2.1, x.2.2⟩
/-- what the object holds -/
structure Holds (w : World) (ob : Obj) (xs : Xs) : Prop where
  ex : ob.ExactDict
  dat : ∃ arr ep, ob.data = .dict arr ep ∧ arr.toList = xs.map (entN w)
structure NDs (K : PySem.W.Frag) (w : World) (H : Hp) (a : Addr) (xs : Xs) (ob : Obj) : Prop where
  at_ : H a = some (NDo a ob)
  holds : Holds w ob xs
  nod : (xs.map (·.1)).Nodup
  keys : ∀ x ∈ xs, NK K H (.ref x.2.1) x.1 ∧ x.1.depth ≤ 8
  low : (a == sysModules) = false
section
variable {X : Cx} {pins : List (Addr × Obj)} {σ : L2.St} {H : Hp} {s : Shared} {a b : Addr} {xs : Xs} {ob : Obj} {k : NestedKey}
abbrev knd (X : Cx) := nestedKind X.prog X.w
theorem NDs.here (N : NDs X.K X.w H a xs ob) (I : Inv X pins σ H s) : s.heap.get? a = some ob := (I.hok a _ N.at_).1
theorem NDs.dict (N : NDs X.K X.w H a xs ob) (I : Inv X pins σ H s) : s.heap.DictOfH (knd X) a xs := by
  obtain ⟨arr, ep, hd, he⟩ := N.holds.dat
  refine ⟨ob, arr, ep, N.here I, N.holds.ex, hd, he, fun x hx => ?_, N.nod⟩
  obtain ⟨h, d⟩ := N.keys x hx
  exact ⟨h.at I rfl, d⟩
theorem is_key (I : Inv X pins σ H s) (h : NK X.K H (.ref b) k) (d : k.depth ≤ 8) : (knd X).is s.heap k b := ⟨h.at I rfl, d⟩
theorem room1 {A : Around} (hu : A.units + 64 < cLine) : (knd X).room A.in1 := by
  show A.units + 1 + 8 < cLine
  omega
theorem room0 {A : Around} (hu : A.units + 64 < cLine) : (knd X).room A := by
  show A.units + 8 < cLine
  omega
theorem obj_ok {P : Program} {w : World} {H : Hp} {h : Heap} (g : h.get? a = some ob) : ObjOk P w H h a (NDo a ob) := ⟨g, ⟨ob, g⟩, fun h1 h2 g1 k => k ob g1⟩
/-- what stands at d is a dict of this kind -/
def IsN (w : World) (H : Hp) (a : Addr) : Prop := ∃ ob xs, H a = some (NDo a ob) ∧ Holds w ob xs
theorem IsN.at (I : Inv X pins σ H s) (h : IsN X.w H a) : s.TypeIs (.ref a) "dict" ∧ ∀ c, Value.ref a = .ref c → ∃ u, s.heap.get? c = some u ∧ u.dict = none := by
  obtain ⟨ob, xs, e, hl⟩ := h
  have g : s.heap.get? a = some ob := (I.hok a _ e).1
  refine ⟨⟨ob, g, hl.ex.1⟩, fun c q => ?_⟩
  cases q
  exact ⟨ob, g, hl.ex.2.1⟩
/-- the value at a key -/
def At (xs : Xs) (k : NestedKey) (z v : V) : Prop := match atKey xs k with
  | some p => RelV v p.2
  | none => v = z
end
section
variable {X : Cx} {o e f : Expr} {apos cpos pos pos' : Pos} {td ty tx tv : TE}
/-- d.get(k, z) -/
def tGet (K : PySem.W.Frag) (w : World) (td ty tx : TE) : TE := fun σ H Q => td σ H fun x H1 => ∃ a, x = .ref a ∧ IsN w H1 a ∧ ty σ H1 fun y H2 => tx σ H2 fun z H3 => ∃ b xs ob k v, y = .ref b ∧ NDs K w H3 a xs ob ∧ NK K H3 (.ref b) k ∧ k.depth ≤ 8 ∧ At xs k z v ∧ Q v H3
theorem pe_get {K : PySem.W.Frag} {w : World} (hK : X.K = K) (hw : X.w = w) (hu : X.A.units + 64 < cLine) (ho : PE X o td) (he : PE X e ty) (hf : PE X f tx) (m : M2 X o "get" apos e f cpos) : PE X (.Call (.Attribute o "get" apos) [e, f] [] cpos) (tGet K w td ty tx) := by
  subst hK hw
  refine ⟨fun pins s σ H Q I h => ?_⟩
  refine wpAny_Call_method m.base m.few m.line PySem.F.plainAttrs_dict PySem.F.slot_dict_get PySem.F.type_dict_get (thn (ho.run pins s σ H _ I h) fun u s1 z => ?_)
  obtain ⟨x, H1, I1, rx, a, rfl, n, q1⟩ := z
  obtain rfl : u = Value.ref a := rx
  obtain ⟨t1, t2⟩ := n.at I1
  refine ⟨t1, t2, ?_⟩
  rw [m.trees]
  refine Calls.callWith_builtin rfl (Calls.evalArgs_plain (Calls.spliced_cons (thn (he.run pins s1 σ H1 _ I1 q1) fun iv s2 z => ?_)))
  obtain ⟨y, H2, I2, ry, q2⟩ := z
  refine Calls.spliced_cons (thn (hf.run pins s2 σ H2 _ I2 q2) fun fv s3 z => ?_)
  obtain ⟨z, H3, I3, rz, b, xs, ob, k, v, rfl, N, hk, hd, at_, q⟩ := z
  cases (show iv = Value.ref b from ry)
  refine Calls.spliced_nil ?_
  refine call_meetsIn PySem.F.slot_dict_get (N.dict I3).typeIs PySem.F.entry_dict_get (PySem.F.args_dict_get_3 _ _ _) (meetsH_dict_get_default (knd X) a b N.low fv) ⟨room1 hu, k, xs, is_key I3 hk hd, N.dict I3, v, H3, I3.tok _, ?_, q⟩
  unfold At at at_
  cases ea : atKey xs k with
  | some p =>
    rw [ea] at at_
    exact at_
  | none =>
    rw [ea] at at_
    rw [at_]
    exact rz
/-- d[k] -/
def tSub (K : PySem.W.Frag) (w : World) (td ty : TE) : TE := fun σ H Q => td σ H fun x H1 => ty σ H1 fun y H2 => ∃ a b xs ob k p v, x = .ref a ∧ y = .ref b ∧ NDs K w H2 a xs ob ∧ NK K H2 (.ref b) k ∧ k.depth ≤ 8 ∧ atKey xs k = some p ∧ RelV v p.2 ∧ Q v H2
/-- k in d, k not in d -/
def tIn (K : PySem.W.Frag) (w : World) (neg : Bool) (ty td : TE) : TE := fun σ H Q => ty σ H fun y H1 => td σ H1 fun x H2 => ∃ a b xs ob k, x = .ref a ∧ y = .ref b ∧ NDs K w H2 a xs ob ∧ NK K H2 (.ref b) k ∧ k.depth ≤ 8 ∧ Q (.bl (if neg then !(atKey xs k).isSome else (atKey xs k).isSome)) H2
theorem pc_notin {K : PySem.W.Frag} {w : World} (hK : X.K = K) (hw : X.w = w) (hu : X.A.units + 64 < cLine) (hi : PE X e ty) (ho : PE X o td) : PC X .NotIn e o (tIn K w true ty td) := by
  subst hK hw
  refine ⟨fun pins s σ H Q I h => ?_⟩
  refine thn (hi.run pins s σ H _ I h) fun u s1 z => ?_
  obtain ⟨y, H1, I1, ry, q1⟩ := z
  refine thn (ho.run pins s1 σ H1 _ I1 q1) fun u2 s2 z => ?_
  obtain ⟨x, H2, I2, rx, a, b, xs, ob, k, rfl, rfl, N, hk, hd, q⟩ := z
  cases (show u = Value.ref b from ry)
  cases (show u2 = Value.ref a from rx)
  refine notIn_keyed (knd := knd X) (room1 hu) (is_key I2 hk hd) N.low ⟨xs, N.dict I2, rfl⟩ ⟨_, H2, I2.tok _, ?_, q⟩
  show Value.bool _ = Value.bool _
  rw [valueAt_pairsH, Option.isSome_map]
  rfl
theorem pe_sub {K : PySem.W.Frag} {w : World} (hK : X.K = K) (hw : X.w = w) (hu : X.A.units + 64 < cLine) (ho : PE X o td) (hi : PE X e ty) (hs : NoSl e) : PE X (.Subscript o e pos) (tSub K w td ty) := by
  subst hK hw
  refine ⟨fun pins s σ H Q I h => ?_⟩
  refine subD_of F.slot_dict_getitem.lookup hs (thn (ho.run pins s σ H _ I h) fun u s1 z => ?_)
  obtain ⟨x, H1, I1, rx, q1⟩ := z
  refine thn (hi.run pins s1 σ H1 _ I1 q1) fun u2 s2 z => ?_
  obtain ⟨y, H2, I2, ry, a, b, xs, ob, k, p, v, rfl, rfl, N, hk, hd, hp, rv, q⟩ := z
  cases (show u = Value.ref a from rx)
  cases (show u2 = Value.ref b from ry)
  exact ⟨(N.dict I2).typeIs, wpAny_getItem_heap (room1 hu) (is_key I2 hk hd) (N.dict I2) hp ⟨v, H2, I2.tok _, rv, q⟩⟩
/-- what the object holds, from the library's word -/
theorem holds_of {h : Heap} (D : h.DictOfH (knd X) a xs) : ∃ ob, h.get? a = some ob ∧ Holds X.w ob xs ∧ (xs.map (·.1)).Nodup := by
  obtain ⟨ob, es, ep, g, ex, dt, el, _, nd⟩ := D
  exact ⟨ob, g, ⟨ex, es, ep, dt, el⟩, nd⟩
/-- d[k] = v -/
def sPut (K : PySem.W.Frag) (w : World) (td ty tv : TE) : TS := fun D σ H => tv σ H fun v H1 => td σ H1 fun x H2 => ty σ H2 fun y H3 => ∃ a b xs ob k, x = .ref a ∧ y = .ref b ∧ NDs K w H3 a xs ob ∧ NK K H3 (.ref b) k ∧ k.depth ≤ 8 ∧ xs.length ≤ sizeLine ∧
  ∀ u ob', RelV v u → Holds w ob' (storedH xs k b u) → ((storedH xs k b u).map (·.1)).Nodup → D.nx σ (upd H3 a (NDo a ob'))
theorem ps_put {value : Expr} {K : PySem.W.Frag} {w : World} (hK : X.K = K) (hw : X.w = w) (hu : X.A.units + 64 < cLine) (ho : PE X o td) (hi : PE X e ty) (hv : PE X value tv) (hs : swapsWith value (some (.Subscript o e pos')) pos.line X.env = pure false := by rfl) :
    PS X (.Assign [.Subscript o e pos'] value pos) (sPut K w td ty tv) := by
  subst hK hw
  refine ⟨fun pins s σ H D I h => ?_⟩
  refine wpAny_Assign_Subscript (thn (hv.run pins s σ H _ I h) fun r s1 z => ?_) hs
  obtain ⟨v, H1, I1, rv, q1⟩ := z
  refine thn (ho.run pins s1 σ H1 _ I1 q1) fun u s2 z => ?_
  obtain ⟨x, H2, I2, rx, q2⟩ := z
  refine thn (hi.run pins s2 σ H2 _ I2 q2) fun u2 s3 z => ?_
  obtain ⟨y, H3, I3, ry, a, b, xs, ob, k, rfl, rfl, N, hk, hd, few, q⟩ := z
  cases (show u = Value.ref a from rx)
  cases (show u2 = Value.ref b from ry)
  refine wpAny_setItem_heap (hsz := few) (room1 hu) (is_key I3 hk hd) (N.dict I3) fun h' D' sb => ?_
  obtain ⟨ob', g', hl, nd⟩ := holds_of D'
  exact ⟨σ, _, d_write I3 (by rw [N.at_]; trivial) sb ⟨ob', g'⟩ (obj_ok g'), q r ob' rv hl nd⟩
/-- {} -/
def empty : Obj := { cls := .type "dict", data := .dict #[] }
theorem holds_empty {w : World} : Holds w empty [] := ⟨⟨rfl, rfl, rfl⟩, #[], 0, rfl, rfl⟩
def tNew : TE := fun _ H Q => ∀ p, H p = none → (p == sysModules) = false → Q (.ref p) (upd H p (NDo p empty))
theorem low_new {pins : List (Addr × Obj)} {σ : L2.St} {H : Hp} {s : Shared} (I : Inv X pins σ H s) : (s.heap.objs.size == sysModules) = false := beq_eq_false_iff_ne.mpr (Ne.symm (Nat.ne_of_lt I.big))
theorem pe_new : PE X (.Dict [] [] pos) tNew := ⟨fun pins s σ H Q I h =>
  wpAny_Dict_empty ⟨.ref s.heap.objs.size, _, I.laid (a := s.heap.objs.size) (o := NDo s.heap.objs.size empty) (t' := s.toks) (fun _ _ q => Heap.get?_push_of_some _ q) (Nat.le_refl _) (obj_ok (Heap.get?_push_size _ rfl)), rfl, h _ (I.hok.fresh (Nat.le_refl _)) (low_new I)⟩⟩
/-- {k: v} -/
def tOne (K : PySem.W.Frag) (w : World) (ty tv : TE) : TE := fun σ H Q => ∀ p, H p = none → (p == sysModules) = false → ty σ (upd H p (NDo p empty)) fun y H1 => tv σ H1 fun v H2 => ∃ b k, y = .ref b ∧ NK K H2 (.ref b) k ∧ k.depth ≤ 8 ∧ H2 p = some (NDo p empty) ∧
  ∀ u ob', RelV v u → Holds w ob' [(k, b, u)] → Q (.ref p) (upd H2 p (NDo p ob'))
theorem pe_one {K : PySem.W.Frag} {w : World} (hK : X.K = K) (hw : X.w = w) (hu : X.A.units + 64 < cLine) (hk : PE X e ty) (hv : PE X f tv) : PE X (.Dict [some e] [f] pos) (tOne K w ty tv) := by
  subst hK hw
  refine ⟨fun pins s σ H Q I h => ?_⟩
  have I1 : Inv X pins σ (upd H s.heap.objs.size (NDo s.heap.objs.size empty)) { s with heap := s.heap.push empty } :=
    I.laid (t' := s.toks) (fun _ _ q => Heap.get?_push_of_some _ q) (Nat.le_refl _) (obj_ok (Heap.get?_push_size _ rfl))
  have low := low_new I
  rw [arm_eval_Dict]
  show wpAny _ _ (standAt pos >>= fun _ => dictDisplay [(some (eval e X.env), (do let x ← eval f X.env; standAt pos; pure x))]) _ _ _
  refine wpAny_bind (wpAny_standAt ?_)
  have shape : [(some (eval e X.env), (do let x ← eval f X.env; standAt pos; pure x))] = [(eval e X.env, (do let x ← eval f X.env; standAt pos; pure x))].map fun p => (some p.1, p.2) := by rw [List.map_cons, List.map_nil]
  rw [shape, dictDisplay_pairs [(eval e X.env, (do let x ← eval f X.env; standAt pos; pure x))] (fun z => nomatch z) (by show 1 < 17; decide)]
  refine wpAny_bind (wpAny_subDictH (knd := knd X) (room0 hu) (by show 1 ≤ 15; decide) (evalPairs_cons (thn (hk.run pins _ σ _ _ I1 (h _ (I.hok.fresh (Nat.le_refl _)) low)) fun u s1 z => ?_)))
  generalize s.heap.objs.size = p at *
  obtain ⟨y, H1, I2, ry, q1⟩ := z
  refine wpAny_bind (thn (hv.run pins _ σ _ _ I2 q1) fun u2 s2 z => wpAny_bind (wpAny_standAt (wpAny_pure (evalPairs_nil ?_))))
  obtain ⟨v, H2, I3, rv, b, k, rfl, hk', hd, hp, q⟩ := z
  cases (show u = Value.ref b from ry)
  have N : NDs X.K X.w H2 p [] empty := ⟨hp, holds_empty, List.nodup_nil, (fun x hx => nomatch hx), low⟩
  refine ⟨[(k, b, u2)], ⟨rfl, rfl, is_key I3 hk' hd, trivial⟩, N.dict I3, fun h' tk D' sb => ?_⟩
  obtain ⟨ob', g', hl, _⟩ := holds_of D'
  refine wpAny_pure ⟨.ref p, _, d_write (t' := tk) I3 (by rw [hp]; trivial) sb ⟨ob', g'⟩ (obj_ok g'), rfl, q u2 ob' rv ?_⟩
  have e1 : storedAllH ([] : Xs) [(k, b, u2)] = [(k, b, u2)] := rfl
  rw [e1] at hl
  exact hl
/-! ### walks -/
/-- the pairs of the dict at d, in their order, each in a new tuple -/
def ItN (d : Addr) (ob : Obj) (ps : List (V × V)) : It :=
  ⟨fun i H => H d = some (NDo d ob) ∧ i < ps.length, fun i H x H' => ∃ T p, ps[i]? = some p ∧ x = .ref T ∧ H T = none ∧ H' = upd H T (.tup [p.1, p.2]), fun i H => H d = some (NDo d ob) ∧ i = ps.length⟩
abbrev PV (p : V × V) (e : DictEntry) : Prop := RelV p.1 e.key ∧ RelV p.2 e.val
theorem turn_itemsN {P : Program} {w : World} {K : PySem.W.Frag} {d : Addr} {ob : Obj} {es : Array DictEntry} {ep : Nat} {ps : List (V × V)} {elts : List Expr} {kk : Nat} {tpos : Pos} (it : Addr) (ex : ob.ExactDict) (dt : ob.data = .dict es ep) (rel : Paired PV ps es.toList) :
    Turn P w K (.Tuple elts kk tpos) (ItN d ob ps) [it] it (fun i h => ∃ ok ov, IsItemIter h it d i es.size ep ok ov) where
  mem := by simp
  obj := fun i h st b hb => by
    have e : b = it := by simpa using hb
    subst e
    obtain ⟨ok, ov, e⟩ := st
    exact ⟨_, e, fun v z => nomatch z⟩
  keep := fun i h h' st k => let ⟨ok, ov, e⟩ := st; ⟨ok, ov, k it (by simp) _ e⟩
  item := by
    intro X hP hw hK hc i pins s σ H E I hf st hg
    subst hP hw hK
    obtain ⟨hd, hi⟩ := hg
    obtain ⟨ok, ov, he⟩ := st
    have raw : s.heap.DictRaw d es ep := ⟨ob, (I.hok d _ hd).1, ex, dt⟩
    have lp : ps.length = es.size := by
      have := Paired.length rel
      rwa [Array.length_toList] at this
    have lt : i < es.size := by omega
    have li : it < s.heap.objs.size := Heap.lt_size he
    have hp : ps[i]? = some ps[i] := List.getElem?_eq_getElem hi
    obtain ⟨r1, r2⟩ : PV ps[i] es[i] := by
      have : ∀ {l : List (V × V)} {m : List DictEntry}, Paired PV l m → ∀ {i : Nat} {p : V × V} {e : DictEntry}, l[i]? = some p → m[i]? = some e → PV p e := by
        intro l m q
        induction q with
        | nil => intro i p e h; simp at h
        | cons r t ih =>
          intro i p e h1 h2
          cases i with
          | zero => cases h1; cases h2; exact r
          | succ j => exact ih h1 h2
      exact this rel hp (by simp [lt])
    refine wpAny_pyNext_items_item_raw he raw lt fun h' ho hT hz hk => ?_
    refine ⟨_, rfl, wpAny_letOwnedTupleGo_items (s := { s with heap := h' }) ho fun h2 he2 sb => ?_⟩
    have hT2 : h2.get? s.heap.objs.size = some { cls := .type "tuple", data := .seq #[es[i].key, es[i].val] } := (sb.2 _ (Nat.ne_of_gt li)).trans hT
    have new : ObjOk X.prog X.w (upd H s.heap.objs.size (.tup [ps[i].1, ps[i].2])) h2 s.heap.objs.size (.tup [ps[i].1, ps[i].2]) :=
      ⟨by show 2 ≤ sizeLine; decide, [es[i].key, es[i].val], .cons r1 (.cons r2 .nil), ⟨_, hT2, rfl, _, rfl⟩⟩
    have I1 : Inv X pins σ (upd H s.heap.objs.size (.tup [ps[i].1, ps[i].2])) { s with heap := h2 } :=
      I.turnedNew (t' := s.toks) (ch := [it]) (fun b u hb e => (sb.2 b (by simpa using hb)).trans (hk b u (by simpa using hb) e)) hf (Nat.le_refl _) new
    refine ⟨.ref s.heap.objs.size, _, I1, rfl, ⟨_, ps[i], hp, rfl, I.hok.fresh (Nat.le_refl _), rfl⟩, ⟨_, _, he2⟩, fun b hb => ?_⟩
    have e : b = it := by simpa using hb
    rw [e, upd_ne (Nat.ne_of_lt li)]
    exact (hf it (by simp)).1
  done := by
    intro X hP hw hK hc i pins s σ H E I hf st hg
    subst hP hw hK
    obtain ⟨hd, hi⟩ := hg
    obtain ⟨ok, ov, he⟩ := st
    obtain ⟨f0, f1, f2, f3, f4, f5⟩ := hf it (by simp)
    have raw : s.heap.DictRaw d es ep := ⟨ob, (I.hok d _ hd).1, ex, dt⟩
    have lp : ps.length = es.size := by
      have := Paired.length rel
      rwa [Array.length_toList] at this
    exact wpAny_pyNext_items_end_raw (I.ok.hd hc) he raw (by omega) fun h' eb => ⟨rfl, I.turned (t' := s.toks) (fun b o hb e => eb b o hb e) f0 f1 f3 f4 f5⟩
  self := fun A i s Q E st h => let ⟨_, _, e⟩ := st; PySem.W.kcp_self e h
/-- what is known of a dict that is walked -/
def Known (H : Hp) (d : Addr) (ob : Obj) (ps : List (V × V)) : Prop := H d = some (NDo d ob) ∧ ob.ExactDict ∧ (d == sysModules) = false ∧ ∃ es ep, ob.data = .dict es ep ∧ Paired PV ps es.toList
def iItemsN (td : TE) : TI := fun σ H R => td σ H fun x H1 => ∃ d ob ps, x = .ref d ∧ Known H1 d ob ps ∧ R (ItN d ob ps) H1
theorem pi_itemsN {elts : List Expr} {kk : Nat} {tpos : Pos} (he : PE X e td) (hbase : attributeBase e "items" X.env (eval e X.env) = eval e X.env := by rfl) (hline : (apos.endLine == cpos.line) = true := by rfl) :
    PI X (.Tuple elts kk tpos) (.Call (.Attribute e "items" apos) [] [] cpos) (iItemsN td) := by
  refine ⟨fun pins s σ H R I h => ?_⟩
  refine wpAny_Call_method (T := "dict") (id := "dict.items") hbase rfl hline F.plainAttrs_dict F.slot_dict_items F.type_dict_items (thn (he.run pins s σ H _ I h) fun u s1 z => ?_)
  obtain ⟨x, H1, I1, rx, d, ob, ps, rfl, ⟨hd, ex, low, es, ep, dt, rel⟩, q⟩ := z
  cases (show u = Value.ref d from rx)
  have g : s1.heap.get? d = some ob := (I1.hok d _ hd).1
  have raw : s1.heap.DictRaw d es ep := ⟨ob, g, ex, dt⟩
  refine ⟨raw.typeIs, fun b e => ?_, ?_⟩
  · cases e
    exact ⟨ob, g, ex.2.1⟩
  have I2 : Inv X pins σ H1 { s1 with heap := s1.heap.push { cls := .type "dict_items", data := .fields #[.ref d] } } := I1.kept (t' := s1.toks) fun b u z => Heap.get?_push_of_some _ z
  have fin : wpAny (model X.prog X.w) X.A (pyIter (.ref s1.heap.objs.size)) (PIE X pins σ (.Tuple elts kk tpos) R) X.xe { s1 with heap := s1.heap.push { cls := .type "dict_items", data := .fields #[.ref d] } } :=
    wpAny_pyIter_items_raw (d := d) ⟨_, Heap.get?_push_size _ rfl, rfl, rfl⟩ (raw.at fun o z => Heap.get?_push_of_some _ z) (pi_one (tk := s1.toks) I2 _ (turn_itemsN _ ex dt rel) ⟨.none, .none, Heap.get?_push_size _ rfl⟩ q)
  show wpAny _ _ (callWith cpos (.builtin "dict.items") [.ref d] [] []) _ X.xe s1
  exact method_meetsIn F.slot_dict_items F.entry_dict_items rfl (PySem.evalArgs_none ⟨rfl, raw.typeIs, F.args_dict_items_1 _, _, meets_dict_items_raw d low, ⟨⟨es, ep, raw⟩, fin⟩⟩)
/-- list(d.values()) -/
def tVals (td : TE) : TE := fun σ H Q => td σ H fun x H1 => ∃ d ob ps, x = .ref d ∧ Known H1 d ob ps ∧ ps.length ≤ sizeLine ∧ ∀ p, H1 p = none → Q (.ref p) (upd H1 p (.lst (ps.map (·.2))))
theorem pe_vals {p : Pos} (hc : X.calm = true) (he : PE X e td) (hg : Gl X "list") (hm : X.mg "list" = none) (hbase : attributeBase e "values" X.env (eval e X.env) = eval e X.env := by rfl) (hline : (apos.endLine == cpos.line) = true := by rfl)
    (hs : starEach [Expr.Call (.Attribute e "values" apos) [] [] cpos] X.env = (false, eval (.Call (.Attribute e "values" apos) [] [] cpos) X.env) :: starEach [] X.env := by rfl) :
    PE X (.Call (.Name "list" p) [.Call (.Attribute e "values" apos) [] [] cpos] [] pos) (tVals td) := by
  refine ⟨fun pins s σ H Q I h => ?_⟩
  refine Call_ (ld_blt I hg hm PyProof.Rows.boot_list (PyProof.Rows.callWith_type1 (args_cons ?_ hs) hs))
  refine wpAny_Call_method (T := "dict") (id := "dict.values") hbase rfl hline F.plainAttrs_dict F.slot_dict_values F.type_dict_values (thn (he.run pins s σ H _ I h) fun u s1 z => ?_)
  obtain ⟨x, H1, I1, rx, d, ob, ps, rfl, ⟨hd, ex, low, es, ep, dt, rel⟩, few, q⟩ := z
  cases (show u = Value.ref d from rx)
  have g : s1.heap.get? d = some ob := (I1.hok d _ hd).1
  have raw : s1.heap.DictRaw d es ep := ⟨ob, g, ex, dt⟩
  refine ⟨raw.typeIs, fun b e => ?_, ?_⟩
  · cases e
    exact ⟨ob, g, ex.2.1⟩
  have I2 : Inv X pins σ H1 { s1 with heap := s1.heap.push { cls := .type "dict_values", data := .fields #[.ref d] } } := I1.kept (t' := s1.toks) fun b u z => Heap.get?_push_of_some _ z
  have raw2 : (s1.heap.push { cls := .type "dict_values", data := .fields #[.ref d] }).DictRaw d es ep := raw.at fun o z => Heap.get?_push_of_some _ z
  have lp : ps.length = es.size := by
    have := Paired.length rel
    rwa [Array.length_toList] at this
  show wpAny _ _ (callWith cpos (.builtin "dict.values") [.ref d] [] []) _ X.xe s1
  refine method_meetsIn F.slot_dict_values F.entry_dict_values rfl (PySem.evalArgs_none ⟨rfl, raw.typeIs, F.args_dict_values_1 _, _, meets_dict_values_raw d low, ⟨⟨es, ep, raw⟩, ?_⟩⟩)
  refine args_nil ?_
  refine PySem.W.kdl_call (KdlSrc.rawValues (es := es) (ep := ep)) (I2.ok.hd hc) ⟨⟨_, Heap.get?_push_size _ rfl, rfl, rfl⟩, raw2⟩ (by omega) fun h' tk acc c keep hS hacc => ?_
  have rv : Vals (ps.map (·.2)) acc.toList := by
    refine vals_of_at (by have z := hacc.1; have z2 : acc.toList.length = acc.size := Array.length_toList; rw [List.length_map]; omega) fun j x w h1 h2 => ?_
    obtain ⟨hi, rfl⟩ := hacc.2 j w (by rw [← Array.getElem?_toList]; exact h2)
    rw [List.getElem?_map] at h1
    have hj : j < ps.length := by omega
    rw [List.getElem?_eq_getElem hj] at h1
    cases h1
    have : ∀ {l : List (V × V)} {m : List DictEntry}, Paired PV l m → ∀ {i : Nat} {p : V × V} {e : DictEntry}, l[i]? = some p → m[i]? = some e → PV p e := by
      intro l m q
      induction q with
      | nil => intro i p e h; simp at h
      | cons r t ih =>
        intro i p e h1 h2
        cases i with
        | zero => cases h1; cases h2; exact r
        | succ j => exact ih h1 h2
    exact (this rel (List.getElem?_eq_getElem hj) (show es.toList[j]? = some es[j] by simp [hi])).2
  exact ⟨.ref _, _, I2.laid keep (Nat.le_refl _) (show ObjOk X.prog X.w _ _ _ (.lst (ps.map (·.2))) from ⟨by rw [List.length_map]; exact few, acc.toList, c, rv, by rw [Array.toArray_toList]; exact hS⟩), rfl, q _ (I2.hok.fresh (Nat.le_refl _))⟩
end
end ND

set_option Elab.async false
set_option linter.all false
set_option maxRecDepth 100000
set_option maxHeartbeats 1000000
/-! NE: dicts of nested keys, by data. -/
namespace DL
open PySem PySem.Spec PyProof.Rows L2
open ND (NK NKs Xs entN Holds NDs Known PV ItN)
abbrev Ent := List (PyData × PyData)
/-! ### keys by data -/
mutual
inductive KD : PyData → NestedKey → Prop
  | num (i : Int) : KD (.int i) (.num i)
  | tup {ds : List PyData} {ks : List NestedKey} : KDs ds ks → KD (.tuple ds) (.tup ks)
inductive KDs : List PyData → List NestedKey → Prop
  | nil : KDs [] []
  | cons {d : PyData} {k : NestedKey} {ds : List PyData} {ks : List NestedKey} : KD d k → KDs ds ks → KDs (d :: ds) (k :: ks)
end
mutual
theorem KD.inj : ∀ {d e : PyData} {k : NestedKey}, KD d k → KD e k → d = e
  | _, _, _, .num i, h => by cases h; rfl
  | _, _, _, .tup q, h => by
    cases h with
    | tup q' => rw [KDs.inj q q']
theorem KDs.inj : ∀ {d e : List PyData} {k : List NestedKey}, KDs d k → KDs e k → d = e
  | _, _, _, .nil, h => by cases h; rfl
  | _, _, _, .cons a q, h => by
    cases h with
    | cons a' q' => rw [KD.inj a a', KDs.inj q q']
end
mutual
theorem KD.one : ∀ {d : PyData} {k l : NestedKey}, KD d k → KD d l → k = l
  | _, _, _, .num i, h => by cases h; rfl
  | _, _, _, .tup q, h => by
    cases h with
    | tup q' => rw [KDs.one q q']
theorem KDs.one : ∀ {d : List PyData} {k l : List NestedKey}, KDs d k → KDs d l → k = l
  | _, _, _, .nil, h => by cases h; rfl
  | _, _, _, .cons a q, h => by
    cases h with
    | cons a' q' => rw [KD.one a a', KDs.one q q']
end
/-- ints and tuples, n levels -/
noncomputable def tk : Nat → PyData → Bool
  | 0, d => match d with
    | .int _ => true
    | _ => false
  | n + 1, d => match d with
    | .int _ => true
    | .tuple xs => allB (tk n) xs
    | _ => false
theorem tks_ex {n : Nat} (ih : ∀ d, tk n d = true → ∃ k, KD d k ∧ k.depth ≤ n) : ∀ ds, (∀ d ∈ ds, tk n d = true) → ∃ ks, KDs ds ks ∧ NestedKey.depthAll ks ≤ n
  | [], _ => ⟨[], .nil, Nat.zero_le _⟩
  | d :: r, h => by
    obtain ⟨k, a, b⟩ := ih d (h d List.mem_cons_self)
    obtain ⟨ks, c, e⟩ := tks_ex ih r fun x hx => h x (List.mem_cons_of_mem _ hx)
    exact ⟨k :: ks, .cons a c, by simp only [NestedKey.depthAll]; omega⟩
theorem tk_ex : ∀ {n : Nat} (d : PyData), tk n d = true → ∃ k, KD d k ∧ k.depth ≤ n
  | 0, .int i, _ => ⟨_, .num i, by simp [NestedKey.depth]⟩
  | n + 1, .int i, _ => ⟨_, .num i, by simp [NestedKey.depth]⟩
  | n + 1, .tuple xs, h => by
    obtain ⟨ks, a, b⟩ := tks_ex tk_ex xs ((allB_iff _ _).mp h)
    exact ⟨_, .tup a, by simp only [NestedKey.depth]; omega⟩
  | 0, .none, h => by cases h
  | 0, .bool _, h => by cases h
  | 0, .str _, h => by cases h
  | 0, .list _, h => by cases h
  | 0, .tuple _, h => by cases h
  | 0, .dict _, h => by cases h
  | n + 1, .none, h => by cases h
  | n + 1, .bool _, h => by cases h
  | n + 1, .str _, h => by cases h
  | n + 1, .list _, h => by cases h
  | n + 1, .dict _, h => by cases h
theorem eqbs_tk {n : Nat} (ih : ∀ d e, tk n d = true → tk n e = true → (eqb (n + 1) d e = true ↔ d = e)) : ∀ xs ys, (∀ d ∈ xs, tk n d = true) → (∀ d ∈ ys, tk n d = true) → (eqbs (eqb (n + 1)) xs ys = true ↔ xs = ys)
  | [], [], _, _ => by simp [eqbs]
  | [], _ :: _, _, _ => by simp [eqbs]
  | _ :: _, [], _, _ => by simp [eqbs]
  | x :: xs, y :: ys, h, h' => by
    simp only [eqbs, Bool.and_eq_true, List.cons.injEq]
    rw [ih x y (h x List.mem_cons_self) (h' y List.mem_cons_self), eqbs_tk ih xs ys (fun z hz => h z (List.mem_cons_of_mem _ hz)) fun z hz => h' z (List.mem_cons_of_mem _ hz)]
theorem eqb_tk : ∀ {n : Nat} (d e : PyData), tk n d = true → tk n e = true → (eqb (n + 1) d e = true ↔ d = e)
  | 0, .int i, .int j, _, _ => by
    show ieq i j = true ↔ _
    rw [ieq_iff]
    simp
  | n + 1, .int i, .int j, _, _ => by
    show ieq i j = true ↔ _
    rw [ieq_iff]
    simp
  | n + 1, .tuple xs, .tuple ys, h, h' => by
    show eqbs (eqb (n + 1)) xs ys = true ↔ _
    rw [eqbs_tk eqb_tk xs ys ((allB_iff _ _).mp h) ((allB_iff _ _).mp h')]
    simp
  | n + 1, .int _, .tuple _, _, _ => ⟨fun h => (by cases h), fun h => (by cases h)⟩
  | n + 1, .tuple _, .int _, _, _ => ⟨fun h => (by cases h), fun h => (by cases h)⟩
  | 0, .none, _, h, _ => by cases h
  | 0, .bool _, _, h, _ => by cases h
  | 0, .str _, _, h, _ => by cases h
  | 0, .list _, _, h, _ => by cases h
  | 0, .tuple _, _, h, _ => by cases h
  | 0, .dict _, _, h, _ => by cases h
  | 0, .int _, .none, _, h => by cases h
  | 0, .int _, .bool _, _, h => by cases h
  | 0, .int _, .str _, _, h => by cases h
  | 0, .int _, .list _, _, h => by cases h
  | 0, .int _, .tuple _, _, h => by cases h
  | 0, .int _, .dict _, _, h => by cases h
  | n + 1, .none, _, h, _ => by cases h
  | n + 1, .bool _, _, h, _ => by cases h
  | n + 1, .str _, _, h, _ => by cases h
  | n + 1, .list _, _, h, _ => by cases h
  | n + 1, .dict _, _, h, _ => by cases h
  | n + 1, .int _, .none, _, h => by cases h
  | n + 1, .int _, .bool _, _, h => by cases h
  | n + 1, .int _, .str _, _, h => by cases h
  | n + 1, .int _, .list _, _, h => by cases h
  | n + 1, .int _, .dict _, _, h => by cases h
  | n + 1, .tuple _, .none, _, h => by cases h
  | n + 1, .tuple _, .bool _, _, h => by cases h
  | n + 1, .tuple _, .str _, _, h => by cases h
  | n + 1, .tuple _, .list _, _, h => by cases h
  | n + 1, .tuple _, .dict _, _, h => by cases h
section
variable {K : PySem.W.Frag} {G H : Hp} {w : World}
mutual
theorem Rp.nk (s : Same G H) : ∀ {v : V} {d : PyData} {k : NestedKey}, Rp K G v d → KD d k → NK K H v k
  | _, _, _, .int i, h => by
    cases h
    exact .num i
  | _, _, _, .tup q _ r, h => by
    cases h with
    | tup q' => exact .tup (sameT s q) (RpA.nk s r q')
  | _, _, _, .non, h => by cases h
  | _, _, _, .bl _, h => by cases h
  | _, _, _, .lst _ _ _, h => by cases h
  | _, _, _, .dk _ _ _, h => by cases h
  | _, _, _, .dn _ _ _ _ _ _ _, h => by cases h
theorem RpA.nk (s : Same G H) : ∀ {v : List V} {d : List PyData} {k : List NestedKey}, RpA K G v d → KDs d k → NKs K H v k
  | _, _, _, .nil, h => by
    cases h
    exact .nil
  | _, _, _, .cons a r, h => by
    cases h with
    | cons a' r' => exact .cons (Rp.nk s a a') (RpA.nk s r r')
end
/-! ### entries -/
inductive EntR (K : PySem.W.Frag) (G : Hp) : Xs → Ent → Prop
  | nil : EntR K G [] []
  | cons {k : NestedKey} {q : Addr} {u : Value} {v : V} {xs : Xs} {dk dv : PyData} {es : Ent} : KD dk k → k.depth ≤ 8 → tk 3 dk = true → Rp K G (.ref q) dk → RelV v u → Rp K G v dv → EntR K G xs es → EntR K G ((k, q, u) :: xs) ((dk, dv) :: es)
theorem EntR.mono {G' : Hp} (e : Same G G') {xs : Xs} {es : Ent} (h : EntR K G xs es) : EntR K G' xs es := by
  induction h with
  | nil => exact .nil
  | cons a b c d f g _ ih => exact .cons a b c (d.mono e) f (g.mono e) ih
theorem EntR.len {xs : Xs} {es : Ent} (h : EntR K G xs es) : xs.length = es.length := by
  induction h with
  | nil => rfl
  | cons _ _ _ _ _ _ _ ih => exact congrArg Nat.succ ih
theorem EntR.keys {xs : Xs} {es : Ent} (h : EntR K G xs es) (s : Same G H) : ∀ x ∈ xs, NK K H (.ref x.2.1) x.1 ∧ x.1.depth ≤ 8 := by
  induction h with
  | nil => exact fun x hx => nomatch hx
  | cons a b c d f g _ ih =>
    intro x hx
    rcases List.mem_cons.mp hx with rfl | hx
    · exact ⟨d.nk s a, b⟩
    · exact ih x hx
theorem EntR.rpN {xs : Xs} {es : Ent} (h : EntR K G xs es) : RpN K G (xs.map (entN w)) es := by
  induction h with
  | nil => exact .nil
  | cons a b c d f g _ ih => exact .cons d f g ih
noncomputable def findN (d : PyData) (es : Ent) : Option PyData := @List.rec (PyData × PyData) (fun _ => Option PyData) none (fun e _ ih => bif eqb 4 e.1 d then some e.2 else ih) es
noncomputable def hasN (d : PyData) (es : Ent) : Bool := @List.rec (PyData × PyData) (fun _ => Bool) false (fun e _ ih => eqb 4 e.1 d || ih) es
noncomputable def setN (d z : PyData) (es : Ent) : Ent := @List.rec (PyData × PyData) (fun _ => Ent) [] (fun e _ ih => (bif eqb 4 e.1 d then (e.1, z) else e) :: ih) es
noncomputable def putN (d z : PyData) (es : Ent) : Ent := bif hasN d es then setN d z es else es ++ [(d, z)]
theorem at_cons (x : NestedKey × Addr × Value) (xs : Xs) (k : NestedKey) : atKey (x :: xs) k = if x.1 = k then some x.2 else atKey xs k := by
  unfold atKey
  rw [List.find?_cons]
  by_cases h : x.1 = k
  · simp [h]
  · simp [h]
theorem key_eq {dk d : PyData} {k l : NestedKey} (a : KD dk k) (b : KD d l) (c : tk 3 dk = true) (e : tk 3 d = true) : eqb 4 dk d = decide (k = l) := by
  rw [Bool.eq_iff_iff, eqb_tk dk d c e, decide_eq_true_iff]
  constructor
  · rintro rfl
    exact a.one b
  · rintro rfl
    exact a.inj b
theorem EntR.find {d : PyData} {k : NestedKey} (a : KD d k) (c : tk 3 d = true) {xs : Xs} {es : Ent} (h : EntR K G xs es) : (atKey xs k = none ∧ findN d es = none ∧ hasN d es = false) ∨ ∃ p v dv, atKey xs k = some p ∧ findN d es = some dv ∧ hasN d es = true ∧ RelV v p.2 ∧ Rp K G v dv := by
  induction h with
  | nil => exact .inl ⟨rfl, rfl, rfl⟩
  | @cons k' q u v xs dk dv es b1 b2 b3 b4 b5 b6 _ ih =>
    have e := key_eq b1 a b3 c
    have e1 : findN d ((dk, dv) :: es) = bif eqb 4 dk d then some dv else findN d es := rfl
    have e2 : hasN d ((dk, dv) :: es) = (eqb 4 dk d || hasN d es) := rfl
    rw [at_cons, e1, e2, e]
    by_cases hk : k' = k
    · subst hk
      rw [if_pos rfl, decide_eq_true rfl]
      exact .inr ⟨_, v, dv, rfl, rfl, rfl, b5, b6⟩
    · rw [if_neg hk, decide_eq_false hk]
      exact ih
theorem EntR.app {xs : Xs} {es : Ent} (h : EntR K G xs es) {k : NestedKey} {q : Addr} {u : Value} {v : V} {dk dv : PyData} (a : KD dk k) (b : k.depth ≤ 8) (c : tk 3 dk = true) (d : Rp K G (.ref q) dk) (f : RelV v u) (g : Rp K G v dv) : EntR K G (xs ++ [(k, q, u)]) (es ++ [(dk, dv)]) := by
  induction h with
  | nil => exact .cons a b c d f g .nil
  | cons a' b' c' d' f' g' _ ih => exact .cons a' b' c' d' f' g' ih
theorem EntR.set {xs : Xs} {es : Ent} (h : EntR K G xs es) {k : NestedKey} {u : Value} {v : V} {dk dv : PyData} (a : KD dk k) (c : tk 3 dk = true) (f : RelV v u) (g : Rp K G v dv) : EntR K G (xs.map (putAt k u)) (setN dk dv es) := by
  induction h with
  | nil => exact .nil
  | @cons k' q' u' v' xs' dk' dv' es' a' b' c' d' f' g' _ ih =>
    have e := key_eq a' a c' c
    have e1 : setN dk dv ((dk', dv') :: es') = (bif eqb 4 dk' dk then (dk', dv) else (dk', dv')) :: setN dk dv es' := rfl
    rw [e1, List.map_cons, e]
    by_cases hk : k' = k
    · rw [decide_eq_true hk]
      have e2 : putAt k u (k', q', u') = (k', q', u) := by
        unfold putAt
        rw [if_pos hk]
      rw [e2]
      exact .cons a' b' c' d' f g ih
    · rw [decide_eq_false hk]
      have e2 : putAt k u (k', q', u') = (k', q', u') := by
        unfold putAt
        rw [if_neg hk]
      rw [e2]
      exact .cons a' b' c' d' f' g' ih
theorem EntR.put {xs : Xs} {es : Ent} (h : EntR K G xs es) {k : NestedKey} {q : Addr} {u : Value} {v : V} {dk dv : PyData} (a : KD dk k) (b : k.depth ≤ 8) (c : tk 3 dk = true) (d : Rp K G (.ref q) dk) (f : RelV v u) (g : Rp K G v dv) : EntR K G (storedH xs k q u) (putN dk dv es) := by
  unfold putN
  rcases h.find a c with ⟨e1, _, e3⟩ | ⟨p, _, _, e1, _, e3, _⟩
  · rw [storedH_new e1, e3]
    exact h.app a b c d f g
  · rw [storedH_old e1, e3]
    exact h.set a c f g
/-- an own dict of this kind (C: where it stands) -/
def PNC (C : Addr → Prop) (K : PySem.W.Frag) (w : World) (es : Ent) : Addr → Hp → HO → Prop := fun a G o => C a ∧ ∃ ob xs, o = NDo a ob ∧ Holds w ob xs ∧ (xs.map (·.1)).Nodup ∧ EntR K G xs es ∧ (a == sysModules) = false
abbrev PN (K : PySem.W.Frag) (w : World) (es : Ent) : Addr → Hp → HO → Prop := PNC (fun _ => True) K w es
theorem PN.mono {C : Addr → Prop} {es : Ent} (a : Addr) (G1 G2 : Hp) (u : HO) (e : Same G1 G2) (h : PNC C K w es a G1 u) : PNC C K w es a G2 u :=
  let ⟨c0, ob, xs, b, c, d, r, l⟩ := h; ⟨c0, ob, xs, b, c, d, r.mono e, l⟩
theorem upd_upd {H : Hp} {p : Addr} {a b : HO} : upd (upd H p a) p b = upd H p b := by
  funext c
  by_cases h : c = p
  · subst h
    rw [upd_same, upd_same]
  · rw [upd_ne h, upd_ne h, upd_ne h]
variable {C : Addr → Prop} {env : List En} {td ty tx tv : TE} {od oy ox ov : Option PyData}
theorem own_at {G0 H0 G H : Hp} {σ : L2.St} (E : EnvR K G0 H0 G H σ env) {i : Nat} {es : Ent} (he : env[i]? = some (.ox (PNC C K w es))) : ∃ a ob xs, σ[i]? = some (some (.ref a)) ∧ C a ∧ H a = some (NDo a ob) ∧ Holds w ob xs ∧ (xs.map (·.1)).Nodup ∧ EntR K G xs es ∧ (a == sysModules) = false := by
  obtain ⟨a, o, hs, ha, ⟨c0, ob, xs, rfl, h1, h2, h3, h4⟩, _⟩ := E.at_ i _ he
  exact ⟨a, ob, xs, hs, c0, ha, h1, h2, h3, h4⟩
theorem nds_of {H' G' : Hp} {a : Addr} {ob : Obj} {xs : Xs} {es : Ent} (ha : H' a = some (NDo a ob)) (h1 : Holds w ob xs) (h2 : (xs.map (·.1)).Nodup) (h3 : EntR K G' xs es) (s : Same G' H') (h4 : (a == sysModules) = false) : NDs K w H' a xs ob := ⟨ha, h1, h2, h3.keys s, h4⟩
/-- a key that a value is -/
theorem key_of_rp {G H : Hp} {v : V} {d : PyData} (s : Same G H) (r : Rp K G v d) (c : tk 3 d = true) (n : ∀ i, d ≠ .int i) : ∃ b k, v = .ref b ∧ KD d k ∧ NK K H (.ref b) k ∧ k.depth ≤ 8 := by
  obtain ⟨k, a, b⟩ := tk_ex d c
  cases a with
  | num i => exact absurd rfl (n i)
  | tup q =>
    obtain ⟨p, vs, rfl, _⟩ := rp_tuple r
    exact ⟨p, _, rfl, .tup q, r.nk s (.tup q), by omega⟩
noncomputable def tkT (d : PyData) : Bool := match d with
  | .tuple _ => tk 3 d
  | _ => false
theorem tkT_of {d : PyData} (h : tkT d = true) : tk 3 d = true ∧ ∀ i, d ≠ .int i := by
  cases d with
  | tuple xs => exact ⟨h, fun i e => by cases e⟩
  | _ => cases h
/-- d.get(k, z) -/
noncomputable def getN (es : Ent) (k z : PyData) : Option PyData := bif tkT k then (match findN k es with
  | some v => some v
  | none => some z) else none
theorem de_getN {i : Nat} {es : Ent} (he : env[i]? = some (.ox (PNC C K w es))) (hy : DE K ty env oy) (hx : DE K tx env ox) : DE K (ND.tGet K w (tVar i) ty tx) env (oy.bind fun y => ox.bind fun x => getN es y x) := fun G0 H0 G H σ E d e Q q => by
  obtain ⟨y, ey, e⟩ := bnd e
  obtain ⟨z, ez, e⟩ := bnd e
  obtain ⟨c, e⟩ : tkT y = true ∧ (match findN y es with | some v => some v | none => some z) = some d := by
    have e0 : (bif tkT y then (match findN y es with | some v => some v | none => some z) else none) = some d := e
    cases h : tkT y with
    | false => rw [h] at e0; cases e0
    | true => rw [h] at e0; exact ⟨rfl, e0⟩
  obtain ⟨c3, ni⟩ := tkT_of c
  obtain ⟨a, ob, xs, hs, c0, ha, h1, h2, h3, h4⟩ := own_at E he
  refine ⟨.ref a, hs, a, rfl, ⟨ob, xs, ha, h1⟩, ?_⟩
  refine hy _ _ _ _ _ E y ey _ fun v1 G1 H1 g1 r1 => ?_
  refine hx _ _ _ _ _ (E.more g1) z ez _ fun v2 G2 H2 g2 r2 => ?_
  have g := g1.trans g2
  obtain ⟨b, k, rfl, kd, nk, dp⟩ := key_of_rp g2.sub (r1.mono g2.g) c3 ni
  have E3 := h3.mono g.g
  rcases E3.find kd c3 with ⟨e1, e2, _⟩ | ⟨p, v, dv, e1, e2, _, rv, rp⟩
  · rw [e2] at e
    cases e
    refine ⟨b, xs, ob, k, v2, rfl, nds_of (g.h _ _ ha) h1 h2 E3 g2.sub h4, nk, dp, ?_, q v2 G2 H2 g r2⟩
    unfold ND.At
    rw [e1]
  · rw [e2] at e
    cases e
    refine ⟨b, xs, ob, k, v, rfl, nds_of (g.h _ _ ha) h1 h2 E3 g2.sub h4, nk, dp, ?_, q v G2 H2 g rp⟩
    unfold ND.At
    rw [e1]
    exact rv
/-- k not in d -/
noncomputable def niN (es : Ent) (k : PyData) : Option PyData := bif tkT k then some (.bool (!hasN k es)) else none
theorem de_niN {i : Nat} {es : Ent} (he : env[i]? = some (.ox (PNC C K w es))) (hy : DE K ty env oy) : DE K (ND.tIn K w true ty (tVar i)) env (oy.bind fun y => niN es y) := fun G0 H0 G H σ E d e Q q => by
  obtain ⟨y, ey, e⟩ := bnd e
  obtain ⟨c, e⟩ := cnd (show (bif tkT y then some (PyData.bool (!hasN y es)) else none) = some d from e)
  subst e
  obtain ⟨c3, ni⟩ := tkT_of c
  obtain ⟨a, ob, xs, hs, c0, ha, h1, h2, h3, h4⟩ := own_at E he
  refine hy _ _ _ _ _ E y ey _ fun v1 G1 H1 g1 r1 => ⟨.ref a, hs, ?_⟩
  obtain ⟨b, k, rfl, kd, nk, dp⟩ := key_of_rp g1.sub r1 c3 ni
  have E3 := h3.mono g1.g
  refine ⟨a, b, xs, ob, k, rfl, rfl, nds_of (g1.h _ _ ha) h1 h2 E3 g1.sub h4, nk, dp, ?_⟩
  have e0 : (atKey xs k).isSome = hasN y es := by
    rcases E3.find kd c3 with ⟨e1, _, e3⟩ | ⟨p, v, dv, e1, _, e3, _⟩ <;> rw [e1, e3] <;> rfl
  rw [if_pos rfl, e0]
  exact q _ G1 H1 g1 (.bl _)
/-- d[k] = v -/
theorem dn_putN {i : Nat} {es : Ent} (he : env[i]? = some (.ox (PNC C K w es))) (hv : DE K tv env ov) (hy : DE K ty env oy) : DN K (ND.sPut K w (tVar i) ty tv) env (ov.bind fun z => oy.bind fun y => bif tkT y && Nat.blt es.length 90000 then some (putN y z es) else none) (fun es => env.set i (.ox (PNC C K w es))) := fun G0 H0 G H σ E es' e D q => by
  obtain ⟨z, ez, e⟩ := bnd e
  obtain ⟨y, ey, e⟩ := bnd e
  obtain ⟨c, e⟩ := cnd e
  subst e
  rw [Bool.and_eq_true, Nat.blt_eq] at c
  obtain ⟨c3, ni⟩ := tkT_of c.1
  obtain ⟨a, ob, xs, hs, c0, ha, h1, h2, h3, h4⟩ := own_at E he
  refine hv _ _ _ _ _ E z ez _ fun v1 G1 H1 g1 r1 => ⟨.ref a, hs, ?_⟩
  refine hy _ _ _ _ _ (E.more g1) y ey _ fun v2 G2 H2 g2 r2 => ?_
  have g := g1.trans g2
  obtain ⟨b, k, rfl, kd, nk, dp⟩ := key_of_rp g2.sub r2 c3 ni
  have E3 := h3.mono g.g
  have l3 := E3.len
  have lb : xs.length ≤ sizeLine := by rw [sizeLine_eq]; omega
  refine ⟨a, b, xs, ob, k, rfl, rfl, nds_of (g.h _ _ ha) h1 h2 E3 g2.sub h4, nk, dp, lb, fun u ob' ru hl nd => ?_⟩
  refine q σ G2 _ (((E.more g1).more g2).put he rfl hs (e' := .ox (PNC C K w (putN y z es))) rfl ⟨a, _, rfl, upd_same, ⟨c0, ob', _, rfl, hl, nd, E3.put kd dp c3 r2 ru (r1.mono g2.g), h4⟩, fun G1 G2 u => PN.mono a G1 G2 u⟩) g.g
/-- d = {} -/
theorem dn_newN {i : Nat} (hi : Nat.blt i env.length = true) : DN K (tAsg ND.tNew (gName i)) env (some ()) (fun _ => env.set i (.ox (PN K w []))) := fun G0 H0 G H σ E s e D q => by
  have hi : i < env.length := by rw [Nat.blt_eq] at hi; exact hi
  intro p hp low
  exact q _ G _ (E.setOwn i (e := .ox (PN K w [])) (fun _ _ _ _ => rfl) hp ⟨p, _, rfl, upd_same, ⟨trivial, ND.empty, [], rfl, ND.holds_empty, List.nodup_nil, .nil, low⟩, fun G1 G2 u => PN.mono p G1 G2 u⟩ hi) (Same.refl _)
/-- {k: v}, known for good -/
theorem de_oneN (hy : DE K ty env oy) (hv : DE K tv env ov) : DE K (ND.tOne K w ty tv) env (oy.bind fun y => ov.bind fun z => bif tkT y then some (.dict [(y, z)]) else none) := fun G0 H0 G H σ E d e Q q => by
  obtain ⟨y, ey, e⟩ := bnd e
  obtain ⟨z, ez, e⟩ := bnd e
  obtain ⟨c, e⟩ := cnd e
  subst e
  obtain ⟨c3, ni⟩ := tkT_of c
  intro p hp low
  have hGp := none_sub E.sub hp
  have g0 : Grow G H G (upd H p (NDo p ND.empty)) := (Grow.rfl' E.sub).put _ hp hGp
  refine hy _ _ _ _ _ (E.more g0) y ey _ fun v1 G1 H1 g1 r1 => ?_
  refine hv _ _ _ _ _ ((E.more g0).more g1) z ez _ fun v2 G2 H2 g2 r2 => ?_
  have g := g1.trans g2
  obtain ⟨b, k, rfl, kd, nk, dp⟩ := key_of_rp g2.sub (r1.mono g2.g) c3 ni
  have p2 : H2 p = some (NDo p ND.empty) := g.h _ _ upd_same
  have pG : G2 p = none := g.new p (by rw [upd_same]; exact fun z => nomatch z) hGp
  refine ⟨b, k, rfl, nk, dp, p2, fun u ob' ru hl => ?_⟩
  have g3 := ((g0.trans g).put (NDo p ob') hp pG).freeze hp pG upd_same
  have s3 : Same G2 (upd G2 p (NDo p ob')) := same_new pG
  obtain ⟨arr, ep, dt, el⟩ := hl.dat
  refine q _ _ _ g3 (.dn upd_same hl.ex dt ?_ ?_ (fun z => nomatch z) low)
  · have : arr.size = 1 := by
      rw [← Array.length_toList, el]
      rfl
    rw [this]
    decide
  · rw [el]
    exact .cons ((r1.mono g2.g).mono s3) ru (r2.mono s3) .nil
/-- an own dict becomes known: x = d -/
theorem dn_frzN {i f : Nat} {es : Ent} (he : env[i]? = some (.ox (PNC C K w es))) : DN K (tAsg (tVar i) (gName f)) env (match es with
    | [] => none
    | _ :: _ => bif Nat.blt es.length 90000 then some es else none) (fun es => (env.set i .un).set f (.dat (.dict es))) := fun G0 H0 G H σ E es' e D q => by
  obtain ⟨ne, few, rfl⟩ : es ≠ [] ∧ es.length < 90000 ∧ es' = es := by
    cases es with
    | nil => cases e
    | cons x r =>
      obtain ⟨c, e⟩ := cnd e
      rw [Nat.blt_eq] at c
      exact ⟨(fun z => nomatch z), c, e.symm⟩
  obtain ⟨a, ob, xs, hs, c0, ha, h1, h2, h3, h4⟩ := own_at E he
  obtain ⟨hG, hH0⟩ := E.own i _ a he rfl hs
  have g := E.grow.freeze (o := NDo a ob) hH0 hG ha
  have sg : Same G (upd G a (NDo a ob)) := same_new hG
  obtain ⟨arr, ep, dt, el⟩ := h1.dat
  have r : Rp K (upd G a (NDo a ob)) (.ref a) (.dict es') := by
    refine .dn upd_same h1.ex dt ?_ ?_ ne h4
    · have : arr.size = xs.length := by
        rw [← Array.length_toList, el, List.length_map]
      rw [this, h3.len]
      have : (90000 : Nat) ≤ big := by decide
      omega
    · rw [el]
      exact (h3.mono sg).rpN
  refine ⟨.ref a, hs, ?_⟩
  -- the slot of the own dict is forgotten first
  have E1 : EnvR K G0 H0 G H (σ.set i (some (.ref a))) (env.set i .un) := E.unset i _
  have e1 : σ.set i (some (.ref a)) = σ := by
    refine List.ext_getElem? fun j => ?_
    by_cases h : i = j
    · subst h
      have hl : i < σ.length := (List.getElem?_eq_some_iff.mp hs).1
      rw [List.getElem?_set_self hl, hs]
    · rw [List.getElem?_set_ne h]
  rw [e1] at E1
  have E2 : EnvR K G0 H0 (upd G a (NDo a ob)) H σ (env.set i .un) := by
    refine ⟨g, E1.len, fun j e2 h => ?_, fun j e2 b h o hb => ?_, E1.sep⟩
    · have h3 := E1.at_ j e2 h
      cases e2 with
      | un => exact True.intro
      | dat d => obtain ⟨v, e, r⟩ := h3; exact ⟨v, e, r.mono sg⟩
      | own ds => obtain ⟨a, vs, e1, h4, l, r⟩ := h3; exact ⟨a, vs, e1, h4, l, r.mono sg⟩
      | oK ds => obtain ⟨a, vs, e1, h4, l, r⟩ := h3; exact ⟨a, vs, e1, h4, l, r.mono sg⟩
      | ox ds => obtain ⟨a, o, e1, h4, p, m⟩ := h3; exact ⟨a, o, e1, h4, m _ _ _ sg p, m⟩
    · obtain ⟨h5, h6⟩ := E1.own j e2 b h o hb
      refine ⟨?_, h6⟩
      rcases set_get h with ⟨rfl, rfl⟩ | ⟨nj, h⟩
      · cases o
      · rw [upd_ne (show b ≠ a from fun z => nj (E.sep i j _ e2 a he rfl h o hs (by rw [← z]; exact hb)))]
        exact h5
  exact q _ _ H (E2.set f r) sg
/-! walks of such a dict -/
theorem pv_of {G : Hp} {arr : List DictEntry} {es : Ent} (r : RpN K G arr es) : ∃ ps : List (V × V), Paired PV ps arr ∧ ps.length = es.length ∧ ∀ (i : Nat) (p : V × V), ps[i]? = some p → ∃ dk dv, es[i]? = some (dk, dv) ∧ Rp K G p.1 dk ∧ Rp K G p.2 dv := by
  match arr, es, r with
  | _, _, .nil => exact ⟨[], .nil, rfl, fun i p h => by simp at h⟩
  | _, _, .cons (q := q) (v := v) rk ru rv t =>
    obtain ⟨ps, a, b, c⟩ := pv_of t
    refine ⟨(.ref q, v) :: ps, .cons ⟨rfl, ru⟩ a, congrArg Nat.succ b, fun i p h => ?_⟩
    cases i with
    | zero =>
      cases h
      exact ⟨_, _, rfl, rk, rv⟩
    | succ j => exact c j p h
def itemsN : PyData → Option Ent
  | .dict ((.tuple ks, d) :: r) => some ((.tuple ks, d) :: r)
  | _ => none
theorem known_of {G H : Hp} {v : V} {es : Ent} (s : Same G H) (r : Rp K G v (.dict es)) (h : itemsN (.dict es) = some es) : ∃ a ob ps, v = .ref a ∧ (∀ G' H', Same G G' → Same G' H' → Known H' a ob ps) ∧ ps.length = es.length ∧ es.length ≤ big ∧ ∀ (i : Nat) (p : V × V), ps[i]? = some p → ∃ dk dv, es[i]? = some (dk, dv) ∧ Rp K G p.1 dk ∧ Rp K G p.2 dv := by
  cases r with
  | dk ha hl r =>
    cases r with
    | nil => cases h
    | cons _ _ => cases h
  | dn ha ex dt hl r n low =>
    obtain ⟨ps, a, b, c⟩ := pv_of r
    refine ⟨_, _, ps, rfl, fun G' H' s1 s2 => ⟨s2 _ _ (s1 _ _ ha), ex, low, _, _, dt, a⟩, b, ?_, c⟩
    have z : ps.length = _ := Paired.length a
    have z2 := Array.length_toList.symm.trans (z.symm.trans b)
    omega
theorem itemsN_of {x : PyData} {es : Ent} (h : itemsN x = some es) : x = .dict es := by
  unfold itemsN at h
  split at h
  · cases h; rfl
  · cases h
theorem dw_itemsN (h : DE K td env od) : DW K (ND.iItemsN td) env (od.bind fun x => (itemsN x).bind fun es => some (pairsD es)) := fun G0 H0 G H σ E ds e R q => by
  obtain ⟨x, hx, e⟩ := bnd e
  obtain ⟨es, he, e⟩ := bnd e
  cases e
  have ex := itemsN_of he
  subst ex
  refine h _ _ _ _ _ E _ hx _ fun v G1 H1 g1 r1 => ?_
  obtain ⟨a, ob, ps, rfl, kn, lp, lb, at_⟩ := known_of g1.sub r1 he
  refine ⟨a, ob, ps, rfl, kn G1 H1 (Same.refl _) g1.sub, q _ G1 H1 g1 ⟨?_, fun i G H p s hi => ⟨(kn G H p s).1, ?_⟩, fun G H p s => ⟨(kn G H p s).1, ?_⟩, fun i G H x H' p s hi y => ?_⟩⟩
  · rw [pairsD_eq, List.length_map]
    exact lb
  · rw [pairsD_eq, List.length_map] at hi
    omega
  · rw [pairsD_eq, List.length_map]
    omega
  · obtain ⟨T, p1, hp, rfl, hT, rfl⟩ := y
    obtain ⟨dk, dv, hd, ra, rb⟩ := at_ i p1 hp
    have g := Grow.lay (.tup [p1.1, p1.2]) s hT
    refine ⟨_, .tuple [dk, dv], g, ?_, .tup (SqT.of upd_same) (by show 2 ≤ big; decide) (.cons ((ra.mono p).mono g.g) (.cons ((rb.mono p).mono g.g) .nil))⟩
    rw [pairsD_eq, List.getElem?_map, hd]
    rfl
/-- list(d.values()) -/
noncomputable def valsD (es : Ent) : List PyData := @List.rec (PyData × PyData) (fun _ => List PyData) [] (fun e _ ih => e.2 :: ih) es
theorem valsD_eq : ∀ es : Ent, valsD es = es.map (·.2)
  | [] => rfl
  | e :: r => congrArg (_ :: ·) (valsD_eq r)
theorem de_vals (h : DE K td env od) : DE K (ND.tVals td) env (od.bind fun x => (itemsN x).bind fun es => some (.list (valsD es))) := fun G0 H0 G H σ E d e Q q => by
  obtain ⟨x, hx, e⟩ := bnd e
  obtain ⟨es, he, e⟩ := bnd e
  cases e
  have ex := itemsN_of he
  subst ex
  refine h _ _ _ _ _ E _ hx _ fun v G1 H1 g1 r1 => ?_
  obtain ⟨a, ob, ps, rfl, kn, lp, lb, at_⟩ := known_of g1.sub r1 he
  refine ⟨a, ob, ps, rfl, kn G1 H1 (Same.refl _) g1.sub, big_line (by omega), fun p hp => ?_⟩
  refine new_list g1.sub hp (ds := valsD es) ?_ (by rw [List.length_map]; omega) rfl fun v G3 H3 g3 r3 => q v G3 H3 (g1.trans g3) r3
  rw [valsD_eq]
  have : ∀ {ps : List (V × V)} {es : Ent}, ps.length = es.length → (∀ (i : Nat) (p : V × V), ps[i]? = some p → ∃ dk dv, es[i]? = some (dk, dv) ∧ Rp K G1 p.1 dk ∧ Rp K G1 p.2 dv) → RpA K G1 (ps.map (·.2)) (es.map (·.2)) := by
    intro ps
    induction ps with
    | nil =>
      intro es l _
      cases es with
      | nil => exact .nil
      | cons _ _ => cases l
    | cons p r ih =>
      intro es l h
      cases es with
      | nil => cases l
      | cons e t =>
        obtain ⟨dk, dv, h1, _, h3⟩ := h 0 p rfl
        cases h1
        exact .cons h3 (ih (Nat.succ.inj l) fun i p hp => h (i + 1) p hp)
  exact this lp at_
end
end DL

set_option Elab.async false
set_option linter.all false
set_option maxRecDepth 100000
set_option maxHeartbeats 1000000
/-! NE2: a, d, b = x, {k: v}, y. -/
namespace DL
open PySem PySem.Spec PyProof.Rows L2
open ND (NK NKs Xs entN Holds NDs Known PV ItN)
section
variable {K : PySem.W.Frag} {w : World} {env : List En} {ta ty tv tc : TE} {oa oy ov oc : Option PyData}
/-- a slot is set to a new own object -/
theorem EnvR.newOx {G0 H0 G H G' H' : Hp} {σ : L2.St} {i : Nat} {L : Addr} {e : En} (E : EnvR K G0 H0 G H σ env) (g : Grow G H G' H') (hL : H L = none) (hG : G' L = none) (at_ : EnAt K G' H' (some (some (.ref L))) e) (hi : i < env.length) :
    EnvR K G0 H0 G' H' (σ.set i (some (.ref L))) (env.set i e) := by
  have E2 := E.more g
  have hH0 : H0 L = none := none_sub E.grow.h hL
  have old : ∀ (j : Nat) (e' : En) (a : Addr), env[j]? = some e' → e'.isOwn = true → σ[j]? = some (some (V.ref a)) → a ≠ L := fun j e' a h o hs z => by
    have h3 := E.at_ j e' h
    rw [hs] at h3
    exact h3.there o (z ▸ hL)
  have hi2 : i < σ.length := by rw [E.len]; exact hi
  refine ⟨E2.grow, by rw [List.length_set, List.length_set]; exact E.len, fun j e' h => ?_, fun j e' a h o hs => ?_, fun j k e1 e2 a h o h' o' hs hs' => ?_⟩
  · rcases set_get h with ⟨rfl, rfl⟩ | ⟨ne, h⟩
    · rw [List.getElem?_set_self hi2]
      exact at_
    · rw [List.getElem?_set_ne ne]
      exact E2.at_ j e' h
  · rcases set_get h with ⟨rfl, rfl⟩ | ⟨ne, h⟩
    · rw [List.getElem?_set_self hi2] at hs
      cases hs
      exact ⟨hG, hH0⟩
    · rw [List.getElem?_set_ne ne] at hs
      exact E2.own j e' a h o hs
  · rcases set_get h with ⟨rfl, rfl⟩ | ⟨ne, hq⟩
    · rw [List.getElem?_set_self hi2] at hs
      cases hs
      rcases set_get h' with ⟨rfl, rfl⟩ | ⟨ne', h'⟩
      · rfl
      · rw [List.getElem?_set_ne ne'] at hs'
        exact absurd rfl (old _ _ _ h' o' hs')
    · rw [List.getElem?_set_ne ne] at hs
      have q := old _ _ _ hq o hs
      rcases set_get h' with ⟨rfl, rfl⟩ | ⟨ne', h'⟩
      · rw [List.getElem?_set_self hi2] at hs'
        cases hs'
        exact absurd rfl q
      · rw [List.getElem?_set_ne ne'] at hs'
        exact E.sep j k e1 e2 a hq o h' o' hs hs'
theorem set_comm3 {α : Type} (l : List α) (i j : Nat) (x y : α) (h : i ≠ j) : (l.set i x).set j y = (l.set j y).set i x := List.set_comm x y h
theorem dn_par3N {i j l : Nat} (ha : DE K ta env oa) (hy : DE K ty env oy) (hv : DE K tv env ov) (hc : DE K tc env oc) (hj : Nat.blt j env.length = true) (hij : i ≠ j) :
    DN K (tPar3 i j l (tCons ta (tCons (ND.tOne K w ty tv) (tCons tc tNil)))) env (oa.bind fun x => oy.bind fun y => ov.bind fun z => oc.bind fun c => bif tkT y then some (x, [(y, z)], c) else none) (fun p : PyData × Ent × PyData => ((env.set i (.dat p.1)).set j (.ox (PN K w p.2.1))).set l (.dat p.2.2)) := fun G0 H0 G H σ E p e D q => by
  have hj : j < env.length := by rw [Nat.blt_eq] at hj; exact hj
  obtain ⟨x, ex, e⟩ := bnd e
  obtain ⟨y, ey, e⟩ := bnd e
  obtain ⟨z, ez, e⟩ := bnd e
  obtain ⟨c, ec, e⟩ := bnd e
  obtain ⟨ct, e⟩ := cnd e
  subst e
  obtain ⟨c3, ni⟩ := tkT_of ct
  refine ha _ _ _ _ _ E x ex _ fun v1 G1 H1 g1 r1 => ?_
  intro a hp low
  have E1 := E.more g1
  have hGa := none_sub E1.sub hp
  have g0 : Grow G1 H1 G1 (upd H1 a (NDo a ND.empty)) := (Grow.rfl' E1.sub).put _ hp hGa
  refine hy _ _ _ _ _ (E1.more g0) y ey _ fun v2 G2 H2 g2 r2 => ?_
  refine hv _ _ _ _ _ ((E1.more g0).more g2) z ez _ fun v3 G3 H3 g3 r3 => ?_
  have g := g2.trans g3
  obtain ⟨b, k, rfl, kd, nk, dp⟩ := key_of_rp g3.sub (r2.mono g3.g) c3 ni
  have p3 : H3 a = some (NDo a ND.empty) := g.h _ _ upd_same
  have aG : G3 a = none := g.new a (by rw [upd_same]; exact fun z => nomatch z) hGa
  refine ⟨b, k, rfl, nk, dp, p3, fun u ob' ru hl => ?_⟩
  have g4 : Grow G1 H1 G3 (upd H3 a (NDo a ob')) := (g0.trans g).put (NDo a ob') hp aG
  refine hc _ _ _ _ _ (E1.more g4) c ec _ fun v5 G5 H5 g5 r5 => ?_
  have aG5 : G5 a = none := g5.new a (by rw [upd_same]; exact fun z => nomatch z) aG
  have gg := g4.trans g5
  have E6 := (E1.set i r1).newOx (i := j) (e := .ox (PN K w [(y, z)])) gg hp aG5 ⟨a, _, rfl, g5.h _ _ upd_same, ⟨trivial, ob', _, rfl, hl, by simp, .cons kd dp c3 ((r2.mono g3.g).mono g5.g) ru (r3.mono g5.g) .nil, low⟩, fun G1 G2 u => PN.mono a G1 G2 u⟩ (by rw [List.length_set]; exact hj)
  exact ⟨v1, .ref a, v5, rfl, q _ G5 H5 (E6.set l r5) (g1.g.trans gg.g)⟩
end
end DL

set_option Elab.async false
set_option linter.all false
set_option maxRecDepth 100000
set_option maxHeartbeats 0
namespace DL
open PySem PySem.Spec PyProof.Rows L2
noncomputable def m_is_integer (value : PyData) : Option PyData :=
  (((some value).bind (isaO .int)).bind fun x3 => (bO x3).bind fun b4 => bif b4 then (((some value).bind (isaO .bool)).bind fun x1 => (bO x1).bind fun b2 => some (.bool (!b2))) else some (.bool false))
theorem sc_is_integer : FnScope ["value"] ["value"] (defScope HD.s_is_integer) := ⟨rfl, rfl, rfl, by decide +kernel, rfl, by decide +kernel, by decide +kernel⟩
theorem ok_is_integer {P : Program} {w : World} {K : PySem.W.Frag} {mg : Str → Option Value} {base : Heap} (c : Hd K mg) : OkD P w K mg base 1 "is_integer" ["value"] (spD K 1 (f1 m_is_integer)) := by
  obtain ⟨fd, F⟩ := c.says.def_ 0 (d := HD.d_is_integer) rfl
  have h_bool := c.free "bool" (c.says.fact 56 rfl)
  have h_int := c.free "int" (c.says.fact 58 rfl)
  have h_isinstance := c.free "isinstance" (c.says.fact 59 rfl)
  have nd : ((["value"] : List Str)).Nodup := sc_is_integer.nd
  refine ok_ret (k := 0) (n := 1) (f := f1 m_is_integer) F (c.glo _ (c.says.fact 0 rfl)) sc_is_integer rfl (fun _ _ _ _ _ _ us hl => match us, hl with | [_], _ => rfl) fun cdv A outer s H E hr => ?_
  refine ⟨_, (pss_one (ps_ret (pe_and (pe_callB (xc_isi (K := K) rfl) rfl h_isinstance (by decide +kernel) (pa_cons (pv 0) (pa_cons (pe_bltn (v := .ty "int") rfl h_int (by decide +kernel) rfl) pa_nil))) (pe_one (pe_not (pe_callB (xc_isi (K := K) rfl) rfl h_isinstance (by decide +kernel) (pa_cons (pv 0) (pa_cons (pe_bltn (v := .ty "bool") rfl h_bool (by decide +kernel) rfl) pa_nil)))))))), fun ds hl => ?_⟩
  match ds, hl with
  | [value], _ =>
    show DR K _ [.dat value] (m_is_integer value)
    exact (dr_ret (de_andV (de_isa (t := .int) (de_var (i := 0) (d := value) rfl)) (de_notV (de_isa (t := .bool) (de_var (i := 0) (d := value) rfl)))))

noncomputable def m_is_in (value least most : PyData) : Option PyData :=
  (((some value).bind m_is_integer).bind fun x9 => (bO x9).bind fun b10 => bif b10 then ((some least).bind fun x4 => (some value).bind fun y5 => (leI x4 y5).bind fun z6 => (bO z6).bind fun k7 => bif k7 then (some most).bind fun w8 => leI y5 w8 else some (.bool false)) else some (.bool false))
theorem sc_is_in : FnScope ["value", "least", "most"] ["value", "least", "most"] (defScope HD.s_is_in) := ⟨rfl, rfl, rfl, by decide +kernel, rfl, by decide +kernel, by decide +kernel⟩
theorem ok_is_in {P : Program} {w : World} {K : PySem.W.Frag} {mg : Str → Option Value} {base : Heap} (c : Hd K mg) : OkD P w K mg base 2 "is_in" ["value", "least", "most"] (spD K 3 (f3 m_is_in)) := by
  obtain ⟨fd, F⟩ := c.says.def_ 1 (d := HD.d_is_in) rfl
  have o_is_integer := ok_is_integer (P := P) (w := w) (base := base) c
  have nd : ((["value", "least", "most"] : List Str)).Nodup := sc_is_in.nd
  refine ok_ret (k := 1) (n := 3) (f := f3 m_is_in) F (c.glo _ (c.says.fact 1 rfl)) sc_is_in rfl (fun _ _ _ _ _ _ us hl => match us, hl with | [_, _, _], _ => rfl) fun cdv A outer s H E hr => ?_
  refine ⟨_, (pss_one (ps_ret (pe_and (pe_callD o_is_integer hr rfl rfl (pa_cons (pv 0) pa_nil)) (pe_one (pe_chain op_le op_le (pv 1) (pv 0) (pv 2)))))), fun ds hl => ?_⟩
  match ds, hl with
  | [value, least, most], _ =>
    show DR K _ [.dat value, .dat least, .dat most] (m_is_in value least most)
    exact (dr_ret (de_andV (de_call1 (de_var (i := 0) (d := value) rfl)) (de_chain v2_le v2_le (de_var (i := 1) (d := least) rfl) (de_var (i := 0) (d := value) rfl) (de_var (i := 2) (d := most) rfl))))

noncomputable def m_is_list (value least most : PyData) : Option PyData :=
  (((some value).bind (isaO .tuple)).bind fun x6 => (bO x6).bind fun b7 => bif b7 then ((some least).bind fun x1 => ((some value).bind lenO).bind fun y2 => (leI x1 y2).bind fun z3 => (bO z3).bind fun k4 => bif k4 then (some most).bind fun w5 => leI y2 w5 else some (.bool false)) else some (.bool false))
theorem sc_is_list : FnScope ["value", "least", "most"] ["value", "least", "most"] (defScope HD.s_is_list) := ⟨rfl, rfl, rfl, by decide +kernel, rfl, by decide +kernel, by decide +kernel⟩
theorem ok_is_list {P : Program} {w : World} {K : PySem.W.Frag} {mg : Str → Option Value} {base : Heap} (c : Hd K mg) : OkD P w K mg base 1 "is_list" ["value", "least", "most"] (spD K 3 (f3 m_is_list)) := by
  obtain ⟨fd, F⟩ := c.says.def_ 2 (d := HD.d_is_list) rfl
  have h_isinstance := c.free "isinstance" (c.says.fact 59 rfl)
  have h_len := c.free "len" (c.says.fact 60 rfl)
  have h_tuple := c.free "tuple" (c.says.fact 68 rfl)
  have nd : ((["value", "least", "most"] : List Str)).Nodup := sc_is_list.nd
  refine ok_ret (k := 0) (n := 3) (f := f3 m_is_list) F (c.glo _ (c.says.fact 2 rfl)) sc_is_list rfl (fun _ _ _ _ _ _ us hl => match us, hl with | [_, _, _], _ => rfl) fun cdv A outer s H E hr => ?_
  refine ⟨_, (pss_one (ps_ret (pe_and (pe_callB (xc_isi (K := K) rfl) rfl h_isinstance (by decide +kernel) (pa_cons (pv 0) (pa_cons (pe_bltn (v := .ty "tuple") rfl h_tuple (by decide +kernel) rfl) pa_nil))) (pe_one (pe_chain op_le op_le (pv 1) (pe_callB (xc_len (K := K) rfl) rfl h_len (by decide +kernel) (pa_cons (pv 0) pa_nil)) (pv 2)))))), fun ds hl => ?_⟩
  match ds, hl with
  | [value, least, most], _ =>
    show DR K _ [.dat value, .dat least, .dat most] (m_is_list value least most)
    exact (dr_ret (de_andV (de_isa (t := .tuple) (de_var (i := 0) (d := value) rfl)) (de_chain v2_le v2_le (de_var (i := 1) (d := least) rfl) (de_cb1 vc_len (de_var (i := 0) (d := value) rfl)) (de_var (i := 2) (d := most) rfl))))

noncomputable def m_is_hand (value : PyData) : Option PyData :=
  ((((((some value).bind fun x7 => (some (.int 0)).bind fun x8 => (some (.int 8)).bind fun x9 => m_is_list x7 x8 x9).bind bO).bind fun b10 => some (!b10)).bind fun b28 => bif b28 then some true else ((((((((some value).bind tplO).bind fun d25 => compL (fun v11 => some true) (fun v11 => ((some v11).bind fun x22 => (some (.int 0)).bind fun x23 => ((some (.int 8)).bind fun x20 => (some (.int 1)).bind fun y21 => subI x20 y21).bind fun x24 => m_is_in x22 x23 x24)) d25)).bind fun r26 => some (.list r26)).bind allO).bind bO).bind fun b27 => some (!b27))).bind fun b31 => bif b31 then (some (.bool false)) else (((some value).bind listO).bind fun x29 => ((some value).bind usortO).bind fun y30 => eqD x29 y30))
theorem sc_is_hand : FnScope ["value", "thing"] ["value"] (defScope HD.s_is_hand) := ⟨rfl, rfl, rfl, by decide +kernel, rfl, by decide +kernel, by decide +kernel⟩
theorem ok_is_hand {P : Program} {w : World} {K : PySem.W.Frag} {mg : Str → Option Value} {base : Heap} (c : Hd K mg) : OkD P w K mg base 3 "is_hand" ["value"] (spD K 1 (f1 m_is_hand)) := by
  obtain ⟨fd, F⟩ := c.says.def_ 3 (d := HD.d_is_hand) rfl
  obtain ⟨t_MOST_THINGS, h_MOST_THINGS⟩ := c.int "MOST_THINGS" 8 (c.says.fact 70 rfl)
  have h_all := c.free "all" (c.says.fact 54 rfl)
  have o_is_in := ok_is_in (P := P) (w := w) (base := base) c
  have o_is_list := ok_is_list (P := P) (w := w) (base := base) c
  have h_list := c.free "list" (c.says.fact 61 rfl)
  have h_set := c.free "set" (c.says.fact 65 rfl)
  have h_sorted := c.free "sorted" (c.says.fact 66 rfl)
  have nd : ((["value", "thing"] : List Str)).Nodup := sc_is_hand.nd
  refine ok_ret (k := 2) (n := 1) (f := f1 m_is_hand) F (c.glo _ (c.says.fact 3 rfl)) sc_is_hand rfl (fun _ _ _ _ _ _ us hl => match us, hl with | [_], _ => rfl) fun cdv A outer s H E hr => ?_
  refine ⟨_, (pss_cons (ps_if (PW.pt (pw_or (pt_not (pt_val (pe_callD o_is_list hr rfl rfl (pa_cons (pv 0) (pa_cons pe_int (pa_cons (pe_glob (v := .int 8) rfl h_MOST_THINGS ⟨_, rfl⟩) pa_nil)))))) (pw_or1 (pt_not (pt_val (pe_callB (xc_all (K := K) rfl rfl) rfl h_all (by decide +kernel) (pa_cons (pe_lc rfl nd (xi_tup (K := K) rfl (pv 0)) (own := [("thing", 1)]) (blkOk_by (by kernel_rfl)) (fun _ _ _ _ _ => (pg_name (i := 1) nd rfl (by first | exact .inl rfl | exact .inr rfl) (by first | exact .inl rfl | exact .inr rfl))) (fun _ _ _ _ _ => pts_nil) (fun _ _ _ _ _ => (pe_callD o_is_in hr rfl rfl (pa_cons (pv 1) (pa_cons pe_int (pa_cons (pe_op op_sub (pe_glob (v := .int 8) rfl h_MOST_THINGS ⟨_, rfl⟩) pe_int) pa_nil)))))) pa_nil))))))) (pss_one (ps_ret pe_bl)) pss_nil) (pss_one (ps_ret (pe_cmpR (xo_eqD (K := K) rfl hr.units) (pe_callTy (xc_list (K := K) rfl) rfl h_list (by decide +kernel) (pa_cons (pv 0) pa_nil)) (pe_callB (xc_sortedSet (w := w) rfl rfl) rfl h_sorted (by decide +kernel) (pa_cons (pe_callTy (xc_set (K := K) (w := w) rfl rfl rfl) rfl h_set (by decide +kernel) (pa_cons (pv 0) pa_nil)) pa_nil)) (nomark _))))), fun ds hl => ?_⟩
  match ds, hl with
  | [value], _ =>
    show DR K _ [.dat value, .un] (m_is_hand value)
    exact (dr_ifret (dt_or (dt_not (dt_B (de_call3 (de_var (i := 0) (d := value) rfl) (de_int (i := 0)) (de_c fun _ => .int 8)))) (dt_not (dt_B (de_cb1 vc_all ((dnl_lc rfl ((dw_tup (de_var (i := 0) (d := value) rfl))).c (fun v11 => dt_yes) (fun v11 => (de_call3 (de_var (i := 1) (d := v11) rfl) (de_int (i := 0)) (de_op v2_sub (de_c fun _ => .int 8) (de_int (i := 1))))))).de)))) (dr_ret (de_bl (b := false))) (dr_ret (de_op v2_eqD (de_cb1 vc_list (de_var (i := 0) (d := value) rfl)) (de_sortset (de_var (i := 0) (d := value) rfl)))))

noncomputable def u_need_hands (hands : PyData) : Option Unit :=
  ((((((some hands).bind fun x8 => (some (.int 1)).bind fun x9 => (some (.int 7)).bind fun x10 => m_is_list x8 x9 x10).bind bO).bind fun b11 => some (!b11)).bind fun b12 => bif b12 then none else some ()).bind fun s13 => ((((some hands).bind fun x14 => (tplO x14).bind fun d15 => some (enumD d15)).bind fun d25 => foldO (fun s16 => prO fun v17 v18 => ((((((some v18).bind m_is_hand).bind bO).bind fun b22 => some (!b22)).bind fun b23 => bif b23 then none else some ()).bind fun s24 => some ())) d25 ()).bind fun s26 => some ()))
noncomputable def m_need_hands (hands : PyData) : Option PyData := (u_need_hands hands).bind fun _ => some .none
theorem sc_need_hands : FnScope ["hands", "index", "hand"] ["hands"] (defScope HD.s_need_hands) := ⟨rfl, rfl, rfl, by decide +kernel, rfl, by decide +kernel, by decide +kernel⟩
theorem ok_need_hands {P : Program} {w : World} {K : PySem.W.Frag} {mg : Str → Option Value} {base : Heap} (c : Hd K mg) : OkD P w K mg base 4 "need_hands" ["hands"] (spD K 1 (f1 m_need_hands)) := by
  obtain ⟨fd, F⟩ := c.says.def_ 4 (d := HD.d_need_hands) rfl
  obtain ⟨t_MOST_PEOPLE, h_MOST_PEOPLE⟩ := c.int "MOST_PEOPLE" 7 (c.says.fact 69 rfl)
  have h_enumerate := c.free "enumerate" (c.says.fact 57 rfl)
  have o_is_hand := ok_is_hand (P := P) (w := w) (base := base) c
  have o_is_list := ok_is_list (P := P) (w := w) (base := base) c
  have nd : ((["hands", "index", "hand"] : List Str)).Nodup := sc_need_hands.nd
  refine OkD.imp' (ok_none (k := 3) (n := 1) (f := fun ds => match ds with | [hands] => u_need_hands hands | _ => none) F (c.glo _ (c.says.fact 4 rfl)) sc_need_hands rfl (fun _ _ _ _ _ _ us hl => match us, hl with | [_], _ => rfl) fun cdv A outer s H E hr => ?_) ?_
  · refine ⟨_, (pss_cons (ps_if (pt_not (pt_val (pe_callD o_is_list hr rfl rfl (pa_cons (pv 0) (pa_cons pe_int (pa_cons (pe_glob (v := .int 7) rfl h_MOST_PEOPLE ⟨_, rfl⟩) pa_nil)))))) pss_never pss_nil) (pss_one (ps_for PassesOwn.never rfl (xi_enum (K := K) rfl rfl h_enumerate (pa_cons (pv 0) pa_nil)) (xg_tup (K := K) rfl rfl (pgs_cons (pg_name (i := 1) nd rfl (by first | exact .inl rfl | exact .inr rfl) (by first | exact .inl rfl | exact .inr rfl)) (pgs_cons (pg_name (i := 2) nd rfl (by first | exact .inl rfl | exact .inr rfl) (by first | exact .inl rfl | exact .inr rfl)) pgs_nil))) (pss_one (ps_if (pt_not (pt_val (pe_callD o_is_hand hr rfl rfl (pa_cons (pv 2) pa_nil)))) pss_never pss_nil))))), fun ds hl => ?_⟩
    match ds, hl with
    | [hands], _ => exact ⟨_, (show DN K _ [.dat hands, .un, .un] (u_need_hands hands) (fun _ => [.un, .un, .un]) from (dn_seq (dn_never (dt_not (dt_B (de_call3 (de_var (i := 0) (d := hands) rfl) (de_int (i := 1)) (de_c fun _ => .int 7))))) (fun s13 => (dn_end (dn_for2 (st := (fun s16 : Unit => [.dat hands, .un, .un])) () (dw_enum (de_var (i := 0) (d := hands) rfl)) (wk_s (wk_u (wk_u wk_0))) (fun s16 v17 v18 => (dn_end (dn_never (dt_not (dt_B (de_call1 (de_var (i := 2) (d := v18) rfl))))) (fun s24 => (wk_s (wk_u (wk_u wk_0))))))) (fun s26 => (wk_u (wk_u (wk_u wk_0))))))))⟩
  · rintro ds d h
    match ds, h with
    | [hands], h => exact h

noncomputable def u_need_person (hands person : PyData) : Option Unit :=
  ((((((some person).bind fun x12 => (some (.int 0)).bind fun x13 => (((some hands).bind lenO).bind fun x10 => (some (.int 1)).bind fun y11 => subI x10 y11).bind fun x14 => m_is_in x12 x13 x14).bind bO).bind fun b15 => some (!b15)).bind fun b16 => bif b16 then none else some ()).bind fun s17 => some ())
noncomputable def m_need_person (hands person : PyData) : Option PyData := (u_need_person hands person).bind fun _ => some .none
theorem sc_need_person : FnScope ["hands", "person"] ["hands", "person"] (defScope HD.s_need_person) := ⟨rfl, rfl, rfl, by decide +kernel, rfl, by decide +kernel, by decide +kernel⟩
theorem ok_need_person {P : Program} {w : World} {K : PySem.W.Frag} {mg : Str → Option Value} {base : Heap} (c : Hd K mg) : OkD P w K mg base 3 "need_person" ["hands", "person"] (spD K 2 (f2 m_need_person)) := by
  obtain ⟨fd, F⟩ := c.says.def_ 5 (d := HD.d_need_person) rfl
  have o_is_in := ok_is_in (P := P) (w := w) (base := base) c
  have h_len := c.free "len" (c.says.fact 60 rfl)
  have nd : ((["hands", "person"] : List Str)).Nodup := sc_need_person.nd
  refine OkD.imp' (ok_none (k := 2) (n := 2) (f := fun ds => match ds with | [hands, person] => u_need_person hands person | _ => none) F (c.glo _ (c.says.fact 5 rfl)) sc_need_person rfl (fun _ _ _ _ _ _ us hl => match us, hl with | [_, _], _ => rfl) fun cdv A outer s H E hr => ?_) ?_
  · refine ⟨_, (pss_one (ps_if (pt_not (pt_val (pe_callD o_is_in hr rfl rfl (pa_cons (pv 1) (pa_cons pe_int (pa_cons (pe_op op_sub (pe_callB (xc_len (K := K) rfl) rfl h_len (by decide +kernel) (pa_cons (pv 0) pa_nil)) pe_int) pa_nil)))))) pss_never pss_nil)), fun ds hl => ?_⟩
    match ds, hl with
    | [hands, person], _ => exact ⟨_, (show DN K _ [.dat hands, .dat person] (u_need_person hands person) (fun _ => [.un, .un]) from (dn_end (dn_never (dt_not (dt_B (de_call3 (de_var (i := 1) (d := person) rfl) (de_int (i := 0)) (de_op v2_sub (de_cb1 vc_len (de_var (i := 0) (d := hands) rfl)) (de_int (i := 1))))))) (fun s17 => (wk_u (wk_u wk_0)))))⟩
  · rintro ds d h
    match ds, h with
    | [hands, person], h => exact h

end DL

set_option Elab.async false
set_option linter.all false
set_option maxRecDepth 100000
set_option maxHeartbeats 0
namespace DL
open PySem PySem.Spec PyProof.Rows L2
noncomputable def m_things_in (hands : PyData) : Option PyData :=
  ((((((some hands).bind tplO).bind fun d3 => (compL2 (fun v1 => ((some v1).bind tplO)) (fun v1 v2 => (some v2)) d3).bind fun r4 => bif smallO r4 then some r4 else none)).bind fun r5 => some (.list r5)).bind usortO)
theorem sc_things_in : FnScope ["hands", "hand", "thing"] ["hands"] (defScope HD.s_things_in) := ⟨rfl, rfl, rfl, by decide +kernel, rfl, by decide +kernel, by decide +kernel⟩
theorem ok_things_in {P : Program} {w : World} {K : PySem.W.Frag} {mg : Str → Option Value} {base : Heap} (c : Hd K mg) : OkD P w K mg base 1 "things_in" ["hands"] (spD K 1 (f1 m_things_in)) := by
  obtain ⟨fd, F⟩ := c.says.def_ 6 (d := HD.d_things_in) rfl
  have h_set := c.free "set" (c.says.fact 65 rfl)
  have h_sorted := c.free "sorted" (c.says.fact 66 rfl)
  have nd : ((["hands", "hand", "thing"] : List Str)).Nodup := sc_things_in.nd
  refine ok_ret (k := 0) (n := 1) (f := f1 m_things_in) F (c.glo _ (c.says.fact 6 rfl)) sc_things_in rfl (fun _ _ _ _ _ _ us hl => match us, hl with | [_], _ => rfl) fun cdv A outer s H E hr => ?_
  refine ⟨_, (pss_one (ps_ret (pe_callB (xc_sortedSet (w := w) rfl rfl) rfl h_sorted (by decide +kernel) (pa_cons (pe_callTy (xc_set (K := K) (w := w) rfl rfl rfl) rfl h_set (by decide +kernel) (pa_cons (pe_lc2 rfl nd (xi_tup (K := K) rfl (pv 0)) (own := [("hand", 1), ("thing", 2)]) (vs1 := [2]) (blkOk_by (by kernel_rfl)) (by decide) (fun _ _ _ _ _ => (pg_name (i := 1) nd rfl (by first | exact .inl rfl | exact .inr rfl) (by first | exact .inl rfl | exact .inr rfl))) (fun _ _ _ _ _ => pts_nil) (fun _ _ _ _ _ => (xi_tup (K := K) rfl (pv 1))) (fun _ _ _ _ _ => (pg_name (i := 2) nd rfl (by first | exact .inl rfl | exact .inr rfl) (by first | exact .inl rfl | exact .inr rfl))) (fun _ _ _ _ _ => pts_nil) (fun _ _ _ _ _ => (pv 2))) pa_nil)) pa_nil)))), fun ds hl => ?_⟩
  match ds, hl with
  | [hands], _ =>
    show DR K _ [.dat hands, .un, .un] (m_things_in hands)
    exact (dr_ret (de_sortset ((dnl_lc2 rfl rfl ((dw_tup (de_var (i := 0) (d := hands) rfl))).c (fun v1 => (dw_tup (de_var (i := 1) (d := v1) rfl))) (fun v1 v2 => (de_var (i := 2) (d := v2) rfl)))).de))

noncomputable def m_holders_in (hands thing : PyData) : Option PyData :=
  (((((some hands).bind fun x1 => (tplO x1).bind fun d2 => some (enumD d2)).bind fun d7 => compL (prO fun v3 v4 => (((some thing).bind fun x5 => (some v4).bind fun y6 => inI x5 y6).bind bO)) (prO fun v3 v4 => (some v3)) d7)).bind fun r8 => some (.list r8))
theorem sc_holders_in : FnScope ["hands", "thing", "person", "hand"] ["hands", "thing"] (defScope HD.s_holders_in) := ⟨rfl, rfl, rfl, by decide +kernel, rfl, by decide +kernel, by decide +kernel⟩
theorem ok_holders_in {P : Program} {w : World} {K : PySem.W.Frag} {mg : Str → Option Value} {base : Heap} (c : Hd K mg) : OkD P w K mg base 1 "holders_in" ["hands", "thing"] (spD K 2 (f2 m_holders_in)) := by
  obtain ⟨fd, F⟩ := c.says.def_ 7 (d := HD.d_holders_in) rfl
  have h_enumerate := c.free "enumerate" (c.says.fact 57 rfl)
  have nd : ((["hands", "thing", "person", "hand"] : List Str)).Nodup := sc_holders_in.nd
  refine ok_ret (k := 0) (n := 2) (f := f2 m_holders_in) F (c.glo _ (c.says.fact 7 rfl)) sc_holders_in rfl (fun _ _ _ _ _ _ us hl => match us, hl with | [_, _], _ => rfl) fun cdv A outer s H E hr => ?_
  refine ⟨_, (pss_one (ps_ret (pe_lc rfl nd (xi_enum (K := K) rfl rfl h_enumerate (pa_cons (pv 0) pa_nil)) (own := [("person", 2), ("hand", 3)]) (blkOk_by (by kernel_rfl)) (fun _ _ _ _ _ => (xg_tup (K := K) (n := 2) rfl rfl (pgs_cons (pg_name (i := 2) nd rfl (by first | exact .inl rfl | exact .inr rfl) (by first | exact .inl rfl | exact .inr rfl)) (pgs_cons (pg_name (i := 3) nd rfl (by first | exact .inl rfl | exact .inr rfl) (by first | exact .inl rfl | exact .inr rfl)) pgs_nil)))) (fun _ _ _ _ _ => (pts_one (pt_cmpR (xo_in (K := K) rfl) (pv 1) (pv 3) (by with_unfolding_all rfl)))) (fun _ _ _ _ _ => (pv 2))))), fun ds hl => ?_⟩
  match ds, hl with
  | [hands, thing], _ =>
    show DR K _ [.dat hands, .dat thing, .un, .un] (m_holders_in hands thing)
    exact (dr_ret ((dnl_lcp rfl rfl ((dw_enum (de_var (i := 0) (d := hands) rfl))).c (fun v3 v4 => (dt_test (de_op v2_in (de_var (i := 1) (d := thing) rfl) (de_var (i := 3) (d := v4) rfl)))) (fun v3 v4 => (de_var (i := 2) (d := v3) rfl)))).de)

noncomputable def m_spare_in (hands person : PyData) : Option PyData :=
  ((((((some hands).bind fun x1 => (some person).bind fun y2 => ixO x1 y2).bind tplO).bind fun d12 => compL (fun v3 => (((((some hands).bind fun x8 => (some v3).bind fun x9 => m_holders_in x8 x9).bind lenO).bind fun x10 => (some (.int 1)).bind fun y11 => gtI x10 y11).bind bO)) (fun v3 => (some v3)) d12)).bind fun r13 => some (.list r13))
theorem sc_spare_in : FnScope ["hands", "person", "thing"] ["hands", "person"] (defScope HD.s_spare_in) := ⟨rfl, rfl, rfl, by decide +kernel, rfl, by decide +kernel, by decide +kernel⟩
theorem ok_spare_in {P : Program} {w : World} {K : PySem.W.Frag} {mg : Str → Option Value} {base : Heap} (c : Hd K mg) : OkD P w K mg base 2 "spare_in" ["hands", "person"] (spD K 2 (f2 m_spare_in)) := by
  obtain ⟨fd, F⟩ := c.says.def_ 8 (d := HD.d_spare_in) rfl
  have o_holders_in := ok_holders_in (P := P) (w := w) (base := base) c
  have h_len := c.free "len" (c.says.fact 60 rfl)
  have nd : ((["hands", "person", "thing"] : List Str)).Nodup := sc_spare_in.nd
  refine ok_ret (k := 1) (n := 2) (f := f2 m_spare_in) F (c.glo _ (c.says.fact 8 rfl)) sc_spare_in rfl (fun _ _ _ _ _ _ us hl => match us, hl with | [_, _], _ => rfl) fun cdv A outer s H E hr => ?_
  refine ⟨_, (pss_one (ps_ret (pe_lc rfl nd (xi_tup (K := K) rfl (pe_ix (xo_ix (K := K) rfl) (pv 0) (pv 1) (fun _ _ => rfl))) (own := [("thing", 2)]) (blkOk_by (by kernel_rfl)) (fun _ _ _ _ _ => (pg_name (i := 2) nd rfl (by first | exact .inl rfl | exact .inr rfl) (by first | exact .inl rfl | exact .inr rfl))) (fun _ _ _ _ _ => (pts_one (pt_cmpR op_gt (pe_callB (xc_len (K := K) rfl) rfl h_len (by decide +kernel) (pa_cons (pe_callD o_holders_in hr rfl rfl (pa_cons (pv 0) (pa_cons (pv 2) pa_nil))) pa_nil)) pe_int (nomark _)))) (fun _ _ _ _ _ => (pv 2))))), fun ds hl => ?_⟩
  match ds, hl with
  | [hands, person], _ =>
    show DR K _ [.dat hands, .dat person, .un] (m_spare_in hands person)
    exact (dr_ret ((dnl_lc rfl ((dw_tup (de_op v2_ix (de_var (i := 0) (d := hands) rfl) (de_var (i := 1) (d := person) rfl)))).c (fun v3 => (dt_test (de_op v2_gt (de_cb1 vc_len (de_call2 (de_var (i := 0) (d := hands) rfl) (de_var (i := 2) (d := v3) rfl))) (de_int (i := 1))))) (fun v3 => (de_var (i := 2) (d := v3) rfl)))).de)

noncomputable def m_pairs_in (hands : PyData) : Option PyData :=
  ((some []).bind fun s2 => (((((some hands).bind lenO).bind rng1).bind fun d30 => foldO (fun s3 v4 => (((((some v4).bind fun x5 => (some (.int 1)).bind fun y6 => addI x5 y6).bind fun x7 => ((some hands).bind lenO).bind fun y8 => rng2 x7 y8).bind fun d28 => foldO (fun s9 v10 => (((((((((some hands).bind fun x11 => (some v4).bind fun y12 => ixO x11 y12).bind tplO).bind fun d18 => compL (fun v13 => some true) (fun v13 => ((some v13).bind fun x16 => ((some hands).bind fun x14 => (some v10).bind fun y15 => ixO x14 y15).bind fun y17 => inI x16 y17)) d18)).bind fun r19 => some (.list r19)).bind anyO).bind bO).bind fun b27 => bif b27 then (((((some v4).bind fun x24 => ((some v10).bind fun x22 => (some []).bind fun r23 => some (x22 :: r23)).bind fun r25 => some (x24 :: r25)).bind fun d26 => bif smallO d26 then some (.tuple d26) else none).bind fun d21 => bif Nat.blt (s9).length 100000 then some (s9 ++ [d21]) else none).bind fun s20 => some s20) else some s9)) d28 s3).bind fun s29 => some s29)) d30 s2).bind fun s31 => (some (.list s31))))
theorem sc_pairs_in : FnScope ["hands", "found", "one", "other", "thing"] ["hands"] (defScope HD.s_pairs_in) := ⟨rfl, rfl, rfl, by decide +kernel, rfl, by decide +kernel, by decide +kernel⟩
theorem ok_pairs_in {P : Program} {w : World} {K : PySem.W.Frag} {mg : Str → Option Value} {base : Heap} (c : Hd K mg) : OkD P w K mg base 1 "pairs_in" ["hands"] (spD K 1 (f1 m_pairs_in)) := by
  obtain ⟨fd, F⟩ := c.says.def_ 9 (d := HD.d_pairs_in) rfl
  have h_any := c.free "any" (c.says.fact 55 rfl)
  have h_len := c.free "len" (c.says.fact 60 rfl)
  have h_range := c.free "range" (c.says.fact 64 rfl)
  have nd : ((["hands", "found", "one", "other", "thing"] : List Str)).Nodup := sc_pairs_in.nd
  refine ok_ret (k := 0) (n := 1) (f := f1 m_pairs_in) F (c.glo _ (c.says.fact 9 rfl)) sc_pairs_in rfl (fun _ _ _ _ _ _ us hl => match us, hl with | [_], _ => rfl) fun cdv A outer s H E hr => ?_
  refine ⟨_, (pss_cons (ps_set (i := 1) nd rfl (by first | exact .inl rfl | exact .inr rfl) (pe_lst pa_nil) rfl (by first | exact .inl rfl | exact .inr rfl)) (pss_cons (ps_for PassesOwn.never rfl (pi_range1 rfl h_range (pa_cons (pe_callB (xc_len (K := K) rfl) rfl h_len (by decide +kernel) (pa_cons (pv 0) pa_nil)) pa_nil)) (pg_name (i := 2) nd rfl (by first | exact .inl rfl | exact .inr rfl) (by first | exact .inl rfl | exact .inr rfl)) (pss_one (ps_for PassesOwn.never rfl (pi_range2 rfl h_range (pa_cons (pe_op op_add (pv 2) pe_int) (pa_cons (pe_callB (xc_len (K := K) rfl) rfl h_len (by decide +kernel) (pa_cons (pv 0) pa_nil)) pa_nil))) (pg_name (i := 3) nd rfl (by first | exact .inl rfl | exact .inr rfl) (by first | exact .inl rfl | exact .inr rfl)) (pss_one (ps_if (pt_val (pe_callB (xc_any (K := K) rfl rfl) rfl h_any (by decide +kernel) (pa_cons (pe_lc rfl nd (xi_tup (K := K) rfl (pe_ix (xo_ix (K := K) rfl) (pv 0) (pv 2) (fun _ _ => rfl))) (own := [("thing", 4)]) (blkOk_by (by kernel_rfl)) (fun _ _ _ _ _ => (pg_name (i := 4) nd rfl (by first | exact .inl rfl | exact .inr rfl) (by first | exact .inl rfl | exact .inr rfl))) (fun _ _ _ _ _ => pts_nil) (fun _ _ _ _ _ => (pe_cmpR (xo_in (K := K) rfl) (pv 4) (pe_ix (xo_ix (K := K) rfl) (pv 0) (pv 3) (fun _ _ => rfl)) (by with_unfolding_all rfl)))) pa_nil))) (pss_one (ps_expr (pe_bm PySem.F.plainAttrs_list PySem.F.slot_list_append PySem.F.type_list_append mt_append (pv 1) (pa_cons (pe_tup (pa_cons (pv 2) (pa_cons (pv 3) pa_nil))) pa_nil)))) pss_nil))))) (pss_one (ps_ret (pv 1))))), fun ds hl => ?_⟩
  match ds, hl with
  | [hands], _ =>
    show DR K _ [.dat hands, .un, .un, .un, .un] (m_pairs_in hands)
    exact (dr_seq (dn_own (i := 1) dnl_nil rfl) (fun s2 => (dr_seq (dn_for1 (st := (fun s3 : List PyData => [.dat hands, .own s3, .un, .un, .un])) s2 (dw_rng1 (de_cb1 vc_len (de_var (i := 0) (d := hands) rfl))) (wk_s (wk_s (wk_u (wk_u (wk_u wk_0))))) (fun s3 v4 => (dn_end (dn_for1 (st := (fun s9 : List PyData => [.dat hands, .own s9, .dat v4, .un, .un])) s3 (dw_rng2 (de_op v2_add (de_var (i := 2) (d := v4) rfl) (de_int (i := 1))) (de_cb1 vc_len (de_var (i := 0) (d := hands) rfl))) (wk_s (wk_s (wk_s (wk_u (wk_u wk_0))))) (fun s9 v10 => (dn_if (dt_B (de_cb1 vc_any ((dnl_lc rfl ((dw_tup (de_op v2_ix (de_var (i := 0) (d := hands) rfl) (de_var (i := 2) (d := v4) rfl)))).c (fun v13 => dt_yes) (fun v13 => (de_op v2_in (de_var (i := 4) (d := v13) rfl) (de_op v2_ix (de_var (i := 0) (d := hands) rfl) (de_var (i := 3) (d := v10) rfl)))))).de)) (dn_end (dn_app (i := 1) (ds := s9) rfl (de_tup (da_cons (de_var (i := 2) (d := v4) rfl) (da_cons (de_var (i := 3) (d := v10) rfl) da_nil)))) (fun s20 => (wk_s (wk_s (wk_s (wk_u (wk_u wk_0))))))) (dn_nil s9 (wk_s (wk_s (wk_s (wk_u (wk_u wk_0))))))))) (fun s29 => (wk_s (wk_s (wk_u (wk_u (wk_u wk_0))))))))) (fun s31 => (dr_frz (i := 1) rfl (dr_ret (de_var (i := 1) (d := (.list s31)) rfl)))))))

noncomputable def m_neighbours (hands person : PyData) : Option PyData :=
  ((((some hands).bind m_need_hands).bind fun _ => some ()).bind fun s4 => ((((some hands).bind fun x10 => (some person).bind fun x11 => m_need_person x10 x11).bind fun _ => some ()).bind fun s12 => ((some []).bind fun s15 => (((((some hands).bind m_pairs_in).bind lstO).bind fun d32 => foldO (fun s19 => prO fun v20 v21 => ((((some v20).bind fun x22 => (some person).bind fun y23 => eqI x22 y23).bind bO).bind fun b31 => bif b31 then (((some v21).bind fun d25 => bif Nat.blt (s19).length 100000 then some (s19 ++ [d25]) else none).bind fun s24 => some s24) else ((((some v21).bind fun x26 => (some person).bind fun y27 => eqI x26 y27).bind bO).bind fun b30 => bif b30 then (((some v20).bind fun d29 => bif Nat.blt (s19).length 100000 then some (s19 ++ [d29]) else none).bind fun s28 => some s28) else some s19))) d32 s15).bind fun s33 => (((some (.list s33)).bind (sortO 0)).bind tupO)))))
theorem sc_neighbours : FnScope ["hands", "person", "found", "one", "other"] ["hands", "person"] (defScope HD.s_neighbours) := ⟨rfl, rfl, rfl, by decide +kernel, rfl, by decide +kernel, by decide +kernel⟩
theorem ok_neighbours {P : Program} {w : World} {K : PySem.W.Frag} {mg : Str → Option Value} {base : Heap} (c : Hd K mg) : OkD P w K mg base 5 "neighbours" ["hands", "person"] (spD K 2 (f2 m_neighbours)) := by
  obtain ⟨fd, F⟩ := c.says.def_ 10 (d := HD.d_neighbours) rfl
  have o_need_hands := ok_need_hands (P := P) (w := w) (base := base) c
  have o_need_person := ok_need_person (P := P) (w := w) (base := base) c
  have o_pairs_in := ok_pairs_in (P := P) (w := w) (base := base) c
  have h_sorted := c.free "sorted" (c.says.fact 66 rfl)
  have h_tuple := c.free "tuple" (c.says.fact 68 rfl)
  have nd : ((["hands", "person", "found", "one", "other"] : List Str)).Nodup := sc_neighbours.nd
  refine ok_ret (k := 4) (n := 2) (f := f2 m_neighbours) F (c.glo _ (c.says.fact 10 rfl)) sc_neighbours rfl (fun _ _ _ _ _ _ us hl => match us, hl with | [_, _], _ => rfl) fun cdv A outer s H E hr => ?_
  refine ⟨_, (pss_cons (ps_expr (pe_callD o_need_hands hr rfl rfl (pa_cons (pv 0) pa_nil))) (pss_cons (ps_expr (pe_callD o_need_person hr rfl rfl (pa_cons (pv 0) (pa_cons (pv 1) pa_nil)))) (pss_cons (ps_set (i := 2) nd rfl (by first | exact .inl rfl | exact .inr rfl) (pe_lst pa_nil) rfl (by first | exact .inl rfl | exact .inr rfl)) (pss_cons (ps_for PassesOwn.never rfl (xi_list (K := K) rfl (pe_callD o_pairs_in hr rfl rfl (pa_cons (pv 0) pa_nil))) (xg_tup (K := K) (n := 2) rfl rfl (pgs_cons (pg_name (i := 3) nd rfl (by first | exact .inl rfl | exact .inr rfl) (by first | exact .inl rfl | exact .inr rfl)) (pgs_cons (pg_name (i := 4) nd rfl (by first | exact .inl rfl | exact .inr rfl) (by first | exact .inl rfl | exact .inr rfl)) pgs_nil))) (pss_one (ps_if (pt_cmpR op_eq (pv 3) (pv 1) (nomark _)) (pss_one (ps_expr (pe_bm PySem.F.plainAttrs_list PySem.F.slot_list_append PySem.F.type_list_append mt_append (pv 2) (pa_cons (pv 4) pa_nil)))) (pss_one (ps_if (pt_cmpR op_eq (pv 4) (pv 1) (nomark _)) (pss_one (ps_expr (pe_bm PySem.F.plainAttrs_list PySem.F.slot_list_append PySem.F.type_list_append mt_append (pv 2) (pa_cons (pv 3) pa_nil)))) pss_nil))))) (pss_one (ps_ret (pe_callTy (xc_tuple (K := K) rfl) rfl h_tuple (by decide +kernel) (pa_cons (pe_callB (xc_sorted (K := K) rfl hr.units 0) rfl h_sorted (by decide +kernel) (pa_cons (pv 2) pa_nil)) pa_nil)))))))), fun ds hl => ?_⟩
  match ds, hl with
  | [hands, person], _ =>
    show DR K _ [.dat hands, .dat person, .un, .un, .un] (m_neighbours hands person)
    exact (dr_seq (dn_drop (de_call1 (de_var (i := 0) (d := hands) rfl))) (fun s4 => (dr_seq (dn_drop (de_call2 (de_var (i := 0) (d := hands) rfl) (de_var (i := 1) (d := person) rfl))) (fun s12 => (dr_seq (dn_own (i := 2) dnl_nil rfl) (fun s15 => (dr_seq (dn_for2 (st := (fun s19 : List PyData => [.dat hands, .dat person, .own s19, .un, .un])) s15 (dw_list (de_call1 (de_var (i := 0) (d := hands) rfl))) (wk_s (wk_s (wk_s (wk_u (wk_u wk_0))))) (fun s19 v20 v21 => (dn_if (dt_test (de_op v2_eqI (de_var (i := 3) (d := v20) rfl) (de_var (i := 1) (d := person) rfl))) (dn_end (dn_app (i := 2) (ds := s19) rfl (de_var (i := 4) (d := v21) rfl)) (fun s24 => (wk_s (wk_s (wk_s (wk_u (wk_u wk_0))))))) (dn_if (dt_test (de_op v2_eqI (de_var (i := 4) (d := v21) rfl) (de_var (i := 1) (d := person) rfl))) (dn_end (dn_app (i := 2) (ds := s19) rfl (de_var (i := 3) (d := v20) rfl)) (fun s28 => (wk_s (wk_s (wk_s (wk_u (wk_u wk_0))))))) (dn_nil s19 (wk_s (wk_s (wk_s (wk_u (wk_u wk_0)))))))))) (fun s33 => (dr_frz (i := 2) rfl (dr_ret (de_cb1 vc_tuple (de_cb1 (vc_sorted (n := 0) (by decide)) (de_var (i := 2) (d := (.list s33)) rfl)))))))))))))

noncomputable def m_groups_in (hands : PyData) : Option PyData :=
  ((((((some hands).bind lenO).bind lrngO)).bind fun r1 => some (.list r1)).bind fun s2 => (((((some hands).bind m_pairs_in).bind lstO).bind fun d27 => foldO (fun s6 => prO fun v7 v8 => ((((((some s6).bind fun x10 => (some v8).bind fun y11 => ixO x10 y11).bind fun x14 => (((some s6).bind fun x12 => (some v7).bind fun y13 => ixO x12 y13).bind fun y15 => (some []).bind fun r17 => some (y15 :: r17)).bind fun r18 => some (x14 :: r18)).bind fun d16 => bif smallO d16 then some (.tuple d16) else none).bind (prO fun x y => some (x, y))).bind fun s9 => ((((((some s6).bind lstO).bind fun d24 => compL (fun v20 => some true) (fun v20 => ((((some v20).bind fun x21 => (some s9.1).bind fun y22 => eqI x21 y22).bind bO).bind fun b23 => bif b23 then (some s9.2) else (some v20))) d24)).bind fun r25 => some (.list r25)).bind fun s26 => some s26))) d27 s2).bind fun s28 => ((some []).bind fun s30 => (((((some s28).bind usortO).bind lstO).bind fun d42 => foldO (fun s31 v32 => (((((((((some hands).bind lenO).bind rng1).bind fun d40 => compL (fun v35 => ((((some s28).bind fun x36 => (some v35).bind fun y37 => ixO x36 y37).bind fun x38 => (some v32).bind fun y39 => eqI x38 y39).bind bO)) (fun v35 => (some v35)) d40)).bind fun r41 => some (.list r41)).bind tupO).bind fun d34 => bif Nat.blt (s31).length 100000 then some (s31 ++ [d34]) else none).bind fun s33 => some s33)) d42 s30).bind fun s43 => ((some (.list s43)).bind (sortO 1))))))
theorem sc_groups_in : FnScope ["hands", "group", "one", "other", "old", "new", "number", "found", "person"] ["hands"] (defScope HD.s_groups_in) := ⟨rfl, rfl, rfl, by decide +kernel, rfl, by decide +kernel, by decide +kernel⟩
theorem ok_groups_in {P : Program} {w : World} {K : PySem.W.Frag} {mg : Str → Option Value} {base : Heap} (c : Hd K mg) : OkD P w K mg base 2 "groups_in" ["hands"] (spD K 1 (f1 m_groups_in)) := by
  obtain ⟨fd, F⟩ := c.says.def_ 11 (d := HD.d_groups_in) rfl
  have h_len := c.free "len" (c.says.fact 60 rfl)
  have h_list := c.free "list" (c.says.fact 61 rfl)
  have o_pairs_in := ok_pairs_in (P := P) (w := w) (base := base) c
  have h_range := c.free "range" (c.says.fact 64 rfl)
  have h_set := c.free "set" (c.says.fact 65 rfl)
  have h_sorted := c.free "sorted" (c.says.fact 66 rfl)
  have h_tuple := c.free "tuple" (c.says.fact 68 rfl)
  have nd : ((["hands", "group", "one", "other", "old", "new", "number", "found", "person"] : List Str)).Nodup := sc_groups_in.nd
  refine ok_ret (k := 1) (n := 1) (f := f1 m_groups_in) F (c.glo _ (c.says.fact 11 rfl)) sc_groups_in rfl (fun _ _ _ _ _ _ us hl => match us, hl with | [_], _ => rfl) fun cdv A outer s H E hr => ?_
  refine ⟨_, (pss_cons (ps_set (i := 1) nd rfl (by first | exact .inl rfl | exact .inr rfl) (pe_listRg rfl rfl h_list (prg_1 rfl h_range (pe_callB (xc_len (K := K) rfl) rfl h_len (by decide +kernel) (pa_cons (pv 0) pa_nil)))) rfl (by first | exact .inl rfl | exact .inr rfl)) (pss_cons (ps_for PassesOwn.never rfl (xi_list (K := K) rfl (pe_callD o_pairs_in hr rfl rfl (pa_cons (pv 0) pa_nil))) (xg_tup (K := K) (n := 2) rfl rfl (pgs_cons (pg_name (i := 2) nd rfl (by first | exact .inl rfl | exact .inr rfl) (by first | exact .inl rfl | exact .inr rfl)) (pgs_cons (pg_name (i := 3) nd rfl (by first | exact .inl rfl | exact .inr rfl) (by first | exact .inl rfl | exact .inr rfl)) pgs_nil))) (pss_cons (ps_asg (pe_tup (pa_cons (pe_ix (xo_ix (K := K) rfl) (pv 1) (pv 3) (fun _ _ => rfl)) (pa_cons (pe_ix (xo_ix (K := K) rfl) (pv 1) (pv 2) (fun _ _ => rfl)) pa_nil))) (xg_tup (K := K) (n := 2) rfl rfl (pgs_cons (pg_name (i := 4) nd rfl (by first | exact .inl rfl | exact .inr rfl) (by first | exact .inl rfl | exact .inr rfl)) (pgs_cons (pg_name (i := 5) nd rfl (by first | exact .inl rfl | exact .inr rfl) (by first | exact .inl rfl | exact .inr rfl)) pgs_nil)))) (pss_one (ps_set (i := 1) nd rfl (by first | exact .inl rfl | exact .inr rfl) (pe_lc rfl nd (xi_list (K := K) rfl (pv 1)) (own := [("number", 6)]) (blkOk_by (by kernel_rfl)) (fun _ _ _ _ _ => (pg_name (i := 6) nd rfl (by first | exact .inl rfl | exact .inr rfl) (by first | exact .inl rfl | exact .inr rfl))) (fun _ _ _ _ _ => pts_nil) (fun _ _ _ _ _ => (pe_ifExp (pt_cmpR op_eq (pv 6) (pv 4) (nomark _)) (pv 5) (pv 6)))) rfl (by first | exact .inl rfl | exact .inr rfl))))) (pss_cons (ps_set (i := 7) nd rfl (by first | exact .inl rfl | exact .inr rfl) (pe_lst pa_nil) rfl (by first | exact .inl rfl | exact .inr rfl)) (pss_cons (ps_for PassesOwn.never rfl (xi_list (K := K) rfl (pe_callB (xc_sortedSet (w := w) rfl rfl) rfl h_sorted (by decide +kernel) (pa_cons (pe_callTy (xc_set (K := K) (w := w) rfl rfl rfl) rfl h_set (by decide +kernel) (pa_cons (pv 1) pa_nil)) pa_nil))) (pg_name (i := 6) nd rfl (by first | exact .inl rfl | exact .inr rfl) (by first | exact .inl rfl | exact .inr rfl)) (pss_one (ps_expr (pe_bm PySem.F.plainAttrs_list PySem.F.slot_list_append PySem.F.type_list_append mt_append (pv 7) (pa_cons (pe_callTy (xc_tuple (K := K) rfl) rfl h_tuple (by decide +kernel) (pa_cons (pe_lc rfl nd (pi_range1 rfl h_range (pa_cons (pe_callB (xc_len (K := K) rfl) rfl h_len (by decide +kernel) (pa_cons (pv 0) pa_nil)) pa_nil)) (own := [("person", 8)]) (blkOk_by (by kernel_rfl)) (fun _ _ _ _ _ => (pg_name (i := 8) nd rfl (by first | exact .inl rfl | exact .inr rfl) (by first | exact .inl rfl | exact .inr rfl))) (fun _ _ _ _ _ => (pts_one (pt_cmpR op_eq (pe_ix (xo_ix (K := K) rfl) (pv 1) (pv 8) (fun _ _ => rfl)) (pv 6) (nomark _)))) (fun _ _ _ _ _ => (pv 8))) pa_nil)) pa_nil))))) (pss_one (ps_ret (pe_callB (xc_sorted (K := K) rfl hr.units 1) rfl h_sorted (by decide +kernel) (pa_cons (pv 7) pa_nil)))))))), fun ds hl => ?_⟩
  match ds, hl with
  | [hands], _ =>
    show DR K _ [.dat hands, .un, .un, .un, .un, .un, .un, .un, .un] (m_groups_in hands)
    exact (dr_seq (dn_asg (i := 1) ((dnl_rng (de_cb1 vc_len (de_var (i := 0) (d := hands) rfl)))).de) (fun s2 => (dr_seq (dn_for2 (st := (fun s6 : PyData => [.dat hands, .dat s6, .un, .un, .un, .un, .un, .un, .un])) s2 (dw_list (de_call1 (de_var (i := 0) (d := hands) rfl))) (wk_s (wk_s (wk_u (wk_u (wk_u (wk_u (wk_u (wk_u (wk_u wk_0))))))))) (fun s6 v7 v8 => (dn_seq (dn_pairTo (i := 4) (j := 5) (de_tup (da_cons (de_op v2_ix (de_var (i := 1) (d := s6) rfl) (de_var (i := 3) (d := v8) rfl)) (da_cons (de_op v2_ix (de_var (i := 1) (d := s6) rfl) (de_var (i := 2) (d := v7) rfl)) da_nil)))) (fun s9 => (dn_end (dn_asg (i := 1) ((dnl_lc rfl ((dw_list (de_var (i := 1) (d := s6) rfl))).c (fun v20 => dt_yes) (fun v20 => (de_if (dt_test (de_op v2_eqI (de_var (i := 6) (d := v20) rfl) (de_var (i := 4) (d := s9.1) rfl))) (de_var (i := 5) (d := s9.2) rfl) (de_var (i := 6) (d := v20) rfl))))).de) (fun s26 => (wk_s (wk_s (wk_u (wk_u (wk_u (wk_u (wk_u (wk_u (wk_u wk_0))))))))))))))) (fun s28 => (dr_seq (dn_own (i := 7) dnl_nil rfl) (fun s30 => (dr_seq (dn_for1 (st := (fun s31 : List PyData => [.dat hands, .dat s28, .un, .un, .un, .un, .un, .own s31, .un])) s30 (dw_list (de_sortset (de_var (i := 1) (d := s28) rfl))) (wk_s (wk_s (wk_u (wk_u (wk_u (wk_u (wk_u (wk_s (wk_u wk_0))))))))) (fun s31 v32 => (dn_end (dn_app (i := 7) (ds := s31) rfl (de_cb1 vc_tuple ((dnl_lc rfl ((dw_rng1 (de_cb1 vc_len (de_var (i := 0) (d := hands) rfl)))).c (fun v35 => (dt_test (de_op v2_eqI (de_op v2_ix (de_var (i := 1) (d := s28) rfl) (de_var (i := 8) (d := v35) rfl)) (de_var (i := 6) (d := v32) rfl)))) (fun v35 => (de_var (i := 8) (d := v35) rfl)))).de)) (fun s33 => (wk_s (wk_s (wk_u (wk_u (wk_u (wk_u (wk_u (wk_s (wk_u wk_0))))))))))))) (fun s43 => (dr_frz (i := 7) rfl (dr_ret (de_cb1 (vc_sorted (n := 1) (by decide)) (de_var (i := 7) (d := (.list s43)) rfl))))))))))))

noncomputable def m_end_in (hands : PyData) : Option PyData :=
  (((some hands).bind m_pairs_in).bind fun x5 => (((some [])).bind fun r4 => some (.list r4)).bind fun y6 => eqD x5 y6)
theorem sc_end_in : FnScope ["hands"] ["hands"] (defScope HD.s_end_in) := ⟨rfl, rfl, rfl, by decide +kernel, rfl, by decide +kernel, by decide +kernel⟩
theorem ok_end_in {P : Program} {w : World} {K : PySem.W.Frag} {mg : Str → Option Value} {base : Heap} (c : Hd K mg) : OkD P w K mg base 2 "end_in" ["hands"] (spD K 1 (f1 m_end_in)) := by
  obtain ⟨fd, F⟩ := c.says.def_ 12 (d := HD.d_end_in) rfl
  have o_pairs_in := ok_pairs_in (P := P) (w := w) (base := base) c
  have nd : ((["hands"] : List Str)).Nodup := sc_end_in.nd
  refine ok_ret (k := 1) (n := 1) (f := f1 m_end_in) F (c.glo _ (c.says.fact 12 rfl)) sc_end_in rfl (fun _ _ _ _ _ _ us hl => match us, hl with | [_], _ => rfl) fun cdv A outer s H E hr => ?_
  refine ⟨_, (pss_one (ps_ret (pe_cmpR (xo_eqD (K := K) rfl hr.units) (pe_callD o_pairs_in hr rfl rfl (pa_cons (pv 0) pa_nil)) (pe_lst pa_nil) (nomark _)))), fun ds hl => ?_⟩
  match ds, hl with
  | [hands], _ =>
    show DR K _ [.dat hands] (m_end_in hands)
    exact (dr_ret (de_op v2_eqD (de_call1 (de_var (i := 0) (d := hands) rfl)) (dnl_nil).de))

noncomputable def m_call_in (hands person : PyData) : Option PyData :=
  (((some hands).bind fun x5 => (some person).bind fun x6 => m_spare_in x5 x6).bind fun s7 => ((((((((some hands).bind fun x8 => (some person).bind fun y9 => ixO x8 y9).bind tplO).bind fun d13 => compL (fun v10 => (((some v10).bind fun x11 => (some s7).bind fun y12 => niI x11 y12).bind bO)) (fun v10 => (some v10)) d13)).bind fun r14 => some (.list r14)).bind tupO).bind fun s15 => ((((some hands).bind fun x27 => (some person).bind fun y28 => uptoO x27 y28).bind fun x25 => (itemsO x25).bind fun l29 => ((some s15).bind fun x23 => (((some hands).bind fun x18 => ((some person).bind fun x20 => (some (.int 1)).bind fun y21 => addI x20 y21).bind fun y19 => fromO x18 y19).bind fun x16 => (itemsO x16).bind fun l22 => (some []).bind fun r17 => some (l22 ++ r17)).bind fun r24 => some (x23 :: r24)).bind fun r26 => some (l29 ++ r26)).bind fun d30 => bif smallO d30 then some (.tuple d30) else none)))
theorem sc_call_in : FnScope ["hands", "person", "away", "left", "thing"] ["hands", "person"] (defScope HD.s_call_in) := ⟨rfl, rfl, rfl, by decide +kernel, rfl, by decide +kernel, by decide +kernel⟩
theorem ok_call_in {P : Program} {w : World} {K : PySem.W.Frag} {mg : Str → Option Value} {base : Heap} (c : Hd K mg) : OkD P w K mg base 3 "call_in" ["hands", "person"] (spD K 2 (f2 m_call_in)) := by
  obtain ⟨fd, F⟩ := c.says.def_ 13 (d := HD.d_call_in) rfl
  have o_spare_in := ok_spare_in (P := P) (w := w) (base := base) c
  have h_tuple := c.free "tuple" (c.says.fact 68 rfl)
  have nd : ((["hands", "person", "away", "left", "thing"] : List Str)).Nodup := sc_call_in.nd
  refine ok_ret (k := 2) (n := 2) (f := f2 m_call_in) F (c.glo _ (c.says.fact 13 rfl)) sc_call_in rfl (fun _ _ _ _ _ _ us hl => match us, hl with | [_, _], _ => rfl) fun cdv A outer s H E hr => ?_
  refine ⟨_, (pss_cons (ps_set (i := 2) nd rfl (by first | exact .inl rfl | exact .inr rfl) (pe_callD o_spare_in hr rfl rfl (pa_cons (pv 0) (pa_cons (pv 1) pa_nil))) rfl (by first | exact .inl rfl | exact .inr rfl)) (pss_cons (ps_set (i := 3) nd rfl (by first | exact .inl rfl | exact .inr rfl) (pe_callTy (xc_tuple (K := K) rfl) rfl h_tuple (by decide +kernel) (pa_cons (pe_lc rfl nd (xi_tup (K := K) rfl (pe_ix (xo_ix (K := K) rfl) (pv 0) (pv 1) (fun _ _ => rfl))) (own := [("thing", 4)]) (blkOk_by (by kernel_rfl)) (fun _ _ _ _ _ => (pg_name (i := 4) nd rfl (by first | exact .inl rfl | exact .inr rfl) (by first | exact .inl rfl | exact .inr rfl))) (fun _ _ _ _ _ => (pts_one (pt_cmpR (xo_ni (K := K) rfl) (pv 4) (pv 2) (by with_unfolding_all rfl)))) (fun _ _ _ _ _ => (pv 4))) pa_nil)) rfl (by first | exact .inl rfl | exact .inr rfl)) (pss_one (ps_ret (pe_tup (xa_star (K := K) rfl (pe_slice (xo_sl (K := K) rfl) (pv 0) po_none (po_some (pv 1))) (pa_cons (pv 3) (xa_star (K := K) rfl (pe_slice (xo_sl (K := K) rfl) (pv 0) (po_some (pe_op op_add (pv 1) pe_int)) po_none) pa_nil)))))))), fun ds hl => ?_⟩
  match ds, hl with
  | [hands, person], _ =>
    show DR K _ [.dat hands, .dat person, .un, .un, .un] (m_call_in hands person)
    exact (dr_seq (dn_asg (i := 2) (de_call2 (de_var (i := 0) (d := hands) rfl) (de_var (i := 1) (d := person) rfl))) (fun s7 => (dr_seq (dn_asg (i := 3) (de_cb1 vc_tuple ((dnl_lc rfl ((dw_tup (de_op v2_ix (de_var (i := 0) (d := hands) rfl) (de_var (i := 1) (d := person) rfl)))).c (fun v10 => (dt_test (de_op v2_ni (de_var (i := 4) (d := v10) rfl) (de_var (i := 2) (d := s7) rfl)))) (fun v10 => (de_var (i := 4) (d := v10) rfl)))).de)) (fun s15 => (dr_ret (de_tup (da_star (de_upto (de_var (i := 0) (d := hands) rfl) (de_var (i := 1) (d := person) rfl)) (da_cons (de_var (i := 3) (d := s15) rfl) (da_star (de_from (de_var (i := 0) (d := hands) rfl) (de_op v2_add (de_var (i := 1) (d := person) rfl) (de_int (i := 1)))) da_nil)))))))))

noncomputable def m_movers_in (hands : PyData) : Option PyData :=
  ((((((some hands).bind lenO).bind rng1).bind fun d11 => compL (fun v1 => ((((some hands).bind fun x6 => (some v1).bind fun x7 => m_spare_in x6 x7).bind fun x9 => (((some [])).bind fun r8 => some (.list r8)).bind fun y10 => neD x9 y10).bind bO)) (fun v1 => (some v1)) d11)).bind fun r12 => some (.list r12))
theorem sc_movers_in : FnScope ["hands", "person"] ["hands"] (defScope HD.s_movers_in) := ⟨rfl, rfl, rfl, by decide +kernel, rfl, by decide +kernel, by decide +kernel⟩
theorem ok_movers_in {P : Program} {w : World} {K : PySem.W.Frag} {mg : Str → Option Value} {base : Heap} (c : Hd K mg) : OkD P w K mg base 3 "movers_in" ["hands"] (spD K 1 (f1 m_movers_in)) := by
  obtain ⟨fd, F⟩ := c.says.def_ 14 (d := HD.d_movers_in) rfl
  have h_len := c.free "len" (c.says.fact 60 rfl)
  have h_range := c.free "range" (c.says.fact 64 rfl)
  have o_spare_in := ok_spare_in (P := P) (w := w) (base := base) c
  have nd : ((["hands", "person"] : List Str)).Nodup := sc_movers_in.nd
  refine ok_ret (k := 2) (n := 1) (f := f1 m_movers_in) F (c.glo _ (c.says.fact 14 rfl)) sc_movers_in rfl (fun _ _ _ _ _ _ us hl => match us, hl with | [_], _ => rfl) fun cdv A outer s H E hr => ?_
  refine ⟨_, (pss_one (ps_ret (pe_lc rfl nd (pi_range1 rfl h_range (pa_cons (pe_callB (xc_len (K := K) rfl) rfl h_len (by decide +kernel) (pa_cons (pv 0) pa_nil)) pa_nil)) (own := [("person", 1)]) (blkOk_by (by kernel_rfl)) (fun _ _ _ _ _ => (pg_name (i := 1) nd rfl (by first | exact .inl rfl | exact .inr rfl) (by first | exact .inl rfl | exact .inr rfl))) (fun _ _ _ _ _ => (pts_one (pt_cmpR (xo_neD (K := K) rfl hr.units) (pe_callD o_spare_in hr rfl rfl (pa_cons (pv 0) (pa_cons (pv 1) pa_nil))) (pe_lst pa_nil) (nomark _)))) (fun _ _ _ _ _ => (pv 1))))), fun ds hl => ?_⟩
  match ds, hl with
  | [hands], _ =>
    show DR K _ [.dat hands, .un] (m_movers_in hands)
    exact (dr_ret ((dnl_lc rfl ((dw_rng1 (de_cb1 vc_len (de_var (i := 0) (d := hands) rfl)))).c (fun v1 => (dt_test (de_op v2_neD (de_call2 (de_var (i := 0) (d := hands) rfl) (de_var (i := 1) (d := v1) rfl)) (dnl_nil).de))) (fun v1 => (de_var (i := 1) (d := v1) rfl)))).de)

end DL

set_option Elab.async false
set_option linter.all false
set_option maxRecDepth 100000
set_option maxHeartbeats 0
namespace DL
open PySem PySem.Spec PyProof.Rows L2
noncomputable def m_cover_in (hands people : PyData) : Option PyData :=
  (((((((some hands).bind m_pairs_in).bind lstO).bind fun d12 => compL (prO fun v4 v5 => some true) (prO fun v4 v5 => (((some v4).bind fun x6 => (some people).bind fun y7 => inI x6 y7).bind fun x10 => (bO x10).bind fun b11 => bif b11 then some (.bool true) else ((some v5).bind fun x8 => (some people).bind fun y9 => inI x8 y9))) d12)).bind fun r13 => some (.list r13)).bind allO)
theorem sc_cover_in : FnScope ["hands", "people", "one", "other"] ["hands", "people"] (defScope HD.s_cover_in) := ⟨rfl, rfl, rfl, by decide +kernel, rfl, by decide +kernel, by decide +kernel⟩
theorem ok_cover_in {P : Program} {w : World} {K : PySem.W.Frag} {mg : Str → Option Value} {base : Heap} (c : Hd K mg) : OkD P w K mg base 2 "cover_in" ["hands", "people"] (spD K 2 (f2 m_cover_in)) := by
  obtain ⟨fd, F⟩ := c.says.def_ 15 (d := HD.d_cover_in) rfl
  have h_all := c.free "all" (c.says.fact 54 rfl)
  have o_pairs_in := ok_pairs_in (P := P) (w := w) (base := base) c
  have nd : ((["hands", "people", "one", "other"] : List Str)).Nodup := sc_cover_in.nd
  refine ok_ret (k := 1) (n := 2) (f := f2 m_cover_in) F (c.glo _ (c.says.fact 15 rfl)) sc_cover_in rfl (fun _ _ _ _ _ _ us hl => match us, hl with | [_, _], _ => rfl) fun cdv A outer s H E hr => ?_
  refine ⟨_, (pss_one (ps_ret (pe_callB (xc_all (K := K) rfl rfl) rfl h_all (by decide +kernel) (pa_cons (pe_lc rfl nd (xi_list (K := K) rfl (pe_callD o_pairs_in hr rfl rfl (pa_cons (pv 0) pa_nil))) (own := [("one", 2), ("other", 3)]) (blkOk_by (by kernel_rfl)) (fun _ _ _ _ _ => (xg_tup (K := K) (n := 2) rfl rfl (pgs_cons (pg_name (i := 2) nd rfl (by first | exact .inl rfl | exact .inr rfl) (by first | exact .inl rfl | exact .inr rfl)) (pgs_cons (pg_name (i := 3) nd rfl (by first | exact .inl rfl | exact .inr rfl) (by first | exact .inl rfl | exact .inr rfl)) pgs_nil)))) (fun _ _ _ _ _ => pts_nil) (fun _ _ _ _ _ => (pe_or (pe_cmpR (xo_in (K := K) rfl) (pv 2) (pv 1) (by with_unfolding_all rfl)) (pe_one (pe_cmpR (xo_in (K := K) rfl) (pv 3) (pv 1) (by with_unfolding_all rfl)))))) pa_nil)))), fun ds hl => ?_⟩
  match ds, hl with
  | [hands, people], _ =>
    show DR K _ [.dat hands, .dat people, .un, .un] (m_cover_in hands people)
    exact (dr_ret (de_cb1 vc_all ((dnl_lcp rfl rfl ((dw_list (de_call1 (de_var (i := 0) (d := hands) rfl)))).c (fun v4 v5 => dt_yes) (fun v4 v5 => (de_orV (de_op v2_in (de_var (i := 2) (d := v4) rfl) (de_var (i := 1) (d := people) rfl)) (de_op v2_in (de_var (i := 3) (d := v5) rfl) (de_var (i := 1) (d := people) rfl)))))).de))

noncomputable def m_choices (many : PyData) : Option PyData :=
  (((((some []).bind fun d3 => bif smallO d3 then some (.tuple d3) else none).bind fun x1 => (some []).bind fun r2 => some (x1 :: r2)).bind fun d4 => bif smallO d4 then some d4 else none).bind fun s6 => ((((some many).bind rng1).bind fun d20 => foldO (fun s7 v8 => ((((some s7).bind fun d18 => compL (fun v11 => some true) (fun v11 => (((some v11).bind fun x14 => (itemsO x14).bind fun l16 => ((some v8).bind fun x12 => (some []).bind fun r13 => some (x12 :: r13)).bind fun r15 => some (l16 ++ r15)).bind fun d17 => bif smallO d17 then some (.tuple d17) else none)) d18).bind fun d10 => bif smallO (s7 ++ d10) then some (s7 ++ d10) else none).bind fun s9 => some s9)) d20 s6).bind fun s21 => (some (.list s21))))
theorem sc_choices : FnScope ["many", "found", "person", "row"] ["many"] (defScope HD.s_choices) := ⟨rfl, rfl, rfl, by decide +kernel, rfl, by decide +kernel, by decide +kernel⟩
theorem ok_choices {P : Program} {w : World} {K : PySem.W.Frag} {mg : Str → Option Value} {base : Heap} (c : Hd K mg) : OkD P w K mg base 1 "choices" ["many"] (spD K 1 (f1 m_choices)) := by
  obtain ⟨fd, F⟩ := c.says.def_ 16 (d := HD.d_choices) rfl
  have h_range := c.free "range" (c.says.fact 64 rfl)
  have nd : ((["many", "found", "person", "row"] : List Str)).Nodup := sc_choices.nd
  refine ok_ret (k := 0) (n := 1) (f := f1 m_choices) F (c.glo _ (c.says.fact 16 rfl)) sc_choices rfl (fun _ _ _ _ _ _ us hl => match us, hl with | [_], _ => rfl) fun cdv A outer s H E hr => ?_
  refine ⟨_, (pss_cons (ps_set (i := 1) nd rfl (by first | exact .inl rfl | exact .inr rfl) (pe_lst (pa_cons (pe_tup pa_nil) pa_nil)) rfl (by first | exact .inl rfl | exact .inr rfl)) (pss_cons (ps_for PassesOwn.never rfl (pi_range1 rfl h_range (pa_cons (pv 0) pa_nil)) (pg_name (i := 2) nd rfl (by first | exact .inl rfl | exact .inr rfl) (by first | exact .inl rfl | exact .inr rfl)) (pss_one (ps_expr (pe_bm PySem.F.plainAttrs_list PySem.F.slot_list_extend PySem.F.type_list_extend mt_extend (pv 1) (pa_cons (pe_lc rfl nd (xi_list (K := K) rfl (pv 1)) (own := [("row", 3)]) (blkOk_by (by kernel_rfl)) (fun _ _ _ _ _ => (pg_name (i := 3) nd rfl (by first | exact .inl rfl | exact .inr rfl) (by first | exact .inl rfl | exact .inr rfl))) (fun _ _ _ _ _ => pts_nil) (fun _ _ _ _ _ => (pe_tup (xa_star (K := K) rfl (pv 3) (pa_cons (pv 2) pa_nil))))) pa_nil))))) (pss_one (ps_ret (pv 1))))), fun ds hl => ?_⟩
  match ds, hl with
  | [many], _ =>
    show DR K _ [.dat many, .un, .un, .un] (m_choices many)
    exact (dr_seq (dn_own (i := 1) (dnl_disp (da_cons (de_tup da_nil) da_nil)) rfl) (fun s6 => (dr_seq (dn_for1 (st := (fun s7 : List PyData => [.dat many, .own s7, .un, .un])) s6 (dw_rng1 (de_var (i := 0) (d := many) rfl)) (wk_s (wk_s (wk_u (wk_u wk_0)))) (fun s7 v8 => (dn_end (dn_ext (i := 1) (ds := s7) rfl (dnl_lc rfl (dw_own (i := 1) rfl) (fun v11 => dt_yes) (fun v11 => (de_tup (da_star (de_var (i := 3) (d := v11) rfl) (da_cons (de_var (i := 2) (d := v8) rfl) da_nil)))))) (fun s9 => (wk_s (wk_s (wk_u (wk_u wk_0)))))))) (fun s21 => (dr_frz (i := 1) rfl (dr_ret (de_var (i := 1) (d := (.list s21)) rfl)))))))

noncomputable def m_covers_in (hands : PyData) : Option PyData :=
  ((((((((some hands).bind lenO).bind m_choices).bind lstO).bind fun d11 => compL (fun v4 => (((some hands).bind fun x9 => (some v4).bind fun x10 => m_cover_in x9 x10).bind bO)) (fun v4 => (some v4)) d11)).bind fun r12 => some (.list r12)).bind (sortO 1))
theorem sc_covers_in : FnScope ["hands", "people"] ["hands"] (defScope HD.s_covers_in) := ⟨rfl, rfl, rfl, by decide +kernel, rfl, by decide +kernel, by decide +kernel⟩
theorem ok_covers_in {P : Program} {w : World} {K : PySem.W.Frag} {mg : Str → Option Value} {base : Heap} (c : Hd K mg) : OkD P w K mg base 3 "covers_in" ["hands"] (spD K 1 (f1 m_covers_in)) := by
  obtain ⟨fd, F⟩ := c.says.def_ 17 (d := HD.d_covers_in) rfl
  have o_choices := ok_choices (P := P) (w := w) (base := base) c
  have o_cover_in := ok_cover_in (P := P) (w := w) (base := base) c
  have h_len := c.free "len" (c.says.fact 60 rfl)
  have h_sorted := c.free "sorted" (c.says.fact 66 rfl)
  have nd : ((["hands", "people"] : List Str)).Nodup := sc_covers_in.nd
  refine ok_ret (k := 2) (n := 1) (f := f1 m_covers_in) F (c.glo _ (c.says.fact 17 rfl)) sc_covers_in rfl (fun _ _ _ _ _ _ us hl => match us, hl with | [_], _ => rfl) fun cdv A outer s H E hr => ?_
  refine ⟨_, (pss_one (ps_ret (pe_callB (xc_sorted (K := K) rfl hr.units 1) rfl h_sorted (by decide +kernel) (pa_cons (pe_lc rfl nd (xi_list (K := K) rfl (pe_callD o_choices hr rfl rfl (pa_cons (pe_callB (xc_len (K := K) rfl) rfl h_len (by decide +kernel) (pa_cons (pv 0) pa_nil)) pa_nil))) (own := [("people", 1)]) (blkOk_by (by kernel_rfl)) (fun _ _ _ _ _ => (pg_name (i := 1) nd rfl (by first | exact .inl rfl | exact .inr rfl) (by first | exact .inl rfl | exact .inr rfl))) (fun _ _ _ _ _ => (pts_one (pt_val (pe_callD o_cover_in hr rfl rfl (pa_cons (pv 0) (pa_cons (pv 1) pa_nil)))))) (fun _ _ _ _ _ => (pv 1))) pa_nil)))), fun ds hl => ?_⟩
  match ds, hl with
  | [hands], _ =>
    show DR K _ [.dat hands, .un] (m_covers_in hands)
    exact (dr_ret (de_cb1 (vc_sorted (n := 1) (by decide)) ((dnl_lc rfl ((dw_list (de_call1 (de_cb1 vc_len (de_var (i := 0) (d := hands) rfl))))).c (fun v4 => (dt_B (de_call2 (de_var (i := 0) (d := hands) rfl) (de_var (i := 1) (d := v4) rfl)))) (fun v4 => (de_var (i := 1) (d := v4) rfl)))).de))

noncomputable def m_least_in (hands : PyData) : Option PyData :=
  (((some hands).bind m_covers_in).bind fun s4 => (((((((some s4).bind lstO).bind fun d6 => compL (fun v5 => some true) (fun v5 => ((some v5).bind lenO)) d6)).bind fun r7 => some (.list r7)).bind (minO (isLv 0) (ltN 0))).bind fun s8 => (((((some s4).bind lstO).bind fun d12 => compL (fun v9 => ((((some v9).bind lenO).bind fun x10 => (some s8).bind fun y11 => eqI x10 y11).bind bO)) (fun v9 => (some v9)) d12)).bind fun r13 => some (.list r13))))
theorem sc_least_in : FnScope ["hands", "some", "few", "people"] ["hands"] (defScope HD.s_least_in) := ⟨rfl, rfl, rfl, by decide +kernel, rfl, by decide +kernel, by decide +kernel⟩
theorem ok_least_in {P : Program} {w : World} {K : PySem.W.Frag} {mg : Str → Option Value} {base : Heap} (c : Hd K mg) : OkD P w K mg base 4 "least_in" ["hands"] (spD K 1 (f1 m_least_in)) := by
  obtain ⟨fd, F⟩ := c.says.def_ 18 (d := HD.d_least_in) rfl
  have o_covers_in := ok_covers_in (P := P) (w := w) (base := base) c
  have h_len := c.free "len" (c.says.fact 60 rfl)
  have h_min := c.free "min" (c.says.fact 63 rfl)
  have nd : ((["hands", "some", "few", "people"] : List Str)).Nodup := sc_least_in.nd
  refine ok_ret (k := 3) (n := 1) (f := f1 m_least_in) F (c.glo _ (c.says.fact 18 rfl)) sc_least_in rfl (fun _ _ _ _ _ _ us hl => match us, hl with | [_], _ => rfl) fun cdv A outer s H E hr => ?_
  refine ⟨_, (pss_cons (ps_set (i := 1) nd rfl (by first | exact .inl rfl | exact .inr rfl) (pe_callD o_covers_in hr rfl rfl (pa_cons (pv 0) pa_nil)) rfl (by first | exact .inl rfl | exact .inr rfl)) (pss_cons (ps_set (i := 2) nd rfl (by first | exact .inl rfl | exact .inr rfl) (pe_callB (xc_min (K := K) (kd_lv 0 (by decide)) rfl rfl hr.units) rfl h_min (by decide +kernel) (pa_cons (pe_lc rfl nd (xi_list (K := K) rfl (pv 1)) (own := [("people", 3)]) (blkOk_by (by kernel_rfl)) (fun _ _ _ _ _ => (pg_name (i := 3) nd rfl (by first | exact .inl rfl | exact .inr rfl) (by first | exact .inl rfl | exact .inr rfl))) (fun _ _ _ _ _ => pts_nil) (fun _ _ _ _ _ => (pe_callB (xc_len (K := K) rfl) rfl h_len (by decide +kernel) (pa_cons (pv 3) pa_nil)))) pa_nil)) rfl (by first | exact .inl rfl | exact .inr rfl)) (pss_one (ps_ret (pe_lc rfl nd (xi_list (K := K) rfl (pv 1)) (own := [("people", 3)]) (blkOk_by (by kernel_rfl)) (fun _ _ _ _ _ => (pg_name (i := 3) nd rfl (by first | exact .inl rfl | exact .inr rfl) (by first | exact .inl rfl | exact .inr rfl))) (fun _ _ _ _ _ => (pts_one (pt_cmpR op_eq (pe_callB (xc_len (K := K) rfl) rfl h_len (by decide +kernel) (pa_cons (pv 3) pa_nil)) (pv 2) (nomark _)))) (fun _ _ _ _ _ => (pv 3))))))), fun ds hl => ?_⟩
  match ds, hl with
  | [hands], _ =>
    show DR K _ [.dat hands, .un, .un, .un] (m_least_in hands)
    exact (dr_seq (dn_asg (i := 1) (de_call1 (de_var (i := 0) (d := hands) rfl))) (fun s4 => (dr_seq (dn_asg (i := 2) (de_cb1 (vc_min (kd_lv 0 (by decide))) ((dnl_lc rfl ((dw_list (de_var (i := 1) (d := s4) rfl))).c (fun v5 => dt_yes) (fun v5 => (de_cb1 vc_len (de_var (i := 3) (d := v5) rfl))))).de)) (fun s8 => (dr_ret ((dnl_lc rfl ((dw_list (de_var (i := 1) (d := s4) rfl))).c (fun v9 => (dt_test (de_op v2_eqI (de_cb1 vc_len (de_var (i := 3) (d := v9) rfl)) (de_var (i := 2) (d := s8) rfl)))) (fun v9 => (de_var (i := 3) (d := v9) rfl)))).de)))))

noncomputable def m_least_covers (hands : PyData) : Option PyData :=
  ((((some hands).bind m_need_hands).bind fun _ => some ()).bind fun s4 => ((some hands).bind m_least_in))
theorem sc_least_covers : FnScope ["hands"] ["hands"] (defScope HD.s_least_covers) := ⟨rfl, rfl, rfl, by decide +kernel, rfl, by decide +kernel, by decide +kernel⟩
theorem ok_least_covers {P : Program} {w : World} {K : PySem.W.Frag} {mg : Str → Option Value} {base : Heap} (c : Hd K mg) : OkD P w K mg base 5 "least_covers" ["hands"] (spD K 1 (f1 m_least_covers)) := by
  obtain ⟨fd, F⟩ := c.says.def_ 19 (d := HD.d_least_covers) rfl
  have o_least_in := ok_least_in (P := P) (w := w) (base := base) c
  have o_need_hands := ok_need_hands (P := P) (w := w) (base := base) c
  have nd : ((["hands"] : List Str)).Nodup := sc_least_covers.nd
  refine ok_ret (k := 4) (n := 1) (f := f1 m_least_covers) F (c.glo _ (c.says.fact 19 rfl)) sc_least_covers rfl (fun _ _ _ _ _ _ us hl => match us, hl with | [_], _ => rfl) fun cdv A outer s H E hr => ?_
  refine ⟨_, (pss_cons (ps_expr (pe_callD o_need_hands hr rfl rfl (pa_cons (pv 0) pa_nil))) (pss_one (ps_ret (pe_callD o_least_in hr rfl rfl (pa_cons (pv 0) pa_nil))))), fun ds hl => ?_⟩
  match ds, hl with
  | [hands], _ =>
    show DR K _ [.dat hands] (m_least_covers hands)
    exact (dr_seq (dn_drop (de_call1 (de_var (i := 0) (d := hands) rfl))) (fun s4 => (dr_ret (de_call1 (de_var (i := 0) (d := hands) rfl)))))

noncomputable def m_calls_to_end (hands : PyData) : Option PyData :=
  ((((some hands).bind m_need_hands).bind fun _ => some ()).bind fun s4 => ((((some hands).bind m_least_in).bind fun x9 => (some (.int 0)).bind fun y10 => ixO x9 y10).bind lenO))
theorem sc_calls_to_end : FnScope ["hands"] ["hands"] (defScope HD.s_calls_to_end) := ⟨rfl, rfl, rfl, by decide +kernel, rfl, by decide +kernel, by decide +kernel⟩
theorem ok_calls_to_end {P : Program} {w : World} {K : PySem.W.Frag} {mg : Str → Option Value} {base : Heap} (c : Hd K mg) : OkD P w K mg base 5 "calls_to_end" ["hands"] (spD K 1 (f1 m_calls_to_end)) := by
  obtain ⟨fd, F⟩ := c.says.def_ 20 (d := HD.d_calls_to_end) rfl
  have o_least_in := ok_least_in (P := P) (w := w) (base := base) c
  have h_len := c.free "len" (c.says.fact 60 rfl)
  have o_need_hands := ok_need_hands (P := P) (w := w) (base := base) c
  have nd : ((["hands"] : List Str)).Nodup := sc_calls_to_end.nd
  refine ok_ret (k := 4) (n := 1) (f := f1 m_calls_to_end) F (c.glo _ (c.says.fact 20 rfl)) sc_calls_to_end rfl (fun _ _ _ _ _ _ us hl => match us, hl with | [_], _ => rfl) fun cdv A outer s H E hr => ?_
  refine ⟨_, (pss_cons (ps_expr (pe_callD o_need_hands hr rfl rfl (pa_cons (pv 0) pa_nil))) (pss_one (ps_ret (pe_callB (xc_len (K := K) rfl) rfl h_len (by decide +kernel) (pa_cons (pe_ix (xo_ix (K := K) rfl) (pe_callD o_least_in hr rfl rfl (pa_cons (pv 0) pa_nil)) pe_int (fun _ _ => rfl)) pa_nil))))), fun ds hl => ?_⟩
  match ds, hl with
  | [hands], _ =>
    show DR K _ [.dat hands] (m_calls_to_end hands)
    exact (dr_seq (dn_drop (de_call1 (de_var (i := 0) (d := hands) rfl))) (fun s4 => (dr_ret (de_cb1 vc_len (de_op v2_ix (de_call1 (de_var (i := 0) (d := hands) rfl)) (de_int (i := 0)))))))

noncomputable def m_tight_covers (hands : PyData) : Option PyData :=
  ((((some hands).bind m_need_hands).bind fun _ => some ()).bind fun s4 => (((some hands).bind m_covers_in).bind fun s9 => ((some []).bind fun s11 => ((((some s9).bind lstO).bind fun d32 => foldO (fun s12 v13 => ((((((some v13).bind tplO).bind fun d20 => compL (fun v14 => some true) (fun v14 => ((((((some v13).bind tplO).bind fun d18 => compL (fun v15 => (((some v15).bind fun x16 => (some v14).bind fun y17 => neI x16 y17).bind bO)) (fun v15 => (some v15)) d18)).bind fun r19 => some (.list r19)).bind tupO)) d20)).bind fun r21 => some (.list r21)).bind fun s22 => (((((((((some s22).bind lstO).bind fun d26 => compL (fun v23 => some true) (fun v23 => ((some v23).bind fun x24 => (some s9).bind fun y25 => inD x24 y25)) d26)).bind fun r27 => some (.list r27)).bind anyO).bind bO).bind fun b28 => some (!b28)).bind fun b31 => bif b31 then (((some v13).bind fun d30 => bif Nat.blt (s12).length 100000 then some (s12 ++ [d30]) else none).bind fun s29 => some s29) else some s12))) d32 s11).bind fun s33 => (some (.list s33))))))
theorem sc_tight_covers : FnScope ["hands", "some", "found", "people", "parts", "other", "person", "part"] ["hands"] (defScope HD.s_tight_covers) := ⟨rfl, rfl, rfl, by decide +kernel, rfl, by decide +kernel, by decide +kernel⟩
theorem ok_tight_covers {P : Program} {w : World} {K : PySem.W.Frag} {mg : Str → Option Value} {base : Heap} (c : Hd K mg) : OkD P w K mg base 5 "tight_covers" ["hands"] (spD K 1 (f1 m_tight_covers)) := by
  obtain ⟨fd, F⟩ := c.says.def_ 21 (d := HD.d_tight_covers) rfl
  have h_any := c.free "any" (c.says.fact 55 rfl)
  have o_covers_in := ok_covers_in (P := P) (w := w) (base := base) c
  have o_need_hands := ok_need_hands (P := P) (w := w) (base := base) c
  have h_tuple := c.free "tuple" (c.says.fact 68 rfl)
  have nd : ((["hands", "some", "found", "people", "parts", "other", "person", "part"] : List Str)).Nodup := sc_tight_covers.nd
  refine ok_ret (k := 4) (n := 1) (f := f1 m_tight_covers) F (c.glo _ (c.says.fact 21 rfl)) sc_tight_covers rfl (fun _ _ _ _ _ _ us hl => match us, hl with | [_], _ => rfl) fun cdv A outer s H E hr => ?_
  refine ⟨_, (pss_cons (ps_expr (pe_callD o_need_hands hr rfl rfl (pa_cons (pv 0) pa_nil))) (pss_cons (ps_set (i := 1) nd rfl (by first | exact .inl rfl | exact .inr rfl) (pe_callD o_covers_in hr rfl rfl (pa_cons (pv 0) pa_nil)) rfl (by first | exact .inl rfl | exact .inr rfl)) (pss_cons (ps_set (i := 2) nd rfl (by first | exact .inl rfl | exact .inr rfl) (pe_lst pa_nil) rfl (by first | exact .inl rfl | exact .inr rfl)) (pss_cons (ps_for PassesOwn.never rfl (xi_list (K := K) rfl (pv 1)) (pg_name (i := 3) nd rfl (by first | exact .inl rfl | exact .inr rfl) (by first | exact .inl rfl | exact .inr rfl)) (pss_cons (ps_setLc (i := 4) rfl nd rfl rfl (sw_true rfl rfl rfl rfl) (xi_tup (K := K) rfl (pv 3)) (own := [("person", 6)]) (blkOk_by (by kernel_rfl)) (fun _ _ _ _ _ => (pg_name (i := 6) nd rfl (by first | exact .inl rfl | exact .inr rfl) (by first | exact .inl rfl | exact .inr rfl))) (fun _ _ _ _ _ => pts_nil) (fun _ _ _ _ _ => (pe_callTy (xc_tuple (K := K) rfl) rfl h_tuple (by decide +kernel) (pa_cons (pe_lc rfl nd (xi_tup (K := K) rfl (pv 3)) (own := [("other", 5)]) (blkOk_by (by kernel_rfl)) (fun _ _ _ _ _ => (pg_name (i := 5) nd rfl (by first | exact .inl rfl | exact .inr rfl) (by first | exact .inl rfl | exact .inr rfl))) (fun _ _ _ _ _ => (pts_one (pt_cmpR op_ne (pv 5) (pv 6) (nomark _)))) (fun _ _ _ _ _ => (pv 5))) pa_nil)))) (pss_one (ps_if (pt_not (pt_val (pe_callB (xc_any (K := K) rfl rfl) rfl h_any (by decide +kernel) (pa_cons (pe_lc rfl nd (xi_list (K := K) rfl (pv 4)) (own := [("part", 7)]) (blkOk_by (by kernel_rfl)) (fun _ _ _ _ _ => (pg_name (i := 7) nd rfl (by first | exact .inl rfl | exact .inr rfl) (by first | exact .inl rfl | exact .inr rfl))) (fun _ _ _ _ _ => pts_nil) (fun _ _ _ _ _ => (pe_cmpR (xo_inD (K := K) rfl hr) (pv 7) (pv 1) (by with_unfolding_all rfl)))) pa_nil)))) (pss_one (ps_expr (pe_bm PySem.F.plainAttrs_list PySem.F.slot_list_append PySem.F.type_list_append mt_append (pv 2) (pa_cons (pv 3) pa_nil)))) pss_nil)))) (pss_one (ps_ret (pv 2))))))), fun ds hl => ?_⟩
  match ds, hl with
  | [hands], _ =>
    show DR K _ [.dat hands, .un, .un, .un, .un, .un, .un, .un] (m_tight_covers hands)
    exact (dr_seq (dn_drop (de_call1 (de_var (i := 0) (d := hands) rfl))) (fun s4 => (dr_seq (dn_asg (i := 1) (de_call1 (de_var (i := 0) (d := hands) rfl))) (fun s9 => (dr_seq (dn_own (i := 2) dnl_nil rfl) (fun s11 => (dr_seq (dn_for1 (st := (fun s12 : List PyData => [.dat hands, .dat s9, .own s12, .un, .un, .un, .un, .un])) s11 (dw_list (de_var (i := 1) (d := s9) rfl)) (wk_s (wk_s (wk_s (wk_u (wk_u (wk_u (wk_u (wk_u wk_0)))))))) (fun s12 v13 => (dn_seq (dn_asg (i := 4) ((dnl_lc rfl ((dw_tup (de_var (i := 3) (d := v13) rfl))).c (fun v14 => dt_yes) (fun v14 => (de_cb1 vc_tuple ((dnl_lc rfl ((dw_tup (de_var (i := 3) (d := v13) rfl))).c (fun v15 => (dt_test (de_op v2_neI (de_var (i := 5) (d := v15) rfl) (de_var (i := 6) (d := v14) rfl)))) (fun v15 => (de_var (i := 5) (d := v15) rfl)))).de)))).de) (fun s22 => (dn_if (dt_not (dt_B (de_cb1 vc_any ((dnl_lc rfl ((dw_list (de_var (i := 4) (d := s22) rfl))).c (fun v23 => dt_yes) (fun v23 => (de_op v2_inD (de_var (i := 7) (d := v23) rfl) (de_var (i := 1) (d := s9) rfl))))).de))) (dn_end (dn_app (i := 2) (ds := s12) rfl (de_var (i := 3) (d := v13) rfl)) (fun s29 => (wk_s (wk_s (wk_s (wk_u (wk_u (wk_u (wk_u (wk_u wk_0)))))))))) (dn_nil s12 (wk_s (wk_s (wk_s (wk_u (wk_u (wk_u (wk_u (wk_u wk_0)))))))))))))) (fun s33 => (dr_frz (i := 2) rfl (dr_ret (de_var (i := 2) (d := (.list s33)) rfl)))))))))))

noncomputable def m_must_call (hands : PyData) : Option PyData :=
  ((((some hands).bind m_need_hands).bind fun _ => some ()).bind fun s4 => (((some hands).bind m_least_in).bind fun s9 => ((some []).bind fun s11 => (((((some hands).bind lenO).bind rng1).bind fun d22 => foldO (fun s12 v13 => ((((((((some s9).bind lstO).bind fun d17 => compL (fun v14 => some true) (fun v14 => ((some v13).bind fun x15 => (some v14).bind fun y16 => inI x15 y16)) d17)).bind fun r18 => some (.list r18)).bind allO).bind bO).bind fun b21 => bif b21 then (((some v13).bind fun d20 => bif Nat.blt (s12).length 100000 then some (s12 ++ [d20]) else none).bind fun s19 => some s19) else some s12)) d22 s11).bind fun s23 => ((some (.list s23)).bind tupO)))))
theorem sc_must_call : FnScope ["hands", "some", "found", "person", "people"] ["hands"] (defScope HD.s_must_call) := ⟨rfl, rfl, rfl, by decide +kernel, rfl, by decide +kernel, by decide +kernel⟩
theorem ok_must_call {P : Program} {w : World} {K : PySem.W.Frag} {mg : Str → Option Value} {base : Heap} (c : Hd K mg) : OkD P w K mg base 5 "must_call" ["hands"] (spD K 1 (f1 m_must_call)) := by
  obtain ⟨fd, F⟩ := c.says.def_ 22 (d := HD.d_must_call) rfl
  have h_all := c.free "all" (c.says.fact 54 rfl)
  have o_least_in := ok_least_in (P := P) (w := w) (base := base) c
  have h_len := c.free "len" (c.says.fact 60 rfl)
  have o_need_hands := ok_need_hands (P := P) (w := w) (base := base) c
  have h_range := c.free "range" (c.says.fact 64 rfl)
  have h_tuple := c.free "tuple" (c.says.fact 68 rfl)
  have nd : ((["hands", "some", "found", "person", "people"] : List Str)).Nodup := sc_must_call.nd
  refine ok_ret (k := 4) (n := 1) (f := f1 m_must_call) F (c.glo _ (c.says.fact 22 rfl)) sc_must_call rfl (fun _ _ _ _ _ _ us hl => match us, hl with | [_], _ => rfl) fun cdv A outer s H E hr => ?_
  refine ⟨_, (pss_cons (ps_expr (pe_callD o_need_hands hr rfl rfl (pa_cons (pv 0) pa_nil))) (pss_cons (ps_set (i := 1) nd rfl (by first | exact .inl rfl | exact .inr rfl) (pe_callD o_least_in hr rfl rfl (pa_cons (pv 0) pa_nil)) rfl (by first | exact .inl rfl | exact .inr rfl)) (pss_cons (ps_set (i := 2) nd rfl (by first | exact .inl rfl | exact .inr rfl) (pe_lst pa_nil) rfl (by first | exact .inl rfl | exact .inr rfl)) (pss_cons (ps_for PassesOwn.never rfl (pi_range1 rfl h_range (pa_cons (pe_callB (xc_len (K := K) rfl) rfl h_len (by decide +kernel) (pa_cons (pv 0) pa_nil)) pa_nil)) (pg_name (i := 3) nd rfl (by first | exact .inl rfl | exact .inr rfl) (by first | exact .inl rfl | exact .inr rfl)) (pss_one (ps_if (pt_val (pe_callB (xc_all (K := K) rfl rfl) rfl h_all (by decide +kernel) (pa_cons (pe_lc rfl nd (xi_list (K := K) rfl (pv 1)) (own := [("people", 4)]) (blkOk_by (by kernel_rfl)) (fun _ _ _ _ _ => (pg_name (i := 4) nd rfl (by first | exact .inl rfl | exact .inr rfl) (by first | exact .inl rfl | exact .inr rfl))) (fun _ _ _ _ _ => pts_nil) (fun _ _ _ _ _ => (pe_cmpR (xo_in (K := K) rfl) (pv 3) (pv 4) (by with_unfolding_all rfl)))) pa_nil))) (pss_one (ps_expr (pe_bm PySem.F.plainAttrs_list PySem.F.slot_list_append PySem.F.type_list_append mt_append (pv 2) (pa_cons (pv 3) pa_nil)))) pss_nil))) (pss_one (ps_ret (pe_callTy (xc_tuple (K := K) rfl) rfl h_tuple (by decide +kernel) (pa_cons (pv 2) pa_nil)))))))), fun ds hl => ?_⟩
  match ds, hl with
  | [hands], _ =>
    show DR K _ [.dat hands, .un, .un, .un, .un] (m_must_call hands)
    exact (dr_seq (dn_drop (de_call1 (de_var (i := 0) (d := hands) rfl))) (fun s4 => (dr_seq (dn_asg (i := 1) (de_call1 (de_var (i := 0) (d := hands) rfl))) (fun s9 => (dr_seq (dn_own (i := 2) dnl_nil rfl) (fun s11 => (dr_seq (dn_for1 (st := (fun s12 : List PyData => [.dat hands, .dat s9, .own s12, .un, .un])) s11 (dw_rng1 (de_cb1 vc_len (de_var (i := 0) (d := hands) rfl))) (wk_s (wk_s (wk_s (wk_u (wk_u wk_0))))) (fun s12 v13 => (dn_if (dt_B (de_cb1 vc_all ((dnl_lc rfl ((dw_list (de_var (i := 1) (d := s9) rfl))).c (fun v14 => dt_yes) (fun v14 => (de_op v2_in (de_var (i := 3) (d := v13) rfl) (de_var (i := 4) (d := v14) rfl))))).de)) (dn_end (dn_app (i := 2) (ds := s12) rfl (de_var (i := 3) (d := v13) rfl)) (fun s19 => (wk_s (wk_s (wk_s (wk_u (wk_u wk_0))))))) (dn_nil s12 (wk_s (wk_s (wk_s (wk_u (wk_u wk_0))))))))) (fun s23 => (dr_frz (i := 2) rfl (dr_ret (de_cb1 vc_tuple (de_var (i := 2) (d := (.list s23)) rfl))))))))))))

noncomputable def u_need_weights (hands weights : PyData) : Option Unit :=
  ((((((some weights).bind fun x8 => ((some hands).bind lenO).bind fun x9 => ((some hands).bind lenO).bind fun x10 => m_is_list x8 x9 x10).bind bO).bind fun b11 => some (!b11)).bind fun b12 => bif b12 then none else some ()).bind fun s13 => ((((some weights).bind fun x14 => (tplO x14).bind fun d15 => some (enumD d15)).bind fun d31 => foldO (fun s16 => prO fun v17 v18 => ((((((some v18).bind fun x25 => (some (.int 0)).bind fun x26 => (some (.int 99)).bind fun x27 => m_is_in x25 x26 x27).bind bO).bind fun b28 => some (!b28)).bind fun b29 => bif b29 then none else some ()).bind fun s30 => some ())) d31 ()).bind fun s32 => some ()))
noncomputable def m_need_weights (hands weights : PyData) : Option PyData := (u_need_weights hands weights).bind fun _ => some .none
theorem sc_need_weights : FnScope ["hands", "weights", "index", "weight"] ["hands", "weights"] (defScope HD.s_need_weights) := ⟨rfl, rfl, rfl, by decide +kernel, rfl, by decide +kernel, by decide +kernel⟩
theorem ok_need_weights {P : Program} {w : World} {K : PySem.W.Frag} {mg : Str → Option Value} {base : Heap} (c : Hd K mg) : OkD P w K mg base 3 "need_weights" ["hands", "weights"] (spD K 2 (f2 m_need_weights)) := by
  obtain ⟨fd, F⟩ := c.says.def_ 23 (d := HD.d_need_weights) rfl
  have h_enumerate := c.free "enumerate" (c.says.fact 57 rfl)
  have o_is_in := ok_is_in (P := P) (w := w) (base := base) c
  have o_is_list := ok_is_list (P := P) (w := w) (base := base) c
  have h_len := c.free "len" (c.says.fact 60 rfl)
  have nd : ((["hands", "weights", "index", "weight"] : List Str)).Nodup := sc_need_weights.nd
  refine OkD.imp' (ok_none (k := 2) (n := 2) (f := fun ds => match ds with | [hands, weights] => u_need_weights hands weights | _ => none) F (c.glo _ (c.says.fact 23 rfl)) sc_need_weights rfl (fun _ _ _ _ _ _ us hl => match us, hl with | [_, _], _ => rfl) fun cdv A outer s H E hr => ?_) ?_
  · refine ⟨_, (pss_cons (ps_if (pt_not (pt_val (pe_callD o_is_list hr rfl rfl (pa_cons (pv 1) (pa_cons (pe_callB (xc_len (K := K) rfl) rfl h_len (by decide +kernel) (pa_cons (pv 0) pa_nil)) (pa_cons (pe_callB (xc_len (K := K) rfl) rfl h_len (by decide +kernel) (pa_cons (pv 0) pa_nil)) pa_nil)))))) pss_never pss_nil) (pss_one (ps_for PassesOwn.never rfl (xi_enum (K := K) rfl rfl h_enumerate (pa_cons (pv 1) pa_nil)) (xg_tup (K := K) (n := 2) rfl rfl (pgs_cons (pg_name (i := 2) nd rfl (by first | exact .inl rfl | exact .inr rfl) (by first | exact .inl rfl | exact .inr rfl)) (pgs_cons (pg_name (i := 3) nd rfl (by first | exact .inl rfl | exact .inr rfl) (by first | exact .inl rfl | exact .inr rfl)) pgs_nil))) (pss_one (ps_if (pt_not (pt_val (pe_callD o_is_in hr rfl rfl (pa_cons (pv 3) (pa_cons pe_int (pa_cons pe_int pa_nil)))))) pss_never pss_nil))))), fun ds hl => ?_⟩
    match ds, hl with
    | [hands, weights], _ => exact ⟨_, (show DN K _ [.dat hands, .dat weights, .un, .un] (u_need_weights hands weights) (fun _ => [.un, .un, .un, .un]) from (dn_seq (dn_never (dt_not (dt_B (de_call3 (de_var (i := 1) (d := weights) rfl) (de_cb1 vc_len (de_var (i := 0) (d := hands) rfl)) (de_cb1 vc_len (de_var (i := 0) (d := hands) rfl)))))) (fun s13 => (dn_end (dn_for2 (st := (fun s16 : Unit => [.dat hands, .dat weights, .un, .un])) () (dw_enum (de_var (i := 1) (d := weights) rfl)) (wk_s (wk_s (wk_u (wk_u wk_0)))) (fun s16 v17 v18 => (dn_end (dn_never (dt_not (dt_B (de_call3 (de_var (i := 3) (d := v18) rfl) (de_int (i := 0)) (de_int (i := 99)))))) (fun s30 => (wk_s (wk_s (wk_u (wk_u wk_0)))))))) (fun s32 => (wk_u (wk_u (wk_u (wk_u wk_0)))))))))⟩
  · rintro ds d h
    match ds, h with
    | [hands, weights], h => exact h

noncomputable def m_cheapest_cover (hands weights : PyData) : Option PyData :=
  ((((some hands).bind m_need_hands).bind fun _ => some ()).bind fun s4 => ((((some hands).bind fun x10 => (some weights).bind fun x11 => m_need_weights x10 x11).bind fun _ => some ()).bind fun s12 => (((((((some hands).bind m_covers_in).bind lstO).bind fun d28 => compL (fun v17 => some true) (fun v17 => ((((((((some v17).bind tplO).bind fun d25 => compL (fun v22 => some true) (fun v22 => ((some weights).bind fun x23 => (some v22).bind fun y24 => ixO x23 y24)) d25)).bind fun r26 => some (.list r26)).bind sumO).bind fun x20 => ((some v17).bind fun x18 => (some []).bind fun r19 => some (x18 :: r19)).bind fun r21 => some (x20 :: r21)).bind fun d27 => bif smallO d27 then some (.tuple d27) else none)) d28)).bind fun r29 => some (.list r29)).bind (minO isPr ltPr))))
theorem sc_cheapest_cover : FnScope ["hands", "weights", "person", "people"] ["hands", "weights"] (defScope HD.s_cheapest_cover) := ⟨rfl, rfl, rfl, by decide +kernel, rfl, by decide +kernel, by decide +kernel⟩
theorem ok_cheapest_cover {P : Program} {w : World} {K : PySem.W.Frag} {mg : Str → Option Value} {base : Heap} (c : Hd K mg) : OkD P w K mg base 5 "cheapest_cover" ["hands", "weights"] (spD K 2 (f2 m_cheapest_cover)) := by
  obtain ⟨fd, F⟩ := c.says.def_ 24 (d := HD.d_cheapest_cover) rfl
  have o_covers_in := ok_covers_in (P := P) (w := w) (base := base) c
  have h_min := c.free "min" (c.says.fact 63 rfl)
  have o_need_hands := ok_need_hands (P := P) (w := w) (base := base) c
  have o_need_weights := ok_need_weights (P := P) (w := w) (base := base) c
  have h_sum := c.free "sum" (c.says.fact 67 rfl)
  have nd : ((["hands", "weights", "person", "people"] : List Str)).Nodup := sc_cheapest_cover.nd
  refine ok_ret (k := 4) (n := 2) (f := f2 m_cheapest_cover) F (c.glo _ (c.says.fact 24 rfl)) sc_cheapest_cover rfl (fun _ _ _ _ _ _ us hl => match us, hl with | [_, _], _ => rfl) fun cdv A outer s H E hr => ?_
  refine ⟨_, (pss_cons (ps_expr (pe_callD o_need_hands hr rfl rfl (pa_cons (pv 0) pa_nil))) (pss_cons (ps_expr (pe_callD o_need_weights hr rfl rfl (pa_cons (pv 0) (pa_cons (pv 1) pa_nil)))) (pss_one (ps_ret (pe_callB (xc_min (K := K) kd_pr rfl rfl hr.units) rfl h_min (by decide +kernel) (pa_cons (pe_lc rfl nd (xi_list (K := K) rfl (pe_callD o_covers_in hr rfl rfl (pa_cons (pv 0) pa_nil))) (own := [("people", 3)]) (blkOk_by (by kernel_rfl)) (fun _ _ _ _ _ => (pg_name (i := 3) nd rfl (by first | exact .inl rfl | exact .inr rfl) (by first | exact .inl rfl | exact .inr rfl))) (fun _ _ _ _ _ => pts_nil) (fun _ _ _ _ _ => (pe_tup (pa_cons (pe_callB (xc_sum (K := K) rfl rfl) rfl h_sum (by decide +kernel) (pa_cons (pe_lc rfl nd (xi_tup (K := K) rfl (pv 3)) (own := [("person", 2)]) (blkOk_by (by kernel_rfl)) (fun _ _ _ _ _ => (pg_name (i := 2) nd rfl (by first | exact .inl rfl | exact .inr rfl) (by first | exact .inl rfl | exact .inr rfl))) (fun _ _ _ _ _ => pts_nil) (fun _ _ _ _ _ => (pe_ix (xo_ix (K := K) rfl) (pv 1) (pv 2) (fun _ _ => rfl)))) pa_nil)) (pa_cons (pv 3) pa_nil))))) pa_nil)))))), fun ds hl => ?_⟩
  match ds, hl with
  | [hands, weights], _ =>
    show DR K _ [.dat hands, .dat weights, .un, .un] (m_cheapest_cover hands weights)
    exact (dr_seq (dn_drop (de_call1 (de_var (i := 0) (d := hands) rfl))) (fun s4 => (dr_seq (dn_drop (de_call2 (de_var (i := 0) (d := hands) rfl) (de_var (i := 1) (d := weights) rfl))) (fun s12 => (dr_ret (de_cb1 (vc_min kd_pr) ((dnl_lc rfl ((dw_list (de_call1 (de_var (i := 0) (d := hands) rfl)))).c (fun v17 => dt_yes) (fun v17 => (de_tup (da_cons (de_cb1 vc_sum ((dnl_lc rfl ((dw_tup (de_var (i := 3) (d := v17) rfl))).c (fun v22 => dt_yes) (fun v22 => (de_op v2_ix (de_var (i := 1) (d := weights) rfl) (de_var (i := 2) (d := v22) rfl))))).de) (da_cons (de_var (i := 3) (d := v17) rfl) da_nil)))))).de))))))

noncomputable def m_way_to_end (hands : PyData) : Option PyData :=
  ((((some hands).bind m_need_hands).bind fun _ => some ()).bind fun s4 => (((some hands).bind m_least_in).bind fun x9 => (some (.int 0)).bind fun y10 => ixO x9 y10))
theorem sc_way_to_end : FnScope ["hands"] ["hands"] (defScope HD.s_way_to_end) := ⟨rfl, rfl, rfl, by decide +kernel, rfl, by decide +kernel, by decide +kernel⟩
theorem ok_way_to_end {P : Program} {w : World} {K : PySem.W.Frag} {mg : Str → Option Value} {base : Heap} (c : Hd K mg) : OkD P w K mg base 5 "way_to_end" ["hands"] (spD K 1 (f1 m_way_to_end)) := by
  obtain ⟨fd, F⟩ := c.says.def_ 25 (d := HD.d_way_to_end) rfl
  have o_least_in := ok_least_in (P := P) (w := w) (base := base) c
  have o_need_hands := ok_need_hands (P := P) (w := w) (base := base) c
  have nd : ((["hands"] : List Str)).Nodup := sc_way_to_end.nd
  refine ok_ret (k := 4) (n := 1) (f := f1 m_way_to_end) F (c.glo _ (c.says.fact 25 rfl)) sc_way_to_end rfl (fun _ _ _ _ _ _ us hl => match us, hl with | [_], _ => rfl) fun cdv A outer s H E hr => ?_
  refine ⟨_, (pss_cons (ps_expr (pe_callD o_need_hands hr rfl rfl (pa_cons (pv 0) pa_nil))) (pss_one (ps_ret (pe_ix (xo_ix (K := K) rfl) (pe_callD o_least_in hr rfl rfl (pa_cons (pv 0) pa_nil)) pe_int (fun _ _ => rfl))))), fun ds hl => ?_⟩
  match ds, hl with
  | [hands], _ =>
    show DR K _ [.dat hands] (m_way_to_end hands)
    exact (dr_seq (dn_drop (de_call1 (de_var (i := 0) (d := hands) rfl))) (fun s4 => (dr_ret (de_op v2_ix (de_call1 (de_var (i := 0) (d := hands) rfl)) (de_int (i := 0))))))

end DL

set_option Elab.async false
set_option linter.all false
set_option maxRecDepth 100000
set_option maxHeartbeats 0
namespace DL
open PySem PySem.Spec PyProof.Rows L2
noncomputable def m_has_ring (steps : PyData) : Option PyData :=
  (((((((some steps).bind lstO).bind fun d3 => (compL2 (fun v1 => ((some v1).bind tplO)) (fun v1 v2 => (some v2)) d3).bind fun r4 => bif smallO r4 then some r4 else none)).bind fun r5 => some (.list r5)).bind usortO).bind fun s6 => (whileR (fun s7 => (((some s7).bind fun x9 => (((some [])).bind fun r8 => some (.list r8)).bind fun y10 => neD x9 y10).bind bO)) (fun s7 => ((((((some s7).bind lstO).bind fun d28 => compL (fun v13 => ((((((((some steps).bind lstO).bind fun d25 => compL (fun v14 => some true) (fun v14 => ((((some v14).bind fun x15 => (some (.int 1)).bind fun y16 => ixO x15 y16).bind fun x17 => (some v13).bind fun y18 => eqI x17 y18).bind fun x23 => (bO x23).bind fun b24 => bif b24 then (((some v14).bind fun x19 => (some (.int 0)).bind fun y20 => ixO x19 y20).bind fun x21 => (some s7).bind fun y22 => inI x21 y22) else some (.bool false))) d25)).bind fun r26 => some (.list r26)).bind anyO).bind bO).bind fun b27 => some (!b27))) (fun v13 => (some v13)) d28)).bind fun r29 => some (.list r29)).bind fun s30 => ((((some s30).bind fun x34 => (((some [])).bind fun r33 => some (.list r33)).bind fun y35 => eqD x34 y35).bind bO).bind fun b32 => bif b32 then (some (.bool true)).bind fun d => some (.ret d) else (((((((some s7).bind lstO).bind fun d41 => compL (fun v38 => (((some v38).bind fun x39 => (some s30).bind fun y40 => niI x39 y40).bind bO)) (fun v38 => (some v38)) d41)).bind fun r42 => some (.list r42)).bind fun s43 => some s43).bind fun s => some (.nxt s))))) (fun s7 => (some (.bool false))) 40 s6))
theorem sc_has_ring : FnScope ["steps", "left", "pair", "person", "free"] ["steps"] (defScope HD.s_has_ring) := ⟨rfl, rfl, rfl, by decide +kernel, rfl, by decide +kernel, by decide +kernel⟩
theorem ok_has_ring {P : Program} {w : World} {K : PySem.W.Frag} {mg : Str → Option Value} {base : Heap} (c : Hd K mg) : OkD P w K mg base 1 "has_ring" ["steps"] (spD K 1 (f1 m_has_ring)) := by
  obtain ⟨fd, F⟩ := c.says.def_ 26 (d := HD.d_has_ring) rfl
  have h_any := c.free "any" (c.says.fact 55 rfl)
  have h_set := c.free "set" (c.says.fact 65 rfl)
  have h_sorted := c.free "sorted" (c.says.fact 66 rfl)
  have nd : ((["steps", "left", "pair", "person", "free"] : List Str)).Nodup := sc_has_ring.nd
  refine ok_ret (k := 0) (n := 1) (f := f1 m_has_ring) F (c.glo _ (c.says.fact 26 rfl)) sc_has_ring rfl (fun _ _ _ _ _ _ us hl => match us, hl with | [_], _ => rfl) fun cdv A outer s H E hr => ?_
  refine ⟨_, (pss_cons (ps_set (i := 1) nd rfl (by first | exact .inl rfl | exact .inr rfl) (pe_callB (xc_sortedSet (w := w) rfl rfl) rfl h_sorted (by decide +kernel) (pa_cons (pe_callTy (xc_set (K := K) (w := w) rfl rfl rfl) rfl h_set (by decide +kernel) (pa_cons (pe_lc2 rfl nd (xi_list (K := K) rfl (pv 0)) (own := [("pair", 2), ("person", 3)]) (vs1 := [3]) (blkOk_by (by kernel_rfl)) (by decide) (fun _ _ _ _ _ => (pg_name (i := 2) nd rfl (by first | exact .inl rfl | exact .inr rfl) (by first | exact .inl rfl | exact .inr rfl))) (fun _ _ _ _ _ => pts_nil) (fun _ _ _ _ _ => (xi_tup (K := K) rfl (pv 2))) (fun _ _ _ _ _ => (pg_name (i := 3) nd rfl (by first | exact .inl rfl | exact .inr rfl) (by first | exact .inl rfl | exact .inr rfl))) (fun _ _ _ _ _ => pts_nil) (fun _ _ _ _ _ => (pv 3))) pa_nil)) pa_nil)) rfl (by first | exact .inl rfl | exact .inr rfl)) (pss_cons (ps_while PassesOwn.never (pt_cmpR (xo_neD (K := K) rfl hr.units) (pv 1) (pe_lst pa_nil) (nomark _)) (pss_cons (ps_set (i := 4) nd rfl (by first | exact .inl rfl | exact .inr rfl) (pe_lc rfl nd (xi_list (K := K) rfl (pv 1)) (own := [("person", 3)]) (blkOk_by (by kernel_rfl)) (fun _ _ _ _ _ => (pg_name (i := 3) nd rfl (by first | exact .inl rfl | exact .inr rfl) (by first | exact .inl rfl | exact .inr rfl))) (fun _ _ _ _ _ => (pts_one (pt_not (pt_val (pe_callB (xc_any (K := K) rfl rfl) rfl h_any (by decide +kernel) (pa_cons (pe_lc rfl nd (xi_list (K := K) rfl (pv 0)) (own := [("pair", 2)]) (blkOk_by (by kernel_rfl)) (fun _ _ _ _ _ => (pg_name (i := 2) nd rfl (by first | exact .inl rfl | exact .inr rfl) (by first | exact .inl rfl | exact .inr rfl))) (fun _ _ _ _ _ => pts_nil) (fun _ _ _ _ _ => (pe_and (pe_cmpR op_eq (pe_ix (xo_ix (K := K) rfl) (pv 2) pe_int (fun _ _ => rfl)) (pv 3) (nomark _)) (pe_one (pe_cmpR (xo_in (K := K) rfl) (pe_ix (xo_ix (K := K) rfl) (pv 2) pe_int (fun _ _ => rfl)) (pv 1) (by with_unfolding_all rfl)))))) pa_nil)))))) (fun _ _ _ _ _ => (pv 3))) rfl (by first | exact .inl rfl | exact .inr rfl)) (pss_cons (ps_if (pt_cmpR (xo_eqD (K := K) rfl hr.units) (pv 4) (pe_lst pa_nil) (nomark _)) (pss_one (ps_ret pe_bl)) pss_nil) (pss_one (ps_set (i := 1) nd rfl (by first | exact .inl rfl | exact .inr rfl) (pe_lc rfl nd (xi_list (K := K) rfl (pv 1)) (own := [("person", 3)]) (blkOk_by (by kernel_rfl)) (fun _ _ _ _ _ => (pg_name (i := 3) nd rfl (by first | exact .inl rfl | exact .inr rfl) (by first | exact .inl rfl | exact .inr rfl))) (fun _ _ _ _ _ => (pts_one (pt_cmpR (xo_ni (K := K) rfl) (pv 3) (pv 4) (by with_unfolding_all rfl)))) (fun _ _ _ _ _ => (pv 3))) rfl (by first | exact .inl rfl | exact .inr rfl)))))) (pss_one (ps_ret pe_bl)))), fun ds hl => ?_⟩
  match ds, hl with
  | [steps], _ =>
    show DR K _ [.dat steps, .un, .un, .un, .un] (m_has_ring steps)
    exact (dr_seq (dn_asg (i := 1) (de_sortset ((dnl_lc2 rfl rfl ((dw_list (de_var (i := 0) (d := steps) rfl))).c (fun v1 => (dw_tup (de_var (i := 2) (d := v1) rfl))) (fun v1 v2 => (de_var (i := 3) (d := v2) rfl)))).de)) (fun s6 => (dr_while (st := (fun s7 : PyData => [.dat steps, .dat s7, .un, .un, .un])) 40 s6 (wk_s (wk_s (wk_u (wk_u (wk_u wk_0))))) (fun s7 => (dt_test (de_op v2_neD (de_var (i := 1) (d := s7) rfl) (dnl_nil).de))) (fun s7 => (db_seq (dn_asg (i := 4) ((dnl_lc rfl ((dw_list (de_var (i := 1) (d := s7) rfl))).c (fun v13 => (dt_not (dt_B (de_cb1 vc_any ((dnl_lc rfl ((dw_list (de_var (i := 0) (d := steps) rfl))).c (fun v14 => dt_yes) (fun v14 => (de_andV (de_op v2_eqI (de_op v2_ix (de_var (i := 2) (d := v14) rfl) (de_int (i := 1))) (de_var (i := 3) (d := v13) rfl)) (de_op v2_in (de_op v2_ix (de_var (i := 2) (d := v14) rfl) (de_int (i := 0))) (de_var (i := 1) (d := s7) rfl)))))).de)))) (fun v13 => (de_var (i := 3) (d := v13) rfl)))).de) (fun s30 => (db_ifret (dt_test (de_op v2_eqD (de_var (i := 4) (d := s30) rfl) (dnl_nil).de)) (dr_ret (de_bl (b := true))) (db_dn (dn_end (dn_asg (i := 1) ((dnl_lc rfl ((dw_list (de_var (i := 1) (d := s7) rfl))).c (fun v38 => (dt_test (de_op v2_ni (de_var (i := 3) (d := v38) rfl) (de_var (i := 4) (d := s30) rfl)))) (fun v38 => (de_var (i := 3) (d := v38) rfl)))).de) (fun s43 => (wk_s (wk_s (wk_u (wk_u (wk_u wk_0)))))))))))) (fun s7 => (dr_ret (de_bl (b := false)))))))

noncomputable def m_most_calls (hands : PyData) : Option PyData :=
  ((((some hands).bind m_need_hands).bind fun _ => some ()).bind fun s4 => (((some hands).bind lenO).bind fun x9 => (((some hands).bind m_groups_in).bind lenO).bind fun y10 => subI x9 y10))
theorem sc_most_calls : FnScope ["hands"] ["hands"] (defScope HD.s_most_calls) := ⟨rfl, rfl, rfl, by decide +kernel, rfl, by decide +kernel, by decide +kernel⟩
theorem ok_most_calls {P : Program} {w : World} {K : PySem.W.Frag} {mg : Str → Option Value} {base : Heap} (c : Hd K mg) : OkD P w K mg base 5 "most_calls" ["hands"] (spD K 1 (f1 m_most_calls)) := by
  obtain ⟨fd, F⟩ := c.says.def_ 33 (d := HD.d_most_calls) rfl
  have o_groups_in := ok_groups_in (P := P) (w := w) (base := base) c
  have h_len := c.free "len" (c.says.fact 60 rfl)
  have o_need_hands := ok_need_hands (P := P) (w := w) (base := base) c
  have nd : ((["hands"] : List Str)).Nodup := sc_most_calls.nd
  refine ok_ret (k := 4) (n := 1) (f := f1 m_most_calls) F (c.glo _ (c.says.fact 33 rfl)) sc_most_calls rfl (fun _ _ _ _ _ _ us hl => match us, hl with | [_], _ => rfl) fun cdv A outer s H E hr => ?_
  refine ⟨_, (pss_cons (ps_expr (pe_callD o_need_hands hr rfl rfl (pa_cons (pv 0) pa_nil))) (pss_one (ps_ret (pe_op op_sub (pe_callB (xc_len (K := K) rfl) rfl h_len (by decide +kernel) (pa_cons (pv 0) pa_nil)) (pe_callB (xc_len (K := K) rfl) rfl h_len (by decide +kernel) (pa_cons (pe_callD o_groups_in hr rfl rfl (pa_cons (pv 0) pa_nil)) pa_nil)))))), fun ds hl => ?_⟩
  match ds, hl with
  | [hands], _ =>
    show DR K _ [.dat hands] (m_most_calls hands)
    exact (dr_seq (dn_drop (de_call1 (de_var (i := 0) (d := hands) rfl))) (fun s4 => (dr_ret (de_op v2_sub (de_cb1 vc_len (de_var (i := 0) (d := hands) rfl)) (de_cb1 vc_len (de_call1 (de_var (i := 0) (d := hands) rfl)))))))

noncomputable def m_linked_to (hands person : PyData) : Option PyData :=
  ((some []).bind fun s2 => (((((some hands).bind m_pairs_in).bind lstO).bind fun d23 => foldO (fun s6 => prO fun v7 v8 => ((((some person).bind fun x14 => (((some v7).bind fun x11 => ((some v8).bind fun x9 => (some []).bind fun r10 => some (x9 :: r10)).bind fun r12 => some (x11 :: r12)).bind fun d13 => bif smallO d13 then some (.tuple d13) else none).bind fun y15 => inI x14 y15).bind bO).bind fun b22 => bif b22 then (((((some v7).bind fun x18 => (some v8).bind fun y19 => addI x18 y19).bind fun x20 => (some person).bind fun y21 => subI x20 y21).bind fun d17 => bif Nat.blt (s6).length 100000 then some (s6 ++ [d17]) else none).bind fun s16 => some s16) else some s6)) d23 s2).bind fun s24 => ((some (.list s24)).bind (sortO 0))))
theorem sc_linked_to : FnScope ["hands", "person", "found", "one", "other"] ["hands", "person"] (defScope HD.s_linked_to) := ⟨rfl, rfl, rfl, by decide +kernel, rfl, by decide +kernel, by decide +kernel⟩
theorem ok_linked_to {P : Program} {w : World} {K : PySem.W.Frag} {mg : Str → Option Value} {base : Heap} (c : Hd K mg) : OkD P w K mg base 2 "linked_to" ["hands", "person"] (spD K 2 (f2 m_linked_to)) := by
  obtain ⟨fd, F⟩ := c.says.def_ 36 (d := HD.d_linked_to) rfl
  have o_pairs_in := ok_pairs_in (P := P) (w := w) (base := base) c
  have h_sorted := c.free "sorted" (c.says.fact 66 rfl)
  have nd : ((["hands", "person", "found", "one", "other"] : List Str)).Nodup := sc_linked_to.nd
  refine ok_ret (k := 1) (n := 2) (f := f2 m_linked_to) F (c.glo _ (c.says.fact 36 rfl)) sc_linked_to rfl (fun _ _ _ _ _ _ us hl => match us, hl with | [_, _], _ => rfl) fun cdv A outer s H E hr => ?_
  refine ⟨_, (pss_cons (ps_set (i := 2) nd rfl (by first | exact .inl rfl | exact .inr rfl) (pe_lst pa_nil) rfl (by first | exact .inl rfl | exact .inr rfl)) (pss_cons (ps_for PassesOwn.never rfl (xi_list (K := K) rfl (pe_callD o_pairs_in hr rfl rfl (pa_cons (pv 0) pa_nil))) (xg_tup (K := K) (n := 2) rfl rfl (pgs_cons (pg_name (i := 3) nd rfl (by first | exact .inl rfl | exact .inr rfl) (by first | exact .inl rfl | exact .inr rfl)) (pgs_cons (pg_name (i := 4) nd rfl (by first | exact .inl rfl | exact .inr rfl) (by first | exact .inl rfl | exact .inr rfl)) pgs_nil))) (pss_one (ps_if (pt_cmpR (xo_in (K := K) rfl) (pv 1) (pe_tup (pa_cons (pv 3) (pa_cons (pv 4) pa_nil))) (by with_unfolding_all rfl)) (pss_one (ps_expr (pe_bm PySem.F.plainAttrs_list PySem.F.slot_list_append PySem.F.type_list_append mt_append (pv 2) (pa_cons (pe_op op_sub (pe_op op_add (pv 3) (pv 4)) (pv 1)) pa_nil)))) pss_nil))) (pss_one (ps_ret (pe_callB (xc_sorted (K := K) rfl hr.units 0) rfl h_sorted (by decide +kernel) (pa_cons (pv 2) pa_nil)))))), fun ds hl => ?_⟩
  match ds, hl with
  | [hands, person], _ =>
    show DR K _ [.dat hands, .dat person, .un, .un, .un] (m_linked_to hands person)
    exact (dr_seq (dn_own (i := 2) dnl_nil rfl) (fun s2 => (dr_seq (dn_for2 (st := (fun s6 : List PyData => [.dat hands, .dat person, .own s6, .un, .un])) s2 (dw_list (de_call1 (de_var (i := 0) (d := hands) rfl))) (wk_s (wk_s (wk_s (wk_u (wk_u wk_0))))) (fun s6 v7 v8 => (dn_if (dt_test (de_op v2_in (de_var (i := 1) (d := person) rfl) (de_tup (da_cons (de_var (i := 3) (d := v7) rfl) (da_cons (de_var (i := 4) (d := v8) rfl) da_nil))))) (dn_end (dn_app (i := 2) (ds := s6) rfl (de_op v2_sub (de_op v2_add (de_var (i := 3) (d := v7) rfl) (de_var (i := 4) (d := v8) rfl)) (de_var (i := 1) (d := person) rfl))) (fun s16 => (wk_s (wk_s (wk_s (wk_u (wk_u wk_0))))))) (dn_nil s6 (wk_s (wk_s (wk_s (wk_u (wk_u wk_0))))))))) (fun s24 => (dr_frz (i := 2) rfl (dr_ret (de_cb1 (vc_sorted (n := 0) (by decide)) (de_var (i := 2) (d := (.list s24)) rfl))))))))

noncomputable def m_most_linked (hands : PyData) : Option PyData :=
  ((((some hands).bind m_need_hands).bind fun _ => some ()).bind fun s4 => (((((((((some hands).bind lenO).bind rng1).bind fun d18 => compL (fun v6 => some true) (fun v6 => ((((((some hands).bind fun x15 => (some v6).bind fun x16 => m_linked_to x15 x16).bind lenO).bind negI).bind fun x9 => ((some v6).bind fun x7 => (some []).bind fun r8 => some (x7 :: r8)).bind fun r10 => some (x9 :: r10)).bind fun d17 => bif smallO d17 then some (.tuple d17) else none)) d18)).bind fun r19 => some (.list r19)).bind (minO (isLv 1) (ltN 1))).bind (prO fun x y => some (x, y))).bind fun s20 => ((((some s20.1).bind negI).bind fun x23 => ((some s20.2).bind fun x21 => (some []).bind fun r22 => some (x21 :: r22)).bind fun r24 => some (x23 :: r24)).bind fun d25 => bif smallO d25 then some (.tuple d25) else none)))
theorem sc_most_linked : FnScope ["hands", "many", "person"] ["hands"] (defScope HD.s_most_linked) := ⟨rfl, rfl, rfl, by decide +kernel, rfl, by decide +kernel, by decide +kernel⟩
theorem ok_most_linked {P : Program} {w : World} {K : PySem.W.Frag} {mg : Str → Option Value} {base : Heap} (c : Hd K mg) : OkD P w K mg base 5 "most_linked" ["hands"] (spD K 1 (f1 m_most_linked)) := by
  obtain ⟨fd, F⟩ := c.says.def_ 37 (d := HD.d_most_linked) rfl
  have h_len := c.free "len" (c.says.fact 60 rfl)
  have o_linked_to := ok_linked_to (P := P) (w := w) (base := base) c
  have h_min := c.free "min" (c.says.fact 63 rfl)
  have o_need_hands := ok_need_hands (P := P) (w := w) (base := base) c
  have h_range := c.free "range" (c.says.fact 64 rfl)
  have nd : ((["hands", "many", "person"] : List Str)).Nodup := sc_most_linked.nd
  refine ok_ret (k := 4) (n := 1) (f := f1 m_most_linked) F (c.glo _ (c.says.fact 37 rfl)) sc_most_linked rfl (fun _ _ _ _ _ _ us hl => match us, hl with | [_], _ => rfl) fun cdv A outer s H E hr => ?_
  refine ⟨_, (pss_cons (ps_expr (pe_callD o_need_hands hr rfl rfl (pa_cons (pv 0) pa_nil))) (pss_cons (ps_asg (pe_callB (xc_min (K := K) (kd_lv 1 (by decide)) rfl rfl hr.units) rfl h_min (by decide +kernel) (pa_cons (pe_lc rfl nd (pi_range1 rfl h_range (pa_cons (pe_callB (xc_len (K := K) rfl) rfl h_len (by decide +kernel) (pa_cons (pv 0) pa_nil)) pa_nil)) (own := [("person", 2)]) (blkOk_by (by kernel_rfl)) (fun _ _ _ _ _ => (pg_name (i := 2) nd rfl (by first | exact .inl rfl | exact .inr rfl) (by first | exact .inl rfl | exact .inr rfl))) (fun _ _ _ _ _ => pts_nil) (fun _ _ _ _ _ => (pe_tup (pa_cons (pe_un un_neg (pe_callB (xc_len (K := K) rfl) rfl h_len (by decide +kernel) (pa_cons (pe_callD o_linked_to hr rfl rfl (pa_cons (pv 0) (pa_cons (pv 2) pa_nil))) pa_nil))) (pa_cons (pv 2) pa_nil))))) pa_nil)) (xg_tup (K := K) (n := 2) rfl rfl (pgs_cons (pg_name (i := 1) nd rfl (by first | exact .inl rfl | exact .inr rfl) (by first | exact .inl rfl | exact .inr rfl)) (pgs_cons (pg_name (i := 2) nd rfl (by first | exact .inl rfl | exact .inr rfl) (by first | exact .inl rfl | exact .inr rfl)) pgs_nil)))) (pss_one (ps_ret (pe_tup (pa_cons (pe_un un_neg (pv 1)) (pa_cons (pv 2) pa_nil))))))), fun ds hl => ?_⟩
  match ds, hl with
  | [hands], _ =>
    show DR K _ [.dat hands, .un, .un] (m_most_linked hands)
    exact (dr_seq (dn_drop (de_call1 (de_var (i := 0) (d := hands) rfl))) (fun s4 => (dr_seq (dn_pairTo (i := 1) (j := 2) (de_cb1 (vc_min (kd_lv 1 (by decide))) ((dnl_lc rfl ((dw_rng1 (de_cb1 vc_len (de_var (i := 0) (d := hands) rfl)))).c (fun v6 => dt_yes) (fun v6 => (de_tup (da_cons (de_un vu_neg (de_cb1 vc_len (de_call2 (de_var (i := 0) (d := hands) rfl) (de_var (i := 2) (d := v6) rfl)))) (da_cons (de_var (i := 2) (d := v6) rfl) da_nil)))))).de)) (fun s20 => (dr_ret (de_tup (da_cons (de_un vu_neg (de_var (i := 1) (d := s20.1) rfl)) (da_cons (de_var (i := 2) (d := s20.2) rfl) da_nil))))))))

noncomputable def m_splitters (hands : PyData) : Option PyData :=
  ((((some hands).bind m_need_hands).bind fun _ => some ()).bind fun s4 => (((some []).bind fun x11 => (((some hands).bind m_groups_in).bind lenO).bind fun y12 => some (x11, y12)).bind fun s6 => (((((some hands).bind lenO).bind rng1).bind fun d47 => foldO (fun s13 v14 => ((((some hands).bind fun x15 => (some v14).bind fun y16 => uptoO x15 y16).bind fun x21 => ((some hands).bind fun x17 => ((some v14).bind fun x19 => (some (.int 1)).bind fun y20 => addI x19 y20).bind fun y18 => fromO x17 y18).bind fun y22 => catO x21 y22).bind fun s23 => ((((some hands).bind fun x28 => (some v14).bind fun x29 => m_linked_to x28 x29).bind fun x31 => (((some [])).bind fun r30 => some (.list r30)).bind fun y32 => eqD x31 y32).bind fun s33 => ((((((some hands).bind lenO).bind fun x34 => (some (.int 1)).bind fun y35 => gtI x34 y35).bind bO).bind fun b43 => bif b43 then (((((some s23).bind m_groups_in).bind lenO).bind fun x41 => ((some s6.2).bind fun x39 => ((some s33).bind int1O).bind fun y40 => subI x39 y40).bind fun y42 => gtI x41 y42).bind bO) else some false).bind fun b46 => bif b46 then (((some v14).bind fun d45 => bif Nat.blt (s13).length 100000 then some (s13 ++ [d45]) else none).bind fun s44 => some s44) else some s13)))) d47 s6.1).bind fun s48 => ((some (.list s48)).bind tupO))))
theorem sc_splitters : FnScope ["hands", "found", "many", "person", "left", "alone"] ["hands"] (defScope HD.s_splitters) := ⟨rfl, rfl, rfl, by decide +kernel, rfl, by decide +kernel, by decide +kernel⟩
theorem ok_splitters {P : Program} {w : World} {K : PySem.W.Frag} {mg : Str → Option Value} {base : Heap} (c : Hd K mg) : OkD P w K mg base 5 "splitters" ["hands"] (spD K 1 (f1 m_splitters)) := by
  obtain ⟨fd, F⟩ := c.says.def_ 38 (d := HD.d_splitters) rfl
  have o_groups_in := ok_groups_in (P := P) (w := w) (base := base) c
  have h_int := c.free "int" (c.says.fact 58 rfl)
  have h_len := c.free "len" (c.says.fact 60 rfl)
  have o_linked_to := ok_linked_to (P := P) (w := w) (base := base) c
  have o_need_hands := ok_need_hands (P := P) (w := w) (base := base) c
  have h_range := c.free "range" (c.says.fact 64 rfl)
  have h_tuple := c.free "tuple" (c.says.fact 68 rfl)
  have nd : ((["hands", "found", "many", "person", "left", "alone"] : List Str)).Nodup := sc_splitters.nd
  refine ok_ret (k := 4) (n := 1) (f := f1 m_splitters) F (c.glo _ (c.says.fact 38 rfl)) sc_splitters rfl (fun _ _ _ _ _ _ us hl => match us, hl with | [_], _ => rfl) fun cdv A outer s H E hr => ?_
  refine ⟨_, (pss_cons (ps_expr (pe_callD o_need_hands hr rfl rfl (pa_cons (pv 0) pa_nil))) (pss_cons (ps_par rfl nd (i := 1) (j := 2) rfl rfl (by decide) rfl rfl (pa_cons (pe_lst pa_nil) (pa_cons (pe_callB (xc_len (K := K) rfl) rfl h_len (by decide +kernel) (pa_cons (pe_callD o_groups_in hr rfl rfl (pa_cons (pv 0) pa_nil)) pa_nil)) pa_nil)) rfl) (pss_cons (ps_for PassesOwn.never rfl (pi_range1 rfl h_range (pa_cons (pe_callB (xc_len (K := K) rfl) rfl h_len (by decide +kernel) (pa_cons (pv 0) pa_nil)) pa_nil)) (pg_name (i := 3) nd rfl (by first | exact .inl rfl | exact .inr rfl) (by first | exact .inl rfl | exact .inr rfl)) (pss_cons (ps_set (i := 4) nd rfl (by first | exact .inl rfl | exact .inr rfl) (pe_op (xo_cat (K := K) rfl) (pe_slice (xo_sl (K := K) rfl) (pv 0) po_none (po_some (pv 3))) (pe_slice (xo_sl (K := K) rfl) (pv 0) (po_some (pe_op op_add (pv 3) pe_int)) po_none)) rfl (by first | exact .inl rfl | exact .inr rfl)) (pss_cons (ps_set (i := 5) nd rfl (by first | exact .inl rfl | exact .inr rfl) (pe_cmpR (xo_eqD (K := K) rfl hr.units) (pe_callD o_linked_to hr rfl rfl (pa_cons (pv 0) (pa_cons (pv 3) pa_nil))) (pe_lst pa_nil) (nomark _)) rfl (by first | exact .inl rfl | exact .inr rfl)) (pss_one (ps_if (PW.pt (pw_and (pt_cmpR op_gt (pe_callB (xc_len (K := K) rfl) rfl h_len (by decide +kernel) (pa_cons (pv 0) pa_nil)) pe_int (nomark _)) (pw_and1 (pt_cmpR op_gt (pe_callB (xc_len (K := K) rfl) rfl h_len (by decide +kernel) (pa_cons (pe_callD o_groups_in hr rfl rfl (pa_cons (pv 4) pa_nil)) pa_nil)) (pe_op op_sub (pv 2) (pe_callTy c_int1 rfl h_int (by decide +kernel) (pa_cons (pv 5) pa_nil))) (nomark _))))) (pss_one (ps_expr (pe_bm PySem.F.plainAttrs_list PySem.F.slot_list_append PySem.F.type_list_append mt_append (pv 1) (pa_cons (pv 3) pa_nil)))) pss_nil))))) (pss_one (ps_ret (pe_callTy (xc_tuple (K := K) rfl) rfl h_tuple (by decide +kernel) (pa_cons (pv 1) pa_nil))))))), fun ds hl => ?_⟩
  match ds, hl with
  | [hands], _ =>
    show DR K _ [.dat hands, .un, .un, .un, .un, .un] (m_splitters hands)
    exact (dr_seq (dn_drop (de_call1 (de_var (i := 0) (d := hands) rfl))) (fun s4 => (dr_seq (dn_parL (i := 1) (j := 2) dnl_nil (de_cb1 vc_len (de_call1 (de_var (i := 0) (d := hands) rfl))) rfl) (fun s6 => (dr_seq (dn_for1 (st := (fun s13 : List PyData => [.dat hands, .own s13, .dat s6.2, .un, .un, .un])) s6.1 (dw_rng1 (de_cb1 vc_len (de_var (i := 0) (d := hands) rfl))) (wk_s (wk_s (wk_s (wk_u (wk_u (wk_u wk_0)))))) (fun s13 v14 => (dn_seq (dn_asg (i := 4) (de_op v2_cat (de_upto (de_var (i := 0) (d := hands) rfl) (de_var (i := 3) (d := v14) rfl)) (de_from (de_var (i := 0) (d := hands) rfl) (de_op v2_add (de_var (i := 3) (d := v14) rfl) (de_int (i := 1)))))) (fun s23 => (dn_seq (dn_asg (i := 5) (de_op v2_eqD (de_call2 (de_var (i := 0) (d := hands) rfl) (de_var (i := 3) (d := v14) rfl)) (dnl_nil).de)) (fun s33 => (dn_if (dt_and (dt_test (de_op v2_gt (de_cb1 vc_len (de_var (i := 0) (d := hands) rfl)) (de_int (i := 1)))) (dt_test (de_op v2_gt (de_cb1 vc_len (de_call1 (de_var (i := 4) (d := s23) rfl))) (de_op v2_sub (de_var (i := 2) (d := s6.2) rfl) (de_cb1 vc_int1 (de_var (i := 5) (d := s33) rfl)))))) (dn_end (dn_app (i := 1) (ds := s13) rfl (de_var (i := 3) (d := v14) rfl)) (fun s44 => (wk_s (wk_s (wk_s (wk_u (wk_u (wk_u wk_0)))))))) (dn_nil s13 (wk_s (wk_s (wk_s (wk_u (wk_u (wk_u wk_0)))))))))))))) (fun s48 => (dr_frz (i := 1) rfl (dr_ret (de_cb1 vc_tuple (de_var (i := 1) (d := (.list s48)) rfl))))))))))

noncomputable def m_shared (one other : PyData) : Option PyData :=
  ((((some one).bind absO).bind fun x2 => ((some other).bind absO).bind fun y3 => some (x2, y3)).bind fun s1 => ((whileO (fun s4 => (((some s4.2).bind fun x5 => (some (.int 0)).bind fun y6 => neI x5 y6).bind bO)) (fun s4 => (((some s4.2).bind fun x10 => ((some s4.1).bind fun x8 => (some s4.2).bind fun y9 => modI x8 y9).bind fun y11 => some (x10, y11)).bind fun s7 => some (s7.1, s7.2))) 40 (s1.1, s1.2)).bind fun s12 => (some s12.1)))
theorem sc_shared : FnScope ["one", "other"] ["one", "other"] (defScope HD.s_shared) := ⟨rfl, rfl, rfl, by decide +kernel, rfl, by decide +kernel, by decide +kernel⟩
theorem ok_shared {P : Program} {w : World} {K : PySem.W.Frag} {mg : Str → Option Value} {base : Heap} (c : Hd K mg) : OkD P w K mg base 1 "shared" ["one", "other"] (spD K 2 (f2 m_shared)) := by
  obtain ⟨fd, F⟩ := c.says.def_ 39 (d := HD.d_shared) rfl
  have h_abs := c.free "abs" (c.says.fact 53 rfl)
  have nd : ((["one", "other"] : List Str)).Nodup := sc_shared.nd
  refine ok_ret (k := 0) (n := 2) (f := f2 m_shared) F (c.glo _ (c.says.fact 39 rfl)) sc_shared rfl (fun _ _ _ _ _ _ us hl => match us, hl with | [_, _], _ => rfl) fun cdv A outer s H E hr => ?_
  refine ⟨_, (pss_cons (ps_par rfl nd (i := 0) (j := 1) rfl rfl (by decide) rfl rfl (pa_cons (pe_callB c_abs rfl h_abs (by decide +kernel) (pa_cons (pv 0) pa_nil)) (pa_cons (pe_callB c_abs rfl h_abs (by decide +kernel) (pa_cons (pv 1) pa_nil)) pa_nil)) rfl) (pss_cons (ps_while PassesOwn.never (pt_cmpR op_ne (pv 1) pe_int (nomark _)) (pss_one (ps_par rfl nd (i := 0) (j := 1) rfl rfl (by decide) rfl rfl (pa_cons (pv 1) (pa_cons (pe_op op_mod (pv 0) (pv 1)) pa_nil)) rfl))) (pss_one (ps_ret (pv 0))))), fun ds hl => ?_⟩
  match ds, hl with
  | [one, other], _ =>
    show DR K _ [.dat one, .dat other] (m_shared one other)
    exact (dr_seq (dn_par (i := 0) (j := 1) (de_cb1 vc_abs (de_var (i := 0) (d := one) rfl)) (de_cb1 vc_abs (de_var (i := 1) (d := other) rfl))) (fun s1 => (dr_seq (dn_while (st := (fun s4 : PyData × PyData => [.dat s4.1, .dat s4.2])) 40 (s1.1, s1.2) (wk_s (wk_s wk_0)) (fun s4 => (dt_test (de_op v2_neI (de_var (i := 1) (d := s4.2) rfl) (de_int (i := 0))))) (fun s4 => (dn_end (dn_par (i := 0) (j := 1) (de_var (i := 1) (d := s4.2) rfl) (de_op v2_mod (de_var (i := 0) (d := s4.1) rfl) (de_var (i := 1) (d := s4.2) rfl))) (fun s7 => (wk_s (wk_s wk_0)))))) (fun s12 => (dr_ret (de_var (i := 0) (d := s12.1) rfl))))))

noncomputable def m_ratio (top low : PyData) : Option PyData :=
  (((some top).bind fun x5 => (some low).bind fun x6 => m_shared x5 x6).bind fun s7 => ((((some top).bind fun x14 => (some s7).bind fun y15 => divI x14 y15).bind fun x12 => (((some low).bind fun x10 => (some s7).bind fun y11 => divI x10 y11).bind fun x8 => (some []).bind fun r9 => some (x8 :: r9)).bind fun r13 => some (x12 :: r13)).bind fun d16 => bif smallO d16 then some (.tuple d16) else none))
theorem sc_ratio : FnScope ["top", "low", "part"] ["top", "low"] (defScope HD.s_ratio) := ⟨rfl, rfl, rfl, by decide +kernel, rfl, by decide +kernel, by decide +kernel⟩
theorem ok_ratio {P : Program} {w : World} {K : PySem.W.Frag} {mg : Str → Option Value} {base : Heap} (c : Hd K mg) : OkD P w K mg base 2 "ratio" ["top", "low"] (spD K 2 (f2 m_ratio)) := by
  obtain ⟨fd, F⟩ := c.says.def_ 40 (d := HD.d_ratio) rfl
  have o_shared := ok_shared (P := P) (w := w) (base := base) c
  have nd : ((["top", "low", "part"] : List Str)).Nodup := sc_ratio.nd
  refine ok_ret (k := 1) (n := 2) (f := f2 m_ratio) F (c.glo _ (c.says.fact 40 rfl)) sc_ratio rfl (fun _ _ _ _ _ _ us hl => match us, hl with | [_, _], _ => rfl) fun cdv A outer s H E hr => ?_
  refine ⟨_, (pss_cons (ps_set (i := 2) nd rfl (by first | exact .inl rfl | exact .inr rfl) (pe_callD o_shared hr rfl rfl (pa_cons (pv 0) (pa_cons (pv 1) pa_nil))) rfl (by first | exact .inl rfl | exact .inr rfl)) (pss_one (ps_ret (pe_tup (pa_cons (pe_op op_fdiv (pv 0) (pv 2)) (pa_cons (pe_op op_fdiv (pv 1) (pv 2)) pa_nil)))))), fun ds hl => ?_⟩
  match ds, hl with
  | [top, low], _ =>
    show DR K _ [.dat top, .dat low, .un] (m_ratio top low)
    exact (dr_seq (dn_asg (i := 2) (de_call2 (de_var (i := 0) (d := top) rfl) (de_var (i := 1) (d := low) rfl))) (fun s7 => (dr_ret (de_tup (da_cons (de_op v2_div (de_var (i := 0) (d := top) rfl) (de_var (i := 2) (d := s7) rfl)) (da_cons (de_op v2_div (de_var (i := 1) (d := low) rfl) (de_var (i := 2) (d := s7) rfl)) da_nil))))))

noncomputable def m_factorial (many : PyData) : Option PyData :=
  ((some (.int 1)).bind fun s1 => ((((some (.int 2)).bind fun x4 => ((some many).bind fun x2 => (some (.int 1)).bind fun y3 => addI x2 y3).bind fun y5 => rng2 x4 y5).bind fun d11 => foldO (fun s6 v7 => (((some s6).bind fun x8 => (some v7).bind fun y9 => mulI x8 y9).bind fun s10 => some s10)) d11 s1).bind fun s12 => (some s12)))
theorem sc_factorial : FnScope ["many", "found", "number"] ["many"] (defScope HD.s_factorial) := ⟨rfl, rfl, rfl, by decide +kernel, rfl, by decide +kernel, by decide +kernel⟩
theorem ok_factorial {P : Program} {w : World} {K : PySem.W.Frag} {mg : Str → Option Value} {base : Heap} (c : Hd K mg) : OkD P w K mg base 1 "factorial" ["many"] (spD K 1 (f1 m_factorial)) := by
  obtain ⟨fd, F⟩ := c.says.def_ 42 (d := HD.d_factorial) rfl
  have h_range := c.free "range" (c.says.fact 64 rfl)
  have nd : ((["many", "found", "number"] : List Str)).Nodup := sc_factorial.nd
  refine ok_ret (k := 0) (n := 1) (f := f1 m_factorial) F (c.glo _ (c.says.fact 42 rfl)) sc_factorial rfl (fun _ _ _ _ _ _ us hl => match us, hl with | [_], _ => rfl) fun cdv A outer s H E hr => ?_
  refine ⟨_, (pss_cons (ps_set (i := 1) nd rfl (by first | exact .inl rfl | exact .inr rfl) pe_int rfl (by first | exact .inl rfl | exact .inr rfl)) (pss_cons (ps_for PassesOwn.never rfl (pi_range2 rfl h_range (pa_cons pe_int (pa_cons (pe_op op_add (pv 0) pe_int) pa_nil))) (pg_name (i := 2) nd rfl (by first | exact .inl rfl | exact .inr rfl) (by first | exact .inl rfl | exact .inr rfl)) (pss_one (ps_set (i := 1) nd rfl (by first | exact .inl rfl | exact .inr rfl) (pe_op op_mul (pv 1) (pv 2)) rfl (by first | exact .inl rfl | exact .inr rfl)))) (pss_one (ps_ret (pv 1))))), fun ds hl => ?_⟩
  match ds, hl with
  | [many], _ =>
    show DR K _ [.dat many, .un, .un] (m_factorial many)
    exact (dr_seq (dn_asg (i := 1) (de_int (i := 1))) (fun s1 => (dr_seq (dn_for1 (st := (fun s6 : PyData => [.dat many, .dat s6, .un])) s1 (dw_rng2 (de_int (i := 2)) (de_op v2_add (de_var (i := 0) (d := many) rfl) (de_int (i := 1)))) (wk_s (wk_s (wk_u wk_0))) (fun s6 v7 => (dn_end (dn_asg (i := 1) (de_op v2_mul (de_var (i := 1) (d := s6) rfl) (de_var (i := 2) (d := v7) rfl))) (fun s10 => (wk_s (wk_s (wk_u wk_0))))))) (fun s12 => (dr_ret (de_var (i := 1) (d := s12) rfl))))))

noncomputable def m_together_in (hands people : PyData) : Option PyData :=
  ((some []).bind fun s2 => ((((some hands).bind fun x3 => (tplO x3).bind fun d4 => some (enumD d4)).bind fun d26 => foldO (fun s5 => prO fun v6 v7 => (((((some v6).bind fun x8 => (some people).bind fun y9 => inI x8 y9).bind bO).bind fun b17 => bif b17 then ((some hands).bind fun x14 => (some v6).bind fun x15 => m_spare_in x14 x15) else (((some [])).bind fun r16 => some (.list r16))).bind fun s18 => ((((((((some v7).bind tplO).bind fun d24 => compL (fun v21 => (((some v21).bind fun x22 => (some s18).bind fun y23 => niI x22 y23).bind bO)) (fun v21 => (some v21)) d24)).bind fun r25 => some (.list r25)).bind tupO).bind fun d20 => bif Nat.blt (s5).length 100000 then some (s5 ++ [d20]) else none).bind fun s19 => some s19))) d26 s2).bind fun s27 => ((some (.list s27)).bind tupO)))
theorem sc_together_in : FnScope ["hands", "people", "found", "person", "hand", "away", "thing"] ["hands", "people"] (defScope HD.s_together_in) := ⟨rfl, rfl, rfl, by decide +kernel, rfl, by decide +kernel, by decide +kernel⟩
theorem ok_together_in {P : Program} {w : World} {K : PySem.W.Frag} {mg : Str → Option Value} {base : Heap} (c : Hd K mg) : OkD P w K mg base 3 "together_in" ["hands", "people"] (spD K 2 (f2 m_together_in)) := by
  obtain ⟨fd, F⟩ := c.says.def_ 48 (d := HD.d_together_in) rfl
  have h_enumerate := c.free "enumerate" (c.says.fact 57 rfl)
  have o_spare_in := ok_spare_in (P := P) (w := w) (base := base) c
  have h_tuple := c.free "tuple" (c.says.fact 68 rfl)
  have nd : ((["hands", "people", "found", "person", "hand", "away", "thing"] : List Str)).Nodup := sc_together_in.nd
  refine ok_ret (k := 2) (n := 2) (f := f2 m_together_in) F (c.glo _ (c.says.fact 48 rfl)) sc_together_in rfl (fun _ _ _ _ _ _ us hl => match us, hl with | [_, _], _ => rfl) fun cdv A outer s H E hr => ?_
  refine ⟨_, (pss_cons (ps_set (i := 2) nd rfl (by first | exact .inl rfl | exact .inr rfl) (pe_lst pa_nil) rfl (by first | exact .inl rfl | exact .inr rfl)) (pss_cons (ps_for PassesOwn.never rfl (xi_enum (K := K) rfl rfl h_enumerate (pa_cons (pv 0) pa_nil)) (xg_tup (K := K) (n := 2) rfl rfl (pgs_cons (pg_name (i := 3) nd rfl (by first | exact .inl rfl | exact .inr rfl) (by first | exact .inl rfl | exact .inr rfl)) (pgs_cons (pg_name (i := 4) nd rfl (by first | exact .inl rfl | exact .inr rfl) (by first | exact .inl rfl | exact .inr rfl)) pgs_nil))) (pss_cons (ps_set (i := 5) nd rfl (by first | exact .inl rfl | exact .inr rfl) (pe_ifExp (pt_cmpR (xo_in (K := K) rfl) (pv 3) (pv 1) (by with_unfolding_all rfl)) (pe_callD o_spare_in hr rfl rfl (pa_cons (pv 0) (pa_cons (pv 3) pa_nil))) (pe_lst pa_nil)) rfl (by first | exact .inl rfl | exact .inr rfl)) (pss_one (ps_expr (pe_bm PySem.F.plainAttrs_list PySem.F.slot_list_append PySem.F.type_list_append mt_append (pv 2) (pa_cons (pe_callTy (xc_tuple (K := K) rfl) rfl h_tuple (by decide +kernel) (pa_cons (pe_lc rfl nd (xi_tup (K := K) rfl (pv 4)) (own := [("thing", 6)]) (blkOk_by (by kernel_rfl)) (fun _ _ _ _ _ => (pg_name (i := 6) nd rfl (by first | exact .inl rfl | exact .inr rfl) (by first | exact .inl rfl | exact .inr rfl))) (fun _ _ _ _ _ => (pts_one (pt_cmpR (xo_ni (K := K) rfl) (pv 6) (pv 5) (by with_unfolding_all rfl)))) (fun _ _ _ _ _ => (pv 6))) pa_nil)) pa_nil)))))) (pss_one (ps_ret (pe_callTy (xc_tuple (K := K) rfl) rfl h_tuple (by decide +kernel) (pa_cons (pv 2) pa_nil)))))), fun ds hl => ?_⟩
  match ds, hl with
  | [hands, people], _ =>
    show DR K _ [.dat hands, .dat people, .un, .un, .un, .un, .un] (m_together_in hands people)
    exact (dr_seq (dn_own (i := 2) dnl_nil rfl) (fun s2 => (dr_seq (dn_for2 (st := (fun s5 : List PyData => [.dat hands, .dat people, .own s5, .un, .un, .un, .un])) s2 (dw_enum (de_var (i := 0) (d := hands) rfl)) (wk_s (wk_s (wk_s (wk_u (wk_u (wk_u (wk_u wk_0))))))) (fun s5 v6 v7 => (dn_seq (dn_asg (i := 5) (de_if (dt_test (de_op v2_in (de_var (i := 3) (d := v6) rfl) (de_var (i := 1) (d := people) rfl))) (de_call2 (de_var (i := 0) (d := hands) rfl) (de_var (i := 3) (d := v6) rfl)) (dnl_nil).de)) (fun s18 => (dn_end (dn_app (i := 2) (ds := s5) rfl (de_cb1 vc_tuple ((dnl_lc rfl ((dw_tup (de_var (i := 4) (d := v7) rfl))).c (fun v21 => (dt_test (de_op v2_ni (de_var (i := 6) (d := v21) rfl) (de_var (i := 5) (d := s18) rfl)))) (fun v21 => (de_var (i := 6) (d := v21) rfl)))).de)) (fun s19 => (wk_s (wk_s (wk_s (wk_u (wk_u (wk_u (wk_u wk_0))))))))))))) (fun s27 => (dr_frz (i := 2) rfl (dr_ret (de_cb1 vc_tuple (de_var (i := 2) (d := (.list s27)) rfl))))))))

noncomputable def m_one_round (hands : PyData) : Option PyData :=
  ((((some hands).bind m_need_hands).bind fun _ => some ()).bind fun s4 => ((some []).bind fun s7 => ((((((some hands).bind lenO).bind m_choices).bind lstO).bind fun d35 => foldO (fun s11 v12 => (((some hands).bind fun x17 => (some v12).bind fun x18 => m_together_in x17 x18).bind fun s19 => (((((some s19).bind m_end_in).bind bO).bind fun b31 => bif b31 then ((((some s19).bind m_things_in).bind fun x29 => ((some hands).bind m_things_in).bind fun y30 => eqD x29 y30).bind bO) else some false).bind fun b34 => bif b34 then (((some v12).bind fun d33 => bif Nat.blt (s11).length 100000 then some (s11 ++ [d33]) else none).bind fun s32 => some s32) else some s11))) d35 s7).bind fun s36 => ((some (.list s36)).bind (sortO 1)))))
theorem sc_one_round : FnScope ["hands", "found", "people", "there"] ["hands"] (defScope HD.s_one_round) := ⟨rfl, rfl, rfl, by decide +kernel, rfl, by decide +kernel, by decide +kernel⟩
theorem ok_one_round {P : Program} {w : World} {K : PySem.W.Frag} {mg : Str → Option Value} {base : Heap} (c : Hd K mg) : OkD P w K mg base 5 "one_round" ["hands"] (spD K 1 (f1 m_one_round)) := by
  obtain ⟨fd, F⟩ := c.says.def_ 49 (d := HD.d_one_round) rfl
  have o_choices := ok_choices (P := P) (w := w) (base := base) c
  have o_end_in := ok_end_in (P := P) (w := w) (base := base) c
  have h_len := c.free "len" (c.says.fact 60 rfl)
  have o_need_hands := ok_need_hands (P := P) (w := w) (base := base) c
  have h_sorted := c.free "sorted" (c.says.fact 66 rfl)
  have o_things_in := ok_things_in (P := P) (w := w) (base := base) c
  have o_together_in := ok_together_in (P := P) (w := w) (base := base) c
  have nd : ((["hands", "found", "people", "there"] : List Str)).Nodup := sc_one_round.nd
  refine ok_ret (k := 4) (n := 1) (f := f1 m_one_round) F (c.glo _ (c.says.fact 49 rfl)) sc_one_round rfl (fun _ _ _ _ _ _ us hl => match us, hl with | [_], _ => rfl) fun cdv A outer s H E hr => ?_
  refine ⟨_, (pss_cons (ps_expr (pe_callD o_need_hands hr rfl rfl (pa_cons (pv 0) pa_nil))) (pss_cons (ps_set (i := 1) nd rfl (by first | exact .inl rfl | exact .inr rfl) (pe_lst pa_nil) rfl (by first | exact .inl rfl | exact .inr rfl)) (pss_cons (ps_for PassesOwn.never rfl (xi_list (K := K) rfl (pe_callD o_choices hr rfl rfl (pa_cons (pe_callB (xc_len (K := K) rfl) rfl h_len (by decide +kernel) (pa_cons (pv 0) pa_nil)) pa_nil))) (pg_name (i := 2) nd rfl (by first | exact .inl rfl | exact .inr rfl) (by first | exact .inl rfl | exact .inr rfl)) (pss_cons (ps_set (i := 3) nd rfl (by first | exact .inl rfl | exact .inr rfl) (pe_callD o_together_in hr rfl rfl (pa_cons (pv 0) (pa_cons (pv 2) pa_nil))) rfl (by first | exact .inl rfl | exact .inr rfl)) (pss_one (ps_if (PW.pt (pw_and (pt_val (pe_callD o_end_in hr rfl rfl (pa_cons (pv 3) pa_nil))) (pw_and1 (pt_cmpR (xo_eqD (K := K) rfl hr.units) (pe_callD o_things_in hr rfl rfl (pa_cons (pv 3) pa_nil)) (pe_callD o_things_in hr rfl rfl (pa_cons (pv 0) pa_nil)) (nomark _))))) (pss_one (ps_expr (pe_bm PySem.F.plainAttrs_list PySem.F.slot_list_append PySem.F.type_list_append mt_append (pv 1) (pa_cons (pv 2) pa_nil)))) pss_nil)))) (pss_one (ps_ret (pe_callB (xc_sorted (K := K) rfl hr.units 1) rfl h_sorted (by decide +kernel) (pa_cons (pv 1) pa_nil))))))), fun ds hl => ?_⟩
  match ds, hl with
  | [hands], _ =>
    show DR K _ [.dat hands, .un, .un, .un] (m_one_round hands)
    exact (dr_seq (dn_drop (de_call1 (de_var (i := 0) (d := hands) rfl))) (fun s4 => (dr_seq (dn_own (i := 1) dnl_nil rfl) (fun s7 => (dr_seq (dn_for1 (st := (fun s11 : List PyData => [.dat hands, .own s11, .un, .un])) s7 (dw_list (de_call1 (de_cb1 vc_len (de_var (i := 0) (d := hands) rfl)))) (wk_s (wk_s (wk_u (wk_u wk_0)))) (fun s11 v12 => (dn_seq (dn_asg (i := 3) (de_call2 (de_var (i := 0) (d := hands) rfl) (de_var (i := 2) (d := v12) rfl))) (fun s19 => (dn_if (dt_and (dt_B (de_call1 (de_var (i := 3) (d := s19) rfl))) (dt_test (de_op v2_eqD (de_call1 (de_var (i := 3) (d := s19) rfl)) (de_call1 (de_var (i := 0) (d := hands) rfl))))) (dn_end (dn_app (i := 1) (ds := s11) rfl (de_var (i := 2) (d := v12) rfl)) (fun s32 => (wk_s (wk_s (wk_u (wk_u wk_0)))))) (dn_nil s11 (wk_s (wk_s (wk_u (wk_u wk_0)))))))))) (fun s36 => (dr_frz (i := 1) rfl (dr_ret (de_cb1 (vc_sorted (n := 1) (by decide)) (de_var (i := 1) (d := (.list s36)) rfl))))))))))

noncomputable def m_all_chance (hands person : PyData) : Option PyData :=
  ((((some hands).bind m_need_hands).bind fun _ => some ()).bind fun s4 => ((((some hands).bind fun x10 => (some person).bind fun x11 => m_need_person x10 x11).bind fun _ => some ()).bind fun s12 => (((((((some hands).bind m_pairs_in).bind lstO).bind fun d30 => compL (prO fun v17 v18 => (((some person).bind fun x24 => (((some v17).bind fun x21 => ((some v18).bind fun x19 => (some []).bind fun r20 => some (x19 :: r20)).bind fun r22 => some (x21 :: r22)).bind fun d23 => bif smallO d23 then some (.tuple d23) else none).bind fun y25 => inI x24 y25).bind bO)) (prO fun v17 v18 => (((some v17).bind fun x26 => (some v18).bind fun y27 => addI x26 y27).bind fun x28 => (some person).bind fun y29 => subI x28 y29)) d30)).bind fun r31 => some (.list r31)).bind fun s32 => ((some (.int 1)).bind fun x41 => (((some s32).bind lenO).bind fun x39 => (some (.int 1)).bind fun y40 => addI x39 y40).bind fun x42 => m_ratio x41 x42))))
theorem sc_all_chance : FnScope ["hands", "person", "some", "one", "other"] ["hands", "person"] (defScope HD.s_all_chance) := ⟨rfl, rfl, rfl, by decide +kernel, rfl, by decide +kernel, by decide +kernel⟩
theorem ok_all_chance {P : Program} {w : World} {K : PySem.W.Frag} {mg : Str → Option Value} {base : Heap} (c : Hd K mg) : OkD P w K mg base 5 "all_chance" ["hands", "person"] (spD K 2 (f2 m_all_chance)) := by
  obtain ⟨fd, F⟩ := c.says.def_ 47 (d := HD.d_all_chance) rfl
  have h_len := c.free "len" (c.says.fact 60 rfl)
  have o_need_hands := ok_need_hands (P := P) (w := w) (base := base) c
  have o_need_person := ok_need_person (P := P) (w := w) (base := base) c
  have o_pairs_in := ok_pairs_in (P := P) (w := w) (base := base) c
  have o_ratio := ok_ratio (P := P) (w := w) (base := base) c
  have nd : ((["hands", "person", "some", "one", "other"] : List Str)).Nodup := sc_all_chance.nd
  refine ok_ret (k := 4) (n := 2) (f := f2 m_all_chance) F (c.glo _ (c.says.fact 47 rfl)) sc_all_chance rfl (fun _ _ _ _ _ _ us hl => match us, hl with | [_, _], _ => rfl) fun cdv A outer s H E hr => ?_
  refine ⟨_, (pss_cons (ps_expr (pe_callD o_need_hands hr rfl rfl (pa_cons (pv 0) pa_nil))) (pss_cons (ps_expr (pe_callD o_need_person hr rfl rfl (pa_cons (pv 0) (pa_cons (pv 1) pa_nil)))) (pss_cons (ps_setLc (i := 2) rfl nd rfl rfl (sw_true rfl rfl rfl rfl) (xi_list (K := K) rfl (pe_callD o_pairs_in hr rfl rfl (pa_cons (pv 0) pa_nil))) (own := [("one", 3), ("other", 4)]) (blkOk_by (by kernel_rfl)) (fun _ _ _ _ _ => (xg_tup (K := K) (n := 2) rfl rfl (pgs_cons (pg_name (i := 3) nd rfl (by first | exact .inl rfl | exact .inr rfl) (by first | exact .inl rfl | exact .inr rfl)) (pgs_cons (pg_name (i := 4) nd rfl (by first | exact .inl rfl | exact .inr rfl) (by first | exact .inl rfl | exact .inr rfl)) pgs_nil)))) (fun _ _ _ _ _ => (pts_one (pt_cmpR (xo_in (K := K) rfl) (pv 1) (pe_tup (pa_cons (pv 3) (pa_cons (pv 4) pa_nil))) (by with_unfolding_all rfl)))) (fun _ _ _ _ _ => (pe_op op_sub (pe_op op_add (pv 3) (pv 4)) (pv 1)))) (pss_one (ps_ret (pe_callD o_ratio hr rfl rfl (pa_cons pe_int (pa_cons (pe_op op_add (pe_callB (xc_len (K := K) rfl) rfl h_len (by decide +kernel) (pa_cons (pv 2) pa_nil)) pe_int) pa_nil)))))))), fun ds hl => ?_⟩
  match ds, hl with
  | [hands, person], _ =>
    show DR K _ [.dat hands, .dat person, .un, .un, .un] (m_all_chance hands person)
    exact (dr_seq (dn_drop (de_call1 (de_var (i := 0) (d := hands) rfl))) (fun s4 => (dr_seq (dn_drop (de_call2 (de_var (i := 0) (d := hands) rfl) (de_var (i := 1) (d := person) rfl))) (fun s12 => (dr_seq (dn_asg (i := 2) ((dnl_lcp rfl rfl ((dw_list (de_call1 (de_var (i := 0) (d := hands) rfl)))).c (fun v17 v18 => (dt_test (de_op v2_in (de_var (i := 1) (d := person) rfl) (de_tup (da_cons (de_var (i := 3) (d := v17) rfl) (da_cons (de_var (i := 4) (d := v18) rfl) da_nil)))))) (fun v17 v18 => (de_op v2_sub (de_op v2_add (de_var (i := 3) (d := v17) rfl) (de_var (i := 4) (d := v18) rfl)) (de_var (i := 1) (d := person) rfl))))).de) (fun s32 => (dr_ret (de_call2 (de_int (i := 1)) (de_op v2_add (de_cb1 vc_len (de_var (i := 2) (d := s32) rfl)) (de_int (i := 1)))))))))))

end DL

set_option Elab.async false
set_option linter.all false
set_option maxRecDepth 100000
set_option maxHeartbeats 0
namespace DL
open PySem PySem.Spec PyProof.Rows L2
noncomputable def m_plus (one other : PyData) : Option PyData :=
  (((((some one).bind fun x25 => (some (.int 0)).bind fun y26 => ixO x25 y26).bind fun x29 => ((some other).bind fun x27 => (some (.int 1)).bind fun y28 => ixO x27 y28).bind fun y30 => mulI x29 y30).bind fun x37 => (((some other).bind fun x31 => (some (.int 0)).bind fun y32 => ixO x31 y32).bind fun x35 => ((some one).bind fun x33 => (some (.int 1)).bind fun y34 => ixO x33 y34).bind fun y36 => mulI x35 y36).bind fun y38 => addI x37 y38).bind fun x45 => (((some one).bind fun x39 => (some (.int 1)).bind fun y40 => ixO x39 y40).bind fun x43 => ((some other).bind fun x41 => (some (.int 1)).bind fun y42 => ixO x41 y42).bind fun y44 => mulI x43 y44).bind fun x46 => m_ratio x45 x46)
theorem sc_plus : FnScope ["one", "other"] ["one", "other"] (defScope HD.s_plus) := ⟨rfl, rfl, rfl, by decide +kernel, rfl, by decide +kernel, by decide +kernel⟩
theorem ok_plus {P : Program} {w : World} {K : PySem.W.Frag} {mg : Str → Option Value} {base : Heap} (c : Hd K mg) : OkD P w K mg base 3 "plus" ["one", "other"] (spD K 2 (f2 m_plus)) := by
  obtain ⟨fd, F⟩ := c.says.def_ 41 (d := HD.d_plus) rfl
  have o_ratio := ok_ratio (P := P) (w := w) (base := base) c
  have nd : ((["one", "other"] : List Str)).Nodup := sc_plus.nd
  refine ok_ret (k := 2) (n := 2) (f := f2 m_plus) F (c.glo _ (c.says.fact 41 rfl)) sc_plus rfl (fun _ _ _ _ _ _ us hl => match us, hl with | [_, _], _ => rfl) fun cdv A outer s H E hr => ?_
  refine ⟨_, (pss_one (ps_ret (pe_callD o_ratio hr rfl rfl (pa_cons (pe_op op_add (pe_op op_mul (pe_ix (xo_ix (K := K) rfl) (pv 0) pe_int (fun _ _ => rfl)) (pe_ix (xo_ix (K := K) rfl) (pv 1) pe_int (fun _ _ => rfl))) (pe_op op_mul (pe_ix (xo_ix (K := K) rfl) (pv 1) pe_int (fun _ _ => rfl)) (pe_ix (xo_ix (K := K) rfl) (pv 0) pe_int (fun _ _ => rfl)))) (pa_cons (pe_op op_mul (pe_ix (xo_ix (K := K) rfl) (pv 0) pe_int (fun _ _ => rfl)) (pe_ix (xo_ix (K := K) rfl) (pv 1) pe_int (fun _ _ => rfl))) pa_nil))))), fun ds hl => ?_⟩
  match ds, hl with
  | [one, other], _ =>
    show DR K _ [.dat one, .dat other] (m_plus one other)
    exact (dr_ret (de_call2 (de_op v2_add (de_op v2_mul (de_op v2_ix (de_var (i := 0) (d := one) rfl) (de_int (i := 0))) (de_op v2_ix (de_var (i := 1) (d := other) rfl) (de_int (i := 1)))) (de_op v2_mul (de_op v2_ix (de_var (i := 1) (d := other) rfl) (de_int (i := 0))) (de_op v2_ix (de_var (i := 0) (d := one) rfl) (de_int (i := 1))))) (de_op v2_mul (de_op v2_ix (de_var (i := 0) (d := one) rfl) (de_int (i := 1))) (de_op v2_ix (de_var (i := 1) (d := other) rfl) (de_int (i := 1))))))

noncomputable def m_end_by (hands keeper : PyData) : Option PyData :=
  ((some []).bind fun s2 => (((((some hands).bind lenO).bind rng1).bind fun d16 => foldO (fun s3 v4 => (((((((((some hands).bind fun x7 => (some v4).bind fun y8 => ixO x7 y8).bind tplO).bind fun d14 => compL (fun v9 => ((((some keeper).bind fun x10 => (some v9).bind fun y11 => dgetO x10 y11).bind fun x12 => (some v4).bind fun y13 => eqI x12 y13).bind bO)) (fun v9 => (some v9)) d14)).bind fun r15 => some (.list r15)).bind tupO).bind fun d6 => bif Nat.blt (s3).length 100000 then some (s3 ++ [d6]) else none).bind fun s5 => some s5)) d16 s2).bind fun s17 => ((some (.list s17)).bind tupO)))
theorem sc_end_by : FnScope ["hands", "keeper", "found", "person", "thing"] ["hands", "keeper"] (defScope HD.s_end_by) := ⟨rfl, rfl, rfl, by decide +kernel, rfl, by decide +kernel, by decide +kernel⟩
theorem ok_end_by {P : Program} {w : World} {K : PySem.W.Frag} {mg : Str → Option Value} {base : Heap} (c : Hd K mg) : OkD P w K mg base 1 "end_by" ["hands", "keeper"] (spD K 2 (f2 m_end_by)) := by
  obtain ⟨fd, F⟩ := c.says.def_ 29 (d := HD.d_end_by) rfl
  have h_len := c.free "len" (c.says.fact 60 rfl)
  have h_range := c.free "range" (c.says.fact 64 rfl)
  have h_tuple := c.free "tuple" (c.says.fact 68 rfl)
  have nd : ((["hands", "keeper", "found", "person", "thing"] : List Str)).Nodup := sc_end_by.nd
  refine ok_ret (k := 0) (n := 2) (f := f2 m_end_by) F (c.glo _ (c.says.fact 29 rfl)) sc_end_by rfl (fun _ _ _ _ _ _ us hl => match us, hl with | [_, _], _ => rfl) fun cdv A outer s H E hr => ?_
  refine ⟨_, (pss_cons (ps_set (i := 2) nd rfl (by first | exact .inl rfl | exact .inr rfl) (pe_lst pa_nil) rfl (by first | exact .inl rfl | exact .inr rfl)) (pss_cons (ps_for PassesOwn.never rfl (pi_range1 rfl h_range (pa_cons (pe_callB (xc_len (K := K) rfl) rfl h_len (by decide +kernel) (pa_cons (pv 0) pa_nil)) pa_nil)) (pg_name (i := 3) nd rfl (by first | exact .inl rfl | exact .inr rfl) (by first | exact .inl rfl | exact .inr rfl)) (pss_one (ps_expr (pe_bm PySem.F.plainAttrs_list PySem.F.slot_list_append PySem.F.type_list_append mt_append (pv 2) (pa_cons (pe_callTy (xc_tuple (K := K) rfl) rfl h_tuple (by decide +kernel) (pa_cons (pe_lc rfl nd (xi_tup (K := K) rfl (pe_ix (xo_ix (K := K) rfl) (pv 0) (pv 3) (fun _ _ => rfl))) (own := [("thing", 4)]) (blkOk_by (by kernel_rfl)) (fun _ _ _ _ _ => (pg_name (i := 4) nd rfl (by first | exact .inl rfl | exact .inr rfl) (by first | exact .inl rfl | exact .inr rfl))) (fun _ _ _ _ _ => (pts_one (pt_cmpR op_eq (pe_dget (hu_of hr) (pv 1) (pv 4) (fun _ _ => rfl)) (pv 3) (nomark _)))) (fun _ _ _ _ _ => (pv 4))) pa_nil)) pa_nil))))) (pss_one (ps_ret (pe_callTy (xc_tuple (K := K) rfl) rfl h_tuple (by decide +kernel) (pa_cons (pv 2) pa_nil)))))), fun ds hl => ?_⟩
  match ds, hl with
  | [hands, keeper], _ =>
    show DR K _ [.dat hands, .dat keeper, .un, .un, .un] (m_end_by hands keeper)
    exact (dr_seq (dn_own (i := 2) dnl_nil rfl) (fun s2 => (dr_seq (dn_for1 (st := (fun s3 : List PyData => [.dat hands, .dat keeper, .own s3, .un, .un])) s2 (dw_rng1 (de_cb1 vc_len (de_var (i := 0) (d := hands) rfl))) (wk_s (wk_s (wk_s (wk_u (wk_u wk_0))))) (fun s3 v4 => (dn_end (dn_app (i := 2) (ds := s3) rfl (de_cb1 vc_tuple ((dnl_lc rfl ((dw_tup (de_op v2_ix (de_var (i := 0) (d := hands) rfl) (de_var (i := 3) (d := v4) rfl)))).c (fun v9 => (dt_test (de_op v2_eqI (de_dget (de_var (i := 1) (d := keeper) rfl) (de_var (i := 4) (d := v9) rfl)) (de_var (i := 3) (d := v4) rfl)))) (fun v9 => (de_var (i := 4) (d := v9) rfl)))).de)) (fun s5 => (wk_s (wk_s (wk_s (wk_u (wk_u wk_0))))))))) (fun s17 => (dr_frz (i := 2) rfl (dr_ret (de_cb1 vc_tuple (de_var (i := 2) (d := (.list s17)) rfl))))))))

noncomputable def m_steps_of (hands keeper : PyData) : Option PyData :=
  ((some []).bind fun s2 => ((((some keeper).bind fun x3 => (itemsK x3).bind fun d4 => some (pairsD d4)).bind fun d26 => foldO (fun s5 => prO fun v6 v7 => ((((((some hands).bind fun x14 => (some v6).bind fun x15 => m_holders_in x14 x15).bind lstO).bind fun d24 => compL (fun v16 => (((some v16).bind fun x17 => (some v7).bind fun y18 => neI x17 y18).bind bO)) (fun v16 => (((some v16).bind fun x21 => ((some v7).bind fun x19 => (some []).bind fun r20 => some (x19 :: r20)).bind fun r22 => some (x21 :: r22)).bind fun d23 => bif smallO d23 then some (.tuple d23) else none)) d24).bind fun d9 => bif smallO (s5 ++ d9) then some (s5 ++ d9) else none).bind fun s8 => some s8)) d26 s2).bind fun s27 => (some (.list s27))))
theorem sc_steps_of : FnScope ["hands", "keeper", "found", "thing", "person", "other"] ["hands", "keeper"] (defScope HD.s_steps_of) := ⟨rfl, rfl, rfl, by decide +kernel, rfl, by decide +kernel, by decide +kernel⟩
theorem ok_steps_of {P : Program} {w : World} {K : PySem.W.Frag} {mg : Str → Option Value} {base : Heap} (c : Hd K mg) : OkD P w K mg base 2 "steps_of" ["hands", "keeper"] (spD K 2 (f2 m_steps_of)) := by
  obtain ⟨fd, F⟩ := c.says.def_ 27 (d := HD.d_steps_of) rfl
  have o_holders_in := ok_holders_in (P := P) (w := w) (base := base) c
  have nd : ((["hands", "keeper", "found", "thing", "person", "other"] : List Str)).Nodup := sc_steps_of.nd
  refine ok_ret (k := 1) (n := 2) (f := f2 m_steps_of) F (c.glo _ (c.says.fact 27 rfl)) sc_steps_of rfl (fun _ _ _ _ _ _ us hl => match us, hl with | [_, _], _ => rfl) fun cdv A outer s H E hr => ?_
  refine ⟨_, (pss_cons (ps_set (i := 2) nd rfl (by first | exact .inl rfl | exact .inr rfl) (pe_lst pa_nil) rfl (by first | exact .inl rfl | exact .inr rfl)) (pss_cons (ps_for PassesOwn.never rfl (pi_items (pv 1)) (xg_tup (K := K) (n := 2) rfl rfl (pgs_cons (pg_name (i := 3) nd rfl (by first | exact .inl rfl | exact .inr rfl) (by first | exact .inl rfl | exact .inr rfl)) (pgs_cons (pg_name (i := 4) nd rfl (by first | exact .inl rfl | exact .inr rfl) (by first | exact .inl rfl | exact .inr rfl)) pgs_nil))) (pss_one (ps_expr (pe_bm PySem.F.plainAttrs_list PySem.F.slot_list_extend PySem.F.type_list_extend mt_extend (pv 2) (pa_cons (pe_lc rfl nd (xi_list (K := K) rfl (pe_callD o_holders_in hr rfl rfl (pa_cons (pv 0) (pa_cons (pv 3) pa_nil)))) (own := [("other", 5)]) (blkOk_by (by kernel_rfl)) (fun _ _ _ _ _ => (pg_name (i := 5) nd rfl (by first | exact .inl rfl | exact .inr rfl) (by first | exact .inl rfl | exact .inr rfl))) (fun _ _ _ _ _ => (pts_one (pt_cmpR op_ne (pv 5) (pv 4) (nomark _)))) (fun _ _ _ _ _ => (pe_tup (pa_cons (pv 5) (pa_cons (pv 4) pa_nil))))) pa_nil))))) (pss_one (ps_ret (pv 2))))), fun ds hl => ?_⟩
  match ds, hl with
  | [hands, keeper], _ =>
    show DR K _ [.dat hands, .dat keeper, .un, .un, .un, .un] (m_steps_of hands keeper)
    exact (dr_seq (dn_own (i := 2) dnl_nil rfl) (fun s2 => (dr_seq (dn_for2 (st := (fun s5 : List PyData => [.dat hands, .dat keeper, .own s5, .un, .un, .un])) s2 (dw_items (de_var (i := 1) (d := keeper) rfl)) (wk_s (wk_s (wk_s (wk_u (wk_u (wk_u wk_0)))))) (fun s5 v6 v7 => (dn_end (dn_ext (i := 2) (ds := s5) rfl (dnl_lc rfl ((dw_list (de_call2 (de_var (i := 0) (d := hands) rfl) (de_var (i := 3) (d := v6) rfl)))).c (fun v16 => (dt_test (de_op v2_neI (de_var (i := 5) (d := v16) rfl) (de_var (i := 4) (d := v7) rfl)))) (fun v16 => (de_tup (da_cons (de_var (i := 5) (d := v16) rfl) (da_cons (de_var (i := 4) (d := v7) rfl) da_nil)))))) (fun s8 => (wk_s (wk_s (wk_s (wk_u (wk_u (wk_u wk_0)))))))))) (fun s27 => (dr_frz (i := 2) rfl (dr_ret (de_var (i := 2) (d := (.list s27)) rfl)))))))

end DL

set_option Elab.async false
set_option linter.all false
set_option maxRecDepth 100000
set_option maxHeartbeats 0
namespace DL
open PySem PySem.Spec PyProof.Rows L2
noncomputable def m_keepers_in (p_hands : PyData) : Option PyData :=
  ((((((some (.dict [])).bind fun x1 => (some []).bind fun r2 => some (x1 :: r2)).bind fun d3 => bif smallO d3 then some d3 else none)).bind fun r4 => some (.list r4)).bind fun s5 => (((((some p_hands).bind m_things_in).bind lstO).bind fun d51 => foldO (fun s9 v10 => ((some []).bind fun s12 => ((((some s9).bind lstO).bind fun d48 => foldO (fun s13 v14 => (((((some p_hands).bind fun x19 => (some v10).bind fun x20 => m_holders_in x19 x20).bind lstO).bind fun d46 => foldO (fun s21 v22 => (((some v14).bind fun x23 => (some v10).bind fun y24 => (some v22).bind fun z25 => mergeO x23 y24 z25).bind fun s26 => ((((((some p_hands).bind fun x39 => (some s26).bind fun x40 => m_steps_of x39 x40).bind m_has_ring).bind bO).bind fun b42 => some (!b42)).bind fun b45 => bif b45 then (((some s26).bind fun d44 => bif Nat.blt (s21).length 100000 then some (s21 ++ [d44]) else none).bind fun s43 => some s43) else some s21))) d46 s13).bind fun s47 => some s47)) d48 s12).bind fun s49 => ((some (.list s49)).bind fun s50 => some s50)))) d51 s5).bind fun s52 => (some s52)))
theorem sc_keepers_in : FnScope ["hands", "found", "thing", "later", "keeper", "person", "longer"] ["hands"] (defScope HD.s_keepers_in) := ⟨rfl, rfl, rfl, by decide +kernel, rfl, by decide +kernel, by decide +kernel⟩
theorem ok_keepers_in {P : Program} {w : World} {K : PySem.W.Frag} {mg : Str → Option Value} {base : Heap} (c : Hd K mg) : OkD P w K mg base 3 "keepers_in" ["hands"] (spD K 1 (f1 m_keepers_in)) := by
  obtain ⟨fd, F⟩ := c.says.def_ 28 (d := HD.d_keepers_in) rfl
  have o_has_ring := ok_has_ring (P := P) (w := w) (base := base) c
  have o_holders_in := ok_holders_in (P := P) (w := w) (base := base) c
  have o_steps_of := ok_steps_of (P := P) (w := w) (base := base) c
  have o_things_in := ok_things_in (P := P) (w := w) (base := base) c
  have nd : ((["hands", "found", "thing", "later", "keeper", "person", "longer"] : List Str)).Nodup := sc_keepers_in.nd
  refine ok_ret (k := 2) (n := 1) (f := f1 m_keepers_in) F (c.glo _ (c.says.fact 28 rfl)) sc_keepers_in rfl (fun _ _ _ _ _ _ us hl => match us, hl with | [_], _ => rfl) fun cdv A outer s H E hr => ?_
  refine ⟨_, (pss_cons (ps_set (i := 1) nd rfl (by first | exact .inl rfl | exact .inr rfl) (pe_lst (pa_cons (pe_frz pe_dnewK) pa_nil)) rfl (by first | exact .inl rfl | exact .inr rfl)) (pss_cons (ps_for PassesOwn.never rfl (xi_list (K := K) rfl (pe_callD o_things_in hr rfl rfl (pa_cons (pv 0) pa_nil))) (pg_name (i := 2) nd rfl (by first | exact .inl rfl | exact .inr rfl) (by first | exact .inl rfl | exact .inr rfl)) (pss_cons (ps_set (i := 3) nd rfl (by first | exact .inl rfl | exact .inr rfl) (pe_lst pa_nil) rfl (by first | exact .inl rfl | exact .inr rfl)) (pss_cons (ps_for PassesOwn.never rfl (xi_list (K := K) rfl (pv 1)) (pg_name (i := 4) nd rfl (by first | exact .inl rfl | exact .inr rfl) (by first | exact .inl rfl | exact .inr rfl)) (pss_one (ps_for PassesOwn.never rfl (xi_list (K := K) rfl (pe_callD o_holders_in hr rfl rfl (pa_cons (pv 0) (pa_cons (pv 2) pa_nil)))) (pg_name (i := 5) nd rfl (by first | exact .inl rfl | exact .inr rfl) (by first | exact .inl rfl | exact .inr rfl)) (pss_cons (ps_set (i := 6) nd rfl (by first | exact .inl rfl | exact .inr rfl) (pe_frz (DM.pe_merge (pv 4) (pv 2) (pv 5))) rfl (by first | exact .inl rfl | exact .inr rfl)) (pss_one (ps_if (pt_not (pt_val (pe_callD o_has_ring hr rfl rfl (pa_cons (pe_callD o_steps_of hr rfl rfl (pa_cons (pv 0) (pa_cons (pv 6) pa_nil))) pa_nil)))) (pss_one (ps_expr (pe_bm PySem.F.plainAttrs_list PySem.F.slot_list_append PySem.F.type_list_append mt_append (pv 3) (pa_cons (pv 6) pa_nil)))) pss_nil)))))) (pss_one (ps_set (i := 1) nd rfl (by first | exact .inl rfl | exact .inr rfl) (pv 3) rfl (by first | exact .inl rfl | exact .inr rfl)))))) (pss_one (ps_ret (pv 1))))), fun ds hl => ?_⟩
  match ds, hl with
  | [p_hands], _ =>
    show DR K _ [.dat p_hands, .un, .un, .un, .un, .un, .un] (m_keepers_in p_hands)
    exact (dr_seq (dn_asg (i := 1) ((dnl_disp (da_cons de_newK da_nil))).de) (fun s5 => (dr_seq (dn_for1 (st := (fun s9 : PyData => [.dat p_hands, .dat s9, .un, .un, .un, .un, .un])) s5 (dw_list (de_call1 (de_var (i := 0) (d := p_hands) rfl))) (wk_s (wk_s (wk_u (wk_u (wk_u (wk_u (wk_u wk_0))))))) (fun s9 v10 => (dn_seq (dn_own (i := 3) dnl_nil rfl) (fun s12 => (dn_seq (dn_for1 (st := (fun s13 : List PyData => [.dat p_hands, .dat s9, .dat v10, .own s13, .un, .un, .un])) s12 (dw_list (de_var (i := 1) (d := s9) rfl)) (wk_s (wk_s (wk_s (wk_s (wk_u (wk_u (wk_u wk_0))))))) (fun s13 v14 => (dn_end (dn_for1 (st := (fun s21 : List PyData => [.dat p_hands, .dat s9, .dat v10, .own s21, .dat v14, .un, .un])) s13 (dw_list (de_call2 (de_var (i := 0) (d := p_hands) rfl) (de_var (i := 2) (d := v10) rfl))) (wk_s (wk_s (wk_s (wk_s (wk_s (wk_u (wk_u wk_0))))))) (fun s21 v22 => (dn_seq (dn_asg (i := 6) (de_merge (de_var (i := 4) (d := v14) rfl) (de_var (i := 2) (d := v10) rfl) (de_var (i := 5) (d := v22) rfl))) (fun s26 => (dn_if (dt_not (dt_B (de_call1 (de_call2 (de_var (i := 0) (d := p_hands) rfl) (de_var (i := 6) (d := s26) rfl))))) (dn_end (dn_app (i := 3) (ds := s21) rfl (de_var (i := 6) (d := s26) rfl)) (fun s43 => (wk_s (wk_s (wk_s (wk_s (wk_s (wk_u (wk_u wk_0))))))))) (dn_nil s21 (wk_s (wk_s (wk_s (wk_s (wk_s (wk_u (wk_u wk_0))))))))))))) (fun s47 => (wk_s (wk_s (wk_s (wk_s (wk_u (wk_u (wk_u wk_0))))))))))) (fun s49 => (dn_frz (i := 3) rfl (dn_end (dn_asg (i := 1) (de_var (i := 3) (d := (.list s49)) rfl)) (fun s50 => (wk_s (wk_s (wk_u (wk_u (wk_u (wk_u (wk_u wk_0)))))))))))))))) (fun s52 => (dr_ret (de_var (i := 1) (d := s52) rfl))))))

noncomputable def m_ends_in (p_hands : PyData) : Option PyData :=
  (((((((some p_hands).bind m_keepers_in).bind lstO).bind fun d11 => compL (fun v4 => some true) (fun v4 => ((some p_hands).bind fun x9 => (some v4).bind fun x10 => m_end_by x9 x10)) d11)).bind fun r12 => some (.list r12)).bind (sortO 2))
theorem sc_ends_in : FnScope ["hands", "keeper"] ["hands"] (defScope HD.s_ends_in) := ⟨rfl, rfl, rfl, by decide +kernel, rfl, by decide +kernel, by decide +kernel⟩
theorem ok_ends_in {P : Program} {w : World} {K : PySem.W.Frag} {mg : Str → Option Value} {base : Heap} (c : Hd K mg) : OkD P w K mg base 4 "ends_in" ["hands"] (spD K 1 (f1 m_ends_in)) := by
  obtain ⟨fd, F⟩ := c.says.def_ 30 (d := HD.d_ends_in) rfl
  have o_end_by := ok_end_by (P := P) (w := w) (base := base) c
  have o_keepers_in := ok_keepers_in (P := P) (w := w) (base := base) c
  have h_sorted := c.free "sorted" (c.says.fact 66 rfl)
  have nd : ((["hands", "keeper"] : List Str)).Nodup := sc_ends_in.nd
  refine ok_ret (k := 3) (n := 1) (f := f1 m_ends_in) F (c.glo _ (c.says.fact 30 rfl)) sc_ends_in rfl (fun _ _ _ _ _ _ us hl => match us, hl with | [_], _ => rfl) fun cdv A outer s H E hr => ?_
  refine ⟨_, (pss_one (ps_ret (pe_callB (xc_sorted (K := K) rfl hr.units 2) rfl h_sorted (by decide +kernel) (pa_cons (pe_lc rfl nd (xi_list (K := K) rfl (pe_callD o_keepers_in hr rfl rfl (pa_cons (pv 0) pa_nil))) (own := [("keeper", 1)]) (blkOk_by (by kernel_rfl)) (fun _ _ _ _ _ => (pg_name (i := 1) nd rfl (by first | exact .inl rfl | exact .inr rfl) (by first | exact .inl rfl | exact .inr rfl))) (fun _ _ _ _ _ => pts_nil) (fun _ _ _ _ _ => (pe_callD o_end_by hr rfl rfl (pa_cons (pv 0) (pa_cons (pv 1) pa_nil))))) pa_nil)))), fun ds hl => ?_⟩
  match ds, hl with
  | [p_hands], _ =>
    show DR K _ [.dat p_hands, .un] (m_ends_in p_hands)
    exact (dr_ret (de_cb1 (vc_sorted (n := 2) (by decide)) ((dnl_lc rfl ((dw_list (de_call1 (de_var (i := 0) (d := p_hands) rfl)))).c (fun v4 => dt_yes) (fun v4 => (de_call2 (de_var (i := 0) (d := p_hands) rfl) (de_var (i := 1) (d := v4) rfl))))).de))

noncomputable def m_count_ends (p_hands : PyData) : Option PyData :=
  ((((some p_hands).bind m_need_hands).bind fun _ => some ()).bind fun s4 => (((some p_hands).bind m_keepers_in).bind lenO))
theorem sc_count_ends : FnScope ["hands"] ["hands"] (defScope HD.s_count_ends) := ⟨rfl, rfl, rfl, by decide +kernel, rfl, by decide +kernel, by decide +kernel⟩
theorem ok_count_ends {P : Program} {w : World} {K : PySem.W.Frag} {mg : Str → Option Value} {base : Heap} (c : Hd K mg) : OkD P w K mg base 5 "count_ends" ["hands"] (spD K 1 (f1 m_count_ends)) := by
  obtain ⟨fd, F⟩ := c.says.def_ 31 (d := HD.d_count_ends) rfl
  have o_keepers_in := ok_keepers_in (P := P) (w := w) (base := base) c
  have h_len := c.free "len" (c.says.fact 60 rfl)
  have o_need_hands := ok_need_hands (P := P) (w := w) (base := base) c
  have nd : ((["hands"] : List Str)).Nodup := sc_count_ends.nd
  refine ok_ret (k := 4) (n := 1) (f := f1 m_count_ends) F (c.glo _ (c.says.fact 31 rfl)) sc_count_ends rfl (fun _ _ _ _ _ _ us hl => match us, hl with | [_], _ => rfl) fun cdv A outer s H E hr => ?_
  refine ⟨_, (pss_cons (ps_expr (pe_callD o_need_hands hr rfl rfl (pa_cons (pv 0) pa_nil))) (pss_one (ps_ret (pe_callB (xc_len (K := K) rfl) rfl h_len (by decide +kernel) (pa_cons (pe_callD o_keepers_in hr rfl rfl (pa_cons (pv 0) pa_nil)) pa_nil))))), fun ds hl => ?_⟩
  match ds, hl with
  | [p_hands], _ =>
    show DR K _ [.dat p_hands] (m_count_ends p_hands)
    exact (dr_seq (dn_drop (de_call1 (de_var (i := 0) (d := p_hands) rfl))) (fun s4 => (dr_ret (de_cb1 vc_len (de_call1 (de_var (i := 0) (d := p_hands) rfl))))))

noncomputable def m_fits_end (p_hands p_end : PyData) : Option PyData :=
  (((((some p_hands).bind m_things_in).bind fun x7 => ((some p_end).bind m_things_in).bind fun y8 => neD x7 y8).bind bO).bind fun b45 => bif b45 then (some (.bool false)) else (((((((((some p_hands).bind lenO).bind rng1).bind fun d17 => (compL2 (fun v9 => (((some p_end).bind fun x10 => (some v9).bind fun y11 => ixO x10 y11).bind tplO)) (fun v9 v12 => ((some v12).bind fun x15 => ((some p_hands).bind fun x13 => (some v9).bind fun y14 => ixO x13 y14).bind fun y16 => niI x15 y16)) d17).bind fun r18 => bif smallO r18 then some r18 else none)).bind fun r19 => some (.list r19)).bind anyO).bind bO).bind fun b44 => bif b44 then (some (.bool false)) else (((((some p_hands).bind lenO).bind rng1).bind fun d24 => (dcL2 (fun v20 => (((some p_end).bind fun x21 => (some v20).bind fun y22 => ixO x21 y22).bind tplO)) (fun v20 v23 => (some v23)) (fun v20 v23 => (some v20)) d24 []).bind fun r25 => some (.dict r25)).bind fun s26 => ((((some p_hands).bind fun x39 => (some s26).bind fun x40 => m_steps_of x39 x40).bind m_has_ring).bind fun x42 => (bO x42).bind fun b43 => some (.bool (!b43))))))
theorem sc_fits_end : FnScope ["hands", "end", "person", "thing", "keeper"] ["hands", "end"] (defScope HD.s_fits_end) := ⟨rfl, rfl, rfl, by decide +kernel, rfl, by decide +kernel, by decide +kernel⟩
theorem ok_fits_end {P : Program} {w : World} {K : PySem.W.Frag} {mg : Str → Option Value} {base : Heap} (c : Hd K mg) : OkD P w K mg base 3 "fits_end" ["hands", "end"] (spD K 2 (f2 m_fits_end)) := by
  obtain ⟨fd, F⟩ := c.says.def_ 32 (d := HD.d_fits_end) rfl
  have h_any := c.free "any" (c.says.fact 55 rfl)
  have o_has_ring := ok_has_ring (P := P) (w := w) (base := base) c
  have h_len := c.free "len" (c.says.fact 60 rfl)
  have h_range := c.free "range" (c.says.fact 64 rfl)
  have o_steps_of := ok_steps_of (P := P) (w := w) (base := base) c
  have o_things_in := ok_things_in (P := P) (w := w) (base := base) c
  have nd : ((["hands", "end", "person", "thing", "keeper"] : List Str)).Nodup := sc_fits_end.nd
  refine ok_ret (k := 2) (n := 2) (f := f2 m_fits_end) F (c.glo _ (c.says.fact 32 rfl)) sc_fits_end rfl (fun _ _ _ _ _ _ us hl => match us, hl with | [_, _], _ => rfl) fun cdv A outer s H E hr => ?_
  refine ⟨_, (pss_cons (ps_if (pt_cmpR (xo_neD (K := K) rfl hr.units) (pe_callD o_things_in hr rfl rfl (pa_cons (pv 0) pa_nil)) (pe_callD o_things_in hr rfl rfl (pa_cons (pv 1) pa_nil)) (nomark _)) (pss_one (ps_ret pe_bl)) pss_nil) (pss_cons (ps_if (pt_val (pe_callB (xc_any (K := K) rfl rfl) rfl h_any (by decide +kernel) (pa_cons (pe_lc2 rfl nd (pi_range1 rfl h_range (pa_cons (pe_callB (xc_len (K := K) rfl) rfl h_len (by decide +kernel) (pa_cons (pv 0) pa_nil)) pa_nil)) (own := [("person", 2), ("thing", 3)]) (vs1 := [3]) (blkOk_by (by kernel_rfl)) (by decide) (fun _ _ _ _ _ => (pg_name (i := 2) nd rfl (by first | exact .inl rfl | exact .inr rfl) (by first | exact .inl rfl | exact .inr rfl))) (fun _ _ _ _ _ => pts_nil) (fun _ _ _ _ _ => (xi_tup (K := K) rfl (pe_ix (xo_ix (K := K) rfl) (pv 1) (pv 2) (fun _ _ => rfl)))) (fun _ _ _ _ _ => (pg_name (i := 3) nd rfl (by first | exact .inl rfl | exact .inr rfl) (by first | exact .inl rfl | exact .inr rfl))) (fun _ _ _ _ _ => pts_nil) (fun _ _ _ _ _ => (pe_cmpR (xo_ni (K := K) rfl) (pv 3) (pe_ix (xo_ix (K := K) rfl) (pv 0) (pv 2) (fun _ _ => rfl)) (by with_unfolding_all rfl)))) pa_nil))) (pss_one (ps_ret pe_bl)) pss_nil) (pss_cons (DC.ps_dc2 (i := 4) rfl nd rfl rfl (DC.sw_dict rfl rfl rfl rfl) (pi_range1 rfl h_range (pa_cons (pe_callB (xc_len (K := K) rfl) rfl h_len (by decide +kernel) (pa_cons (pv 0) pa_nil)) pa_nil)) (own := [("person", 2), ("thing", 3)]) (blkOk_by (by kernel_rfl)) (vs1 := [3]) (by decide) rfl rfl (fun _ _ _ _ _ => (pg_name (i := 2) nd rfl (by first | exact .inl rfl | exact .inr rfl) (by first | exact .inl rfl | exact .inr rfl))) (fun _ _ _ _ _ => (xi_tup (K := K) rfl (pe_ix (xo_ix (K := K) rfl) (pv 1) (pv 2) (fun _ _ => rfl)))) (fun _ _ _ _ _ => (pg_name (i := 3) nd rfl (by first | exact .inl rfl | exact .inr rfl) (by first | exact .inl rfl | exact .inr rfl))) (fun _ _ _ _ _ => (pv 3)) (fun _ _ _ _ _ => (pv 2))) (pss_one (ps_ret (pe_not (pe_callD o_has_ring hr rfl rfl (pa_cons (pe_callD o_steps_of hr rfl rfl (pa_cons (pv 0) (pa_cons (pv 4) pa_nil))) pa_nil)))))))), fun ds hl => ?_⟩
  match ds, hl with
  | [p_hands, p_end], _ =>
    show DR K _ [.dat p_hands, .dat p_end, .un, .un, .un] (m_fits_end p_hands p_end)
    exact (dr_ifret (dt_test (de_op v2_neD (de_call1 (de_var (i := 0) (d := p_hands) rfl)) (de_call1 (de_var (i := 1) (d := p_end) rfl)))) (dr_ret (de_bl (b := false))) (dr_ifret (dt_B (de_cb1 vc_any ((dnl_lc2 rfl rfl ((dw_rng1 (de_cb1 vc_len (de_var (i := 0) (d := p_hands) rfl)))).c (fun v9 => (dw_tup (de_op v2_ix (de_var (i := 1) (d := p_end) rfl) (de_var (i := 2) (d := v9) rfl)))) (fun v9 v12 => (de_op v2_ni (de_var (i := 3) (d := v12) rfl) (de_op v2_ix (de_var (i := 0) (d := p_hands) rfl) (de_var (i := 2) (d := v9) rfl)))))).de)) (dr_ret (de_bl (b := false))) (dr_seq (dn_asg (i := 4) (de_dc2 ((dw_rng1 (de_cb1 vc_len (de_var (i := 0) (d := p_hands) rfl)))).c (fun v20 => (dw_tup (de_op v2_ix (de_var (i := 1) (d := p_end) rfl) (de_var (i := 2) (d := v20) rfl)))) (fun v20 v23 => (de_var (i := 3) (d := v23) rfl)) (fun v20 v23 => (de_var (i := 2) (d := v20) rfl)))) (fun s26 => (dr_ret (de_notV (de_call1 (de_call2 (de_var (i := 0) (d := p_hands) rfl) (de_var (i := 4) (d := s26) rfl)))))))))

noncomputable def m_steps_to (p_hands p_end : PyData) : Option PyData :=
  ((((((some p_hands).bind fun x5 => (some p_end).bind fun x6 => m_fits_end x5 x6).bind bO).bind fun b7 => some (!b7)).bind fun b8 => bif b8 then none else some ()).bind fun s9 => ((some p_hands).bind fun x26 => ((((some p_hands).bind lenO).bind rng1).bind fun d24 => (dcL2 (fun v20 => (((some p_end).bind fun x21 => (some v20).bind fun y22 => ixO x21 y22).bind tplO)) (fun v20 v23 => (some v23)) (fun v20 v23 => (some v20)) d24 []).bind fun r25 => some (.dict r25)).bind fun x27 => m_steps_of x26 x27))
theorem sc_steps_to : FnScope ["hands", "end", "person", "thing"] ["hands", "end"] (defScope HD.s_steps_to) := ⟨rfl, rfl, rfl, by decide +kernel, rfl, by decide +kernel, by decide +kernel⟩
theorem ok_steps_to {P : Program} {w : World} {K : PySem.W.Frag} {mg : Str → Option Value} {base : Heap} (c : Hd K mg) : OkD P w K mg base 4 "steps_to" ["hands", "end"] (spD K 2 (f2 m_steps_to)) := by
  obtain ⟨fd, F⟩ := c.says.def_ 43 (d := HD.d_steps_to) rfl
  have o_fits_end := ok_fits_end (P := P) (w := w) (base := base) c
  have h_len := c.free "len" (c.says.fact 60 rfl)
  have h_range := c.free "range" (c.says.fact 64 rfl)
  have o_steps_of := ok_steps_of (P := P) (w := w) (base := base) c
  have nd : ((["hands", "end", "person", "thing"] : List Str)).Nodup := sc_steps_to.nd
  refine ok_ret (k := 3) (n := 2) (f := f2 m_steps_to) F (c.glo _ (c.says.fact 43 rfl)) sc_steps_to rfl (fun _ _ _ _ _ _ us hl => match us, hl with | [_, _], _ => rfl) fun cdv A outer s H E hr => ?_
  refine ⟨_, (pss_cons (ps_if (pt_not (pt_val (pe_callD o_fits_end hr rfl rfl (pa_cons (pv 0) (pa_cons (pv 1) pa_nil))))) pss_never pss_nil) (pss_one (ps_ret (pe_callD o_steps_of hr rfl rfl (pa_cons (pv 0) (pa_cons (pe_frz (DC.pe_dc2 rfl nd (pi_range1 rfl h_range (pa_cons (pe_callB (xc_len (K := K) rfl) rfl h_len (by decide +kernel) (pa_cons (pv 0) pa_nil)) pa_nil)) (own := [("person", 2), ("thing", 3)]) (blkOk_by (by kernel_rfl)) (vs1 := [3]) (by decide) rfl rfl (fun _ _ _ _ _ => (pg_name (i := 2) nd rfl (by first | exact .inl rfl | exact .inr rfl) (by first | exact .inl rfl | exact .inr rfl))) (fun _ _ _ _ _ => (xi_tup (K := K) rfl (pe_ix (xo_ix (K := K) rfl) (pv 1) (pv 2) (fun _ _ => rfl)))) (fun _ _ _ _ _ => (pg_name (i := 3) nd rfl (by first | exact .inl rfl | exact .inr rfl) (by first | exact .inl rfl | exact .inr rfl))) (fun _ _ _ _ _ => (pv 3)) (fun _ _ _ _ _ => (pv 2)))) pa_nil)))))), fun ds hl => ?_⟩
  match ds, hl with
  | [p_hands, p_end], _ =>
    show DR K _ [.dat p_hands, .dat p_end, .un, .un] (m_steps_to p_hands p_end)
    exact (dr_seq (dn_never (dt_not (dt_B (de_call2 (de_var (i := 0) (d := p_hands) rfl) (de_var (i := 1) (d := p_end) rfl))))) (fun s9 => (dr_ret (de_call2 (de_var (i := 0) (d := p_hands) rfl) (de_dc2 ((dw_rng1 (de_cb1 vc_len (de_var (i := 0) (d := p_hands) rfl)))).c (fun v20 => (dw_tup (de_op v2_ix (de_var (i := 1) (d := p_end) rfl) (de_var (i := 2) (d := v20) rfl)))) (fun v20 v23 => (de_var (i := 3) (d := v23) rfl)) (fun v20 v23 => (de_var (i := 2) (d := v20) rfl)))))))

end DL

set_option Elab.async false
set_option linter.all false
set_option maxRecDepth 100000
set_option maxHeartbeats 0
namespace DL
open PySem PySem.Spec PyProof.Rows L2
noncomputable def m_count_in (p_hands p_steps : PyData) : Option PyData :=
  ((((some []).bind fun d1 => bif smallO d1 then some (.tuple d1) else none).bind fun y2 => (some (.int 1)).bind fun z3 => bif tkT y2 then some (.dict [(y2, z3)]) else none).bind fun s4 => (((((some p_hands).bind lenO).bind rng1).bind fun d47 => foldO (fun s5 v6 => ((some ()).bind fun s7 => ((((some s5).bind fun x8 => (itemsN x8).bind fun d9 => some (pairsD d9)).bind fun d44 => foldO (fun s10 => prO fun v11 v12 => (((((some p_hands).bind lenO).bind rng1).bind fun d42 => foldO (fun s13 v14 => (((((some v14).bind fun x15 => (some v11).bind fun y16 => niI x15 y16).bind bO).bind fun b25 => bif b25 then (((((((some p_steps).bind lstO).bind fun d23 => compL (prO fun v17 v18 => (((some v18).bind fun x19 => (some v14).bind fun y20 => eqI x19 y20).bind bO)) (prO fun v17 v18 => ((some v17).bind fun x21 => (some v11).bind fun y22 => inI x21 y22)) d23)).bind fun r24 => some (.list r24)).bind allO).bind bO) else some false).bind fun b41 => bif b41 then ((((((((some v11).bind fun x28 => (itemsO x28).bind fun l30 => ((some v14).bind fun x26 => (some []).bind fun r27 => some (x26 :: r27)).bind fun r29 => some (l30 ++ r29)).bind fun d31 => bif smallO d31 then some d31 else none)).bind fun r32 => some (.list r32)).bind (sortO 0)).bind tupO).bind fun s33 => (((((some s33).bind fun y34 => (some (.int 0)).bind fun x35 => getN s13 y34 x35).bind fun x36 => (some v12).bind fun y37 => addI x36 y37).bind fun z39 => (some s33).bind fun y38 => bif tkT y38 && Nat.blt (s13).length 90000 then some (putN y38 z39 s13) else none).bind fun s40 => some s40)) else some s13)) d42 s10).bind fun s43 => some s43)) d44 []).bind fun s45 => ((match s45 with | [] => none | _ :: _ => bif Nat.blt (s45).length 90000 then some s45 else none : Option Ent).bind fun s46 => some (.dict s46))))) d47 s4).bind fun s48 => (((some s48).bind fun x49 => (itemsN x49).bind fun d50 => some (.list (valsD d50))).bind fun x51 => (some (.int 0)).bind fun y52 => ixO x51 y52)))
theorem sc_count_in : FnScope ["hands", "steps", "found", "turn", "later", "done", "many", "person", "first", "last", "key"] ["hands", "steps"] (defScope HD.s_count_in) := ⟨rfl, rfl, rfl, by decide +kernel, rfl, by decide +kernel, by decide +kernel⟩
theorem ok_count_in {P : Program} {w : World} {K : PySem.W.Frag} {mg : Str → Option Value} {base : Heap} (c : Hd K mg) : OkD P w K mg base 1 "count_in" ["hands", "steps"] (spD K 2 (f2 m_count_in)) := by
  obtain ⟨fd, F⟩ := c.says.def_ 44 (d := HD.d_count_in) rfl
  have h_all := c.free "all" (c.says.fact 54 rfl)
  have h_len := c.free "len" (c.says.fact 60 rfl)
  have h_list := c.free "list" (c.says.fact 61 rfl)
  have h_range := c.free "range" (c.says.fact 64 rfl)
  have h_sorted := c.free "sorted" (c.says.fact 66 rfl)
  have h_tuple := c.free "tuple" (c.says.fact 68 rfl)
  have nd : ((["hands", "steps", "found", "turn", "later", "done", "many", "person", "first", "last", "key"] : List Str)).Nodup := sc_count_in.nd
  refine ok_ret (k := 0) (n := 2) (f := f2 m_count_in) F (c.glo _ (c.says.fact 44 rfl)) sc_count_in rfl (fun _ _ _ _ _ _ us hl => match us, hl with | [_, _], _ => rfl) fun cdv A outer s H E hr => ?_
  refine ⟨_, (pss_cons (ps_set (i := 2) nd rfl (by first | exact .inl rfl | exact .inr rfl) (ND.pe_one (K := K) (w := w) rfl rfl hr.units (pe_tup pa_nil) pe_int) rfl (by first | exact .inl rfl | exact .inr rfl)) (pss_cons (ps_for PassesOwn.never rfl (pi_range1 rfl h_range (pa_cons (pe_callB (xc_len (K := K) rfl) rfl h_len (by decide +kernel) (pa_cons (pv 0) pa_nil)) pa_nil)) (pg_name (i := 3) nd rfl (by first | exact .inl rfl | exact .inr rfl) (by first | exact .inl rfl | exact .inr rfl)) (pss_cons (ps_set (i := 4) nd rfl (by first | exact .inl rfl | exact .inr rfl) ND.pe_new rfl (by first | exact .inl rfl | exact .inr rfl)) (pss_cons (ps_for PassesOwn.never rfl (ND.pi_itemsN (pv 2)) (xg_tup (K := K) (n := 2) rfl rfl (pgs_cons (pg_name (i := 5) nd rfl (by first | exact .inl rfl | exact .inr rfl) (by first | exact .inl rfl | exact .inr rfl)) (pgs_cons (pg_name (i := 6) nd rfl (by first | exact .inl rfl | exact .inr rfl) (by first | exact .inl rfl | exact .inr rfl)) pgs_nil))) (pss_one (ps_for PassesOwn.never rfl (pi_range1 rfl h_range (pa_cons (pe_callB (xc_len (K := K) rfl) rfl h_len (by decide +kernel) (pa_cons (pv 0) pa_nil)) pa_nil)) (pg_name (i := 7) nd rfl (by first | exact .inl rfl | exact .inr rfl) (by first | exact .inl rfl | exact .inr rfl)) (pss_one (ps_if (PW.pt (pw_and (pt_cmpR (xo_ni (K := K) rfl) (pv 7) (pv 5) (by with_unfolding_all rfl)) (pw_and1 (pt_val (pe_callB (xc_all (K := K) rfl rfl) rfl h_all (by decide +kernel) (pa_cons (pe_lc rfl nd (xi_list (K := K) rfl (pv 1)) (own := [("first", 8), ("last", 9)]) (blkOk_by (by kernel_rfl)) (fun _ _ _ _ _ => (xg_tup (K := K) (n := 2) rfl rfl (pgs_cons (pg_name (i := 8) nd rfl (by first | exact .inl rfl | exact .inr rfl) (by first | exact .inl rfl | exact .inr rfl)) (pgs_cons (pg_name (i := 9) nd rfl (by first | exact .inl rfl | exact .inr rfl) (by first | exact .inl rfl | exact .inr rfl)) pgs_nil)))) (fun _ _ _ _ _ => (pts_one (pt_cmpR op_eq (pv 9) (pv 7) (nomark _)))) (fun _ _ _ _ _ => (pe_cmpR (xo_in (K := K) rfl) (pv 8) (pv 5) (by with_unfolding_all rfl)))) pa_nil)))))) (pss_cons (ps_set (i := 10) nd rfl (by first | exact .inl rfl | exact .inr rfl) (pe_callTy (xc_tuple (K := K) rfl) rfl h_tuple (by decide +kernel) (pa_cons (pe_callB (xc_sorted (K := K) rfl hr.units 0) rfl h_sorted (by decide +kernel) (pa_cons (pe_lst (xa_star (K := K) rfl (pv 5) (pa_cons (pv 7) pa_nil))) pa_nil)) pa_nil)) rfl (by first | exact .inl rfl | exact .inr rfl)) (pss_one (ND.ps_put (K := K) (w := w) rfl rfl hr.units (pv 4) (pv 10) (pe_op op_add (ND.pe_get (K := K) (w := w) rfl rfl hr.units (pv 4) (pv 10) pe_int ⟨rfl, rfl, rfl, rfl⟩) (pv 6))))) pss_nil))))) (pss_one (ps_set (i := 2) nd rfl (by first | exact .inl rfl | exact .inr rfl) (pv 4) rfl (by first | exact .inl rfl | exact .inr rfl)))))) (pss_one (ps_ret (pe_ix (xo_ix (K := K) rfl) (ND.pe_vals rfl (pv 2) rfl h_list) pe_int (fun _ _ => rfl)))))), fun ds hl => ?_⟩
  match ds, hl with
  | [p_hands, p_steps], _ =>
    show DR K _ [.dat p_hands, .dat p_steps, .un, .un, .un, .un, .un, .un, .un, .un, .un] (m_count_in p_hands p_steps)
    exact (dr_seq (dn_asg (i := 2) (de_oneN (de_tup da_nil) (de_int (i := 1)))) (fun s4 => (dr_seq (dn_for1 (st := (fun s5 : PyData => [.dat p_hands, .dat p_steps, .dat s5, .un, .un, .un, .un, .un, .un, .un, .un])) s4 (dw_rng1 (de_cb1 vc_len (de_var (i := 0) (d := p_hands) rfl))) (wk_s (wk_s (wk_s (wk_u (wk_u (wk_u (wk_u (wk_u (wk_u (wk_u (wk_u wk_0))))))))))) (fun s5 v6 => (dn_seq (dn_newN (i := 4) (K := K) (w := w) rfl) (fun s7 => (dn_seq (dn_for2 (st := (fun s10 : Ent => [.dat p_hands, .dat p_steps, .dat s5, .dat v6, .ox (PN K w s10), .un, .un, .un, .un, .un, .un])) [] (dw_itemsN (de_var (i := 2) (d := s5) rfl)) (wk_s (wk_s (wk_s (wk_s (wk_s (wk_u (wk_u (wk_u (wk_u (wk_u (wk_u wk_0))))))))))) (fun s10 v11 v12 => (dn_end (dn_for1 (st := (fun s13 : Ent => [.dat p_hands, .dat p_steps, .dat s5, .dat v6, .ox (PN K w s13), .dat v11, .dat v12, .un, .un, .un, .un])) s10 (dw_rng1 (de_cb1 vc_len (de_var (i := 0) (d := p_hands) rfl))) (wk_s (wk_s (wk_s (wk_s (wk_s (wk_s (wk_s (wk_u (wk_u (wk_u (wk_u wk_0))))))))))) (fun s13 v14 => (dn_if (dt_and (dt_test (de_op v2_ni (de_var (i := 7) (d := v14) rfl) (de_var (i := 5) (d := v11) rfl))) (dt_B (de_cb1 vc_all ((dnl_lcp rfl rfl ((dw_list (de_var (i := 1) (d := p_steps) rfl))).c (fun v17 v18 => (dt_test (de_op v2_eqI (de_var (i := 9) (d := v18) rfl) (de_var (i := 7) (d := v14) rfl)))) (fun v17 v18 => (de_op v2_in (de_var (i := 8) (d := v17) rfl) (de_var (i := 5) (d := v11) rfl))))).de))) (dn_seq (dn_asg (i := 10) (de_cb1 vc_tuple (de_cb1 (vc_sorted (n := 0) (by decide)) ((dnl_disp (da_star (de_var (i := 5) (d := v11) rfl) (da_cons (de_var (i := 7) (d := v14) rfl) da_nil)))).de))) (fun s33 => (dn_end (dn_putN (i := 4) (es := s13) rfl (de_op v2_add (de_getN (i := 4) (es := s13) rfl (de_var (i := 10) (d := s33) rfl) (de_int (i := 0))) (de_var (i := 6) (d := v12) rfl)) (de_var (i := 10) (d := s33) rfl)) (fun s40 => (wk_s (wk_s (wk_s (wk_s (wk_s (wk_s (wk_s (wk_u (wk_u (wk_u (wk_u wk_0))))))))))))))) (dn_nil s13 (wk_s (wk_s (wk_s (wk_s (wk_s (wk_s (wk_s (wk_u (wk_u (wk_u (wk_u wk_0))))))))))))))) (fun s43 => (wk_s (wk_s (wk_s (wk_s (wk_s (wk_u (wk_u (wk_u (wk_u (wk_u (wk_u wk_0))))))))))))))) (fun s45 => (dn_end (dn_frzN (i := 4) (f := 2) (es := s45) rfl) (fun s46 => (wk_s (wk_s (wk_s (wk_u (wk_u (wk_u (wk_u (wk_u (wk_u (wk_u (wk_u wk_0))))))))))))))))))) (fun s48 => (dr_ret (de_op v2_ix (de_vals (de_var (i := 2) (d := s48) rfl)) (de_int (i := 0))))))))

noncomputable def m_chances_in (p_hands : PyData) : Option PyData :=
  ((some []).bind fun s2 => (((((some p_hands).bind m_ends_in).bind lstO).bind fun d63 => foldO (fun s6 v7 => (((((some v7).bind fun x60 => ((((some p_hands).bind fun x53 => ((some p_hands).bind fun x51 => (some v7).bind fun x52 => m_steps_to x51 x52).bind fun x54 => m_count_in x53 x54).bind fun x58 => (((some p_hands).bind lenO).bind m_factorial).bind fun x59 => m_ratio x58 x59).bind fun x10 => (some []).bind fun r11 => some (x10 :: r11)).bind fun r61 => some (x60 :: r61)).bind fun d62 => bif smallO d62 then some (.tuple d62) else none).bind fun d9 => bif Nat.blt (s6).length 100000 then some (s6 ++ [d9]) else none).bind fun s8 => some s8)) d63 s2).bind fun s64 => (some (.list s64))))
theorem sc_chances_in : FnScope ["hands", "found", "end"] ["hands"] (defScope HD.s_chances_in) := ⟨rfl, rfl, rfl, by decide +kernel, rfl, by decide +kernel, by decide +kernel⟩
theorem ok_chances_in {P : Program} {w : World} {K : PySem.W.Frag} {mg : Str → Option Value} {base : Heap} (c : Hd K mg) : OkD P w K mg base 5 "chances_in" ["hands"] (spD K 1 (f1 m_chances_in)) := by
  obtain ⟨fd, F⟩ := c.says.def_ 45 (d := HD.d_chances_in) rfl
  have o_count_in := ok_count_in (P := P) (w := w) (base := base) c
  have o_ends_in := ok_ends_in (P := P) (w := w) (base := base) c
  have o_factorial := ok_factorial (P := P) (w := w) (base := base) c
  have h_len := c.free "len" (c.says.fact 60 rfl)
  have o_ratio := ok_ratio (P := P) (w := w) (base := base) c
  have o_steps_to := ok_steps_to (P := P) (w := w) (base := base) c
  have nd : ((["hands", "found", "end"] : List Str)).Nodup := sc_chances_in.nd
  refine ok_ret (k := 4) (n := 1) (f := f1 m_chances_in) F (c.glo _ (c.says.fact 45 rfl)) sc_chances_in rfl (fun _ _ _ _ _ _ us hl => match us, hl with | [_], _ => rfl) fun cdv A outer s H E hr => ?_
  refine ⟨_, (pss_cons (ps_set (i := 1) nd rfl (by first | exact .inl rfl | exact .inr rfl) (pe_lst pa_nil) rfl (by first | exact .inl rfl | exact .inr rfl)) (pss_cons (ps_for PassesOwn.never rfl (xi_list (K := K) rfl (pe_callD o_ends_in hr rfl rfl (pa_cons (pv 0) pa_nil))) (pg_name (i := 2) nd rfl (by first | exact .inl rfl | exact .inr rfl) (by first | exact .inl rfl | exact .inr rfl)) (pss_one (ps_expr (pe_bm PySem.F.plainAttrs_list PySem.F.slot_list_append PySem.F.type_list_append mt_append (pv 1) (pa_cons (pe_tup (pa_cons (pv 2) (pa_cons (pe_callD o_ratio hr rfl rfl (pa_cons (pe_callD o_count_in hr rfl rfl (pa_cons (pv 0) (pa_cons (pe_callD o_steps_to hr rfl rfl (pa_cons (pv 0) (pa_cons (pv 2) pa_nil))) pa_nil))) (pa_cons (pe_callD o_factorial hr rfl rfl (pa_cons (pe_callB (xc_len (K := K) rfl) rfl h_len (by decide +kernel) (pa_cons (pv 0) pa_nil)) pa_nil)) pa_nil))) pa_nil))) pa_nil))))) (pss_one (ps_ret (pv 1))))), fun ds hl => ?_⟩
  match ds, hl with
  | [p_hands], _ =>
    show DR K _ [.dat p_hands, .un, .un] (m_chances_in p_hands)
    exact (dr_seq (dn_own (i := 1) dnl_nil rfl) (fun s2 => (dr_seq (dn_for1 (st := (fun s6 : List PyData => [.dat p_hands, .own s6, .un])) s2 (dw_list (de_call1 (de_var (i := 0) (d := p_hands) rfl))) (wk_s (wk_s (wk_u wk_0))) (fun s6 v7 => (dn_end (dn_app (i := 1) (ds := s6) rfl (de_tup (da_cons (de_var (i := 2) (d := v7) rfl) (da_cons (de_call2 (de_call2 (de_var (i := 0) (d := p_hands) rfl) (de_call2 (de_var (i := 0) (d := p_hands) rfl) (de_var (i := 2) (d := v7) rfl))) (de_call1 (de_cb1 vc_len (de_var (i := 0) (d := p_hands) rfl)))) da_nil)))) (fun s8 => (wk_s (wk_s (wk_u wk_0))))))) (fun s64 => (dr_frz (i := 1) rfl (dr_ret (de_var (i := 1) (d := (.list s64)) rfl)))))))

noncomputable def m_empty_chance (p_hands p_person : PyData) : Option PyData :=
  ((((some p_hands).bind m_need_hands).bind fun _ => some ()).bind fun s4 => ((((some p_hands).bind fun x10 => (some p_person).bind fun x11 => m_need_person x10 x11).bind fun _ => some ()).bind fun s12 => ((some (.tuple [.int 0, .int 1])).bind fun s14 => (((((some p_hands).bind m_chances_in).bind lstO).bind fun d34 => foldO (fun s18 => prO fun v19 v20 => (((((some v19).bind fun x21 => (some p_person).bind fun y22 => ixO x21 y22).bind fun x24 => ((some []).bind fun d23 => bif smallO d23 then some (.tuple d23) else none).bind fun y25 => eqD x24 y25).bind bO).bind fun b33 => bif b33 then (((some s18).bind fun x30 => (some v20).bind fun x31 => m_plus x30 x31).bind fun s32 => some s32) else some s18)) d34 s14).bind fun s35 => (some s35)))))
theorem sc_empty_chance : FnScope ["hands", "person", "found", "end", "chance"] ["hands", "person"] (defScope HD.s_empty_chance) := ⟨rfl, rfl, rfl, by decide +kernel, rfl, by decide +kernel, by decide +kernel⟩
theorem ok_empty_chance {P : Program} {w : World} {K : PySem.W.Frag} {mg : Str → Option Value} {base : Heap} (c : Hd K mg) : OkD P w K mg base 6 "empty_chance" ["hands", "person"] (spD K 2 (f2 m_empty_chance)) := by
  obtain ⟨fd, F⟩ := c.says.def_ 46 (d := HD.d_empty_chance) rfl
  have h_ZERO := c.glo "ZERO" (c.says.fact 71 rfl)
  have o_chances_in := ok_chances_in (P := P) (w := w) (base := base) c
  have o_need_hands := ok_need_hands (P := P) (w := w) (base := base) c
  have o_need_person := ok_need_person (P := P) (w := w) (base := base) c
  have o_plus := ok_plus (P := P) (w := w) (base := base) c
  have nd : ((["hands", "person", "found", "end", "chance"] : List Str)).Nodup := sc_empty_chance.nd
  refine ok_ret (k := 5) (n := 2) (f := f2 m_empty_chance) F (c.glo _ (c.says.fact 46 rfl)) sc_empty_chance rfl (fun _ _ _ _ _ _ us hl => match us, hl with | [_, _], _ => rfl) fun cdv A outer s H E hr => ?_
  refine ⟨_, (pss_cons (ps_expr (pe_callD o_need_hands hr rfl rfl (pa_cons (pv 0) pa_nil))) (pss_cons (ps_expr (pe_callD o_need_person hr rfl rfl (pa_cons (pv 0) (pa_cons (pv 1) pa_nil)))) (pss_cons (ps_set (i := 2) nd rfl (by first | exact .inl rfl | exact .inr rfl) (pe_glob (v := .ref (He.ga K "ZERO")) rfl h_ZERO rfl) rfl (by first | exact .inl rfl | exact .inr rfl)) (pss_cons (ps_for PassesOwn.never rfl (xi_list (K := K) rfl (pe_callD o_chances_in hr rfl rfl (pa_cons (pv 0) pa_nil))) (xg_tup (K := K) (n := 2) rfl rfl (pgs_cons (pg_name (i := 3) nd rfl (by first | exact .inl rfl | exact .inr rfl) (by first | exact .inl rfl | exact .inr rfl)) (pgs_cons (pg_name (i := 4) nd rfl (by first | exact .inl rfl | exact .inr rfl) (by first | exact .inl rfl | exact .inr rfl)) pgs_nil))) (pss_one (ps_if (pt_cmpR (xo_eqD (K := K) rfl hr.units) (pe_ix (xo_ix (K := K) rfl) (pv 3) (pv 1) (fun _ _ => rfl)) (pe_tup pa_nil) (nomark _)) (pss_one (ps_set (i := 2) nd rfl (by first | exact .inl rfl | exact .inr rfl) (pe_callD o_plus hr rfl rfl (pa_cons (pv 2) (pa_cons (pv 4) pa_nil))) rfl (by first | exact .inl rfl | exact .inr rfl))) pss_nil))) (pss_one (ps_ret (pv 2))))))), fun ds hl => ?_⟩
  match ds, hl with
  | [p_hands, p_person], _ =>
    show DR K _ [.dat p_hands, .dat p_person, .un, .un, .un] (m_empty_chance p_hands p_person)
    exact (dr_seq (dn_drop (de_call1 (de_var (i := 0) (d := p_hands) rfl))) (fun s4 => (dr_seq (dn_drop (de_call2 (de_var (i := 0) (d := p_hands) rfl) (de_var (i := 1) (d := p_person) rfl))) (fun s12 => (dr_seq (dn_asg (i := 2) (de_c fun G => c.zeroR G)) (fun s14 => (dr_seq (dn_for2 (st := (fun s18 : PyData => [.dat p_hands, .dat p_person, .dat s18, .un, .un])) s14 (dw_list (de_call1 (de_var (i := 0) (d := p_hands) rfl))) (wk_s (wk_s (wk_s (wk_u (wk_u wk_0))))) (fun s18 v19 v20 => (dn_if (dt_test (de_op v2_eqD (de_op v2_ix (de_var (i := 3) (d := v19) rfl) (de_var (i := 1) (d := p_person) rfl)) (de_tup da_nil))) (dn_end (dn_asg (i := 2) (de_call2 (de_var (i := 2) (d := s18) rfl) (de_var (i := 4) (d := v20) rfl))) (fun s32 => (wk_s (wk_s (wk_s (wk_u (wk_u wk_0))))))) (dn_nil s18 (wk_s (wk_s (wk_s (wk_u (wk_u wk_0))))))))) (fun s35 => (dr_ret (de_var (i := 2) (d := s35) rfl))))))))))

end DL

set_option Elab.async false
set_option linter.all false
set_option maxRecDepth 100000
set_option maxHeartbeats 0
namespace DL
open PySem PySem.Spec PyProof.Rows L2
noncomputable def m_fewest_rounds (p_hands : PyData) : Option PyData :=
  ((((some p_hands).bind m_need_hands).bind fun _ => some ()).bind fun s4 => (((((((some p_hands).bind fun x6 => (some []).bind fun r7 => some (x6 :: r7)).bind fun d8 => bif smallO d8 then some d8 else none)).bind fun r9 => some (.list r9)).bind fun x13 => (some p_hands).bind fun y14 => (some (.bool true)).bind fun z15 => (some (.int 0)).bind fun c16 => bif tkT y14 then some (x13, [(y14, z15)], c16) else none).bind fun s12 => ((whileO (fun s17 => ((((((((some s17.1).bind lstO).bind fun d22 => compL (fun v18 => some true) (fun v18 => ((some v18).bind m_end_in)) d22)).bind fun r23 => some (.list r23)).bind anyO).bind bO).bind fun b24 => some (!b24))) (fun s17 => (((some (.int 1)).bind fun y26 => addI s17.2.2 y26).bind fun s25 => ((some []).bind fun s28 => ((((some s17.1).bind lstO).bind fun d61 => foldO (fun s29 v30 => ((((((some p_hands).bind lenO).bind m_choices).bind lstO).bind fun d59 => foldO (fun s34 v35 => (((some v30).bind fun x40 => (some v35).bind fun x41 => m_together_in x40 x41).bind fun s42 => (((((some s42).bind fun y43 => niN s34.1 y43).bind bO).bind fun b52 => bif b52 then ((((some s42).bind m_things_in).bind fun x50 => ((some p_hands).bind m_things_in).bind fun y51 => eqD x50 y51).bind bO) else some false).bind fun b58 => bif b58 then (((some (.bool true)).bind fun z54 => (some s42).bind fun y53 => bif tkT y53 && Nat.blt (s34.1).length 90000 then some (putN y53 z54 s34.1) else none).bind fun s55 => (((some s42).bind fun d57 => bif Nat.blt (s34.2).length 100000 then some (s34.2 ++ [d57]) else none).bind fun s56 => some (s55, s56))) else some (s34.1, s34.2)))) d59 (s29.1, s29.2)).bind fun s60 => some (s60.1, s60.2))) d61 (s17.2.1, s28)).bind fun s62 => ((some (.list s62.2)).bind fun s63 => some (s63, s62.1, s25)))))) 40 (s12.1, s12.2.1, s12.2.2)).bind fun s64 => (some s64.2.2))))
theorem sc_fewest_rounds : FnScope ["hands", "last", "met", "many", "here", "fresh", "people", "there"] ["hands"] (defScope HD.s_fewest_rounds) := ⟨rfl, rfl, rfl, by decide +kernel, rfl, by decide +kernel, by decide +kernel⟩
theorem ok_fewest_rounds {P : Program} {w : World} {K : PySem.W.Frag} {mg : Str → Option Value} {base : Heap} (c : Hd K mg) : OkD P w K mg base 5 "fewest_rounds" ["hands"] (spD K 1 (f1 m_fewest_rounds)) := by
  obtain ⟨fd, F⟩ := c.says.def_ 50 (d := HD.d_fewest_rounds) rfl
  have h_any := c.free "any" (c.says.fact 55 rfl)
  have o_choices := ok_choices (P := P) (w := w) (base := base) c
  have o_end_in := ok_end_in (P := P) (w := w) (base := base) c
  have h_len := c.free "len" (c.says.fact 60 rfl)
  have o_need_hands := ok_need_hands (P := P) (w := w) (base := base) c
  have o_things_in := ok_things_in (P := P) (w := w) (base := base) c
  have o_together_in := ok_together_in (P := P) (w := w) (base := base) c
  have nd : ((["hands", "last", "met", "many", "here", "fresh", "people", "there"] : List Str)).Nodup := sc_fewest_rounds.nd
  refine ok_ret (k := 4) (n := 1) (f := f1 m_fewest_rounds) F (c.glo _ (c.says.fact 50 rfl)) sc_fewest_rounds rfl (fun _ _ _ _ _ _ us hl => match us, hl with | [_], _ => rfl) fun cdv A outer s H E hr => ?_
  refine ⟨_, (pss_cons (ps_expr (pe_callD o_need_hands hr rfl rfl (pa_cons (pv 0) pa_nil))) (pss_cons (ps_par3 rfl nd (i := 1) (j := 2) (l := 3) rfl rfl rfl (by decide) (by decide) (by decide) rfl rfl rfl (pa_cons (pe_lst (pa_cons (pv 0) pa_nil)) (pa_cons (ND.pe_one (K := K) (w := w) rfl rfl hr.units (pv 0) pe_bl) (pa_cons pe_int pa_nil))) rfl) (pss_cons (ps_while PassesOwn.never (pt_not (pt_val (pe_callB (xc_any (K := K) rfl rfl) rfl h_any (by decide +kernel) (pa_cons (pe_lc rfl nd (xi_list (K := K) rfl (pv 1)) (own := [("here", 4)]) (blkOk_by (by kernel_rfl)) (fun _ _ _ _ _ => (pg_name (i := 4) nd rfl (by first | exact .inl rfl | exact .inr rfl) (by first | exact .inl rfl | exact .inr rfl))) (fun _ _ _ _ _ => pts_nil) (fun _ _ _ _ _ => (pe_callD o_end_in hr rfl rfl (pa_cons (pv 4) pa_nil)))) pa_nil)))) (pss_cons (ps_aug (i := 3) nd rfl (by first | exact .inl rfl | exact .inr rfl) pe_int ip_add (by first | exact .inl rfl | exact .inr rfl)) (pss_cons (ps_set (i := 5) nd rfl (by first | exact .inl rfl | exact .inr rfl) (pe_lst pa_nil) rfl (by first | exact .inl rfl | exact .inr rfl)) (pss_cons (ps_for PassesOwn.never rfl (xi_list (K := K) rfl (pv 1)) (pg_name (i := 4) nd rfl (by first | exact .inl rfl | exact .inr rfl) (by first | exact .inl rfl | exact .inr rfl)) (pss_one (ps_for PassesOwn.never rfl (xi_list (K := K) rfl (pe_callD o_choices hr rfl rfl (pa_cons (pe_callB (xc_len (K := K) rfl) rfl h_len (by decide +kernel) (pa_cons (pv 0) pa_nil)) pa_nil))) (pg_name (i := 6) nd rfl (by first | exact .inl rfl | exact .inr rfl) (by first | exact .inl rfl | exact .inr rfl)) (pss_cons (ps_set (i := 7) nd rfl (by first | exact .inl rfl | exact .inr rfl) (pe_callD o_together_in hr rfl rfl (pa_cons (pv 4) (pa_cons (pv 6) pa_nil))) rfl (by first | exact .inl rfl | exact .inr rfl)) (pss_one (ps_if (PW.pt (pw_and (pt_cmp (ND.pc_notin (K := K) (w := w) rfl rfl hr.units (pv 7) (pv 2)) (by with_unfolding_all rfl)) (pw_and1 (pt_cmpR (xo_eqD (K := K) rfl hr.units) (pe_callD o_things_in hr rfl rfl (pa_cons (pv 7) pa_nil)) (pe_callD o_things_in hr rfl rfl (pa_cons (pv 0) pa_nil)) (nomark _))))) (pss_cons (ND.ps_put (K := K) (w := w) rfl rfl hr.units (pv 2) (pv 7) pe_bl) (pss_one (ps_expr (pe_bm PySem.F.plainAttrs_list PySem.F.slot_list_append PySem.F.type_list_append mt_append (pv 5) (pa_cons (pv 7) pa_nil))))) pss_nil)))))) (pss_one (ps_set (i := 1) nd rfl (by first | exact .inl rfl | exact .inr rfl) (pv 5) rfl (by first | exact .inl rfl | exact .inr rfl))))))) (pss_one (ps_ret (pv 3)))))), fun ds hl => ?_⟩
  match ds, hl with
  | [p_hands], _ =>
    show DR K _ [.dat p_hands, .un, .un, .un, .un, .un, .un, .un] (m_fewest_rounds p_hands)
    exact (dr_seq (dn_drop (de_call1 (de_var (i := 0) (d := p_hands) rfl))) (fun s4 => (dr_seq (dn_par3N (i := 1) (j := 2) (l := 3) (K := K) (w := w) ((dnl_disp (da_cons (de_var (i := 0) (d := p_hands) rfl) da_nil))).de (de_var (i := 0) (d := p_hands) rfl) (de_bl (b := true)) (de_int (i := 0)) rfl (by decide)) (fun s12 => (dr_seq (dn_while (st := (fun s17 : PyData × Ent × PyData => [.dat p_hands, .dat s17.1, .ox (PN K w s17.2.1), .dat s17.2.2, .un, .un, .un, .un])) 40 (s12.1, s12.2.1, s12.2.2) (wk_s (wk_s (wk_s (wk_s (wk_u (wk_u (wk_u (wk_u wk_0)))))))) (fun s17 => (dt_not (dt_B (de_cb1 vc_any ((dnl_lc rfl ((dw_list (de_var (i := 1) (d := s17.1) rfl))).c (fun v18 => dt_yes) (fun v18 => (de_call1 (de_var (i := 4) (d := v18) rfl))))).de)))) (fun s17 => (dn_seq (dn_aug (i := 3) (x := s17.2.2) rfl (de_int (i := 1))) (fun s25 => (dn_seq (dn_own (i := 5) dnl_nil rfl) (fun s28 => (dn_seq (dn_for1 (st := (fun s29 : Ent × List PyData => [.dat p_hands, .dat s17.1, .ox (PN K w s29.1), .dat s25, .un, .own s29.2, .un, .un])) (s17.2.1, s28) (dw_list (de_var (i := 1) (d := s17.1) rfl)) (wk_s (wk_s (wk_s (wk_s (wk_u (wk_s (wk_u (wk_u wk_0)))))))) (fun s29 v30 => (dn_end (dn_for1 (st := (fun s34 : Ent × List PyData => [.dat p_hands, .dat s17.1, .ox (PN K w s34.1), .dat s25, .dat v30, .own s34.2, .un, .un])) (s29.1, s29.2) (dw_list (de_call1 (de_cb1 vc_len (de_var (i := 0) (d := p_hands) rfl)))) (wk_s (wk_s (wk_s (wk_s (wk_s (wk_s (wk_u (wk_u wk_0)))))))) (fun s34 v35 => (dn_seq (dn_asg (i := 7) (de_call2 (de_var (i := 4) (d := v30) rfl) (de_var (i := 6) (d := v35) rfl))) (fun s42 => (dn_if (dt_and (dt_B (de_niN (i := 2) (es := s34.1) rfl (de_var (i := 7) (d := s42) rfl))) (dt_test (de_op v2_eqD (de_call1 (de_var (i := 7) (d := s42) rfl)) (de_call1 (de_var (i := 0) (d := p_hands) rfl))))) (dn_seq (dn_putN (i := 2) (es := s34.1) rfl (de_bl (b := true)) (de_var (i := 7) (d := s42) rfl)) (fun s55 => (dn_end (dn_app (i := 5) (ds := s34.2) rfl (de_var (i := 7) (d := s42) rfl)) (fun s56 => (wk_s (wk_s (wk_s (wk_s (wk_s (wk_s (wk_u (wk_u wk_0)))))))))))) (dn_nil (s34.1, s34.2) (wk_s (wk_s (wk_s (wk_s (wk_s (wk_s (wk_u (wk_u wk_0)))))))))))))) (fun s60 => (wk_s (wk_s (wk_s (wk_s (wk_u (wk_s (wk_u (wk_u wk_0)))))))))))) (fun s62 => (dn_frz (i := 5) rfl (dn_end (dn_asg (i := 1) (de_var (i := 5) (d := (.list s62.2)) rfl)) (fun s63 => (wk_s (wk_s (wk_s (wk_s (wk_u (wk_u (wk_u (wk_u wk_0))))))))))))))))))) (fun s64 => (dr_ret (de_var (i := 3) (d := s64.2.2) rfl))))))))

end DL

set_option Elab.async false
set_option linter.all false
set_option maxRecDepth 100000
set_option maxHeartbeats 1000000
/-! DK: own dicts of ints. -/
namespace DL
open PySem PySem.Spec PyProof.Rows L2
section
variable {K : PySem.W.Frag} {G H : Hp} {w : World} {env : List En} {td ty tx tv : TE} {od oy ox ov : Option PyData}
theorem findI_alt {i : Int} : ∀ {kvs : List (Key × V)} {es : Ent}, RpK K G kvs es → (valV kvs (.inl i) = none ∧ findI i es = none) ∨ ∃ v d, valV kvs (.inl i) = some v ∧ findI i es = some d ∧ Rp K G v d
  | _, _, .nil => .inl ⟨rfl, rfl⟩
  | _, _, .cons (i := j) (v := v) (vs := vs) (d := d) (ds := ds) r t => by
    have e1 : findI i ((PyData.int j, d) :: ds) = bif ieq j i then some d else findI i ds := rfl
    rw [e1]
    cases h : ieq j i with
    | true =>
      rw [ieq_iff] at h
      subst h
      exact .inr ⟨v, d, valV_pos rfl, rfl, r⟩
    | false =>
      have ne : ¬ (Sum.inl j : Key) = .inl i := fun z => by
        rw [(ieq_iff j i).mpr (Sum.inl.inj z)] at h
        cases h
      have e2 : valV (((.inl j : Key), v) :: vs) (.inl i) = valV vs (.inl i) := valV_neg (p := ((.inl j : Key), v)) ne
      rw [e2]
      exact findI_alt t
noncomputable def getK (es : Ent) : PyData → PyData → Option PyData
  | .int i, z => some (match findI i es with
    | some v => v
    | none => z)
  | _, _ => none
theorem de_getK {i : Nat} {es : Ent} (he : env[i]? = some (.oK es)) (hy : DE K ty env oy) (hx : DE K tx env ox) : DE K (tDGet2 (tVar i) ty tx) env (oy.bind fun y => ox.bind fun x => getK es y x) := fun G0 H0 G H σ E d e Q q => by
  obtain ⟨y, ey, e⟩ := bnd e
  obtain ⟨z, ez, e⟩ := bnd e
  obtain ⟨a, kvs, hs, ha, hl, r⟩ := E.at_ i _ he
  refine ⟨.ref a, hs, a, rfl, .inl ⟨kvs, .inl ha⟩, ?_⟩
  refine hy _ _ _ _ _ E y ey _ fun v1 G1 H1 g1 r1 => ?_
  refine hx _ _ _ _ _ (E.more g1) z ez _ fun v2 G2 H2 g2 r2 => ?_
  cases y with
  | int n =>
    cases r1
    have g := g1.trans g2
    refine ⟨valV kvs (.inl n), DGet.k (k := .inl n) (g.h _ _ ha), ?_⟩
    have e0 := Option.some.inj (show some (match findI n es with
      | some v => v
      | none => z) = some d from e)
    rcases findI_alt (i := n) r with ⟨e1, e2⟩ | ⟨v, dv, e1, e2, rv⟩
    · rw [e2] at e0
      rw [e1]
      subst e0
      exact q v2 G2 H2 g r2
    · rw [e2] at e0
      rw [e1]
      subst e0
      exact q v G2 H2 g (rv.mono g.g)
  | _ => cases e
theorem dn_newK {i : Nat} (hi : Nat.blt i env.length = true) : DN K (tAsg tDNewK (gName i)) env (some ()) (fun _ => env.set i (.oK [])) := fun G0 H0 G H σ E s e D q => by
  have hi : i < env.length := by rw [Nat.blt_eq] at hi; exact hi
  intro p hp
  exact q _ G _ (E.setOwn i (e := .oK []) (fun _ _ _ _ => rfl) hp ⟨p, [], rfl, upd_same, Nat.zero_le _, .nil⟩ hi) (Same.refl _)
theorem dn_putK {i : Nat} {es : Ent} (he : env[i]? = some (.oK es)) (hv : DE K tv env ov) (hy : DE K ty env oy) : DN K (sDPut (tVar i) ty tv) env (ov.bind fun z => oy.bind fun y => storeO y z es) (fun es => env.set i (.oK es)) := fun G0 H0 G H σ E es' e D q => by
  obtain ⟨z, ez, e⟩ := bnd e
  obtain ⟨y, ey, e⟩ := bnd e
  obtain ⟨n, rfl, few, rfl⟩ := storeO_of e
  obtain ⟨a, kvs, hs, ha, hl, r⟩ := E.at_ i _ he
  refine hv _ _ _ _ _ E z ez _ fun v1 G1 H1 g1 r1 => ⟨.ref a, hs, ?_⟩
  refine hy _ _ _ _ _ (E.more g1) _ ey _ fun v2 G2 H2 g2 r2 => ?_
  cases r2
  have g := g1.trans g2
  have lk := rpK_len r
  have lp := length_putK kvs (.inl n) v1
  have b9 : (901 : Nat) ≤ big := by decide
  refine ⟨a, _, rfl, DPut.k (k := .inl n) (g.h _ _ ha) (by rw [sizeLine_eq]; omega), ?_⟩
  exact q σ G2 _ (((E.more g1).more g2).put he rfl hs (e' := .oK (putI n z es)) rfl ⟨a, _, rfl, upd_same, by omega, putI_ok (r.mono g.g) (r1.mono g2.g)⟩) g.g
/-- an own dict of ints becomes known -/
theorem EnvR.freezeK {G0 H0 : Hp} {σ : L2.St} (E : EnvR K G0 H0 G H σ env) {i : Nat} {es : Ent} (he : env[i]? = some (.oK es)) : ∃ a kvs, σ[i]? = some (some (.ref a)) ∧ H a = some (.dK kvs) ∧ ∀ o, ∃ G', EnvR K G0 H0 G' (upd H a (.frz o (.dK kvs))) σ (env.set i (.dat (.dict es))) ∧ Same G G' := by
  obtain ⟨a, kvs, hs, ha, hl, r⟩ := E.at_ i _ he
  obtain ⟨hG, hH0⟩ := E.own i _ a he rfl hs
  refine ⟨a, kvs, hs, ha, fun o => ?_⟩
  have E1 : EnvR K G0 H0 G (upd H a (.frz o (.dK kvs))) σ (env.set i .un) := by
    have g := E.grow.put (.frz o (.dK kvs)) hH0 hG
    refine ⟨g, by rw [List.length_set]; exact E.len, fun j e h => ?_, fun j e b h ow hb => ?_, fun j k e e' b h ow h' ow' hb hb' => ?_⟩
    · rcases set_get h with ⟨rfl, rfl⟩ | ⟨ne, h⟩
      · exact True.intro
      · have h3 := E.at_ j e h
        have no : e.isOwn = true → σ[j]? ≠ some (some (.ref a)) := fun o1 z => ne (E.sep i j _ e a he rfl h o1 hs z)
        cases e with
        | un => exact True.intro
        | dat d => exact h3
        | own ds => obtain ⟨b, vs, e1, h4, rr⟩ := h3; exact ⟨b, vs, e1, by rw [upd_ne (show b ≠ a from fun z => no rfl (by rw [← z]; exact e1))]; exact h4, rr⟩
        | oK ds => obtain ⟨b, vs, e1, h4, rr⟩ := h3; exact ⟨b, vs, e1, by rw [upd_ne (show b ≠ a from fun z => no rfl (by rw [← z]; exact e1))]; exact h4, rr⟩
        | ox ds => obtain ⟨b, vs, e1, h4, rr⟩ := h3; exact ⟨b, vs, e1, by rw [upd_ne (show b ≠ a from fun z => no rfl (by rw [← z]; exact e1))]; exact h4, rr⟩
    · rcases set_get h with ⟨rfl, rfl⟩ | ⟨ne, h⟩
      · cases ow
      · exact E.own j e b h ow hb
    · rcases set_get h with ⟨rfl, rfl⟩ | ⟨ne, h⟩
      · cases ow
      · rcases set_get h' with ⟨rfl, rfl⟩ | ⟨ne', h'⟩
        · cases ow'
        · exact E.sep j k e e' b h ow h' ow' hb hb'
  have sg : Same G (upd G a (.frz o (.dK kvs))) := same_new hG
  have g2 := E1.grow.freeze hH0 hG upd_same
  have E2 : EnvR K G0 H0 (upd G a (.frz o (.dK kvs))) (upd H a (.frz o (.dK kvs))) σ (env.set i .un) := by
    refine ⟨g2, E1.len, fun j e h => ?_, fun j e b h ow hb => ?_, E1.sep⟩
    · have h3 := E1.at_ j e h
      cases e with
      | un => exact True.intro
      | dat d => obtain ⟨v, e, r⟩ := h3; exact ⟨v, e, r.mono sg⟩
      | own ds => obtain ⟨a, vs, e1, h4, l, r⟩ := h3; exact ⟨a, vs, e1, h4, l, r.mono sg⟩
      | oK ds => obtain ⟨a, vs, e1, h4, l, r⟩ := h3; exact ⟨a, vs, e1, h4, l, r.mono sg⟩
      | ox ds => obtain ⟨a, o, e1, h4, p, m⟩ := h3; exact ⟨a, o, e1, h4, m _ _ _ sg p, m⟩
    · obtain ⟨h5, h6⟩ := E1.own j e b h ow hb
      refine ⟨?_, h6⟩
      have hb1 : b ≠ a := fun z => by
        rcases set_get h with ⟨rfl, rfl⟩ | ⟨ne, h⟩
        · cases ow
        · exact ne (E.sep i j _ e a he rfl h ow hs (by rw [← z]; exact hb))
      rw [upd_ne hb1]
      exact h5
  refine ⟨_, ?_, sg⟩
  have E3 := E2.set i (v := .ref a) (d := .dict es) (.dk upd_same hl (r.mono sg))
  have e1 : σ.set i (some (.ref a)) = σ := by
    refine List.ext_getElem? fun j => ?_
    by_cases h : i = j
    · subst h
      have hl : i < σ.length := (List.getElem?_eq_some_iff.mp hs).1
      rw [List.getElem?_set_self hl, hs]
    · rw [List.getElem?_set_ne h]
  rw [e1, List.set_set] at E3
  exact E3
/-- {i: v}, known for good -/
theorem de_disp1 {tk tv : TE} {ok ov : Option PyData} (hk : DE K tk env ok) (hv : DE K tv env ov) : DE K (tFrz (tDisp [(tk, tv)])) env (ok.bind fun y => ov.bind fun z => (match y with
    | .int i => some (.dict [(.int i, z)])
    | _ => none)) := fun G0 H0 G H σ E d e Q q => by
  obtain ⟨y, ey, e⟩ := bnd e
  obtain ⟨z, ez, e⟩ := bnd e
  intro p hp
  have hGp := none_sub E.sub hp
  have g0 : Grow G H G (upd H p (.dK [])) := (Grow.rfl' E.sub).put _ hp hGp
  refine hk _ _ _ _ _ (E.more g0) y ey _ fun v1 G1 H1 g1 r1 => ?_
  refine hv _ _ _ _ _ ((E.more g0).more g1) z ez _ fun v2 G2 H2 g2 r2 => ?_
  cases y with
  | int n =>
    cases e
    cases r1
    have g := g1.trans g2
    have p2 : H2 p = some (.dK []) := g.h _ _ upd_same
    have pG : G2 p = none := g.new p (by rw [upd_same]; exact fun z => nomatch z) hGp
    refine ⟨p2, [(.inl n, v2)], rfl, (by show 1 ≤ 15; decide), p, .dK (mergeK [] [(.inl n, v2)]), rfl, upd_same, trivial, fun o => ?_⟩
    have em : mergeK [] [((.inl n : Key), v2)] = [(.inl n, v2)] := rfl
    have e8 : upd (upd H2 p (.dK (mergeK [] [(.inl n, v2)]))) p (.frz o (.dK (mergeK [] [(.inl n, v2)]))) = upd H2 p (.frz o (.dK (mergeK [] [(.inl n, v2)]))) := upd_upd
    rw [e8, em]
    have g3 := ((g0.trans g).put (.frz o (.dK [(.inl n, v2)])) hp pG).freeze hp pG upd_same
    have s3 : Same G2 (upd G2 p (.frz o (.dK [(.inl n, v2)]))) := same_new pG
    exact q _ _ _ g3 (.dk upd_same (by show 1 ≤ big; decide) (.cons (r2.mono s3) .nil))
  | _ => cases e
end
end DL

set_option Elab.async false
set_option linter.all false
set_option maxRecDepth 100000
set_option maxHeartbeats 0
/-! CF: counts_from, which calls itself and writes the dict it is handed. -/
namespace DL
open PySem PySem.Spec PyProof.Rows L2
open ND (NK NKs Xs entN Holds NDs Known PV ItN)
section
variable {K : PySem.W.Frag} {w : World}
/-- all grows but the object at a -/
structure GrowX (a : Addr) (G H G' H' : Hp) : Prop where
  h : ∀ b o, b ≠ a → H b = some o → H' b = some o
  g : Same G G'
  sub : Same G' H'
  new : ∀ b, H b ≠ none → G b = none → G' b = none
/-- the promise: f of the hands and of the dict gives the counts and what the dict is then -/
def spX (K : PySem.W.Frag) (w : World) (f : PyData → Ent → Option (PyData × Ent)) : Sp := fun vs H Q _ => ∃ (G : Hp) (v : V) (a : Addr) (d : PyData) (es : Ent) (o : HO), vs = [v, .ref a] ∧ Same G H ∧ Rp K G v d ∧ G a = none ∧ H a = some o ∧ PN K w es a G o ∧
  ∃ p, f d es = some p ∧ ∀ z G' H' o', GrowX a G H G' H' → H' a = some o' → PN K w p.2 a G' o' → Rp K G' z p.1 → Q z H'
abbrev AtA (a : Addr) : Addr → Prop := fun b => b = a
theorem EnvR.putX {G0 H0 G H G' H' : Hp} {σ : L2.St} {env : List En} {i : Nat} {a : Addr} {e e' : En} (E : EnvR K G0 H0 G H σ env) (he : env[i]? = some e) (ow : e.isOwn = true) (hs : σ[i]? = some (some (.ref a))) (ow' : e'.isOwn = true) (g : GrowX a G H G' H') (at_ : EnAt K G' H' (some (some (.ref a))) e') :
    EnvR K G0 H0 G' H' σ (env.set i e') := by
  obtain ⟨hG, hH0⟩ := E.own i e a he ow hs
  have i_lt : i < env.length := (List.getElem?_eq_some_iff.mp he).1
  have na : ∀ b o, H0 b = some o → b ≠ a := fun b o h z => by
    rw [z, hH0] at h
    cases h
  have grow : Grow G0 H0 G' H' := ⟨fun b o h => g.h b o (na b o h) (E.grow.h b o h), E.grow.g.trans g.g, g.sub, fun b h h2 => by
    obtain ⟨o, ho⟩ := some_ne h
    refine g.new b (by rw [E.grow.h b o ho]; exact fun z => nomatch z) (E.grow.new b h h2)⟩
  refine ⟨grow, by rw [List.length_set]; exact E.len, fun j e1 h => ?_, fun j e1 b h o1 hb => ?_, fun j k e1 e2 b h o1 h' o2 hb hb' => ?_⟩
  · rcases set_get h with ⟨rfl, rfl⟩ | ⟨ne, h⟩
    · rw [hs]
      exact at_
    · have h3 := E.at_ j e1 h
      have no : e1.isOwn = true → σ[j]? ≠ some (some (.ref a)) := fun o1 z => ne (E.sep i j e e1 a he ow h o1 hs z)
      cases e1 with
      | un => exact True.intro
      | dat d => obtain ⟨v, e, r⟩ := h3; exact ⟨v, e, r.mono g.g⟩
      | own ds => obtain ⟨b, vs, e1, h4, l, rr⟩ := h3; exact ⟨b, vs, e1, g.h b _ (fun z => no rfl (by rw [← z]; exact e1)) h4, l, rr.mono g.g⟩
      | oK ds => obtain ⟨b, vs, e1, h4, l, rr⟩ := h3; exact ⟨b, vs, e1, g.h b _ (fun z => no rfl (by rw [← z]; exact e1)) h4, l, rr.mono g.g⟩
      | ox ds => obtain ⟨b, o, e1, h4, pp, m⟩ := h3; exact ⟨b, o, e1, g.h b _ (fun z => no rfl (by rw [← z]; exact e1)) h4, m _ _ _ g.g pp, m⟩
  · rcases set_get h with ⟨rfl, rfl⟩ | ⟨ne, h⟩
    · rw [hs] at hb
      cases hb
      refine ⟨g.new a ?_ hG, hH0⟩
      have h3 := E.at_ _ e he
      rw [hs] at h3
      exact h3.there ow
    · obtain ⟨h5, h6⟩ := E.own j e1 b h o1 hb
      have h3 := E.at_ j e1 h
      rw [hb] at h3
      exact ⟨g.new b (h3.there o1) h5, h6⟩
  · rcases set_get h with ⟨rfl, rfl⟩ | ⟨ne, hq⟩
    · rcases set_get h' with ⟨rfl, rfl⟩ | ⟨ne', h'⟩
      · rfl
      · exact E.sep i k e e2 b he ow h' o2 hb hb'
    · have q := fun z => E.sep j i e1 e b hq o1 he ow hb z
      rcases set_get h' with ⟨rfl, rfl⟩ | ⟨ne', h'⟩
      · exact q hb'
      · exact E.sep j k e1 e2 b hq o1 h' o2 hb hb'
/-! judgements that keep the environment -/
/-- a value, the environment then -/
def DEX (K : PySem.W.Frag) {S : Type} (te : TE) (env : List En) (o : Option (PyData × S)) (st : S → List En) : Prop :=
  ∀ (G0 H0 G H : Hp) (σ : L2.St), EnvR K G0 H0 G H σ env → ∀ p, o = some p → ∀ Q : VK, (∀ v G' H', EnvR K G0 H0 G' H' σ (st p.2) → Same G G' → Rp K G' v p.1 → Q v H') → te σ H Q
/-- a return, the environment then -/
def DX (K : PySem.W.Frag) {S : Type} (ts : TS) (env : List En) (o : Option (PyData × S)) (st : S → List En) : Prop :=
  ∀ (G0 H0 G H : Hp) (σ : L2.St), EnvR K G0 H0 G H σ env → ∀ p, o = some p → ∀ D : Ends, (∀ v σ' G' H', EnvR K G0 H0 G' H' σ' (st p.2) → Rp K G' v p.1 → D.rt v H') → ts D σ H
variable {env : List En} {te td ty : TE} {od oy o : Option PyData} {S T : Type} {t u tb : TS} {c : TT} {pb : Option Bool}
theorem dx_ret {st : S → List En} (s : S) (h : DE K te env o) (wk : Wk env (st s)) : DX K (tRet te) env (o.bind fun d => some (d, s)) st := fun G0 H0 G H σ E p e D q => by
  obtain ⟨d, hd, e⟩ := bnd e
  cases e
  exact h _ _ _ _ _ E d hd _ fun v G' H' g r => q v σ G' H' ((E.more g).weak wk) r
theorem dx_ifret {st : S → List En} {o1 o2 : Option (PyData × S)} (h : DT K c env pb) (h1 : DX K t env o1 st) (h2 : DX K u env o2 st) : DX K (tSeq (tIfS c t tNext) u) env (pb.bind fun b => bif b then o1 else o2) st := fun G0 H0 G H σ E p e D q => by
  obtain ⟨b, hb, e⟩ := bnd e
  refine h _ _ _ _ _ E b hb _ fun G1 H1 g1 => ?_
  cases b with
  | true =>
    show t { D with nx := u D } σ H1
    exact h1 _ _ _ _ _ (E.more g1) p e _ q
  | false =>
    show u D σ H1
    exact h2 _ _ _ _ _ (E.more g1) p e D q
theorem dx_seq {st : S → List En} {st' : T → List En} {oS : Option S} {f : S → Option (PyData × T)} (h1 : DN K t env oS st) (h2 : ∀ s, DX K u (st s) (f s) st') : DX K (tSeq t u) env (oS.bind f) st' := fun G0 H0 G H σ E p e D q => by
  obtain ⟨s, hs, e⟩ := bnd e
  exact h1 _ _ _ _ _ E s hs _ fun σ1 G1 H1 E1 s1 => h2 s _ _ _ _ _ E1 p e D q
/-- d[k] of an own dict -/
theorem de_subN {C : Addr → Prop} {i : Nat} {es : Ent} (he : env[i]? = some (.ox (PNC C K w es))) (hy : DE K ty env oy) : DE K (ND.tSub K w (tVar i) ty) env (oy.bind fun y => bif tkT y then findN y es else none) := fun G0 H0 G H σ E d e Q q => by
  obtain ⟨y, ey, e⟩ := bnd e
  obtain ⟨ct, e⟩ : tkT y = true ∧ findN y es = some d := by
    cases h : tkT y with
    | false => rw [h] at e; cases e
    | true => rw [h] at e; exact ⟨rfl, e⟩
  obtain ⟨c3, ni⟩ := tkT_of ct
  obtain ⟨a, ob, xs, hs, c0, ha, h1, h2, h3, h4⟩ := own_at E he
  refine ⟨.ref a, hs, ?_⟩
  refine hy _ _ _ _ _ E y ey _ fun v1 G1 H1 g1 r1 => ?_
  obtain ⟨b, k, rfl, kd, nk, dp⟩ := key_of_rp g1.sub r1 c3 ni
  have E3 := h3.mono g1.g
  rcases E3.find kd c3 with ⟨_, e2, _⟩ | ⟨p, v, dv, e1, e2, _, rv, rp⟩
  · rw [e2] at e
    cases e
  · rw [e2] at e
    cases e
    exact ⟨a, b, xs, ob, k, p, v, rfl, rfl, nds_of (g1.h _ _ ha) h1 h2 E3 g1.sub h4, nk, dp, e1, rv, q v G1 H1 g1 rp⟩
/-- the call of itself -/
theorem dex_call {a : Addr} {i : Nat} {es : Ent} {f : PyData → Ent → Option (PyData × Ent)} (he : env[i]? = some (.ox (PNC (AtA a) K w es))) (h : DE K te env o) :
    DEX K (tCall (spX K w f) [] E0 (tCons te (tCons (tVar i) tNil))) env (o.bind fun d => f d es) (fun es => env.set i (.ox (PNC (AtA a) K w es))) := fun G0 H0 G H σ E p e Q q => by
  obtain ⟨d, hd, e⟩ := bnd e
  obtain ⟨b, ob, xs, hs, c0, hb, h1, h2, h3, h4⟩ := own_at E he
  obtain rfl : b = a := c0
  refine h _ _ _ _ _ E d hd _ fun v G1 H1 g1 r1 => ⟨.ref b, hs, ?_⟩
  have E1 := E.more g1
  obtain ⟨hG, _⟩ := E1.own i _ b he rfl hs
  refine ⟨G1, v, b, d, es, _, by rw [List.append_nil], g1.sub, r1, hG, g1.h _ _ hb, ⟨trivial, ob, xs, rfl, h1, h2, h3.mono g1.g, h4⟩, p, e, fun z G' H' o' gx ho pn rz => ?_⟩
  obtain ⟨_, ob', xs', eo, k1, k2, k3, k4⟩ := pn
  exact q z G' H' (E1.putX he rfl hs rfl gx ⟨b, o', rfl, ho, ⟨rfl, ob', xs', eo, k1, k2, k3, k4⟩, fun G1 G2 u => PN.mono b G1 G2 u⟩) (g1.g.trans gx.g) rz
/-- the call with a new dict -/
theorem de_callN {f : PyData → Ent → Option (PyData × Ent)} (h : DE K te env o) : DE K (tCall (spX K w f) [] E0 (tCons te (tCons ND.tNew tNil))) env (o.bind fun d => (f d []).bind fun p => some p.1) := fun G0 H0 G H σ E d e Q q => by
  obtain ⟨x, hx, e⟩ := bnd e
  obtain ⟨p, hp, e⟩ := bnd e
  cases e
  refine h _ _ _ _ _ E x hx _ fun v G1 H1 g1 r1 => ?_
  intro b hb low
  have bG := none_sub g1.sub hb
  have bH : H b = none := none_sub g1.h hb
  refine ⟨G1, v, b, x, [], _, by rw [List.append_nil], g1.sub.trans (same_new hb), r1, bG, upd_same, ⟨trivial, ND.empty, [], rfl, ND.holds_empty, List.nodup_nil, .nil, low⟩, p, hp, fun z G' H' o' gx ho pn rz => ?_⟩
  refine q z G' H' ⟨fun c u hc => ?_, g1.g.trans gx.g, gx.sub, fun c hc gc => ?_⟩ rz
  · have ne : c ≠ b := fun z => by
      rw [z, bH] at hc
      cases hc
    refine gx.h c u ne ?_
    rw [upd_ne ne]
    exact g1.h c u hc
  · obtain ⟨u, hu⟩ := some_ne hc
    have ne : c ≠ b := fun z => hc (z ▸ bH)
    refine gx.new c ?_ (g1.new c hc gc)
    rw [upd_ne ne, g1.h c u hu]
    exact fun z => nomatch z
/-! a for over the pairs of what such a call gives -/
theorem walk_items {G1 H1 : Hp} {v : V} {es : Ent} (s1 : Same G1 H1) (r : Rp K G1 v (.dict es)) (hi : itemsK (.dict es) = some es) : ∃ a o kvs, v = .ref a ∧ H1 a = some (.frz o (.dK kvs)) ∧ WalkD K (Iti a o kvs) (fun G' _ => Same G1 G') (pairsD es) := by
  obtain ⟨a, o, kvs, rfl, ha, hl, r⟩ := rd_dict (i := 0) r (.inl hi)
  have el := rpK_len r
  refine ⟨a, o, kvs, rfl, s1 _ _ ha, ⟨?_, fun i G H p s hi => ⟨s _ _ (p _ _ ha), ?_⟩, fun G H p s => ⟨s _ _ (p _ _ ha), ?_⟩, fun i G H x H' p s hi y => ?_⟩⟩
  · rw [pairsD_eq, List.length_map, ← el]
    exact hl
  · rw [pairsD_eq, List.length_map] at hi
    omega
  · rw [pairsD_eq, List.length_map]
    omega
  · obtain ⟨T, k, z, hk, rfl, hT, rfl⟩ := y
    obtain ⟨j, d, rfl, hd, rd⟩ := rpK_at r hk
    have g := Grow.lay (.tup [kV (.inl j), z]) s hT
    refine ⟨_, .tuple [.int j, d], g, ?_, .tup (SqT.of upd_same) (by show 2 ≤ big; decide) (.cons (.int _) (.cons ((rd.mono p).mono g.g) .nil))⟩
    rw [pairsD_eq, List.getElem?_map, hd]
    rfl
theorem dn_forX {i j : Nat} {st0 : S → List En} {st : T → List En} {oX : Option (PyData × S)} (s0 : S → T) {f : T → PyData → PyData → Option T} (h : DEX K td env oX st0) (h0 : ∀ s, Wk (st0 s) (st (s0 s))) (hb : ∀ s x y, DN K tb (((st s).set i (.dat x)).set j (.dat y)) (f s x y) st) :
    DN K (tFor (iItems td) (gTup K 2 (gCons (gName i) (gCons (gName j) gNil))) tb) env (oX.bind fun p => (itemsK p.1).bind fun es => foldO (fun s => prO (f s)) (pairsD es) (s0 p.2)) st := fun G0 H0 G H σ E fin e D q => by
  obtain ⟨p, hp, e⟩ := bnd e
  obtain ⟨es, hes, e⟩ := bnd e
  refine h _ _ _ _ _ E p hp _ fun v G1 H1 E1 s1 r1 => ?_
  have ed : p.1 = .dict es := by
    have : ∀ x, itemsK x = some es → x = .dict es := fun x hx => by
      unfold itemsK at hx
      split at hx
      · cases hx; rfl
      · cases hx
    exact this _ hes
  rw [ed] at r1 hes
  obtain ⟨a, o, kvs, rfl, ha, wd⟩ := walk_items E1.sub r1 hes
  refine ⟨a, o, kvs, rfl, ha, ?_⟩
  generalize pairsD es = ds at wd e
  refine ⟨fun n m σ H => m = ds.length - n ∧ n ≤ ds.length ∧ ∃ s' G, EnvR K G0 H0 G H σ (st s') ∧ Same G1 G ∧ foldO (fun s => prO (f s)) (ds.drop n) s' = some fin, ⟨_, rfl, Nat.zero_le _, s0 p.2, G1, E1.weak (h0 p.2), Same.refl _, e⟩, ?_⟩
  rintro n m σ2 H2 ⟨rfl, hn, s', G2, E2, s2, hf⟩
  by_cases lt : n < ds.length
  · refine .inr ⟨wd.go n G2 H2 s2 E2.sub lt, fun σ H => n + 1 ≤ ds.length ∧ ∃ s' G, EnvR K G0 H0 G H σ (st s') ∧ Same G1 G ∧ foldO (fun s => prO (f s)) (ds.drop (n + 1)) s' = some fin, fun σ' H' z => ⟨_, by omega, rfl, z⟩, fun x H3 y => ?_⟩
    obtain ⟨G3, d, g3, hd3, r3⟩ := wd.yld n G2 H2 x H3 s2 E2.sub lt y
    rw [List.getElem?_eq_getElem lt] at hd3
    rw [List.drop_eq_getElem_cons lt, Option.some.inj hd3] at hf
    obtain ⟨s3, hs3, hf2⟩ := foldO_cons hf
    obtain ⟨x1, x2, rfl⟩ := prO_of hs3
    exact g_pair (E2.more g3).sub r3 fun va vb ra rb => hb s' x1 x2 _ _ _ _ _ (((E2.more g3).set i ra).set j rb) s3 hs3 _ fun σ4 G4 H4 E4 s4 => ⟨lt, s3, G4, E4, s2.trans (g3.g.trans s4), hf2⟩
  · have en : n = ds.length := by omega
    subst en
    rw [List.drop_length] at hf
    cases (show some s' = some fin from hf)
    exact .inl ⟨wd.stop G2 H2 s2 E2.sub, q σ2 G2 H2 E2 (s1.trans s2)⟩
/-- d[k] = f, f an own dict of ints that is known from here on -/
theorem dn_putFrz {C : Addr → Prop} {i l : Nat} {es fs : Ent} (hil : i ≠ l) (he : env[i]? = some (.ox (PNC C K w es))) (hf : env[l]? = some (.oK fs)) (hy : DE K ty (env.set l (.dat (.dict fs))) oy) :
    DN K (ND.sPut K w (tVar i) ty (tFrz (tVar l))) env (oy.bind fun y => bif tkT y && Nat.blt es.length 90000 then some (putN y (.dict fs) es) else none) (fun es => (env.set l (.dat (.dict fs))).set i (.ox (PNC C K w es))) := fun G0 H0 G H σ E es' e D q => by
  obtain ⟨a, kvs, hs, ha, fz⟩ := E.freezeK hf
  refine ⟨.ref a, hs, a, .dK kvs, rfl, ha, trivial, fun o => ?_⟩
  obtain ⟨G', E', sg⟩ := fz o
  have he' : (env.set l (.dat (.dict fs)))[i]? = some (.ox (PNC C K w es)) := by
    rw [List.getElem?_set_ne (Ne.symm hil)]
    exact he
  have l_lt : l < env.length := (List.getElem?_eq_some_iff.mp hf).1
  have hv : DE K (tVar l) (env.set l (.dat (.dict fs))) (some (.dict fs)) := de_var (List.getElem?_set_self l_lt)
  have base := dn_putN (i := i) (es := es) (w := w) he' hv hy
  -- the value is read from the slot, where it stands now
  obtain ⟨y, ey, e⟩ := bnd e
  have := base _ _ _ _ _ E' es' (by rw [ey]; exact e) D fun σ' G2 H2 E2 s2 => q σ' G2 H2 E2 (sg.trans s2)
  obtain ⟨v2, hv2, rest⟩ := this
  rw [hs] at hv2
  cases hv2
  exact rest
end
end DL

set_option Elab.async false
set_option linter.all false
set_option maxRecDepth 100000
set_option maxHeartbeats 1000000
/-! CF2: counts_from keeps its promise. -/
namespace DL
open PySem PySem.Spec PyProof.Rows L2
open ND (NK NKs Xs entN Holds NDs Known PV ItN)
/-- the counts of one person's call, put into what was found -/
noncomputable def cfPut (fd : Ent) (many rows : PyData) : Option Ent :=
  ((((some many).bind fun x => (some (PyData.int 1)).bind fun y => addI x y).bind fun y => (some (PyData.int 0)).bind fun x => getK fd y x).bind fun x => (some rows).bind fun y => addI x y).bind fun z => ((some many).bind fun x => (some (PyData.int 1)).bind fun y => addI x y).bind fun y => storeO y z fd
noncomputable def cfOne (f : PyData → Ent → Option (PyData × Ent)) (h : PyData) (s : Ent × Ent) (p : PyData) : Option (Ent × Ent) :=
  ((((some h).bind fun x => (some p).bind fun y => m_call_in x y).bind fun d => f d s.2).bind fun p => (itemsK p.1).bind fun es => foldO (fun t => prO fun x y => (cfPut t.1 x y).bind fun e => some (e, t.2)) (pairsD es) (s.1, p.2)).bind fun t => some t
noncomputable def cfAll (f : PyData → Ent → Option (PyData × Ent)) (h : PyData) (kn : Ent) : Option Ent :=
  (some ()).bind fun _ => ((((some h).bind m_movers_in).bind lstO).bind fun ds => foldO (fun s p => cfOne f h s p) ds (([] : Ent), kn)).bind fun s =>
    ((some h).bind fun y => bif tkT y && Nat.blt s.2.length 90000 then some (putN y (.dict s.1) s.2) else none).bind fun e => some e
noncomputable def cfStep (f : PyData → Ent → Option (PyData × Ent)) (h : PyData) (kn : Ent) : Option (PyData × Ent) :=
  ((((some h).bind m_movers_in).bind fun x => ((some []).bind fun r => some (PyData.list r)).bind fun y => eqD x y).bind bO).bind fun b => bif b then
    (((some (PyData.int 0)).bind fun y => (some (PyData.int 1)).bind fun z => (match y with
      | .int i => some (.dict [(.int i, z)])
      | _ => none : Option PyData)).bind fun d => some (d, kn))
  else ((((some h).bind fun y => niN kn y).bind bO).bind fun b => bif b then cfAll f h kn else some kn).bind fun kn => ((some h).bind fun y => bif tkT y then findN y kn else none).bind fun d => some (d, kn)
noncomputable def cf (n : Nat) : PyData → Ent → Option (PyData × Ent) := @Nat.rec (fun _ => PyData → Ent → Option (PyData × Ent)) (fun _ _ => none) (fun _ ih => cfStep ih) n
theorem DX.use {K : PySem.W.Frag} {S : Type} {ts : TS} {env : List En} {o : Option (PyData × S)} {st : S → List En} {G0 H0 G H : Hp} {σ : L2.St} {p : PyData × S} {D : Ends} (E : EnvR K G0 H0 G H σ env) (e : o = some p) (h : DX K ts env o st)
    (q : ∀ v σ' G' H', EnvR K G0 H0 G' H' σ' (st p.2) → Rp K G' v p.1 → D.rt v H') : ts D σ H := h _ _ _ _ _ E p e D q
theorem sc_counts_from : FnScope ["hands", "known", "found", "person", "many", "rows"] ["hands", "known"] (defScope HD.s_counts_from) := ⟨rfl, rfl, rfl, by decide +kernel, rfl, by decide +kernel, by decide +kernel⟩
section
variable {P : Program} {w : World} {K : PySem.W.Frag} {mg : Str → Option Value} {base : Heap}
theorem ok_counts_from (c : Hd K mg) : ∀ n, OkD P w K mg base (30 + n) "counts_from" ["hands", "known"] (spX K w (cf n)) := by
  obtain ⟨fd, F⟩ := c.says.def_ 34 (d := HD.d_counts_from) rfl
  have len : ∀ n, ∀ vs H Q E, spX K w (cf n) vs H Q E → vs.length = 2 := fun n vs H Q E z => by
    obtain ⟨G, v, a, d, es, o, rfl, _⟩ := z
    rfl
  have bnd2 : Binds K fd ["hands", "known"] [] := F.bindsN fun _ _ _ _ _ _ us hl => match us, hl with | [_, _], _ => rfl
  have g : mg "counts_from" = some (.ref (He.ga K "counts_from")) := c.glo _ (c.says.fact 34 rfl)
  have o_movers_in := ok_movers_in (P := P) (w := w) (base := base) c
  have o_call_in := ok_call_in (P := P) (w := w) (base := base) c
  have nd : ((["hands", "known", "found", "person", "many", "rows"] : List Str)).Nodup := sc_counts_from.nd
  intro n
  induction n with
  | zero =>
    refine ⟨fd, F.ok (k := 29) sc_counts_from (len 0) fun cdv A outer s H vs Q E hr z => ?_, bnd2, F.kp, g⟩
    obtain ⟨G, v, a, d, es, o, _, _, _, _, _, _, p, e, _⟩ := z
    cases (show none = some p from e)
  | succ n o_rec =>
    refine ⟨fd, F.ok (k := 30 + n) sc_counts_from (len (n + 1)) fun cdv A outer s H vs Q E hr z => ?_, bnd2, F.kp, g⟩
    have hk4 : ∀ j, j ≤ 30 → Nat.ble j (30 + n) = true := fun j h => by
      rw [Nat.ble_eq]
      omega
    refine ⟨_, PSs.nox (pss_cons (ps_if (pt_cmpR (xo_eqD (K := K) rfl hr.units) (pe_callD o_movers_in hr (hk4 _ (by decide)) rfl (pa_cons (pv 0) pa_nil)) (pe_lst pa_nil) (nomark _)) (pss_one (ps_ret (pe_frz (pe_disp (pps_cons pe_int pe_int pps_nil) rfl rfl (fun z => nomatch z) (by decide))))) pss_nil)
      (pss_cons (ps_if (pt_cmp (ND.pc_notin (K := K) (w := w) rfl rfl hr.units (pv 0) (pv 1)) (by with_unfolding_all rfl))
          (pss_cons (ps_set (i := 2) nd rfl (by first | exact .inl rfl | exact .inr rfl) pe_dnewK rfl (by first | exact .inl rfl | exact .inr rfl))
            (pss_cons (ps_for PassesOwn.never rfl (xi_list (K := K) rfl (pe_callD o_movers_in hr (hk4 _ (by decide)) rfl (pa_cons (pv 0) pa_nil))) (pg_name (i := 3) nd rfl (by first | exact .inl rfl | exact .inr rfl) (by first | exact .inl rfl | exact .inr rfl))
                (pss_one (ps_for PassesOwn.never rfl (pi_items (pe_callD o_rec hr (by simp) rfl (pa_cons (pe_callD o_call_in hr (hk4 _ (by decide)) rfl (pa_cons (pv 0) (pa_cons (pv 3) pa_nil))) (pa_cons (pv 1) pa_nil))))
                  (xg_tup (K := K) (n := 2) rfl rfl (pgs_cons (pg_name (i := 4) nd rfl (by first | exact .inl rfl | exact .inr rfl) (by first | exact .inl rfl | exact .inr rfl)) (pgs_cons (pg_name (i := 5) nd rfl (by first | exact .inl rfl | exact .inr rfl) (by first | exact .inl rfl | exact .inr rfl)) pgs_nil)))
                  (pss_one (ps_dput (hu_of hr) (pv 2) (pe_op op_add (pv 4) pe_int) (pe_op op_add (pe_dget2 (hu_of hr) (pv 2) (pe_op op_add (pv 4) pe_int) pe_int ⟨rfl, rfl, rfl, rfl⟩) (pv 5)) rfl)))))
              (pss_one (ND.ps_put (K := K) (w := w) rfl rfl hr.units (pv 1) (pv 0) (pe_frz (pv 2))))))
          pss_nil)
        (pss_one (ps_ret (ND.pe_sub (K := K) (w := w) rfl rfl hr.units (pv 1) (pv 0) (fun _ _ => rfl)))))), ?_⟩
    obtain ⟨G, v, a, d, es, o, rfl, sG, rv, aG, ha, pn, p, e, q⟩ := z
    obtain ⟨_, ob, xs, eo, k1, k2, k3, k4⟩ := pn
    -- the dict is the caller's: it is left out of the heap as at the entry
    have E0 : EnvR K G (fun b => if b = a then none else H b) G H (L2.start ["hands", "known", "found", "person", "many", "rows"] [v, .ref a]) [.dat d, .ox (PNC (AtA a) K w es), .un, .un, .un, .un] := by
      refine ⟨⟨fun b u z => ?_, Same.refl _, sG, fun b _ h => h⟩, rfl, fun i e h => ?_, fun i e b h ow hb => ?_, fun i j e e' b h ow h' ow' hb hb' => ?_⟩
      · by_cases hba : b = a
        · rw [if_pos hba] at z
          cases z
        · rw [if_neg hba] at z
          exact z
      · match i, h with
        | 0, h => cases h; exact ⟨v, rfl, rv⟩
        | 1, h => cases h; exact ⟨a, o, rfl, ha, ⟨rfl, ob, xs, eo, k1, k2, k3, k4⟩, fun G1 G2 u => PN.mono a G1 G2 u⟩
        | 2, h => cases h; exact True.intro
        | 3, h => cases h; exact True.intro
        | 4, h => cases h; exact True.intro
        | 5, h => cases h; exact True.intro
        | i + 6, h => cases h
      · match i, h with
        | 0, h => cases h; cases ow
        | 1, h =>
          cases h
          cases hb
          exact ⟨aG, if_pos rfl⟩
        | 2, h => cases h; cases ow
        | 3, h => cases h; cases ow
        | 4, h => cases h; cases ow
        | 5, h => cases h; cases ow
        | i + 6, h => cases h
      · have one : ∀ (i : Nat) (e : En), ([.dat d, .ox (PNC (AtA a) K w es), .un, .un, .un, .un] : List En)[i]? = some e → e.isOwn = true → i = 1 := fun i e h ow => by
          match i, h with
          | 0, h => cases h; cases ow
          | 1, h => rfl
          | 2, h => cases h; cases ow
          | 3, h => cases h; cases ow
          | 4, h => cases h; cases ow
          | 5, h => cases h; cases ow
          | i + 6, h => cases h
        rw [one i e h ow, one j e' h' ow']
    refine DX.use (o := cfStep (cf n) d es) (st := fun kn : Ent => [.dat d, .ox (PNC (AtA a) K w kn), .un, .un, .un, .un]) E0 e ?_ fun v' σ' G' H' E' r' => ?_
    · delta cfStep
      generalize cf n = f
      refine dx_ifret (dt_test (de_op v2_eqD (de_call1 (de_var (i := 0) (d := d) rfl)) dnl_nil.de)) (dx_ret es (de_disp1 de_int de_int) (wk_s (wk_s (wk_s (wk_s (wk_s (wk_s wk_0))))))) ?_
      refine dx_seq (S := Ent) (st := fun kn : Ent => [.dat d, .ox (PNC (AtA a) K w kn), .un, .un, .un, .un]) (dn_if (dt_B (de_niN (i := 1) (es := es) rfl (de_var (i := 0) (d := d) rfl))) ?_ (dn_nil es (wk_s (wk_s (wk_s (wk_s (wk_s (wk_s wk_0)))))))) fun kn => dx_ret kn (de_subN (i := 1) (es := kn) rfl (de_var (i := 0) (d := d) rfl)) (wk_s (wk_s (wk_s (wk_s (wk_s (wk_s wk_0))))))
      delta cfAll
      refine dn_seq (dn_newK (i := 2) rfl) fun _ => ?_
      refine dn_seq (dn_for1 (st := fun s : Ent × Ent => [.dat d, .ox (PNC (AtA a) K w s.2), .oK s.1, .un, .un, .un]) (([] : Ent), es) (dw_list (de_call1 (de_var (i := 0) (d := d) rfl))) (wk_s (wk_s (wk_s (wk_u (wk_u (wk_u wk_0)))))) fun s p => ?_) fun s => dn_end (dn_putFrz (i := 1) (l := 2) (es := s.2) (fs := s.1) (by decide) rfl rfl (de_var (i := 0) (d := d) rfl)) (fun e => wk_s (wk_s (wk_u (wk_u (wk_u (wk_u wk_0))))))
      delta cfOne
      refine dn_end (dn_forX (st := fun t : Ent × Ent => [.dat d, .ox (PNC (AtA a) K w t.2), .oK t.1, .dat p, .un, .un]) (st0 := fun kn => [.dat d, .ox (PNC (AtA a) K w kn), .oK s.1, .dat p, .un, .un]) (fun kn => (s.1, kn)) (dex_call (a := a) (i := 1) (es := s.2) rfl (de_call2 (de_var (i := 0) (d := d) rfl) (de_var (i := 3) (d := p) rfl))) (fun kn => wk_s (wk_s (wk_s (wk_s (wk_u (wk_u wk_0)))))) fun t x y => ?_) (fun t => wk_s (wk_s (wk_s (wk_u (wk_u (wk_u wk_0))))))
      delta cfPut
      exact dn_end (dn_putK (i := 2) (es := t.1) rfl (de_op v2_add (de_getK (i := 2) (es := t.1) rfl (de_op v2_add (de_var (i := 4) (d := x) rfl) de_int) de_int) (de_var (i := 5) (d := y) rfl)) (de_op v2_add (de_var (i := 4) (d := x) rfl) de_int)) (fun e => wk_s (wk_s (wk_s (wk_s (wk_u (wk_u wk_0))))))
    obtain ⟨a', ob', xs', hs', c', ha', l1, l2, l3, l4⟩ := own_at (i := 1) (es := p.2) E' rfl
    obtain rfl : a' = a := c'
    obtain ⟨aG', _⟩ := E'.own 1 _ a' rfl rfl hs'
    refine q v' G' H' _ ⟨fun b u ne hb => E'.grow.h b u (by show (if b = a' then none else H b) = some u; rw [if_neg ne]; exact hb), E'.grow.g, E'.sub, fun b hb gb => ?_⟩ ha' ⟨trivial, ob', xs', rfl, l1, l2, l3, l4⟩ r'
    by_cases hba : b = a'
    · rw [hba]
      exact aG'
    · exact E'.grow.new b (by show (if b = a' then none else H b) ≠ none; rw [if_neg hba]; exact hb) gb
end
end DL

set_option Elab.async false
set_option linter.all false
set_option maxRecDepth 100000
set_option maxHeartbeats 1000000
namespace DL
open PySem PySem.Spec PyProof.Rows L2
/-- d.get(k, x) of a known dict of ints -/
noncomputable def getKD : PyData → PyData → PyData → Option PyData
  | .dict es, y, z => (itemsK (.dict es)).bind fun _ => getK es y z
  | _, _, _ => none
theorem de_getKD {K : PySem.W.Frag} {env : List En} {td ty tx : TE} {od oy ox : Option PyData} (ht : DE K td env od) (hy : DE K ty env oy) (hx : DE K tx env ox) : DE K (tDGet2 td ty tx) env (od.bind fun t => oy.bind fun y => ox.bind fun x => getKD t y x) := fun G0 H0 G H σ E d e Q q => by
  obtain ⟨t, et, e⟩ := bnd e
  obtain ⟨y, ey, e⟩ := bnd e
  obtain ⟨z, ez, e⟩ := bnd e
  refine ht _ _ _ _ _ E t et _ fun v0 G1 H1 g1 r0 => ?_
  cases t with
  | dict es =>
    obtain ⟨es', hi, e⟩ := bnd (show (itemsK (.dict es)).bind _ = some d from e)
    have hi2 : itemsK (.dict es) = some es := by
      have h3 := hi
      unfold itemsK at h3
      split at h3
      · rename_i heq
        cases heq
        rfl
      · cases h3
    obtain ⟨a, o, kvs, rfl, ha, hl, r⟩ := rd_dict (i := 0) r0 (.inl hi2)
    refine ⟨a, rfl, .inl ⟨kvs, .inr ⟨o, g1.sub _ _ ha⟩⟩, ?_⟩
    refine hy _ _ _ _ _ (E.more g1) y ey _ fun v1 G2 H2 g2 r1 => ?_
    refine hx _ _ _ _ _ ((E.more g1).more g2) z ez _ fun v2 G3 H3 g3 r2 => ?_
    cases y with
    | int n =>
      cases r1
      have g := g1.trans (g2.trans g3)
      refine ⟨valV kvs (.inl n), .inl ⟨kvs, .inl n, .inr ⟨o, g3.h _ _ (g2.h _ _ (g1.sub _ _ ha))⟩, rfl, rfl⟩, ?_⟩
      have e0 := Option.some.inj (show some (match findI n es with
        | some v => v
        | none => z) = some d from e)
      rcases findI_alt (i := n) r with ⟨e1, e2⟩ | ⟨v, dv, e1, e2, rv⟩
      · rw [e2] at e0
        rw [e1]
        subst e0
        exact q v2 G3 H3 g r2
      · rw [e2] at e0
        rw [e1]
        subst e0
        exact q v G3 H3 g (rv.mono (g2.trans g3).g)
    | _ => cases e
  | _ => cases e
noncomputable def m_row_counts (p_hands : PyData) : Option PyData :=
  ((((some p_hands).bind m_need_hands).bind fun _ => some ()).bind fun s4 => (((some p_hands).bind fun x6 => (cf 10 x6 []).bind fun p7 => some p7.1).bind fun s8 => (((((((((some s8).bind dlistO).bind maxO).bind fun x9 => (some (.int 1)).bind fun y10 => addI x9 y10).bind rng1).bind fun d14 => compL (fun v11 => some true) (fun v11 => ((some s8).bind fun t => (some v11).bind fun y12 => (some (.int 0)).bind fun x13 => getKD t y12 x13)) d14)).bind fun r15 => some (.list r15)).bind tupO)))
theorem sc_row_counts : FnScope ["hands", "found", "many"] ["hands"] (defScope HD.s_row_counts) := ⟨rfl, rfl, rfl, by decide +kernel, rfl, by decide +kernel, by decide +kernel⟩
theorem ok_row_counts {P : Program} {w : World} {K : PySem.W.Frag} {mg : Str → Option Value} {base : Heap} (c : Hd K mg) : OkD P w K mg base 41 "row_counts" ["hands"] (spD K 1 (f1 m_row_counts)) := by
  obtain ⟨fd, F⟩ := c.says.def_ 35 (d := HD.d_row_counts) rfl
  have o_counts_from := ok_counts_from (P := P) (w := w) (base := base) c 10
  have h_list := c.free "list" (c.says.fact 61 rfl)
  have h_max := c.free "max" (c.says.fact 62 rfl)
  have o_need_hands := ok_need_hands (P := P) (w := w) (base := base) c
  have h_range := c.free "range" (c.says.fact 64 rfl)
  have h_tuple := c.free "tuple" (c.says.fact 68 rfl)
  have nd : ((["hands", "found", "many"] : List Str)).Nodup := sc_row_counts.nd
  refine ok_ret (k := 40) (n := 1) (f := f1 m_row_counts) F (c.glo _ (c.says.fact 35 rfl)) sc_row_counts rfl (fun _ _ _ _ _ _ us hl => match us, hl with | [_], _ => rfl) fun cdv A outer s H E hr => ?_
  refine ⟨_, (pss_cons (ps_expr (pe_callD o_need_hands hr rfl rfl (pa_cons (pv 0) pa_nil))) (pss_cons (ps_set (i := 1) nd rfl (by first | exact .inl rfl | exact .inr rfl) (pe_callD o_counts_from hr rfl rfl (pa_cons (pv 0) (pa_cons ND.pe_new pa_nil))) rfl (by first | exact .inl rfl | exact .inr rfl)) (pss_one (ps_ret (pe_callTy (xc_tuple (K := K) rfl) rfl h_tuple (by decide +kernel) (pa_cons (pe_lc rfl nd (pi_range1 rfl h_range (pa_cons (pe_op op_add (pe_callB (xc_max (K := K) rfl rfl) rfl h_max (by decide +kernel) (pa_cons (pe_callTy (cr_listF rfl) rfl h_list (by decide +kernel) (pa_cons (pv 1) pa_nil)) pa_nil)) pe_int) pa_nil)) (own := [("many", 2)]) (blkOk_by (by kernel_rfl)) (fun _ _ _ _ _ => (pg_name (i := 2) nd rfl (by first | exact .inl rfl | exact .inr rfl) (by first | exact .inl rfl | exact .inr rfl))) (fun _ _ _ _ _ => pts_nil) (fun _ _ _ _ _ => (pe_dget2 (hu_of hr) (pv 1) (pv 2) pe_int ⟨rfl, rfl, rfl, rfl⟩))) pa_nil)))))), fun ds hl => ?_⟩
  match ds, hl with
  | [p_hands], _ =>
    show DR K _ [.dat p_hands, .un, .un] (m_row_counts p_hands)
    exact (dr_seq (dn_drop (de_call1 (de_var (i := 0) (d := p_hands) rfl))) (fun s4 => (dr_seq (dn_asg (i := 1) (de_callN (de_var (i := 0) (d := p_hands) rfl))) (fun s8 => (dr_ret (de_cb1 vc_tuple ((dnl_lc rfl ((dw_rng1 (de_op v2_add (de_cb1 vc_max (de_cb1 vc_dlist (de_var (i := 1) (d := s8) rfl))) (de_int (i := 1))))).c (fun v11 => dt_yes) (fun v11 => (de_getKD (de_var (i := 1) (d := s8) rfl) (de_var (i := 2) (d := v11) rfl) (de_int (i := 0)))))).de))))))

end DL

set_option Elab.async false
set_option linter.all false
set_option maxRecDepth 100000
set_option maxHeartbeats 1000000
/-! LT: one draw of the script. -/
namespace DL
open PySem PySem.Spec PyProof.Rows L2
abbrev row4 (l : Addr) (i s c : Int) : HO := .lst [.ref l, .int i, .int s, .int c]
def spTk (K : PySem.W.Frag) : Sp := fun vs H Q _ => ∃ (r l : Addr) (m i s c : Int) (ns : List Int), vs = [.ref r, .int m] ∧ 0 < m ∧ m < 1000 ∧ H r = some (row4 l i s c) ∧ (∀ o, SqL K (upd H r o) l (ns.map V.int)) ∧ 0 ≤ i ∧
  ∀ x i' s' c' : Int, 0 ≤ x → x < m → 0 ≤ i' → Q (.int x) (upd H r (row4 l i' s' c'))
theorem seq_new {K : PySem.W.Frag} {H : Hp} {l r : Addr} {o : HO} {xs : List V} (h : H r = none) (s : SqL K H l xs) : SqL K (upd H r o) l xs := by
  rcases s with s | s
  · refine .inl ?_
    have ne : ∀ u, H l = some u → l ≠ r := fun u e z => by
      rw [z, h] at e
      cases e
    rcases s with s | ⟨o', s⟩
    · exact .inl (by rw [upd_ne (ne _ s)]; exact s)
    · exact .inr ⟨o', by rw [upd_ne (ne _ s)]; exact s⟩
  · exact .inr s
theorem sc_law_taken : FnScope ["_law_row", "_law_many", "_law_found", "_law_cell"] ["_law_row", "_law_many"] (defScope HD.s_law_taken) := ⟨rfl, rfl, rfl, by decide +kernel, rfl, by decide +kernel, by decide +kernel⟩
section
variable {P : Program} {w : World} {K : PySem.W.Frag} {mg : Str → Option Value} {base : Heap}
theorem ok_law_taken (c : Hd K mg) : OkD P w K mg base 1 "_law_taken" ["_law_row", "_law_many"] (spTk K) := by
  obtain ⟨fd, F⟩ := c.says.def_ 51 (d := HD.d_law_taken) rfl
  have h_int := c.free "int" (c.says.fact 58 rfl)
  have h_len := c.free "len" (c.says.fact 60 rfl)
  have nd : ((["_law_row", "_law_many", "_law_found", "_law_cell"] : List Str)).Nodup := sc_law_taken.nd
  refine ⟨fd, F.ok (k := 0) sc_law_taken (fun vs H Q E h => ?_) (fun cdv A outer s H vs Q E hr h => ?_), F.bindsN fun _ _ _ _ _ _ us hl => match us, hl with | [_, _], _ => rfl, F.kp, c.glo _ (c.says.fact 51 rfl)⟩
  · obtain ⟨r, l, m, i, s, cc, ns, rfl, _⟩ := h
    rfl
  obtain ⟨r, l, m, i, sd, cc, ns, rfl, m0, m1, hH, hS, i0, q⟩ := h
  have lm : (ns.map V.int).length = ns.length := List.length_map _
  refine ⟨_, PSs.nox (pss_cons (ps_if (pt_cmpR op_gt (pe_ix (xo_ix (K := K) rfl) (pv 0) pe_int (fun _ _ => rfl)) pe_int (nomark _))
      (pss_cons (ps_set (i := 2) nd rfl (by first | exact .inl rfl | exact .inr rfl) (pe_op op_mod (pe_callTy c_int1 rfl h_int (by decide +kernel) (pa_cons (pe_ix (xo_ix (K := K) rfl) (pv 0) pe_int (fun _ _ => rfl)) pa_nil)) (pv 1)) rfl (by first | exact .inl rfl | exact .inr rfl))
        (pss_cons (ps_asg (pe_op op_fdiv (pe_ix (xo_ix (K := K) rfl) (pv 0) pe_int (fun _ _ => rfl)) (pv 1)) (pg_sub (pv 0) pe_int set_list))
          (pss_one (ps_ret (pv 2))))) pss_nil)
    (pss_cons (ps_asg (pe_op op_add (pe_ix (xo_ix (K := K) rfl) (pv 0) pe_int (fun _ _ => rfl)) pe_int) (pg_sub (pv 0) pe_int set_list))
    (pss_cons (ps_if (pt_cmpR op_gt (pe_ix (xo_ix (K := K) rfl) (pv 0) pe_int (fun _ _ => rfl)) (pe_callB (xc_len (K := K) rfl) rfl h_len (by decide +kernel) (pa_cons (pe_ix (xo_ix (K := K) rfl) (pv 0) pe_int (fun _ _ => rfl)) pa_nil)) (nomark _))
      (pss_cons (ps_asg (pe_op op_mod (pe_callTy c_int1 rfl h_int (by decide +kernel) (pa_cons (pe_op op_add (pe_op op_mul (pe_ix (xo_ix (K := K) rfl) (pv 0) pe_int (fun _ _ => rfl)) pe_int) pe_int) pa_nil)) pe_int) (pg_sub (pv 0) pe_int set_list))
        (pss_one (ps_ret (pe_op op_mod (pe_callTy c_int1 rfl h_int (by decide +kernel) (pa_cons (pe_op op_fdiv (pe_ix (xo_ix (K := K) rfl) (pv 0) pe_int (fun _ _ => rfl)) pe_int) pa_nil)) (pv 1))))) pss_nil)
    (pss_cons (ps_set (i := 3) nd rfl (by first | exact .inl rfl | exact .inr rfl) (pe_ix (xo_ix (K := K) rfl) (pe_ix (xo_ix (K := K) rfl) (pv 0) pe_int (fun _ _ => rfl)) (pe_op op_sub (pe_ix (xo_ix (K := K) rfl) (pv 0) pe_int (fun _ _ => rfl)) pe_int) (fun _ _ => rfl)) rfl (by first | exact .inl rfl | exact .inr rfl))
    (pss_cons (ps_asg (pe_op op_mod (pe_callTy c_int1 rfl h_int (by decide +kernel) (pa_cons (pe_op op_add (pe_op op_add (pe_op op_mul (pe_ix (xo_ix (K := K) rfl) (pv 0) pe_int (fun _ _ => rfl)) pe_int) (pv 3)) pe_int) pa_nil)) pe_int) (pg_sub (pv 0) pe_int set_list))
    (pss_cons (ps_if (pt_cmpR op_ge (pv 3) (pe_op op_pow pe_int pe_int) (nomark _))
      (pss_one (ps_asg (pe_op op_fdiv (pv 3) (pv 1)) (pg_sub (pv 0) pe_int set_list))) pss_nil)
    (pss_one (ps_ret (pe_op op_mod (pe_callTy c_int1 rfl h_int (by decide +kernel) (pa_cons (pv 3) pa_nil)) (pv 1)))))))))), ?_⟩
  have e0 : ∀ x : Int, 0 ≤ x % m := fun x => Int.emod_nonneg x (by omega)
  have e1 : ∀ x : Int, x % m < m := fun x => Int.emod_lt_of_pos x m0
  have md : CDiv cc m := ⟨m0, by omega⟩
  refine ⟨_, rfl, .inl ⟨r, _, 3, _, rfl, rfl, .inl (.inl hH), rfl, cc, 0, rfl, rfl, _, rfl, ?_⟩⟩
  refine ite2 (fun b => ?_) (fun b => ?_)
  · refine ⟨_, rfl, .inl ⟨r, _, 3, _, rfl, rfl, .inl (.inl hH), rfl, .inl ⟨cc, rfl, _, rfl, cc, m, rfl, rfl, m0, ?_⟩⟩⟩
    refine ⟨_, rfl, .inl ⟨r, _, 3, _, rfl, rfl, .inl (.inl hH), rfl, _, rfl, cc, m, rfl, rfl, md, ?_⟩⟩
    refine ⟨_, rfl, r, _, 3, 3, rfl, rfl, hH, rfl, _, rfl, ?_⟩
    exact q _ i sd _ (e0 _) (e1 _) i0
  · refine ⟨_, rfl, .inl ⟨r, _, 1, _, rfl, rfl, .inl (.inl hH), rfl, i, 1, rfl, rfl, ?_⟩⟩
    refine ⟨_, rfl, r, _, 1, 1, rfl, rfl, hH, rfl, ?_⟩
    have h2 : upd H r (row4 l (i + 1) sd cc) r = some (row4 l (i + 1) sd cc) := upd_same
    have S2 := hS (row4 l (i + 1) sd cc)
    refine ⟨_, rfl, .inl ⟨r, _, 1, _, rfl, rfl, .inl (.inl h2), rfl, _, rfl, .inl ⟨r, _, 0, _, rfl, rfl, .inl (.inl h2), rfl, l, _, rfl, .inl S2, i + 1, _, rfl, rfl, _, rfl, ?_⟩⟩⟩
    refine ite2 (fun b2 => ?_) (fun b2 => ?_)
    · refine ⟨_, rfl, .inl ⟨r, _, 2, _, rfl, rfl, .inl (.inl h2), rfl, sd, 48271, rfl, rfl, .inr (by decide), _, 11, rfl, rfl, .inl ⟨_, rfl, _, 2147483647, rfl, rfl, (show (0 : Int) < 2147483647 by decide), ?_⟩⟩⟩
      refine ⟨_, rfl, r, _, 2, 2, rfl, rfl, h2, rfl, ?_⟩
      rw [upd_upd]
      refine ⟨_, rfl, .inl ⟨r, _, 2, _, rfl, rfl, .inl (.inl upd_same), rfl, _, 7, rfl, rfl, ⟨by decide, by decide⟩, .inl ⟨_, rfl, _, rfl, _, m, rfl, rfl, m0, ?_⟩⟩⟩
      exact q _ (i + 1) _ cc (e0 _) (e1 _) (by omega)
    · have b3 : i + 1 ≤ (((ns.map V.int).length : Nat) : Int) := by
        have b4 := of_decide_eq_false (Bool.eq_false_iff.mpr b2)
        omega
      rw [lm] at b3
      have at_ : atI (ns.map V.int) (i + 1 - 1) = some (V.int (cellOf ns i.toNat)) := by
        have e9 : i + 1 - 1 = ((i.toNat : Nat) : Int) := by omega
        rw [e9]
        exact atI_cell (by omega)
      generalize cellOf ns i.toNat = cell at at_
      refine ⟨_, rfl, .inl ⟨r, _, 0, _, rfl, rfl, .inl (.inl h2), rfl, _, rfl, .inl ⟨r, _, 1, _, rfl, rfl, .inl (.inl h2), rfl, i + 1, 1, rfl, rfl, .inl ⟨l, _, _, _, rfl, rfl, S2, at_, ?_⟩⟩⟩⟩
      refine ⟨_, rfl, .inl ⟨r, _, 2, _, rfl, rfl, .inl (.inl h2), rfl, sd, 48271, rfl, rfl, .inr (by decide), _, rfl, _, cell, rfl, rfl, _, 11, rfl, rfl, .inl ⟨_, rfl, _, 2147483647, rfl, rfl, (show (0 : Int) < 2147483647 by decide), ?_⟩⟩⟩
      refine ⟨_, rfl, r, _, 2, 2, rfl, rfl, h2, rfl, ?_⟩
      rw [upd_upd]
      refine ⟨_, rfl, 10, 18, rfl, rfl, ⟨by decide, by decide, by decide⟩, cell, _, rfl, rfl, _, rfl, ?_⟩
      refine ite2 (fun b5 => ?_) (fun b5 => ?_)
      · refine ⟨_, rfl, _, rfl, cell, m, rfl, rfl, ⟨m0, by omega⟩, _, rfl, r, _, 3, 3, rfl, rfl, upd_same, rfl, ?_⟩
        rw [upd_upd]
        refine ⟨_, rfl, .inl ⟨_, rfl, _, rfl, cell, m, rfl, rfl, m0, ?_⟩⟩
        exact q _ (i + 1) _ _ (e0 _) (e1 _) (by omega)
      · refine ⟨_, rfl, .inl ⟨_, rfl, _, rfl, cell, m, rfl, rfl, m0, ?_⟩⟩
        exact q _ (i + 1) _ cc (e0 _) (e1 _) (by omega)
end
end DL

set_option Elab.async false
set_option linter.all false
set_option maxRecDepth 100000
set_option maxHeartbeats 1000000
/-! LX: rules that the law's own text needs. -/
namespace DL
open PySem PySem.Spec PyProof.Rows L2
section
variable {K : PySem.W.Frag} {G : Hp} {env : List En} {ta tb te tm tv ty : TE} {oa ob om ov oy : Option PyData} {ow ow2 : Option (List PyData)}
noncomputable def trngO : PyData → Option PyData
  | .int (.ofNat n) => bif Nat.ble n 1000 then some (.tuple (rngD 0 n)) else none
  | _ => none
theorem de_tupRg (h : DE K ta env oa) : DE K (tTupRg (tRg1 ta)) env (oa.bind trngO) := fun G0 H0 G H σ E d e Q q => by
  obtain ⟨x, hx, e⟩ := bnd e
  refine h _ _ _ _ _ E x hx _ fun v G1 H1 g1 r1 => ?_
  cases x with
  | int i =>
    cases i with
    | ofNat n =>
      obtain ⟨c, e⟩ := cnd (show (bif Nat.ble n 1000 then some (PyData.tuple (rngD 0 n)) else none) = some d from e)
      have hn : n ≤ 1000 := Nat.le_of_ble_eq_true c
      cases r1
      refine ⟨Int.ofNat n, rfl, RgOk.of_le (by omega) (by simp only [Int.ofNat_eq_natCast]; omega) (by omega) (by simp only [Int.ofNat_eq_natCast]; omega), fun p hp => ?_⟩
      have e1 : rgV 0 (Int.ofNat n) = ((List.range n).map fun i => (0 : Int) + (i : Nat)).map V.int := by
        unfold rgV
        rw [List.map_map]
        have : (Int.ofNat n - 0).toNat = n := by simp
        rw [this]
        rfl
      rw [e1]
      refine new_tup g1.sub hp ?_ ?_ e.symm fun v G2 H2 g2 r2 => q v G2 H2 (g1.trans g2) r2
      · rw [rngD_map]
        exact RpA.ints _
      · rw [List.length_map, List.length_map, List.length_range]
        exact Nat.le_trans hn (by decide)
    | negSucc n => cases e
  | _ => cases e
/-! [x] * n -/
theorem rpA_rep {vs : List V} {ds : List PyData} (r : RpA K G vs ds) : ∀ n : Nat, RpA K G (List.replicate n vs).flatten (List.replicate n ds).flatten
  | 0 => .nil
  | n + 1 => r.app (rpA_rep r n)
theorem len_rep {α : Type} (vs : List α) : ∀ n : Nat, (List.replicate n vs).flatten.length = n * vs.length
  | 0 => by simp
  | n + 1 => by
    show (vs ++ (List.replicate n vs).flatten).length = _
    rw [List.length_append, len_rep vs n, Nat.succ_mul, Nat.add_comm]
noncomputable def repO (ds : List PyData) : PyData → Option (List PyData)
  | .int (.ofNat n) => bif Nat.ble ds.length 1 && Nat.ble n 1000 then some (List.replicate n ds).flatten else none
  | _ => none
theorem dnl_rep (h : DNl K te env ow) (hm : DE K tm env om) : DNl K (tOp rRep te tm) env (ow.bind fun ds => om.bind fun m => repO ds m) := fun G0 H0 G H σ E ds' e Q q => by
  obtain ⟨ds, hd, e⟩ := bnd e
  obtain ⟨m, hx, e⟩ := bnd e
  refine h _ _ _ _ _ E ds hd _ fun D vs G1 H1 g1 hD hG hH hl r => ?_
  refine hm _ _ _ _ _ (E.more g1) m hx _ fun v G2 H2 g2 r2 => ?_
  cases m with
  | int i =>
    cases i with
    | ofNat n =>
      obtain ⟨c, e⟩ := cnd (show (bif Nat.ble ds.length 1 && Nat.ble n 1000 then some (List.replicate n ds).flatten else none) = some ds' from e)
      subst e
      rw [Bool.and_eq_true] at c
      have h1 : ds.length ≤ 1 := Nat.le_of_ble_eq_true c.1
      have hn : n ≤ 1000 := Nat.le_of_ble_eq_true c.2
      have lv := r.len
      have h3 : n * vs.length ≤ 1000 := by
        have h4 : n * vs.length ≤ n * 1 := Nat.mul_le_mul_left n (by omega)
        omega
      have h5 : vs.length * n ≤ 1000 := by rw [Nat.mul_comm]; exact h3
      cases r2
      refine ⟨D, Int.ofNat n, vs, rfl, rfl, g2.h _ _ hH, ?_, ?_, ?_, fun p hp => ?_⟩
      · simp only [Int.ofNat_eq_natCast]; omega
      · simp only [Int.ofNat_eq_natCast]; omega
      · exact Nat.le_trans h5 (by decide)
      · have g := g1.trans g2
        have hp0 := none_sub g.h hp
        refine q p _ G2 _ (g.put _ hp0 (none_sub g.sub hp)) hp0 (none_sub g.sub hp) upd_same ?_ (rpA_rep (r.mono g2.g) n)
        show (List.replicate n vs).flatten.length ≤ big
        rw [len_rep]
        exact Nat.le_trans h3 (by decide)
    | negSucc n => cases e
  | _ => cases e
/-! xs[i] = v of an own list -/
theorem rpA_set {v : V} {d : PyData} (rv : Rp K G v d) : ∀ {vs : List V} {ds : List PyData} (j : Nat), RpA K G vs ds → RpA K G (vs.set j v) (ds.set j d)
  | _, _, _, .nil => .nil
  | _, _, 0, .cons r t => .cons rv t
  | _, _, j + 1, .cons r t => .cons r (rpA_set rv j t)
noncomputable def setO (ds : List PyData) : PyData → PyData → Option (List PyData)
  | .int (.ofNat k), z => bif Nat.blt k ds.length then some (ds.set k z) else none
  | _, _ => none
theorem dn_set {i : Nat} {ds : List PyData} (he : env[i]? = some (.own ds)) (hv : DE K tv env ov) (hy : DE K ty env oy) :
    DN K (tAsg tv (gSub (tVar i) ty rSetL)) env (ov.bind fun z => oy.bind fun y => setO ds y z) (fun ds => env.set i (.own ds)) := fun G0 H0 G H σ E ds' e D q => by
  obtain ⟨z, ez, e⟩ := bnd e
  obtain ⟨y, ey, e⟩ := bnd e
  obtain ⟨a, vs, hs, ha, hl, r⟩ := E.at_ i _ he
  refine hv _ _ _ _ _ E z ez _ fun v1 G1 H1 g1 r1 => ⟨.ref a, hs, ?_⟩
  refine hy _ _ _ _ _ (E.more g1) y ey _ fun v2 G2 H2 g2 r2 => ?_
  have g := g1.trans g2
  cases y with
  | int n =>
    cases n with
    | ofNat k =>
      obtain ⟨c, e⟩ := cnd (show (bif Nat.blt k ds.length then some (ds.set k z) else none) = some ds' from e)
      subst e
      rw [Nat.blt_eq] at c
      cases r2
      have lv := r.len
      have hi : ixN vs.length (Int.ofNat k) = some k := by
        unfold ixN
        simp only [Int.ofNat_eq_natCast]
        rw [if_pos (by omega), if_pos (by omega)]
        rfl
      refine ⟨a, vs, _, k, rfl, rfl, g.h _ _ ha, hi, ?_⟩
      exact q σ G2 _ (((E.more g1).more g2).put he rfl hs (e' := .own (ds.set k z)) rfl ⟨a, _, rfl, upd_same, by rw [List.length_set]; exact hl, rpA_set (r1.mono g2.g) k (r.mono g.g)⟩) g.g
    | negSucc n => cases e
  | _ => cases e
/-! xs[-k], xs[:-1] -/
noncomputable def ixNO : PyData → PyData → Option PyData
  | x, .int (.negSucc k) => (itemsO x).bind fun ds => bif Nat.blt k ds.length then ds[ds.length - (k + 1)]? else none
  | _, _ => none
theorem v2_ixN : V2 K (rIx K) ixNO := fun G H x y dx dy d s rx ry e Q q => by
  cases ry with
  | int i =>
    cases i with
    | negSucc k =>
      obtain ⟨ds, hd, e⟩ := bnd (show (itemsO dx).bind _ = some d from e)
      cases c : Nat.blt k ds.length with
      | false =>
        rw [c] at e
        cases e
      | true =>
        rw [c] at e
        rw [Nat.blt_eq] at c
        obtain ⟨a, vs, rfl, hs, hl, r⟩ := items_rp rx hd
        have lv := r.len
        obtain ⟨v, hv, rv⟩ := r.at e
        have e2 : atI vs (Int.negSucc k) = some v := by
          have h0 : ixN vs.length (Int.negSucc k) = some (ds.length - (k + 1)) := by
            unfold ixN
            rw [if_neg (by omega), if_pos (by omega)]
            congr 1
            omega
          unfold atI
          rw [h0]
          exact hv
        have f := q v G H (Grow.rfl' s) rv
        rcases hs with hs | hs
        · exact .inl ⟨a, vs, Int.negSucc k, v, rfl, rfl, sameL s hs, e2, f⟩
        · exact .inr (.inl ⟨a, vs, Int.negSucc k, v, rfl, rfl, sameT s hs, e2, f⟩)
    | ofNat k => cases dx <;> cases e
  | _ => cases dx <;> cases e
noncomputable def dropO : PyData → PyData → Option (List PyData)
  | .list ds, .int (.negSucc 0) => some (ds.take (ds.length - 1))
  | _, _ => none
theorem cut_last {vs : List V} : cutV vs none (some (Int.negSucc 0)) = vs.take (vs.length - 1) := by
  have e : HT.sIx vs.length vs.length (some (Int.negSucc 0)) = vs.length - 1 := by
    show (if Int.negSucc 0 < 0 then (Int.negSucc 0 + (vs.length : Int)).toNat else min (Int.negSucc 0).toNat vs.length) = vs.length - 1
    rw [if_pos (by omega)]
    omega
  unfold cutV
  rw [e, HT.sIx_none, List.drop_zero, Nat.sub_zero]
theorem dnl_upL (ha : DE K ta env oa) (hb : DE K tb env ob) : DNl K (tSl (rSlL K) ta tNoPart (tPart tb)) env (oa.bind fun x => ob.bind fun y => dropO x y) := fun G0 H0 G H σ E ds' e Q q => by
  obtain ⟨x, hx, e⟩ := bnd e
  obtain ⟨y, hy, e⟩ := bnd e
  refine ha _ _ _ _ _ E x hx _ fun v G1 H1 g1 r1 => ?_
  refine hb _ _ _ _ _ (E.more g1) y hy _ fun w G2 H2 g2 r2 => ?_
  have g := g1.trans g2
  cases x with
  | list ds =>
    cases y with
    | int i =>
      cases i with
      | ofNat k => cases e
      | negSucc k =>
        cases k with
        | succ k => cases e
        | zero =>
          cases e
          cases r2
          obtain ⟨a, vs, rfl, hs, hl, r⟩ := rp_list (r1.mono g2.g)
          refine ⟨Int.negSucc 0, rfl, a, vs, rfl, sameL g2.sub hs, fun p hp => ?_⟩
          have hp0 := none_sub g.h hp
          rw [cut_last]
          refine q p _ G2 _ (g.put _ hp0 (none_sub g.sub hp)) hp0 (none_sub g.sub hp) upd_same ?_ ?_
          · rw [List.length_take]; omega
          · rw [r.len]; exact r.take _
    | _ => cases e
  | _ => cases e
theorem xo_slL {X : Cx} (hK : X.K = K) : SlR X (rSlL K) := hK ▸ sl_list
/-! xs + ys, both new -/
theorem dnl_cat {t1 t2 : TE} (h1 : DNl K t1 env ow) (h2 : DNl K t2 env ow2) : DNl K (tOp rCat t1 t2) env (ow.bind fun xs => ow2.bind fun ys => bif smallO (xs ++ ys) then some (xs ++ ys) else none) := fun G0 H0 G H σ E ds' e Q q => by
  obtain ⟨xs, hx, e⟩ := bnd e
  obtain ⟨ys, hy, e⟩ := bnd e
  obtain ⟨c, e⟩ := cnd e
  subst e
  have hz := small_of c
  refine h1 _ _ _ _ _ E xs hx _ fun D vs G1 H1 g1 hD hG hH hl r => ?_
  refine h2 _ _ _ _ _ (E.more g1) ys hy _ fun D2 ws G2 H2 g2 hD2 hG2 hH2 hl2 r2 => ?_
  have g := g1.trans g2
  have rr := (r.mono g2.g).app r2
  have hb : (vs ++ ws).length ≤ big := by rw [rr.len]; exact hz
  refine ⟨D, D2, vs, ws, rfl, rfl, g2.h _ _ hH, hH2, by rw [← List.length_append]; exact big_line hb, fun p hp => ?_⟩
  have hp0 := none_sub g.h hp
  exact q p _ G2 _ (g.put _ hp0 (none_sub g.sub hp)) hp0 (none_sub g.sub hp) upd_same hb rr
end
end DL

set_option Elab.async false
set_option linter.all false
set_option maxRecDepth 100000
set_option maxHeartbeats 1000000
/-! LW: the law's own text. -/
namespace DL
open PySem PySem.Spec PyProof.Rows L2
noncomputable def m_law_rest (p_many p_hub : PyData) : Option PyData :=
  ((((((some p_many).bind rng1).bind fun d4 => compL (fun v1 => (((some v1).bind fun x2 => (some p_hub).bind fun y3 => neI x2 y3).bind bO)) (fun v1 => (some v1)) d4)).bind fun r5 => some (.list r5)).bind fun s6 => ((((((some []).bind fun d9 => bif smallO d9 then some (.tuple d9) else none).bind fun x7 => (some []).bind fun r8 => some (x7 :: r8)).bind fun d10 => bif smallO d10 then some d10 else none).bind fun d12 => (some p_many).bind fun y13 => repO d12 y13).bind fun s15 => (((((some p_many).bind fun x16 => (some (.int 1)).bind fun y17 => subI x16 y17).bind trngO).bind fun z19 => (some p_hub).bind fun y18 => setO s15 y18 z19).bind fun s20 => (((((some p_many).bind fun x21 => (some (.int 1)).bind fun y22 => subI x21 y22).bind rng1).bind fun d33 => foldO (fun s23 v24 => (((((some v24).bind fun x27 => (some []).bind fun r28 => some (x27 :: r28)).bind fun d29 => bif smallO d29 then some (.tuple d29) else none).bind fun z31 => ((some s6).bind fun x25 => (some v24).bind fun y26 => ixO x25 y26).bind fun y30 => setO s23 y30 z31).bind fun s32 => some s32)) d33 s20).bind fun s34 => ((((some (.list s34)).bind tupO).bind fun x36 => (some (.int 1)).bind fun y37 => some (x36, y37)).bind fun s35 => (((((some p_many).bind fun x38 => (some (.int 1)).bind fun y39 => subI x38 y39).bind rng1).bind fun d45 => foldO (fun s40 v41 => (((some (.int 2)).bind fun x42 => (some s40).bind fun y43 => mulI x42 y43).bind fun s44 => some s44)) d45 s35.2).bind fun s46 => ((((((some s35.1).bind m_count_ends).bind fun x50 => (some s46).bind fun y51 => neI x50 y51).bind bO).bind fun b70 => bif b70 then some true else (((((some s35.1).bind m_calls_to_end).bind fun x55 => (some (.int 1)).bind fun y56 => neI x55 y56).bind bO).bind fun b69 => bif b69 then some true else ((((some s35.1).bind m_least_covers).bind fun x67 => (((((((some p_hub).bind fun x62 => (some []).bind fun r63 => some (x62 :: r63)).bind fun d64 => bif smallO d64 then some (.tuple d64) else none).bind fun x60 => (some []).bind fun r61 => some (x60 :: r61)).bind fun d65 => bif smallO d65 then some d65 else none)).bind fun r66 => some (.list r66)).bind fun y68 => neD x67 y68).bind bO))).bind fun b278 => bif b278 then (some (.bool false)) else ((((((some s35.1).bind m_must_call).bind fun x77 => (((some p_hub).bind fun x74 => (some []).bind fun r75 => some (x74 :: r75)).bind fun d76 => bif smallO d76 then some (.tuple d76) else none).bind fun y78 => neD x77 y78).bind bO).bind fun b87 => bif b87 then some true else ((((some s35.1).bind m_way_to_end).bind fun x85 => (((some p_hub).bind fun x82 => (some []).bind fun r83 => some (x82 :: r83)).bind fun d84 => bif smallO d84 then some (.tuple d84) else none).bind fun y86 => neD x85 y86).bind bO)).bind fun b277 => bif b277 then (some (.bool false)) else ((((((some s35.1).bind m_tight_covers).bind fun x100 => ((((((((some p_hub).bind fun x95 => (some []).bind fun r96 => some (x95 :: r96)).bind fun d97 => bif smallO d97 then some (.tuple d97) else none).bind fun x93 => (((some s6).bind tupO).bind fun x91 => (some []).bind fun r92 => some (x91 :: r92)).bind fun r94 => some (x93 :: r94)).bind fun d98 => bif smallO d98 then some d98 else none)).bind fun r99 => some (.list r99)).bind (sortO 1)).bind fun y101 => neD x100 y101).bind bO).bind fun b109 => bif b109 then some true else ((((some s35.1).bind m_most_calls).bind fun x107 => ((some p_many).bind fun x105 => (some (.int 1)).bind fun y106 => subI x105 y106).bind fun y108 => neI x107 y108).bind bO)).bind fun b276 => bif b276 then (some (.bool false)) else (((((some s35.1).bind m_most_linked).bind fun x120 => ((((some p_many).bind fun x117 => (some (.int 1)).bind fun y118 => subI x117 y118).bind fun x115 => ((some p_hub).bind fun x113 => (some []).bind fun r114 => some (x113 :: r114)).bind fun r116 => some (x115 :: r116)).bind fun d119 => bif smallO d119 then some (.tuple d119) else none).bind fun y121 => neD x120 y121).bind bO).bind fun b275 => bif b275 then (some (.bool false)) else ((((((some s35.1).bind m_splitters).bind fun x128 => (((some p_hub).bind fun x125 => (some []).bind fun r126 => some (x125 :: r126)).bind fun d127 => bif smallO d127 then some (.tuple d127) else none).bind fun y129 => neD x128 y129).bind bO).bind fun b138 => bif b138 then some true else ((((some s35.1).bind fun x134 => (some p_hub).bind fun x135 => m_neighbours x134 x135).bind fun x136 => ((some s6).bind tupO).bind fun y137 => neD x136 y137).bind bO)).bind fun b274 => bif b274 then (some (.bool false)) else ((((((some s35.1).bind m_fewest_rounds).bind fun x142 => (some (.int 1)).bind fun y143 => neI x142 y143).bind bO).bind fun b158 => bif b158 then some true else ((((some s35.1).bind m_one_round).bind fun x156 => ((((((((some p_hub).bind fun x151 => (some []).bind fun r152 => some (x151 :: r152)).bind fun d153 => bif smallO d153 then some (.tuple d153) else none).bind fun x149 => (((some s6).bind tupO).bind fun x147 => (some []).bind fun r148 => some (x147 :: r148)).bind fun r150 => some (x149 :: r150)).bind fun d154 => bif smallO d154 then some d154 else none)).bind fun r155 => some (.list r155)).bind (sortO 1)).bind fun y157 => neD x156 y157).bind bO)).bind fun b273 => bif b273 then (some (.bool false)) else (((((((some p_many).bind rng1).bind fun d163 => compL (fun v159 => some true) (fun v159 => ((((some v159).bind fun x160 => (some p_hub).bind fun y161 => neI x160 y161).bind bO).bind fun b162 => bif b162 then (some (.int 1)) else (some p_many))) d163)).bind fun r164 => some (.list r164)).bind tupO).bind fun s165 => (((((some s35.1).bind fun x170 => (some s165).bind fun x171 => m_cheapest_cover x170 x171).bind fun x179 => ((((some p_many).bind fun x176 => (some (.int 1)).bind fun y177 => subI x176 y177).bind fun x174 => (((some s6).bind tupO).bind fun x172 => (some []).bind fun r173 => some (x172 :: r173)).bind fun r175 => some (x174 :: r175)).bind fun d178 => bif smallO d178 then some (.tuple d178) else none).bind fun y180 => neD x179 y180).bind bO).bind fun b272 => bif b272 then (some (.bool false)) else ((((((some s35.1).bind fun x185 => (some p_hub).bind fun x186 => m_all_chance x185 x186).bind fun x192 => (((some (.int 1)).bind fun x189 => ((some p_many).bind fun x187 => (some []).bind fun r188 => some (x187 :: r188)).bind fun r190 => some (x189 :: r190)).bind fun d191 => bif smallO d191 then some (.tuple d191) else none).bind fun y193 => neD x192 y193).bind bO).bind fun b207 => bif b207 then some true else ((((some s35.1).bind fun x198 => (some p_hub).bind fun x199 => m_empty_chance x198 x199).bind fun x205 => (((some (.int 1)).bind fun x202 => ((some p_many).bind fun x200 => (some []).bind fun r201 => some (x200 :: r201)).bind fun r203 => some (x202 :: r203)).bind fun d204 => bif smallO d204 then some (.tuple d204) else none).bind fun y206 => neD x205 y206).bind bO)).bind fun b271 => bif b271 then (some (.bool false)) else (((((some s35.1).bind fun x216 => ((some s6).bind fun x214 => (some (.int 0)).bind fun y215 => ixO x214 y215).bind fun x217 => m_all_chance x216 x217).bind fun x223 => (((some (.int 1)).bind fun x220 => ((some (.int 2)).bind fun x218 => (some []).bind fun r219 => some (x218 :: r219)).bind fun r221 => some (x220 :: r221)).bind fun d222 => bif smallO d222 then some (.tuple d222) else none).bind fun y224 => neD x223 y224).bind bO).bind fun b270 => bif b270 then (some (.bool false)) else (((((some (.int 0)).bind fun x226 => (some []).bind fun r227 => some (x226 :: r227)).bind fun d228 => bif smallO d228 then some d228 else none).bind fun x230 => (some (.int 1)).bind fun y231 => some (x230, y231)).bind fun s225 => (((((some p_many).bind fun x232 => (some (.int 1)).bind fun y233 => subI x232 y233).bind rng1).bind fun d245 => foldO (fun s234 v235 => (((some s234.2).bind fun d237 => bif Nat.blt (s234.1).length 100000 then some (s234.1 ++ [d237]) else none).bind fun s236 => (((some s234.2).bind fun x242 => (((some p_many).bind fun x238 => (some (.int 1)).bind fun y239 => subI x238 y239).bind fun x240 => (some v235).bind fun y241 => subI x240 y241).bind fun y243 => mulI x242 y243).bind fun s244 => some (s236, s244)))) d245 (s225.1, s225.2)).bind fun s246 => ((((some s35.1).bind m_row_counts).bind fun x264 => ((((((some (.list s246.1)).bind fun x250 => ((some (.int 1)).bind negI).bind fun y251 => dropO x250 y251).bind fun d261 => (((((some (.list s246.1)).bind fun x255 => ((some (.int 1)).bind negI).bind fun y256 => ixNO x255 y256).bind fun x257 => (some s246.2).bind fun y258 => addI x257 y258).bind fun x253 => (some []).bind fun r254 => some (x253 :: r254)).bind fun d259 => bif smallO d259 then some d259 else none).bind fun d262 => bif smallO (d261 ++ d262) then some (d261 ++ d262) else none)).bind fun r263 => some (.list r263)).bind tupO).bind fun y265 => eqD x264 y265).bind fun x268 => (bO x268).bind fun b269 => bif b269 then (((some (.list s246.1)).bind sumO).bind fun x266 => (some (.int 0)).bind fun y267 => gtI x266 y267) else some (.bool false))))))))))))))))))))
theorem sc_law : FnScope ["_law_script", "_law_row", "_law_many", "_law_hub", "_law_others", "_law_person", "_law_hands", "_law_at", "_law_power", "_law_number", "_law_weights", "_law_counts", "_law_fall"] ["_law_script"] (defScope HD.s_law) := ⟨rfl, rfl, rfl, by decide +kernel, rfl, by decide +kernel, by decide +kernel⟩
def spLaw (K : PySem.W.Frag) : Sp := fun vs H Q _ => ∃ (a : Addr) (ns : List Int), vs = [.ref a] ∧ SqL K H a (ns.map V.int) ∧ ∀ H', Q (.bl true) H'
theorem env_plain {env : List En} (h : (env.all fun e => !e.isOwn) = true) {i : Nat} {e : En} (he : env[i]? = some e) (ow : e.isOwn = true) : False := by
  have h2 := List.all_eq_true.mp h e (List.mem_of_getElem? he)
  rw [ow] at h2
  cases h2
theorem DR.use {K : PySem.W.Frag} {ts : TS} {env : List En} {o : Option PyData} {G0 H0 G H : Hp} {σ : L2.St} {d : PyData} {D : Ends} (E : EnvR K G0 H0 G H σ env) (e : o = some d) (h : DR K ts env o)
    (q : ∀ v G' H', Rp K G' v d → D.rt v H') : ts D σ H := h _ _ _ _ _ E d e D fun v G' H' g r => q v G' H' r
end DL

set_option Elab.async false
set_option linter.all false
set_option maxRecDepth 100000
set_option maxHeartbeats 1000000
/-! LW3: the law's own def. -/
namespace DL
open PySem PySem.Spec PyProof.Rows L2
theorem ok_lawF {P : Program} {w : World} {K : PySem.W.Frag} {mg : Str → Option Value} {base : Heap} (c : Hd K mg) (fact : ∀ x y : Int, 0 ≤ x → x < 5 → 0 ≤ y → y < 3 + x → m_law_rest (.int (3 + x)) (.int y) = some (.bool true)) {fd : FuncData} (F : HD.FnP K "law" HD.s_law (He.ga K "law") fd) : FnOk P w K mg base CX0 42 (He.ga K "law") fd ["_law_script"] (spLaw K) := by
  have o_law_taken := ok_law_taken (P := P) (w := w) (base := base) c
  have o_all_chance := ok_all_chance (P := P) (w := w) (base := base) c
  have o_calls_to_end := ok_calls_to_end (P := P) (w := w) (base := base) c
  have o_cheapest_cover := ok_cheapest_cover (P := P) (w := w) (base := base) c
  have o_count_ends := ok_count_ends (P := P) (w := w) (base := base) c
  have o_empty_chance := ok_empty_chance (P := P) (w := w) (base := base) c
  have o_fewest_rounds := ok_fewest_rounds (P := P) (w := w) (base := base) c
  have o_least_covers := ok_least_covers (P := P) (w := w) (base := base) c
  have o_most_calls := ok_most_calls (P := P) (w := w) (base := base) c
  have o_most_linked := ok_most_linked (P := P) (w := w) (base := base) c
  have o_must_call := ok_must_call (P := P) (w := w) (base := base) c
  have o_neighbours := ok_neighbours (P := P) (w := w) (base := base) c
  have o_one_round := ok_one_round (P := P) (w := w) (base := base) c
  have h_range := c.free "range" (c.says.fact 64 rfl)
  have o_row_counts := ok_row_counts (P := P) (w := w) (base := base) c
  have h_sorted := c.free "sorted" (c.says.fact 66 rfl)
  have o_splitters := ok_splitters (P := P) (w := w) (base := base) c
  have h_sum := c.free "sum" (c.says.fact 67 rfl)
  have o_tight_covers := ok_tight_covers (P := P) (w := w) (base := base) c
  have h_tuple := c.free "tuple" (c.says.fact 68 rfl)
  have o_way_to_end := ok_way_to_end (P := P) (w := w) (base := base) c
  have nd : ((["_law_script", "_law_row", "_law_many", "_law_hub", "_law_others", "_law_person", "_law_hands", "_law_at", "_law_power", "_law_number", "_law_weights", "_law_counts", "_law_fall"] : List Str)).Nodup := sc_law.nd
  refine F.ok (k := 41) sc_law (fun vs H Q E h => ?_) (fun cdv A outer s H vs Q E hr h => ?_)
  · obtain ⟨a, ns, rfl, _⟩ := h
    rfl
  obtain ⟨a, ns, rfl, hS, q⟩ := h
  obtain ⟨t, pt, dt⟩ : ∃ t, PSs (cxOf CX0 P w K mg base ["_law_script", "_law_row", "_law_many", "_law_hub", "_law_others", "_law_person", "_law_hands", "_law_at", "_law_power", "_law_number", "_law_weights", "_law_counts", "_law_fall"] "law" (defScope HD.s_law) (He.ga K "law") cdv A outer s H E).nox (List.drop 3 (defBody HD.s_law)) t ∧ ∀ p_many p_hub : PyData, DR K t [.un, .un, .dat p_many, .dat p_hub, .un, .un, .un, .un, .un, .un, .un, .un, .un] (m_law_rest p_many p_hub) := by
    refine ⟨_, (pss_cons (ps_setLc (i := 4) rfl nd rfl rfl (sw_true rfl rfl rfl rfl) (pi_range1 rfl h_range (pa_cons (pv 2) pa_nil)) (own := [("_law_person", 5)]) (blkOk_by (by kernel_rfl)) (fun _ _ _ _ _ => (pg_name (i := 5) nd rfl (by first | exact .inl rfl | exact .inr rfl) (by first | exact .inl rfl | exact .inr rfl))) (fun _ _ _ _ _ => (pts_one (pt_cmpR op_ne (pv 5) (pv 3) (nomark _)))) (fun _ _ _ _ _ => (pv 5))) (pss_cons (ps_set (i := 6) nd rfl (by first | exact .inl rfl | exact .inr rfl) (pe_op op_rep (pe_lst (pa_cons (pe_tup pa_nil) pa_nil)) (pv 2)) rfl (by first | exact .inl rfl | exact .inr rfl)) (pss_cons (ps_asg (pe_tupRg rfl rfl h_tuple (prg_1 rfl h_range (pe_op op_sub (pv 2) pe_int))) (pg_sub (pv 6) (pv 3) set_list)) (pss_cons (ps_for PassesOwn.never rfl (pi_range1 rfl h_range (pa_cons (pe_op op_sub (pv 2) pe_int) pa_nil)) (pg_name (i := 7) nd rfl (by first | exact .inl rfl | exact .inr rfl) (by first | exact .inl rfl | exact .inr rfl)) (pss_one (ps_asg (pe_tup (pa_cons (pv 7) pa_nil)) (pg_sub (pv 6) (pe_ix (xo_ix (K := K) rfl) (pv 4) (pv 7) (fun _ _ => rfl)) set_list)))) (pss_cons (ps_par rfl nd (i := 6) (j := 8) rfl rfl (by decide) rfl rfl (pa_cons (pe_callTy (xc_tuple (K := K) rfl) rfl h_tuple (by decide +kernel) (pa_cons (pv 6) pa_nil)) (pa_cons pe_int pa_nil)) rfl) (pss_cons (ps_for PassesOwn.never rfl (pi_range1 rfl h_range (pa_cons (pe_op op_sub (pv 2) pe_int) pa_nil)) (pg_name (i := 9) nd rfl (by first | exact .inl rfl | exact .inr rfl) (by first | exact .inl rfl | exact .inr rfl)) (pss_one (ps_set (i := 8) nd rfl (by first | exact .inl rfl | exact .inr rfl) (pe_op op_mul pe_int (pv 8)) rfl (by first | exact .inl rfl | exact .inr rfl)))) (pss_cons (ps_if (PW.pt (pw_or (pt_cmpR op_ne (pe_callD o_count_ends hr rfl rfl (pa_cons (pv 6) pa_nil)) (pv 8) (nomark _)) (pw_or (pt_cmpR op_ne (pe_callD o_calls_to_end hr rfl rfl (pa_cons (pv 6) pa_nil)) pe_int (nomark _)) (pw_or1 (pt_cmpR (xo_neD (K := K) rfl hr.units) (pe_callD o_least_covers hr rfl rfl (pa_cons (pv 6) pa_nil)) (pe_lst (pa_cons (pe_tup (pa_cons (pv 3) pa_nil)) pa_nil)) (nomark _)))))) (pss_one (ps_ret pe_bl)) pss_nil) (pss_cons (ps_if (PW.pt (pw_or (pt_cmpR (xo_neD (K := K) rfl hr.units) (pe_callD o_must_call hr rfl rfl (pa_cons (pv 6) pa_nil)) (pe_tup (pa_cons (pv 3) pa_nil)) (nomark _)) (pw_or1 (pt_cmpR (xo_neD (K := K) rfl hr.units) (pe_callD o_way_to_end hr rfl rfl (pa_cons (pv 6) pa_nil)) (pe_tup (pa_cons (pv 3) pa_nil)) (nomark _))))) (pss_one (ps_ret pe_bl)) pss_nil) (pss_cons (ps_if (PW.pt (pw_or (pt_cmpR (xo_neD (K := K) rfl hr.units) (pe_callD o_tight_covers hr rfl rfl (pa_cons (pv 6) pa_nil)) (pe_callB (xc_sorted (K := K) rfl hr.units 1) rfl h_sorted (by decide +kernel) (pa_cons (pe_lst (pa_cons (pe_tup (pa_cons (pv 3) pa_nil)) (pa_cons (pe_callTy (xc_tuple (K := K) rfl) rfl h_tuple (by decide +kernel) (pa_cons (pv 4) pa_nil)) pa_nil))) pa_nil)) (nomark _)) (pw_or1 (pt_cmpR op_ne (pe_callD o_most_calls hr rfl rfl (pa_cons (pv 6) pa_nil)) (pe_op op_sub (pv 2) pe_int) (nomark _))))) (pss_one (ps_ret pe_bl)) pss_nil) (pss_cons (ps_if (pt_cmpR (xo_neD (K := K) rfl hr.units) (pe_callD o_most_linked hr rfl rfl (pa_cons (pv 6) pa_nil)) (pe_tup (pa_cons (pe_op op_sub (pv 2) pe_int) (pa_cons (pv 3) pa_nil))) (nomark _)) (pss_one (ps_ret pe_bl)) pss_nil) (pss_cons (ps_if (PW.pt (pw_or (pt_cmpR (xo_neD (K := K) rfl hr.units) (pe_callD o_splitters hr rfl rfl (pa_cons (pv 6) pa_nil)) (pe_tup (pa_cons (pv 3) pa_nil)) (nomark _)) (pw_or1 (pt_cmpR (xo_neD (K := K) rfl hr.units) (pe_callD o_neighbours hr rfl rfl (pa_cons (pv 6) (pa_cons (pv 3) pa_nil))) (pe_callTy (xc_tuple (K := K) rfl) rfl h_tuple (by decide +kernel) (pa_cons (pv 4) pa_nil)) (nomark _))))) (pss_one (ps_ret pe_bl)) pss_nil) (pss_cons (ps_if (PW.pt (pw_or (pt_cmpR op_ne (pe_callD o_fewest_rounds hr rfl rfl (pa_cons (pv 6) pa_nil)) pe_int (nomark _)) (pw_or1 (pt_cmpR (xo_neD (K := K) rfl hr.units) (pe_callD o_one_round hr rfl rfl (pa_cons (pv 6) pa_nil)) (pe_callB (xc_sorted (K := K) rfl hr.units 1) rfl h_sorted (by decide +kernel) (pa_cons (pe_lst (pa_cons (pe_tup (pa_cons (pv 3) pa_nil)) (pa_cons (pe_callTy (xc_tuple (K := K) rfl) rfl h_tuple (by decide +kernel) (pa_cons (pv 4) pa_nil)) pa_nil))) pa_nil)) (nomark _))))) (pss_one (ps_ret pe_bl)) pss_nil) (pss_cons (ps_set (i := 10) nd rfl (by first | exact .inl rfl | exact .inr rfl) (pe_callTy (xc_tuple (K := K) rfl) rfl h_tuple (by decide +kernel) (pa_cons (pe_lc rfl nd (pi_range1 rfl h_range (pa_cons (pv 2) pa_nil)) (own := [("_law_person", 5)]) (blkOk_by (by kernel_rfl)) (fun _ _ _ _ _ => (pg_name (i := 5) nd rfl (by first | exact .inl rfl | exact .inr rfl) (by first | exact .inl rfl | exact .inr rfl))) (fun _ _ _ _ _ => pts_nil) (fun _ _ _ _ _ => (pe_ifExp (pt_cmpR op_ne (pv 5) (pv 3) (nomark _)) pe_int (pv 2)))) pa_nil)) rfl (by first | exact .inl rfl | exact .inr rfl)) (pss_cons (ps_if (pt_cmpR (xo_neD (K := K) rfl hr.units) (pe_callD o_cheapest_cover hr rfl rfl (pa_cons (pv 6) (pa_cons (pv 10) pa_nil))) (pe_tup (pa_cons (pe_op op_sub (pv 2) pe_int) (pa_cons (pe_callTy (xc_tuple (K := K) rfl) rfl h_tuple (by decide +kernel) (pa_cons (pv 4) pa_nil)) pa_nil))) (nomark _)) (pss_one (ps_ret pe_bl)) pss_nil) (pss_cons (ps_if (PW.pt (pw_or (pt_cmpR (xo_neD (K := K) rfl hr.units) (pe_callD o_all_chance hr rfl rfl (pa_cons (pv 6) (pa_cons (pv 3) pa_nil))) (pe_tup (pa_cons pe_int (pa_cons (pv 2) pa_nil))) (nomark _)) (pw_or1 (pt_cmpR (xo_neD (K := K) rfl hr.units) (pe_callD o_empty_chance hr rfl rfl (pa_cons (pv 6) (pa_cons (pv 3) pa_nil))) (pe_tup (pa_cons pe_int (pa_cons (pv 2) pa_nil))) (nomark _))))) (pss_one (ps_ret pe_bl)) pss_nil) (pss_cons (ps_if (pt_cmpR (xo_neD (K := K) rfl hr.units) (pe_callD o_all_chance hr rfl rfl (pa_cons (pv 6) (pa_cons (pe_ix (xo_ix (K := K) rfl) (pv 4) pe_int (fun _ _ => rfl)) pa_nil))) (pe_tup (pa_cons pe_int (pa_cons pe_int pa_nil))) (nomark _)) (pss_one (ps_ret pe_bl)) pss_nil) (pss_cons (ps_par rfl nd (i := 11) (j := 12) rfl rfl (by decide) rfl rfl (pa_cons (pe_lst (pa_cons pe_int pa_nil)) (pa_cons pe_int pa_nil)) rfl) (pss_cons (ps_for PassesOwn.never rfl (pi_range1 rfl h_range (pa_cons (pe_op op_sub (pv 2) pe_int) pa_nil)) (pg_name (i := 9) nd rfl (by first | exact .inl rfl | exact .inr rfl) (by first | exact .inl rfl | exact .inr rfl)) (pss_cons (ps_expr (pe_bm PySem.F.plainAttrs_list PySem.F.slot_list_append PySem.F.type_list_append mt_append (pv 11) (pa_cons (pv 12) pa_nil))) (pss_one (ps_set (i := 12) nd rfl (by first | exact .inl rfl | exact .inr rfl) (pe_op op_mul (pv 12) (pe_op op_sub (pe_op op_sub (pv 2) pe_int) (pv 9))) rfl (by first | exact .inl rfl | exact .inr rfl))))) (pss_one (ps_ret (pe_and (pe_cmpR (xo_eqD (K := K) rfl hr.units) (pe_callD o_row_counts hr rfl rfl (pa_cons (pv 6) pa_nil)) (pe_callTy (xc_tuple (K := K) rfl) rfl h_tuple (by decide +kernel) (pa_cons (pe_op op_cat (pe_slice (xo_slL (K := K) rfl) (pv 11) po_none (po_some (pe_un un_neg pe_int))) (pe_lst (pa_cons (pe_op op_add (pe_ix (xo_ix (K := K) rfl) (pv 11) (pe_un un_neg pe_int) (fun _ _ => rfl)) (pv 12)) pa_nil))) pa_nil)) (nomark _)) (pe_one (pe_cmpR op_gt (pe_callB (xc_sum (K := K) rfl rfl) rfl h_sum (by decide +kernel) (pa_cons (pv 11) pa_nil)) pe_int (nomark _)))))))))))))))))))))))), fun p_many p_hub => ?_⟩
    delta m_law_rest
    exact (dr_seq (dn_asg (i := 4) ((dnl_lc rfl ((dw_rng1 (de_var (i := 2) (d := p_many) rfl))).c (fun v1 => (dt_test (de_op v2_neI (de_var (i := 5) (d := v1) rfl) (de_var (i := 3) (d := p_hub) rfl)))) (fun v1 => (de_var (i := 5) (d := v1) rfl)))).de) (fun s6 => (dr_seq (dn_own (i := 6) (dnl_rep (dnl_disp (da_cons (de_tup da_nil) da_nil)) (de_var (i := 2) (d := p_many) rfl)) rfl) (fun s15 => (dr_seq (dn_set (i := 6) (ds := s15) rfl (de_tupRg (de_op v2_sub (de_var (i := 2) (d := p_many) rfl) (de_int (i := 1)))) (de_var (i := 3) (d := p_hub) rfl)) (fun s20 => (dr_seq (dn_for1 (st := (fun s23 : List PyData => [.un, .un, .dat p_many, .dat p_hub, .dat s6, .un, .own s23, .un, .un, .un, .un, .un, .un])) s20 (dw_rng1 (de_op v2_sub (de_var (i := 2) (d := p_many) rfl) (de_int (i := 1)))) (wk_u (wk_u (wk_s (wk_s (wk_s (wk_u (wk_s (wk_u (wk_u (wk_u (wk_u (wk_u (wk_u wk_0))))))))))))) (fun s23 v24 => (dn_end (dn_set (i := 6) (ds := s23) rfl (de_tup (da_cons (de_var (i := 7) (d := v24) rfl) da_nil)) (de_op v2_ix (de_var (i := 4) (d := s6) rfl) (de_var (i := 7) (d := v24) rfl))) (fun s32 => (wk_u (wk_u (wk_s (wk_s (wk_s (wk_u (wk_s (wk_u (wk_u (wk_u (wk_u (wk_u (wk_u wk_0))))))))))))))))) (fun s34 => (dr_frz (i := 6) rfl (dr_seq (dn_par (i := 6) (j := 8) (de_cb1 vc_tuple (de_var (i := 6) (d := (.list s34)) rfl)) (de_int (i := 1))) (fun s35 => (dr_seq (dn_for1 (st := (fun s40 : PyData => [.un, .un, .dat p_many, .dat p_hub, .dat s6, .un, .dat s35.1, .un, .dat s40, .un, .un, .un, .un])) s35.2 (dw_rng1 (de_op v2_sub (de_var (i := 2) (d := p_many) rfl) (de_int (i := 1)))) (wk_u (wk_u (wk_s (wk_s (wk_s (wk_u (wk_s (wk_u (wk_s (wk_u (wk_u (wk_u (wk_u wk_0))))))))))))) (fun s40 v41 => (dn_end (dn_asg (i := 8) (de_op v2_mul (de_int (i := 2)) (de_var (i := 8) (d := s40) rfl))) (fun s44 => (wk_u (wk_u (wk_s (wk_s (wk_s (wk_u (wk_s (wk_u (wk_s (wk_u (wk_u (wk_u (wk_u wk_0))))))))))))))))) (fun s46 => (dr_ifret (dt_or (dt_test (de_op v2_neI (de_call1 (de_var (i := 6) (d := s35.1) rfl)) (de_var (i := 8) (d := s46) rfl))) (dt_or (dt_test (de_op v2_neI (de_call1 (de_var (i := 6) (d := s35.1) rfl)) (de_int (i := 1)))) (dt_test (de_op v2_neD (de_call1 (de_var (i := 6) (d := s35.1) rfl)) ((dnl_disp (da_cons (de_tup (da_cons (de_var (i := 3) (d := p_hub) rfl) da_nil)) da_nil))).de)))) (dr_ret (de_bl (b := false))) (dr_ifret (dt_or (dt_test (de_op v2_neD (de_call1 (de_var (i := 6) (d := s35.1) rfl)) (de_tup (da_cons (de_var (i := 3) (d := p_hub) rfl) da_nil)))) (dt_test (de_op v2_neD (de_call1 (de_var (i := 6) (d := s35.1) rfl)) (de_tup (da_cons (de_var (i := 3) (d := p_hub) rfl) da_nil))))) (dr_ret (de_bl (b := false))) (dr_ifret (dt_or (dt_test (de_op v2_neD (de_call1 (de_var (i := 6) (d := s35.1) rfl)) (de_cb1 (vc_sorted (n := 1) (by decide)) ((dnl_disp (da_cons (de_tup (da_cons (de_var (i := 3) (d := p_hub) rfl) da_nil)) (da_cons (de_cb1 vc_tuple (de_var (i := 4) (d := s6) rfl)) da_nil)))).de))) (dt_test (de_op v2_neI (de_call1 (de_var (i := 6) (d := s35.1) rfl)) (de_op v2_sub (de_var (i := 2) (d := p_many) rfl) (de_int (i := 1)))))) (dr_ret (de_bl (b := false))) (dr_ifret (dt_test (de_op v2_neD (de_call1 (de_var (i := 6) (d := s35.1) rfl)) (de_tup (da_cons (de_op v2_sub (de_var (i := 2) (d := p_many) rfl) (de_int (i := 1))) (da_cons (de_var (i := 3) (d := p_hub) rfl) da_nil))))) (dr_ret (de_bl (b := false))) (dr_ifret (dt_or (dt_test (de_op v2_neD (de_call1 (de_var (i := 6) (d := s35.1) rfl)) (de_tup (da_cons (de_var (i := 3) (d := p_hub) rfl) da_nil)))) (dt_test (de_op v2_neD (de_call2 (de_var (i := 6) (d := s35.1) rfl) (de_var (i := 3) (d := p_hub) rfl)) (de_cb1 vc_tuple (de_var (i := 4) (d := s6) rfl))))) (dr_ret (de_bl (b := false))) (dr_ifret (dt_or (dt_test (de_op v2_neI (de_call1 (de_var (i := 6) (d := s35.1) rfl)) (de_int (i := 1)))) (dt_test (de_op v2_neD (de_call1 (de_var (i := 6) (d := s35.1) rfl)) (de_cb1 (vc_sorted (n := 1) (by decide)) ((dnl_disp (da_cons (de_tup (da_cons (de_var (i := 3) (d := p_hub) rfl) da_nil)) (da_cons (de_cb1 vc_tuple (de_var (i := 4) (d := s6) rfl)) da_nil)))).de)))) (dr_ret (de_bl (b := false))) (dr_seq (dn_asg (i := 10) (de_cb1 vc_tuple ((dnl_lc rfl ((dw_rng1 (de_var (i := 2) (d := p_many) rfl))).c (fun v159 => dt_yes) (fun v159 => (de_if (dt_test (de_op v2_neI (de_var (i := 5) (d := v159) rfl) (de_var (i := 3) (d := p_hub) rfl))) (de_int (i := 1)) (de_var (i := 2) (d := p_many) rfl))))).de)) (fun s165 => (dr_ifret (dt_test (de_op v2_neD (de_call2 (de_var (i := 6) (d := s35.1) rfl) (de_var (i := 10) (d := s165) rfl)) (de_tup (da_cons (de_op v2_sub (de_var (i := 2) (d := p_many) rfl) (de_int (i := 1))) (da_cons (de_cb1 vc_tuple (de_var (i := 4) (d := s6) rfl)) da_nil))))) (dr_ret (de_bl (b := false))) (dr_ifret (dt_or (dt_test (de_op v2_neD (de_call2 (de_var (i := 6) (d := s35.1) rfl) (de_var (i := 3) (d := p_hub) rfl)) (de_tup (da_cons (de_int (i := 1)) (da_cons (de_var (i := 2) (d := p_many) rfl) da_nil))))) (dt_test (de_op v2_neD (de_call2 (de_var (i := 6) (d := s35.1) rfl) (de_var (i := 3) (d := p_hub) rfl)) (de_tup (da_cons (de_int (i := 1)) (da_cons (de_var (i := 2) (d := p_many) rfl) da_nil)))))) (dr_ret (de_bl (b := false))) (dr_ifret (dt_test (de_op v2_neD (de_call2 (de_var (i := 6) (d := s35.1) rfl) (de_op v2_ix (de_var (i := 4) (d := s6) rfl) (de_int (i := 0)))) (de_tup (da_cons (de_int (i := 1)) (da_cons (de_int (i := 2)) da_nil))))) (dr_ret (de_bl (b := false))) (dr_seq (dn_parL (i := 11) (j := 12) (dnl_disp (da_cons (de_int (i := 0)) da_nil)) (de_int (i := 1)) rfl) (fun s225 => (dr_seq (dn_for1 (st := (fun s234 : List PyData × PyData => [.un, .un, .dat p_many, .dat p_hub, .dat s6, .un, .dat s35.1, .un, .dat s46, .un, .dat s165, .own s234.1, .dat s234.2])) (s225.1, s225.2) (dw_rng1 (de_op v2_sub (de_var (i := 2) (d := p_many) rfl) (de_int (i := 1)))) (wk_u (wk_u (wk_s (wk_s (wk_s (wk_u (wk_s (wk_u (wk_s (wk_u (wk_s (wk_s (wk_s wk_0))))))))))))) (fun s234 v235 => (dn_seq (dn_app (i := 11) (ds := s234.1) rfl (de_var (i := 12) (d := s234.2) rfl)) (fun s236 => (dn_end (dn_asg (i := 12) (de_op v2_mul (de_var (i := 12) (d := s234.2) rfl) (de_op v2_sub (de_op v2_sub (de_var (i := 2) (d := p_many) rfl) (de_int (i := 1))) (de_var (i := 9) (d := v235) rfl)))) (fun s244 => (wk_u (wk_u (wk_s (wk_s (wk_s (wk_u (wk_s (wk_u (wk_s (wk_u (wk_s (wk_s (wk_s wk_0))))))))))))))))))) (fun s246 => (dr_frz (i := 11) rfl (dr_ret (de_andV (de_op v2_eqD (de_call1 (de_var (i := 6) (d := s35.1) rfl)) (de_cb1 vc_tuple ((dnl_cat (dnl_upL (de_var (i := 11) (d := (.list s246.1)) rfl) (de_un vu_neg (de_int (i := 1)))) (dnl_disp (da_cons (de_op v2_add (de_op v2_ixN (de_var (i := 11) (d := (.list s246.1)) rfl) (de_un vu_neg (de_int (i := 1)))) (de_var (i := 12) (d := s246.2) rfl)) da_nil)))).de)) (de_op v2_gt (de_cb1 vc_sum (de_var (i := 11) (d := (.list s246.1)) rfl)) (de_int (i := 0))))))))))))))))))))))))))))))))))
  refine ⟨_, PSs.nox (pss_cons (ps_set (i := 1) nd rfl (by first | exact .inl rfl | exact .inr rfl) (pe_lst (pa_cons (pv 0) (pa_cons pe_int (pa_cons pe_int (pa_cons pe_int pa_nil))))) rfl (by first | exact .inl rfl | exact .inr rfl))
    (pss_cons (ps_set (i := 2) nd rfl (by first | exact .inl rfl | exact .inr rfl) (pe_op op_add pe_int (pe_callD o_law_taken hr rfl rfl (pa_cons (pv 1) (pa_cons pe_int pa_nil)))) rfl (by first | exact .inl rfl | exact .inr rfl))
    (pss_cons (ps_set (i := 3) nd rfl (by first | exact .inl rfl | exact .inr rfl) (pe_callD o_law_taken hr rfl rfl (pa_cons (pv 1) (pa_cons (pv 2) pa_nil))) rfl (by first | exact .inl rfl | exact .inr rfl))
    pt))), ?_⟩
  refine ⟨_, rfl, (by show 4 ≤ sizeLine; decide), fun r hp => ?_⟩
  refine ⟨_, rfl, r, a, 5, 0, 9750, 0, ns, rfl, (by decide), (by decide), upd_same, (fun o => by rw [upd_upd]; exact seq_new hp hS), (by decide), fun x i1 s1 c1 x0 x1 i10 => ?_⟩
  refine ⟨3, x, rfl, rfl, ?_⟩
  rw [upd_upd]
  refine ⟨_, rfl, _, rfl, r, a, 3 + x, i1, s1, c1, ns, rfl, (by omega), (by omega), upd_same, (fun o => by rw [upd_upd]; exact seq_new hp hS), i10, fun y i2 s2 c2 y0 y1 i20 => ?_⟩
  rw [upd_upd]
  have p_E := fact x y x0 x1 y0 y1
  generalize e1 : PyData.int (3 + x) = p_many at p_E
  generalize e2 : PyData.int y = p_hub at p_E
  refine dt p_many p_hub (fun _ => none) (upd H r (row4 a i2 s2 c2)) (fun _ => none) (upd H r (row4 a i2 s2 c2)) [some (.ref a), some (.ref r), some (.int (3 + x)), some (.int y), none, none, none, none, none, none, none, none, none] ⟨Grow.rfl' (fun _ _ z => nomatch z), rfl, fun i e h => ?_, fun i e b h ow hb => (env_plain (by rfl) h ow).elim, fun i j e e' b h ow h' ow' hb hb' => (env_plain (by rfl) h ow).elim⟩ (.bool true) p_E _ fun v G' H' g' r' => ?_
  · match i, h with
    | 0, h => cases h; exact True.intro
    | 1, h => cases h; exact True.intro
    | 2, h => cases h; exact ⟨_, rfl, e1 ▸ .int _⟩
    | 3, h => cases h; exact ⟨_, rfl, e2 ▸ .int _⟩
    | 4, h => cases h; exact True.intro
    | 5, h => cases h; exact True.intro
    | 6, h => cases h; exact True.intro
    | 7, h => cases h; exact True.intro
    | 8, h => cases h; exact True.intro
    | 9, h => cases h; exact True.intro
    | 10, h => cases h; exact True.intro
    | 11, h => cases h; exact True.intro
    | 12, h => cases h; exact True.intro
    | i + 13, h => cases h
  · cases r'
    exact q H'
end DL

set_option Elab.async false
set_option linter.all false
set_option maxRecDepth 1000000
set_option maxHeartbeats 0
/-! LF: the plain law, case by case. -/
namespace DL
open PySem PySem.Spec PyProof.Rows L2
def isT : Option PyData → Bool
  | some (.bool true) => true
  | _ => false
theorem isT_eq {o : Option PyData} (h : isT o = true) : o = some (.bool true) := by
  unfold isT at h
  split at h
  · rfl
  · cases h
theorem f3_0 : isT (m_law_rest (.int 3) (.int 0)) = true := by decide +kernel
theorem f3_1 : isT (m_law_rest (.int 3) (.int 1)) = true := by decide +kernel
theorem f3_2 : isT (m_law_rest (.int 3) (.int 2)) = true := by decide +kernel
theorem f4_0 : isT (m_law_rest (.int 4) (.int 0)) = true := by decide +kernel
theorem f4_1 : isT (m_law_rest (.int 4) (.int 1)) = true := by decide +kernel
theorem f4_2 : isT (m_law_rest (.int 4) (.int 2)) = true := by decide +kernel
theorem f4_3 : isT (m_law_rest (.int 4) (.int 3)) = true := by decide +kernel
theorem f5_0 : isT (m_law_rest (.int 5) (.int 0)) = true := by decide +kernel
theorem f5_1 : isT (m_law_rest (.int 5) (.int 1)) = true := by decide +kernel
theorem f5_2 : isT (m_law_rest (.int 5) (.int 2)) = true := by decide +kernel
theorem f5_3 : isT (m_law_rest (.int 5) (.int 3)) = true := by decide +kernel
theorem f5_4 : isT (m_law_rest (.int 5) (.int 4)) = true := by decide +kernel
theorem f6_0 : isT (m_law_rest (.int 6) (.int 0)) = true := by decide +kernel
theorem f6_1 : isT (m_law_rest (.int 6) (.int 1)) = true := by decide +kernel
theorem f6_2 : isT (m_law_rest (.int 6) (.int 2)) = true := by decide +kernel
theorem f6_3 : isT (m_law_rest (.int 6) (.int 3)) = true := by decide +kernel
theorem f6_4 : isT (m_law_rest (.int 6) (.int 4)) = true := by decide +kernel
theorem f6_5 : isT (m_law_rest (.int 6) (.int 5)) = true := by decide +kernel
theorem f7_0 : isT (m_law_rest (.int 7) (.int 0)) = true := by decide +kernel
theorem f7_1 : isT (m_law_rest (.int 7) (.int 1)) = true := by decide +kernel
theorem f7_2 : isT (m_law_rest (.int 7) (.int 2)) = true := by decide +kernel
theorem f7_3 : isT (m_law_rest (.int 7) (.int 3)) = true := by decide +kernel
theorem f7_4 : isT (m_law_rest (.int 7) (.int 4)) = true := by decide +kernel
theorem f7_5 : isT (m_law_rest (.int 7) (.int 5)) = true := by decide +kernel
theorem f7_6 : isT (m_law_rest (.int 7) (.int 6)) = true := by decide +kernel
theorem law_fact (x y : Int) (x0 : 0 ≤ x) (x1 : x < 5) (y0 : 0 ≤ y) (y1 : y < 3 + x) : m_law_rest (.int (3 + x)) (.int y) = some (.bool true) := by
  have hx : x = 0 ∨ x = 1 ∨ x = 2 ∨ x = 3 ∨ x = 4 := by omega
  rcases hx with rfl | rfl | rfl | rfl | rfl
  · have hy : y = 0 ∨ y = 1 ∨ y = 2 := by omega
    rw [show (3 : Int) + 0 = 3 from rfl]
    rcases hy with rfl | rfl | rfl
    · exact isT_eq f3_0
    · exact isT_eq f3_1
    · exact isT_eq f3_2
  · have hy : y = 0 ∨ y = 1 ∨ y = 2 ∨ y = 3 := by omega
    rw [show (3 : Int) + 1 = 4 from rfl]
    rcases hy with rfl | rfl | rfl | rfl
    · exact isT_eq f4_0
    · exact isT_eq f4_1
    · exact isT_eq f4_2
    · exact isT_eq f4_3
  · have hy : y = 0 ∨ y = 1 ∨ y = 2 ∨ y = 3 ∨ y = 4 := by omega
    rw [show (3 : Int) + 2 = 5 from rfl]
    rcases hy with rfl | rfl | rfl | rfl | rfl
    · exact isT_eq f5_0
    · exact isT_eq f5_1
    · exact isT_eq f5_2
    · exact isT_eq f5_3
    · exact isT_eq f5_4
  · have hy : y = 0 ∨ y = 1 ∨ y = 2 ∨ y = 3 ∨ y = 4 ∨ y = 5 := by omega
    rw [show (3 : Int) + 3 = 6 from rfl]
    rcases hy with rfl | rfl | rfl | rfl | rfl | rfl
    · exact isT_eq f6_0
    · exact isT_eq f6_1
    · exact isT_eq f6_2
    · exact isT_eq f6_3
    · exact isT_eq f6_4
    · exact isT_eq f6_5
  · have hy : y = 0 ∨ y = 1 ∨ y = 2 ∨ y = 3 ∨ y = 4 ∨ y = 5 ∨ y = 6 := by omega
    rw [show (3 : Int) + 4 = 7 from rfl]
    rcases hy with rfl | rfl | rfl | rfl | rfl | rfl | rfl
    · exact isT_eq f7_0
    · exact isT_eq f7_1
    · exact isT_eq f7_2
    · exact isT_eq f7_3
    · exact isT_eq f7_4
    · exact isT_eq f7_5
    · exact isT_eq f7_6
end DL

set_option Elab.async false
set_option linter.all false
set_option maxRecDepth 100000
set_option maxHeartbeats 0
/-! END: head and law joined. -/
namespace DL
open PySem PySem.Spec PyProof.Rows L2
theorem facts {P : Program} {w : World} {K : PySem.W.Frag} {h : Heap} {mg : Str → Option Value} {f : Addr} (X : K.In h) (G : h.Ns mainGlobals mg) (hfa : mg ("law" : Str) = some (.ref f)) (c : He.SaysD HD.fa HD.fn K) (z : HD.zero K = true) :
    ∃ fd : FuncData, (∀ (s : Shared) (v : Value), BindsTo s fd ⟨[v], []⟩ [("_law_script", v)]) ∧ ∀ base : Heap, K.In base → base.Ns mainGlobals mg → FnOk P w K mg base CX0 42 f fd ["_law_script"] (spLaw K) := by
  have cc := Hd.of X G c z
  obtain ⟨fd, F⟩ := c.def_ 52 (d := HD.d_law) rfl
  have e := hfa.symm.trans (He.glo_ok X G (c.fact 52 (f := .glo "law") rfl))
  cases e
  have b := FunD.bindsA (ps := ["_law_script"]) F fun _ _ _ _ _ _ us hl => match us, hl with | [_], _ => rfl
  exact ⟨fd, fun s v => b s [v] rfl, fun base _ _ => ok_lawF (P := P) (w := w) (base := base) cc law_fact F⟩
end DL
open PySem PySem.W PySem.Calls PyProof.Rows
theorem PySem.Challenge.cw_lastholders_k50_whole_stars_holds : PySem.Challenge.rw_lastholders_k50_whole_stars.Holds := by
  w_on; o_law
  refine HandSHeadRun.head_any (r := OpenLaw.row PySem.Challenge.rw_lastholders_k50_whole_stars) (q := view (OpenLaw.row PySem.Challenge.rw_lastholders_k50_whole_stars).prog [72]) (H := HD.hk) (ob := HD.ob) (M := 3000) (loose := HD.nms) (d := HandSHeadRun.topDef (OpenLaw.row PySem.Challenge.rw_lastholders_k50_whole_stars).prog 72) (kwd := []) HD.ob_eq
    (by kernel_rfl) (fun s => by kernel_rfl) HD.run (by kernel_rfl) (by kernel_rfl) (by kernel_rfl) (by rfl) (by first | assumption | decide +kernel) (by decide +kernel) ⟨rfl, rfl, rfl, rfl, rfl, by decide +kernel⟩ ?hw ?hc
  case hw => w_witness2
  case hc =>
    refine L2.walk_ofE (l := PySem.Challenge.rw_lastholders_k50_whole_stars) (n := 63) (k := 42) (x := "_law_script") (CX := L2.CX0) rfl (by decide) (by kernel_rfl) ⟨rfl, by decide, by decide⟩ ?F (fun _ _ _ _ z => z)
    intro w mg fa h Y G hmg0
    obtain ⟨K, KX, c, z⟩ := Y
    have hmg : mg ("law" : PySem.Str) = some (.ref fa) := by
      have e : (HandSHeadRun.topDef (OpenLaw.row PySem.Challenge.rw_lastholders_k50_whole_stars).prog 72).name = ("law" : PySem.Str) := by kernel_rfl
      rw [← e]
      exact hmg0
    obtain ⟨fd, hb, hF⟩ := DL.facts (P := (PySem.Challenge.rw_lastholders_k50_whole_stars).prog) (w := w) KX G hmg c z
    exact ⟨K, fd, DL.spLaw K, KX, hb, fun H a ns hl _ hS => ⟨a, ns, rfl, hS, fun _ => rfl⟩, hF⟩
