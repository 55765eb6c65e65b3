import PyProof.Rows.All
import Wide.All
import OpenK.AllK
import Wide.FinOn
import KE.DataMinMax
import KE.DataCmp
import KE.DatumOrd
import HandS.ForMost
import HandS.Deep
import KE.GoesEnum
import KE.KDictWalk
import PyProof.DictCompW
import HandS.DictComp
import KE.KDictDisplayH
import KE.KDictPairs
import HandS.IsInst
import HandS.NoneIn
import HandS.Zip
import HandS.Codes
import HandS.Defaults
import HandS.Conv
import HandS.SortRule
import HandS.Wide
import PySem.Challenge.RW_mildwarden_k30_whole_the_mildest_is_leas
import KE.SortData
import KE.IntBitsLaws
import HandS.Head0
import HandS.Head1
import HandS.Head2
import HandS.HeadEnd
import HandS.HeadHook1
import HandS.HeadHook2
set_option Elab.async false
set_option linter.all false
set_option maxRecDepth 100000
set_option maxHeartbeats 4000000
namespace Mw
open PySem PySem.Spec PyProof.Rows L2
/-- the text's statements -/
def top (i : Nat) : Stmt := PySem.Challenge.pw_mildwarden_k30_whole_the_mildest_is_leas.main.body.getD i (.Pass ⟨0, 0, 0, 0⟩)
abbrev s_is_whole : Stmt := top 11
abbrev s_is_below : Stmt := top 12
abbrev s_is_count : Stmt := top 13
abbrev s_is_row : Stmt := top 14
abbrev s_is_room : Stmt := top 15
abbrev s_is_saying : Stmt := top 16
abbrev s_need_saying : Stmt := top 17
abbrev s_need_alike : Stmt := top 18
abbrev s_is_price : Stmt := top 21
abbrev s_are_prices : Stmt := top 22
abbrev s_need_prices : Stmt := top 23
abbrev s_cost : Stmt := top 24
abbrev s_answers_to : Stmt := top 25
abbrev s_keepers : Stmt := top 27
abbrev s_losing : Stmt := top 28
abbrev s_lost_in : Stmt := top 29
abbrev s_kept_in : Stmt := top 30
abbrev s_need_both : Stmt := top 31
abbrev s_need_kept : Stmt := top 32
abbrev s_is_cell : Stmt := top 34
abbrev s_is_state : Stmt := top 35
abbrev s_is_watcher : Stmt := top 36
abbrev s_need_watcher : Stmt := top 37
abbrev s_choices_of : Stmt := top 39
abbrev s_on_rooms : Stmt := top 40
abbrev s_least_of : Stmt := top 41
abbrev s_mildest_on : Stmt := top 42
abbrev s_mildest : Stmt := top 43
abbrev s_let_wholly : Stmt := top 47
abbrev s_milder : Stmt := top 49
abbrev s__law_cost : Stmt := top 58
abbrev s__law_answers : Stmt := top 59
abbrev s__law_held : Stmt := top 60
abbrev s__law_kept : Stmt := top 61
abbrev s__law_some : Stmt := top 64
abbrev s__law_whole : Stmt := top 62
abbrev s__law_is_pair : Stmt := top 66
abbrev s__law_pairs_right : Stmt := top 67
abbrev s__law_right : Stmt := top 70
abbrev s__law_mended_right : Stmt := top 73
abbrev s__law_never_later : Stmt := top 74
abbrev s__law_take : Stmt := top 52
abbrev s__law_room : Stmt := top 54
abbrev s__law_saying : Stmt := top 55
abbrev s__law_price : Stmt := top 56
abbrev s__law_prices : Stmt := top 57
abbrev s__law_run : Stmt := top 65
abbrev s__law_pot : Stmt := top 51
abbrev s__law_world : Stmt := top 63
abbrev s__law_let_run : Stmt := top 72
abbrev s__law_phased : Stmt := top 71
abbrev s__law_least_right : Stmt := top 75
abbrev s_law : Stmt := top 76
def hd_is_whole : He.DefD := ⟨("is_whole", none), "is_whole", "is_whole", defArgs s_is_whole, defBody s_is_whole, defScope s_is_whole, [], []⟩
def hd_is_below : He.DefD := ⟨("is_below", none), "is_below", "is_below", defArgs s_is_below, defBody s_is_below, defScope s_is_below, [], []⟩
def hd_is_count : He.DefD := ⟨("is_count", none), "is_count", "is_count", defArgs s_is_count, defBody s_is_count, defScope s_is_count, [], []⟩
def hd_is_row : He.DefD := ⟨("is_row", none), "is_row", "is_row", defArgs s_is_row, defBody s_is_row, defScope s_is_row, [], []⟩
def hd_is_room : He.DefD := ⟨("is_room", none), "is_room", "is_room", defArgs s_is_room, defBody s_is_room, defScope s_is_room, [], []⟩
def hd_is_saying : He.DefD := ⟨("is_saying", none), "is_saying", "is_saying", defArgs s_is_saying, defBody s_is_saying, defScope s_is_saying, [], []⟩
def hd_need_saying : He.DefD := ⟨("need_saying", none), "need_saying", "need_saying", defArgs s_need_saying, defBody s_need_saying, defScope s_need_saying, [], []⟩
def hd_need_alike : He.DefD := ⟨("need_alike", none), "need_alike", "need_alike", defArgs s_need_alike, defBody s_need_alike, defScope s_need_alike, [], []⟩
def hd_is_price : He.DefD := ⟨("is_price", none), "is_price", "is_price", defArgs s_is_price, defBody s_is_price, defScope s_is_price, [], []⟩
def hd_are_prices : He.DefD := ⟨("are_prices", none), "are_prices", "are_prices", defArgs s_are_prices, defBody s_are_prices, defScope s_are_prices, [], []⟩
def hd_need_prices : He.DefD := ⟨("need_prices", none), "need_prices", "need_prices", defArgs s_need_prices, defBody s_need_prices, defScope s_need_prices, [], []⟩
def hd_cost : He.DefD := ⟨("cost", none), "cost", "cost", defArgs s_cost, defBody s_cost, defScope s_cost, [], []⟩
def hd_answers_to : He.DefD := ⟨("answers_to", none), "answers_to", "answers_to", defArgs s_answers_to, defBody s_answers_to, defScope s_answers_to, [], []⟩
def hd_keepers : He.DefD := ⟨("keepers", none), "keepers", "keepers", defArgs s_keepers, defBody s_keepers, defScope s_keepers, [], []⟩
def hd_losing : He.DefD := ⟨("losing", none), "losing", "losing", defArgs s_losing, defBody s_losing, defScope s_losing, [], []⟩
def hd_lost_in : He.DefD := ⟨("lost_in", none), "lost_in", "lost_in", defArgs s_lost_in, defBody s_lost_in, defScope s_lost_in, [], []⟩
def hd_kept_in : He.DefD := ⟨("kept_in", none), "kept_in", "kept_in", defArgs s_kept_in, defBody s_kept_in, defScope s_kept_in, [], []⟩
def hd_need_both : He.DefD := ⟨("need_both", none), "need_both", "need_both", defArgs s_need_both, defBody s_need_both, defScope s_need_both, [], []⟩
def hd_need_kept : He.DefD := ⟨("need_kept", none), "need_kept", "need_kept", defArgs s_need_kept, defBody s_need_kept, defScope s_need_kept, [], []⟩
def hd_is_cell : He.DefD := ⟨("is_cell", none), "is_cell", "is_cell", defArgs s_is_cell, defBody s_is_cell, defScope s_is_cell, [], []⟩
def hd_is_state : He.DefD := ⟨("is_state", none), "is_state", "is_state", defArgs s_is_state, defBody s_is_state, defScope s_is_state, [], []⟩
def hd_is_watcher : He.DefD := ⟨("is_watcher", none), "is_watcher", "is_watcher", defArgs s_is_watcher, defBody s_is_watcher, defScope s_is_watcher, [], []⟩
def hd_need_watcher : He.DefD := ⟨("need_watcher", none), "need_watcher", "need_watcher", defArgs s_need_watcher, defBody s_need_watcher, defScope s_need_watcher, [], []⟩
def hd_choices_of : He.DefD := ⟨("choices_of", none), "choices_of", "choices_of", defArgs s_choices_of, defBody s_choices_of, defScope s_choices_of, [], []⟩
def hd_on_rooms : He.DefD := ⟨("on_rooms", none), "on_rooms", "on_rooms", defArgs s_on_rooms, defBody s_on_rooms, defScope s_on_rooms, [], []⟩
def hd_least_of : He.DefD := ⟨("least_of", none), "least_of", "least_of", defArgs s_least_of, defBody s_least_of, defScope s_least_of, [], []⟩
def hd_mildest_on : He.DefD := ⟨("mildest_on", none), "mildest_on", "mildest_on", defArgs s_mildest_on, defBody s_mildest_on, defScope s_mildest_on, [], []⟩
def hd_mildest : He.DefD := ⟨("mildest", none), "mildest", "mildest", defArgs s_mildest, defBody s_mildest, defScope s_mildest, [], [("prices", .non)]⟩
def hd_let_wholly : He.DefD := ⟨("let_wholly", none), "let_wholly", "let_wholly", defArgs s_let_wholly, defBody s_let_wholly, defScope s_let_wholly, [], []⟩
def hd_milder : He.DefD := ⟨("milder", none), "milder", "milder", defArgs s_milder, defBody s_milder, defScope s_milder, [], []⟩
def hd__law_pot : He.DefD := ⟨("_law_pot", none), "_law_pot", "_law_pot", defArgs s__law_pot, defBody s__law_pot, defScope s__law_pot, [], []⟩
def hd__law_take : He.DefD := ⟨("_law_take", none), "_law_take", "_law_take", defArgs s__law_take, defBody s__law_take, defScope s__law_take, [], []⟩
def hd__law_room : He.DefD := ⟨("_law_room", none), "_law_room", "_law_room", defArgs s__law_room, defBody s__law_room, defScope s__law_room, [], []⟩
def hd__law_saying : He.DefD := ⟨("_law_saying", none), "_law_saying", "_law_saying", defArgs s__law_saying, defBody s__law_saying, defScope s__law_saying, [], []⟩
def hd__law_price : He.DefD := ⟨("_law_price", none), "_law_price", "_law_price", defArgs s__law_price, defBody s__law_price, defScope s__law_price, [], []⟩
def hd__law_prices : He.DefD := ⟨("_law_prices", none), "_law_prices", "_law_prices", defArgs s__law_prices, defBody s__law_prices, defScope s__law_prices, [], []⟩
def hd__law_cost : He.DefD := ⟨("_law_cost", none), "_law_cost", "_law_cost", defArgs s__law_cost, defBody s__law_cost, defScope s__law_cost, [], []⟩
def hd__law_answers : He.DefD := ⟨("_law_answers", none), "_law_answers", "_law_answers", defArgs s__law_answers, defBody s__law_answers, defScope s__law_answers, [], []⟩
def hd__law_held : He.DefD := ⟨("_law_held", none), "_law_held", "_law_held", defArgs s__law_held, defBody s__law_held, defScope s__law_held, [], []⟩
def hd__law_kept : He.DefD := ⟨("_law_kept", none), "_law_kept", "_law_kept", defArgs s__law_kept, defBody s__law_kept, defScope s__law_kept, [], []⟩
def hd__law_whole : He.DefD := ⟨("_law_whole", none), "_law_whole", "_law_whole", defArgs s__law_whole, defBody s__law_whole, defScope s__law_whole, [], []⟩
def hd__law_world : He.DefD := ⟨("_law_world", none), "_law_world", "_law_world", defArgs s__law_world, defBody s__law_world, defScope s__law_world, [], []⟩
def hd__law_some : He.DefD := ⟨("_law_some", none), "_law_some", "_law_some", defArgs s__law_some, defBody s__law_some, defScope s__law_some, [], []⟩
def hd__law_run : He.DefD := ⟨("_law_run", none), "_law_run", "_law_run", defArgs s__law_run, defBody s__law_run, defScope s__law_run, [], []⟩
def hd__law_is_pair : He.DefD := ⟨("_law_is_pair", none), "_law_is_pair", "_law_is_pair", defArgs s__law_is_pair, defBody s__law_is_pair, defScope s__law_is_pair, [], []⟩
def hd__law_pairs_right : He.DefD := ⟨("_law_pairs_right", none), "_law_pairs_right", "_law_pairs_right", defArgs s__law_pairs_right, defBody s__law_pairs_right, defScope s__law_pairs_right, [], []⟩
def hd__law_right : He.DefD := ⟨("_law_right", none), "_law_right", "_law_right", defArgs s__law_right, defBody s__law_right, defScope s__law_right, [], []⟩
def hd__law_phased : He.DefD := ⟨("_law_phased", none), "_law_phased", "_law_phased", defArgs s__law_phased, defBody s__law_phased, defScope s__law_phased, [], []⟩
def hd__law_let_run : He.DefD := ⟨("_law_let_run", none), "_law_let_run", "_law_let_run", defArgs s__law_let_run, defBody s__law_let_run, defScope s__law_let_run, [], []⟩
def hd__law_mended_right : He.DefD := ⟨("_law_mended_right", none), "_law_mended_right", "_law_mended_right", defArgs s__law_mended_right, defBody s__law_mended_right, defScope s__law_mended_right, [], []⟩
def hd__law_never_later : He.DefD := ⟨("_law_never_later", none), "_law_never_later", "_law_never_later", defArgs s__law_never_later, defBody s__law_never_later, defScope s__law_never_later, [], []⟩
def hd__law_least_right : He.DefD := ⟨("_law_least_right", none), "_law_least_right", "_law_least_right", defArgs s__law_least_right, defBody s__law_least_right, defScope s__law_least_right, [], []⟩
def hd_law : He.DefD := ⟨("law", none), "law", "law", defArgs s_law, defBody s_law, defScope s_law, [], []⟩
def hfn0 : List He.DefD := [hd_is_whole, hd_is_below, hd_is_count, hd_is_row, hd_is_room, hd_is_saying, hd_need_saying, hd_need_alike, hd_is_price, hd_are_prices, hd_need_prices, hd_cost, hd_answers_to, hd_keepers, hd_losing, hd_lost_in, hd_kept_in, hd_need_both, hd_need_kept, hd_is_cell, hd_is_state, hd_is_watcher, hd_need_watcher, hd_choices_of, hd_on_rooms, hd_least_of, hd_mildest_on, hd_mildest, hd_let_wholly, hd_milder]
def hfn1 : List He.DefD := [hd__law_pot, hd__law_take, hd__law_room, hd__law_saying, hd__law_price, hd__law_prices, hd__law_cost, hd__law_answers, hd__law_held, hd__law_kept, hd__law_whole, hd__law_world, hd__law_some, hd__law_run, hd__law_is_pair, hd__law_pairs_right, hd__law_right, hd__law_phased, hd__law_let_run, hd__law_mended_right, hd__law_never_later, hd__law_least_right, hd_law]
def hfn : List He.DefD := hfn0 ++ (hfn1)
def hfa0 : List He.Fa := [.glo "is_whole", .glo "is_below", .glo "is_count", .glo "is_row", .glo "is_room", .glo "is_saying", .glo "need_saying", .glo "need_alike", .glo "is_price", .glo "are_prices", .glo "need_prices", .glo "cost", .glo "answers_to", .glo "keepers", .glo "losing", .glo "lost_in", .glo "kept_in", .glo "need_both", .glo "need_kept", .glo "is_cell", .glo "is_state", .glo "is_watcher", .glo "need_watcher", .glo "choices_of", .glo "on_rooms", .glo "least_of", .glo "mildest_on", .glo "mildest", .glo "let_wholly", .glo "milder"]
def hfa1 : List He.Fa := [.glo "_law_pot", .glo "_law_take", .glo "_law_room", .glo "_law_saying", .glo "_law_price", .glo "_law_prices", .glo "_law_cost", .glo "_law_answers", .glo "_law_held", .glo "_law_kept", .glo "_law_whole", .glo "_law_world", .glo "_law_some", .glo "_law_run", .glo "_law_is_pair", .glo "_law_pairs_right", .glo "_law_right", .glo "_law_phased", .glo "_law_let_run", .glo "_law_mended_right", .glo "_law_never_later", .glo "_law_least_right", .glo "law", .free "isinstance", .free "int", .free "bool", .free "str", .free "tuple", .free "list", .free "dict"]
def hfa2 : List He.Fa := [.free "len", .free "all", .free "any", .free "range", .free "enumerate", .free "zip", .free "min", .free "max", .free "abs", .free "sorted", .int "MOST" 100, .int "WIDE" 9, .int "DEAR" 99, .str "MILDER" "milder", .str "NOT" "not"]
def hfa : List He.Fa := hfa0 ++ (hfa1 ++ (hfa2))
def hloose0 : List PySem.Str := ["WardError", "NoSaying", "NoPrices", "NoWatcher", "NoKeep", "Unlike", "MOST", "WIDE", "DEAR", "is_whole", "is_below", "is_count", "is_row", "is_room", "is_saying", "need_saying", "need_alike", "EVEN", "is_price", "are_prices", "need_prices", "cost", "answers_to", "keepers", "losing", "lost_in", "kept_in", "need_both", "need_kept", "is_cell"]
def hloose1 : List PySem.Str := ["is_state", "is_watcher", "need_watcher", "choices_of", "on_rooms", "least_of", "mildest_on", "mildest", "MILDER", "NOT", "let_wholly", "steps_to", "milder", "_law_pot", "_law_take", "_law_same", "_law_room", "_law_saying", "_law_price", "_law_prices", "_law_cost", "_law_answers", "_law_held", "_law_kept", "_law_whole", "_law_world", "_law_some", "_law_run", "_law_is_pair", "_law_pairs_right"]
def hloose2 : List PySem.Str := ["_law_is_step", "_law_run_right", "_law_right", "_law_phased", "_law_let_run", "_law_mended_right", "_law_never_later", "_law_least_right"]
def hloose : List PySem.Str := hloose0 ++ (hloose1 ++ (hloose2))
abbrev hR : PySem.W.OpenRow := PySem.W.OpenLaw.row PySem.Challenge.rw_mildwarden_k30_whole_the_mildest_is_leas
abbrev hk : PySem.W.Hook := He.hookD 4 hfa hfn
def hob (s : PySem.W.SharedT) : He.AlD := He.obsDG 4 hfa hfn (HandSHeadRun.getT s)
theorem hob_eq (s : PySem.W.SharedT) : hob s = hk.obs s.abs := He.obsDG_eq (HandSHeadRun.getT_eq s)
set_option maxHeartbeats 0 in
theorem hrun (w : World) : HandSHeadRun.RunEq hR (PySem.W.view hR.prog [76]) hk hob 4000 hloose w := by
  intro os
  kernel_rfl

end Mw
namespace Mw
open PySem PySem.Spec PyProof.Rows L2 PySem.W PySem.SeqAt

section
variable {X : Cx}
/-! ### powers of great bases -/
def CPowG (i j : Int) : Prop := 0 ≤ j ∧ (Builtin.Int.intBits i : Int) * j ≤ 2 ^ 27
theorem op_powG : OpR X (binaryOp .Pow) (rI CPowG fun i j => .int (i ^ j.toNat)) :=
  opI fun _ _ _ _ _ _ _ hc q => pow_int hc.1 hc.2 q

/-! ### order of data -/
def rGeD (K : PySem.W.Frag) : R2 := fun x y H Q => ∃ d e, Dp K H x d ∧ Dp K H y e ∧ alike d e = true ∧ d ≠ .none ∧
  min d.depth e.depth ≤ 60 ∧ Q (.bl (!dataLt d e)) H
theorem op_geD (hu : X.A.units + 64 < cLine) : OpR X (compareOp .GtE) (rGeD X.K) := by
  intro pins s σ H x y v u Q I rx ry h
  obtain ⟨d, e, hd, he, ha, hn, hm, q⟩ := h
  obtain ⟨as, r1⟩ := Dp.reads I d x v hd rx
  obtain ⟨bs, r2⟩ := Dp.reads I e y u he ry
  exact ge_data r1 r2 ha hn (by omega) ⟨.bl _, H, I, rfl, q⟩

/-! ### x in a tuple of data -/
def rInTD (K : PySem.W.Frag) (neg : Bool) : R2 := fun x y H Q => ∃ d ds, Dp K H x d ∧ Dp K H y (.tuple ds) ∧
  shaped d = true ∧ shaped (.tuple ds) = true ∧ Q (.bl (if neg then !(ds.any fun z => PyData.eqv z d) else ds.any fun z => PyData.eqv z d)) H
theorem op_inTD (hu : X.A.units + 65 < cLine) : OpR X (compareOp .In) (rInTD X.K false) := by
  intro pins s σ H x y v u Q I rx ry h
  obtain ⟨d, ds, hd, he, sd, se, q⟩ := h
  obtain ⟨as, r1⟩ := Dp.reads I d x v hd rx
  obtain ⟨bs, r2⟩ := Dp.reads I (.tuple ds) y u he ry
  exact in_tuple_reads r2 r1 (canLay_of_shaped se) (canLay_of_shaped sd) (room_in_shaped sd hu) ⟨.bl _, H, I, rfl, q⟩
theorem op_notInTD (hu : X.A.units + 65 < cLine) : OpR X (compareOp .NotIn) (rInTD X.K true) := by
  intro pins s σ H x y v u Q I rx ry h
  obtain ⟨d, ds, hd, he, sd, se, q⟩ := h
  obtain ⟨as, r1⟩ := Dp.reads I d x v hd rx
  obtain ⟨bs, r2⟩ := Dp.reads I (.tuple ds) y u he ry
  exact notIn_tuple_reads r2 r1 (canLay_of_shaped se) (canLay_of_shaped sd) (room_in_shaped sd hu) ⟨.bl _, H, I, rfl, q⟩

/-! ### the least of a list of data -/
def rMinD (K : PySem.W.Frag) : List V → Hp → VK → Prop := fun vs H Q => ∃ (a : Addr) (xs : List V) (d : PyData) (ds : List PyData),
  vs = [.ref a] ∧ SqL K H a xs ∧ DpAll K H xs (d :: ds) ∧ AlikeAll (d :: ds) ∧ PyData.depthAll (d :: ds) ≤ 60 ∧
  ∀ (i : Nat) y, xs[i]? = some y → (d :: ds)[i]? = some (minD d ds) → Q y H
theorem dpAll_get {K : PySem.W.Frag} {H : Hp} : ∀ {xs : List V} {ds : List PyData} {i : Nat} {x : V}, DpAll K H xs ds → xs[i]? = some x → ∃ d, ds[i]? = some d ∧ Dp K H x d
  | _, _, i, x, .nil, e => by simp at e
  | _, _, 0, x, .cons h _, e => by
    simp at e; subst e; exact ⟨_, rfl, h⟩
  | _, _, i + 1, x, .cons _ t, e => by
    obtain ⟨d, h1, h2⟩ := dpAll_get (i := i) (x := x) t (by simpa using e)
    exact ⟨d, by simpa using h1, h2⟩
theorem dpAll_len {K : PySem.W.Frag} {H : Hp} : ∀ {xs : List V} {ds : List PyData}, DpAll K H xs ds → xs.length = ds.length
  | _, _, .nil => rfl
  | _, _, .cons _ t => by simp [dpAll_len t]
theorem minD_mem (d : PyData) : ∀ ds : List PyData, minD d ds ∈ d :: ds := by
  intro ds
  unfold minD
  induction ds generalizing d with
  | nil => simp
  | cons e r ih =>
    rw [List.foldl_cons]
    by_cases h : dataLt e d = true
    · rw [if_pos h]
      have := ih e
      rcases List.mem_cons.mp this with q | q
      · rw [q]; simp
      · simp [q]
    · rw [if_neg h]
      have := ih d
      rcases List.mem_cons.mp this with q | q
      · rw [q]; simp
      · simp [q]
theorem cr_minD (hc : X.calm = true) (hu : X.A.units + 64 < cLine) : CallR X (.builtin "min") (rMinD X.K) := by
  intro pins s σ H vs us Q I r h
  obtain ⟨a, xs, d, ds, rfl, hs, hd, ha, hz, q⟩ := h
  obtain ⟨its, rv, hl, _⟩ := I.list hs
  obtain ⟨u, rfl, ru⟩ := vals1 r
  obtain rfl : u = Value.ref a := ru
  obtain ⟨as, hr⟩ := Dp.readsAll I (d :: ds) xs its hd rv
  refine min_list_data (I.ok.hd hc) hl.isList (by simpa using hr) ha (by omega) fun i v h' tk bs hv hrd hk => ?_
  have hv' : its[i]? = some v := by simpa using hv
  have hlt : i < its.length := (List.getElem?_eq_some_iff.mp hv').1
  have hlx : i < xs.length := by rw [rv.length]; exact hlt
  obtain ⟨y, hy⟩ : ∃ y, xs[i]? = some y := ⟨xs[i], List.getElem?_eq_getElem hlx⟩
  obtain ⟨u', hu', ry⟩ := rv.get hy
  rw [hv'] at hu'
  cases hu'
  obtain ⟨e, he, hde⟩ := dpAll_get hd hy
  obtain ⟨cs, hre⟩ := Dp.reads I e y v hde ry
  have al : alike e (minD d ds) = true := ha.1 _ (List.mem_of_getElem? he) _ (minD_mem d ds)
  have ee : e = minD d ds := alike_unique _ _ _ _ _ al (reads_keeps hk hre) hrd
  exact ⟨y, H, I.kept (t' := tk) hk, ry, q i y hy (by rw [he, ee])⟩
end
end Mw

namespace Mw
open PySem PySem.Spec PyProof.Rows L2

/-! ### enumerate of a tuple -/
set_option maxHeartbeats 8000000 in
theorem meets_enumT {v : Value} {o : Obj} {H : Heap → Prop} (B : Begins v o H) :
    Meets (Builtin.«enumerate.__new__» ⟨[.type "enumerate", v], []⟩) (fun _ R s => H s.heap ∧
      R (.ok (.ret (.ref (s.heap.push o).objs.size))) { s with heap := (s.heap.push o).push { cls := .type "enumerate", data := .fields #[.none, .bool false, .ref s.heap.objs.size, rawInt 0, .none, .none] } }) :=
  .of_wp fun prog w A R s h => by
    obtain ⟨hp, g, d, tk, os⟩ := s
    obtain ⟨h1, h⟩ := h
    have hsub := sub_enumerate
    have q0 : ∀ {A' : Around} {E : Value → Shared → Prop} {Q : Value → Shared → Prop}, Q (.ref hp.objs.size) ⟨hp.push o, g, d, tk, os⟩ → wpAny (model prog w) A' (pyIter v) Q E ⟨hp, g, d, tk, os⟩ :=
      fun z => B.iter prog w _ _ ⟨hp, g, d, tk, os⟩ _ h1 z
    wp_walk using q0
    refine wpAny_stack_any fun st => wpAny_pure ?_
    split
    · rename_i c _ _ _ _ _
      cases (c == Value.type "enumerate") <;> (wp_walk using q0; exact ⟨_, rfl, h⟩)
    · wp_walk using q0
      exact ⟨_, rfl, h⟩
theorem call_enumT {prog : Program} {w : World} {A : Around} {E : Value → Shared → Prop} {s : Shared} {t : Addr} {items : Array Value} {Q : Value → Shared → Prop} (hL : s.heap.IsTuple t items)
    (h : ∀ h', IsEnum h' (s.heap.objs.size + 1) s.heap.objs.size 0 .none → h'.IsTupleIter s.heap.objs.size t 0 →
      (∀ b o, s.heap.get? b = some o → h'.get? b = some o) → Q (.ref (s.heap.objs.size + 1)) { s with heap := h' }) :
    wpAny (model prog w) A (call (.type "enumerate") [.ref t]) Q E s := by
  refine callType_new F.called_enumerate (by decide) (F.typeCall_enumerate_1 _) (F.newCall_enumerate_1 _) (fun obj => F.args_object_init_2 obj _) F.entry_enumerate_new
    (meets_enumT (begins_tuple t items)) ⟨hL, ?_⟩
  have hz : (s.heap.push { cls := .type "tuple_iterator", data := .fields #[.ref t, .int 0 0] }).objs.size = s.heap.objs.size + 1 := Heap.size_push ..
  show _ ∧ _
  rw [hz]
  have he : IsEnum ((s.heap.push { cls := .type "tuple_iterator", data := .fields #[.ref t, .int 0 0] }).push
      { cls := .type "enumerate", data := .fields #[.none, .bool false, .ref s.heap.objs.size, rawInt 0, .none, .none] }) (s.heap.objs.size + 1) s.heap.objs.size 0 .none := by
    have z := Heap.get?_push_size (s.heap.push { cls := .type "tuple_iterator", data := .fields #[.ref t, .int 0 0] })
      (o := { cls := .type "enumerate", data := .fields #[.none, .bool false, .ref s.heap.objs.size, rawInt 0, .none, .none] }) rfl
    rw [hz] at z
    exact z
  exact ⟨⟨_, he, rfl⟩, h _ he ⟨_, Heap.get?_push_of_some _ (Heap.get?_push_size _ rfl), rfl, rfl⟩ fun b o x => Heap.get?_push_of_some _ (Heap.get?_push_of_some _ x)⟩

/-- the tuple at a, each item in a new pair -/
def IteT (K : PySem.W.Frag) (a : Addr) : It :=
  ⟨fun i H => ∃ (xs : List V) (x : V), SqT K H a xs ∧ xs[i]? = some x,
   fun i H v H' => ∃ T x, v = .ref T ∧ H T = none ∧ H' = upd H T (.tup [.int (i : Nat), x]) ∧ ∀ xs, SqT K H a xs → xs[i]? = some x,
   fun i H => ∃ xs : List V, SqT K H a xs ∧ xs.length ≤ i⟩
theorem tup_inj {X : Cx} {pins : List (Addr × Obj)} {σ : L2.St} {H : Hp} {s : Shared} {a : Addr} {xs ys : List V} (I : L2.Inv X pins σ H s) (h : SqT X.K H a xs) (h' : SqT X.K H a ys) : xs = ys := by
  obtain ⟨its, r, ⟨o, e, _, n, d⟩, _⟩ := I.tuple h
  obtain ⟨its', r', ⟨o', e', _, n', d'⟩, _⟩ := I.tuple h'
  rw [e] at e'
  cases e'
  rw [d] at d'
  injection d' with d1 _
  have : its = its' := by simpa using congrArg Array.toList d1
  subst this
  exact Vals.inj r r'
theorem turn_enumT {P : Program} {w : World} {K : PySem.W.Frag} {elts : List Expr} {kk : Nat} {tpos : Pos} (a e it : Addr) :
    Turn P w K (.Tuple elts kk tpos) (IteT K a) [e, it] e (fun i h => (∃ old, IsEnum h e it ((i : Nat) : Int) old) ∧ h.IsTupleIter it a i ∧ e ≠ it) where
  mem := by simp
  obj := fun i h st b hb => by
    obtain ⟨⟨old, he⟩, ⟨o, ho, hc, hd⟩, _⟩ := st
    rcases (by simpa using hb : b = e ∨ b = it) with z | z
    · subst z
      exact ⟨_, he, fun v q => nomatch q⟩
    · subst z
      exact ⟨o, ho, fun v q => by rw [hd] at q; cases q⟩
  keep := fun i h h' st k => let ⟨⟨old, he⟩, hi, hne⟩ := st; ⟨⟨old, k e (by simp) _ he⟩, hi.at fun o q => k it (by simp) o q, hne⟩
  item := by
    intro X hP hw hK hc i pins s σ H E I hf st hg
    subst hP hw hK
    obtain ⟨⟨old, he⟩, hit, hne⟩ := st
    obtain ⟨xs, x, hq, hx⟩ := hg
    obtain ⟨its, rv, p, _⟩ := I.tuple hq
    obtain ⟨u, hu, ru⟩ := rv.get hx
    have hel : e < s.heap.objs.size := Heap.lt_size he
    have hil : it < s.heap.objs.size := by obtain ⟨_, q, _⟩ := hit; exact Heap.lt_size q
    have ptp : s.heap.IsTuple a its.toArray := p
    have nai : a ≠ it := by
      rintro rfl
      obtain ⟨o1, e1, c1, _⟩ := p
      obtain ⟨o2, e2, c2, _⟩ := hit
      rw [e1] at e2
      cases e2
      exact absurd (Value.type.inj (c1.symm.trans c2)) (by decide)
    have nae : e ∉ [it, a] := by
      intro hm
      rcases (by simpa using hm : e = it ∨ e = a) with z | z
      · exact hne z
      · subst z
        obtain ⟨o1, e1, c1, _⟩ := p
        rw [show s.heap.get? e = some _ from he] at e1
        cases e1
        exact absurd (Value.type.inj c1) (by decide)
    have hlt : i < its.toArray.size := by
      have := (List.getElem?_eq_some_iff.mp hu).1
      simpa using this
    refine wpAny_pyNext_enum_itemD (Draws.tuple (A := X.A.in1) (I.ok.hd hc) it a nai its.toArray) he ⟨hit, ptp⟩ hlt hne nae fun x' h' tk hP ho hst' hT hsz hk => ?_
    have ex : x' = u := by
      have h1 : its[i]? = some x' := by simpa using hP
      rw [hu] at h1
      exact (Option.some.inj h1).symm
    subst ex
    refine ⟨_, rfl, wpAny_letOwnedTupleGo_enum (s := { s with heap := h', toks := tk + 1 }) ho fun h'' he' sb => ?_⟩
    have hT2 : h''.get? s.heap.objs.size = some { cls := .type "tuple", data := .seq #[.int i tk, x'] } := (sb.2 _ (Nat.ne_of_gt hel)).trans hT
    have new : ObjOk X.prog X.w (upd H s.heap.objs.size (.tup [.int (i : Nat), x])) h'' s.heap.objs.size (.tup [.int (i : Nat), x]) :=
      ⟨by show 2 ≤ sizeLine; decide, [.int i tk, x'], .cons ⟨_, rfl⟩ (.cons ru .nil), ⟨_, hT2, rfl, _, rfl⟩⟩
    have I1 : Inv X pins σ (upd H s.heap.objs.size (.tup [.int (i : Nat), x])) { s with heap := h'', toks := tk + 1 } :=
      I.turnedNew (ch := [e, it]) (fun b ob hb q => (sb.2 b (fun z => hb (by simp [z]))).trans (hk b ob (fun z => hb (by simp [z])) (fun z => hb (by simp [z])) q)) hf (Nat.le_refl _) new
    refine ⟨.ref s.heap.objs.size, _, I1, rfl, ⟨_, x, rfl, I.hok.fresh (Nat.le_refl _), rfl, fun ys hy => by rw [tup_inj I hy hq]; exact hx⟩,
      ⟨⟨x', ?_⟩, hst'.1.at fun o q => (sb.2 it (Ne.symm hne)).trans q, hne⟩, fun b hb => ?_⟩
    · have e1 : ((i + 1 : Nat) : Int) = (i : Int) + 1 := by omega
      rw [e1]
      exact he'
    · have hb' : b < s.heap.objs.size := by
        rcases (by simpa using hb : b = e ∨ b = it) with z | z
        · rw [z]; exact hel
        · rw [z]; exact hil
      rw [upd_ne (Nat.ne_of_lt hb')]
      exact (hf b hb).1
  done := by
    intro X hP hw hK hc i pins s σ H E I hf st hg
    subst hP hw hK
    obtain ⟨⟨old, he⟩, hit, hne⟩ := st
    obtain ⟨xs, hq, hx⟩ := hg
    obtain ⟨its, rv, p, _⟩ := I.tuple hq
    obtain ⟨f0, f1, f2, f3, f4, f5⟩ := hf it (by simp)
    have hl := rv.length
    have ptp : s.heap.IsTuple a its.toArray := p
    have nai : a ≠ it := by
      rintro rfl
      obtain ⟨o1, e1, c1, _⟩ := p
      obtain ⟨o2, e2, c2, _⟩ := hit
      rw [e1] at e2
      cases e2
      exact absurd (Value.type.inj (c1.symm.trans c2)) (by decide)
    have D := Draws.tuple (prog := X.prog) (w := X.w) (A := X.A.in1) (I.ok.hd hc) it a nai its.toArray
    have hT : s.TypeIs (.ref e) "enumerate" := ⟨_, he, rfl⟩
    unfold pyNext
    refine wpAny_bind (wpAny_attempt (wpAny_callSpecial?_slot (name := Str.ofString "__next__") hT F.slot_enumerate_next
      (wpAny_call_entry F.slot_enumerate_next hT F.entry_enumerate_next ?_ (F.args_enumerate_next_1 _))))
    show wpAny _ _ (field (.ref e) 2 >>= _) _ _ _
    refine wpAny_bind (wpAny_field he rfl (x := .ref it) rfl ?_)
    refine wpAny_bind (wpAny_nextOf_tuple_end (I.ok.hd hc) hit ptp (by simp; omega) fun h' x he' hx' => ?_)
    obtain ⟨o, ho, hc'⟩ := hx'
    refine wpAny_bind (wpAny_isInstance (T := "StopIteration") (b := true) ⟨o, ho, hc'⟩ isSubtype_stop ?_)
    exact wpAny_pure ⟨rfl, I.turned (t' := s.toks) (fun b o hb q => he' b o hb q) f0 f1 f3 f4 f5⟩
  self := fun A i s Q E st h => let ⟨⟨_, he⟩, _⟩ := st; wpAny_pyIter_enum he h
def iEnumT (K : PySem.W.Frag) (ta : TA) : TI := fun σ H R => ta σ H fun vs H1 => ∃ a xs, vs = [.ref a] ∧ SqT K H1 a xs ∧ R (IteT K a) H1
theorem pi_enumT {X : Cx} {e : Expr} {ta : TA} {p pos tpos : Pos} {elts : List Expr} {kk : Nat} (hg : Gl X "enumerate") (hm : X.mg "enumerate" = none) (ha : PA X [e] ta) (hs : starEach [e] X.env = [(false, eval e X.env)] := by rfl) :
    PI X (.Tuple elts kk tpos) (.Call (.Name "enumerate" p) [e] [] pos) (iEnumT X.K ta) := by
  refine ⟨fun pins s σ H R I h => ?_⟩
  refine Call_ (ld_blt I hg hm boot_enumerate (PyProof.Rows.callWith_type1 (thn (ha.run pos pins s σ H _ I h) fun us s1 ⟨vs, H1, I1, r1, q1⟩ => ?_) hs rfl))
  obtain ⟨a, xs, ex, hq, q⟩ := q1
  subst ex
  cases r1 with
  | cons r rr =>
    cases rr
    cases r
    obtain ⟨its, rv, p', _⟩ := I1.tuple hq
    refine call_enumT (items := its.toArray) p' fun h' he hit hk => wpAny_pyIter_enum he ?_
    have I2 : Inv X pins σ H1 { s1 with heap := h' } := I1.kept (t' := s1.toks) hk
    refine ⟨s1.heap.objs.size + 1, [s1.heap.objs.size + 1, s1.heap.objs.size], _, _, H1, rfl, I2, turn_enumT a (s1.heap.objs.size + 1) s1.heap.objs.size, ⟨⟨.none, he⟩, hit, Nat.succ_ne_self _⟩, fun b hb => ?_, q⟩
    have hle : s1.heap.objs.size ≤ b := by
      rcases (by simpa using hb : b = s1.heap.objs.size + 1 ∨ b = s1.heap.objs.size) with z | z
      · rw [z]; exact Nat.le_add_right _ _
      · rw [z]; exact Nat.le_refl _
    exact I1.fpOk hle (I1.hok.fresh hle)
end Mw

namespace Mw
open PySem PySem.Spec PyProof.Rows L2

/-! ### items of a locked dict with tuple keys -/
theorem frzT2 {X : Cx} {pins : List (Addr × Obj)} {σ : L2.St} {H : Hp} {s : Shared} {d : Addr} {o : Obj} {kvs : List (List Key × V)} (I : L2.Inv X pins σ H s) (h : H d = some (.frz o (.dT kvs))) :
    (d == sysModules) = false ∧ s.heap.get? d = some o ∧ o.ExactDict ∧ ∃ (es : Array DictEntry) (ep : Nat), o.data = .dict es ep ∧ es.size = kvs.length ∧
      ∀ (i : Nat) (k : List Key) (v : V), kvs[i]? = some (k, v) → ∃ (en : DictEntry) (q : Addr), es[i]? = some en ∧ en.key = .ref q ∧ H q = some (.tup (k.map kV)) ∧ RelV v en.val := by
  obtain ⟨hd, z, hs, xs, pr, o', es, ep, ho, hx, hdt, he, _⟩ := I.hok d _ h
  rw [hd] at ho
  cases ho
  refine ⟨hs, hd, hx, es, ep, hdt, ?_, fun i k v e => ?_⟩
  · have l1 : es.size = xs.length := size_of_entries he
    have l2 : kvs.length = xs.length := Paired.length pr
    omega
  · obtain ⟨b, hb, e1, e2, e3⟩ := paired_get pr e
    have q := entry_at he i
    rw [hb] at q
    exact ⟨_, b.2.1, q, rfl, e2, e3⟩
/-- the pairs, each a new tuple of the key's own tuple and the value -/
def ItiT (d : Addr) (o : Obj) (kvs : List (List Key × V)) : It :=
  ⟨fun i H => H d = some (.frz o (.dT kvs)) ∧ i < kvs.length,
   fun i H x H' => ∃ T k v q, kvs[i]? = some (k, v) ∧ H q = some (.tup (k.map kV)) ∧ x = .ref T ∧ H T = none ∧ H' = upd H T (.tup [.ref q, v]),
   fun i H => H d = some (.frz o (.dT kvs)) ∧ kvs.length ≤ i⟩
theorem turn_itemsT {P : Program} {w : World} {K : PySem.W.Frag} {d : Addr} {o : Obj} {es : Array DictEntry} {ep : Nat} {kvs : List (List Key × V)} {elts : List Expr} {kk : Nat} {tpos : Pos} (it : Addr) (hod : o.data = .dict es ep) :
    Turn P w K (.Tuple elts kk tpos) (ItiT d o kvs) [it] it (fun i h => ∃ ok ov, IsItemIter h it d i kvs.length ep ok ov) where
  mem := by simp
  obj := fun i h st b hb => by
    obtain rfl : b = it := by simpa using hb
    obtain ⟨ok, ov, e⟩ := st
    exact ⟨_, e, fun v z => nomatch z⟩
  keep := fun i h h' st k => let ⟨ok, ov, e⟩ := st; ⟨ok, ov, k it (by simp) _ e⟩
  item := by
    intro X hP hw hK hc i pins s σ H E I hf st hg
    subst hP hw hK
    obtain ⟨hd, hi⟩ := hg
    obtain ⟨hs, hgd, hx, es', ep', hdt, hsz, ent⟩ := frzT2 I hd
    obtain ⟨rfl, rfl⟩ := dict_ep hod hdt
    obtain ⟨⟨k, v⟩, hkv⟩ : ∃ p, kvs[i]? = some p := ⟨kvs[i], List.getElem?_eq_getElem hi⟩
    obtain ⟨en, q, hen, hk, hq, rv⟩ := ent i k v hkv
    obtain ⟨ok, ov, he⟩ := st
    have hi' : i < es'.size := by omega
    have een : es'[i] = en := by
      have z : es'[i]? = some es'[i] := Array.getElem?_eq_getElem hi'
      rw [hen] at z
      exact (Option.some.inj z).symm
    rw [← hsz] at he
    have hlt : it < s.heap.objs.size := Heap.lt_size he
    have raw : s.heap.DictRaw d es' ep' := ⟨o, hgd, hx, hdt⟩
    refine wpAny_pyNext_items_item_raw he raw hi' fun h' ho hT hz hkeep => ?_
    rw [een, hk] at hT
    refine ⟨_, rfl, wpAny_letOwnedTupleGo_items (s := { s with heap := h' }) ho fun h'' he' sb => ?_⟩
    have hT2 : h''.get? s.heap.objs.size = some { cls := .type "tuple", data := .seq #[.ref q, en.val] } := (sb.2 _ (Nat.ne_of_gt hlt)).trans hT
    have new : ObjOk X.prog X.w (upd H s.heap.objs.size (.tup [.ref q, v])) h'' s.heap.objs.size (.tup [.ref q, v]) :=
      ⟨by show 2 ≤ sizeLine; decide, [.ref q, en.val], .cons rfl (.cons rv .nil), ⟨_, hT2, rfl, _, rfl⟩⟩
    have I1 : L2.Inv X pins σ (upd H s.heap.objs.size (.tup [.ref q, v])) { s with heap := h'' } :=
      I.turnedNew (t' := s.toks) (ch := [it]) (fun b ob hb e => (sb.2 b (by simpa using hb)).trans (hkeep b ob (by simpa using hb) e)) hf (Nat.le_refl _) new
    refine ⟨.ref s.heap.objs.size, _, I1, rfl, ⟨_, k, v, q, hkv, hq, rfl, I.hok.fresh (Nat.le_refl _), rfl⟩, ⟨es'[i].key, es'[i].val, ?_⟩, fun b hb => ?_⟩
    · rw [← hsz]
      exact he'
    · obtain rfl : b = it := by simpa using hb
      rw [upd_ne (Nat.ne_of_lt hlt)]
      exact (hf b (by simp)).1
  done := by
    intro X hP hw hK hc i pins s σ H E I hf st hg
    subst hP hw hK
    obtain ⟨hd, hi⟩ := hg
    obtain ⟨f0, f1, f2, f3, f4, f5⟩ := hf it (by simp)
    obtain ⟨hs, hgd, hx, es', ep', hdt, hsz, ent⟩ := frzT2 I hd
    obtain ⟨rfl, rfl⟩ := dict_ep hod hdt
    obtain ⟨ok, ov, he⟩ := st
    rw [← hsz] at he
    exact wpAny_pyNext_items_end_raw (I.ok.hd hc) he ⟨o, hgd, hx, hdt⟩ (by omega) fun h' eb => ⟨rfl, I.turned (t' := s.toks) (fun b ob hb e => eb b ob hb e) f0 f1 f3 f4 f5⟩
  self := fun A i s Q E st h => let ⟨_, _, e⟩ := st; wpAny_pyIter_itemiter e h
def iItemsT (td : TE) : TI := fun σ H R => td σ H fun x H1 => ∃ d o kvs, x = .ref d ∧ H1 d = some (.frz o (.dT kvs)) ∧ R (ItiT d o kvs) H1
theorem pi_itemsT {X : Cx} {e : Expr} {td : TE} {apos cpos tpos : Pos} {elts : List Expr} {kk : Nat} (he : PE X e td) (hbase : attributeBase e "items" X.env (eval e X.env) = eval e X.env := by rfl) (hline : (apos.endLine == cpos.line) = true := by rfl) :
    PI X (.Tuple elts kk tpos) (.Call (.Attribute e "items" apos) [] [] cpos) (iItemsT td) := by
  refine ⟨fun pins s σ H R I h => ?_⟩
  refine wpAny_Call_method (T := "dict") (id := "dict.items") hbase rfl hline F.plainAttrs_dict F.slot_dict_items F.type_dict_items (thn (he.run pins s σ H _ I h) fun u s1 ⟨x, H1, I1, rx, d, o, kvs, ex, hd, q⟩ => ?_)
  subst ex
  obtain rfl : u = Value.ref d := rx
  obtain ⟨hs, hgd, hx, es, ep, hdt, hsz, ent⟩ := frzT2 I1 hd
  have raw : s1.heap.DictRaw d es ep := ⟨o, hgd, hx, hdt⟩
  refine ⟨raw.typeIs, ?_, ?_⟩
  · intro a ea
    obtain rfl : d = a := Value.ref.inj ea
    exact ⟨o, hgd, hx.2.1⟩
  have I2 : L2.Inv X pins σ H1 { s1 with heap := s1.heap.push { cls := .type "dict_items", data := .fields #[.ref d] } } := I1.kept (t' := s1.toks) fun b ob q => Heap.get?_push_of_some _ q
  have fin : wpAny (model X.prog X.w) X.A (pyIter (.ref s1.heap.objs.size)) (PIE X pins σ (.Tuple elts kk tpos) R) X.xe { s1 with heap := s1.heap.push { cls := .type "dict_items", data := .fields #[.ref d] } } := by
    refine wpAny_pyIter_items_raw (d := d) (es := es) (ep := ep) ⟨_, Heap.get?_push_size _ rfl, rfl, rfl⟩ (raw.at fun o e => Heap.get?_push_of_some _ e) (pi_one (tk := s1.toks) I2 _ (turn_itemsT _ hdt) ⟨.none, .none, ?_⟩ q)
    rw [← hsz]
    exact Heap.get?_push_size _ rfl
  show wpAny _ _ (callWith cpos (.builtin "dict.items") [.ref d] [] []) _ X.xe s1
  exact method_meetsIn F.slot_dict_items F.entry_dict_items rfl (PySem.evalArgs_none ⟨rfl, raw.typeIs, F.args_dict_items_1 _, _, meets_dict_items_raw d hs, ⟨es, ep, raw⟩, fin⟩)
end Mw

namespace Mw
open PySem PySem.Spec PyProof.Rows L2

/-- what a clause's loop asks: J walked, vs the names that are forgotten at each turn, r what stands within -/
def tRun (J : It) (g : TG) (tt : TT) (vs : List Nat) (r : L2.St → Hp → (Hp → Prop) → Prop) (σ : L2.St) (H : Hp) (Nx : Hp → Prop) : Prop :=
  ∃ W : Nat → Nat → Hp → Prop, (∃ m, W 0 m H) ∧ ∀ i m H, W i m H → (J.stop i H ∧ Nx H) ∨ (J.go i H ∧ ∃ N1 : Hp → Prop, (∀ H', N1 H' → ∃ m', m' < m ∧ W (i + 1) m' H') ∧
    ∀ x H', J.yld i H x H' → g x (wipe σ vs) H' fun σ2 H2 => wipe σ2 vs = wipe σ vs ∧ tt σ2 H2 fun b H3 => if b = true then r σ2 H3 N1 else N1 H3)
/-- a step within a comprehension's turn that may forget the names vs -/
def EmOk (Y : Cx) (m : Sem Unit) (r : L2.St → Hp → (Hp → Prop) → Prop) (vs : List Nat) : Prop :=
  ∀ (pins : List (Addr × Obj)) (s : Shared) (σ : L2.St) (H : Hp) (Nx : Hp → Prop), L2.Inv Y pins σ H s → r σ H Nx →
    wpAny (model Y.prog Y.w) Y.A m (fun _ s' => ∃ σ' H', L2.Inv Y pins σ' H' s' ∧ σ'.length = σ.length ∧ (∀ (j : Nat) v, σ[j]? = some (some v) → j ∉ vs → σ'[j]? = some (some v)) ∧ Nx H') (fun _ _ => False) s
def oneTurn (e : Expr) (k : Nat) (it acc : Value) (env : Env) (p : Pos) (tg : Expr) (ifs : List Expr) (m : Sem Unit) : Sem Fin := do
  standAt p
  match ← pyNext it with
  | none => pure (.done .next)
  | some v =>
    letOwnedTupleGo tg it v
    assign tg env v
    let mut ok := true
    for c in ifs do
      if ok then ok ← isTrue c env (eval c env)
    if ok then m
    again (.compLoop e k it acc env)

section
variable {X : Cx} {s0 : Shared} {H0 : Hp} {scope : Scope} {ce : Env} {fp0 : List Addr}
theorem clause_loop (hc : X.calm = true) {e tg : Expr} {k : Nat} {acc : Value} {p : Pos} {ifs : List Expr} {m : Sem Unit} {r : L2.St → Hp → (Hp → Prop) → Prop} {vs vs' : List Nat} {it : Addr} {fp : List Addr} {tn : Nat → Heap → Prop} {J : It} {g : TG} {tt : TT}
    {pins : List (Addr × Obj)} {σ : L2.St} {H : Hp} {s : Shared} {Nx : Hp → Prop} {R : Result → Shared → Prop}
    (teq : compTurn e k (.ref it) acc ce = oneTurn e k (.ref it) acc ce p tg ifs m)
    (hden : ∀ (Q : Fin → Shared → Prop) (E : Value → Shared → Prop) (s : Shared), wpAny (model X.prog X.w) X.A ((compTurn e k (.ref it) acc ce).onRaise (fun x => do noteFrame x ce; theTreesLotGoes x)) Q E s →
      wpAny (model X.prog X.w) (X.A.under (.compLoop e k (.ref it) acc ce)) ((model X.prog X.w).den (.compLoop e k (.ref it) acc ce)) Q E s)
    (T : Turn X.prog X.w X.K tg J fp it tn) (pg : PG (X.blk s0 H0 scope ce fp0) tg g) (pt : PTs (X.blk s0 H0 scope ce fp0) ifs tt) (em : EmOk (X.blk s0 H0 scope ce fp0) m r vs') (hv : ∀ i ∈ vs', i ∈ vs)
    (fpok : ∀ H', (∀ b ∈ fp, H' b = none) → ∀ s', L2.Inv (X.blk s0 H0 scope ce fp0) pins (wipe σ vs) H' s' → ∀ b ∈ fp, FpOk (X.blk s0 H0 scope ce fp0) pins H' b)
    (hR : ∀ s' H', L2.Inv (X.blk s0 H0 scope ce fp0) pins (wipe σ vs) H' s' → Nx H' → R (.ok .next) s')
    (I0 : L2.Inv (X.blk s0 H0 scope ce fp0) pins (wipe σ vs) H s) (st0 : tn 0 s.heap) (n0 : ∀ b ∈ fp, H b = none) (w : tRun J g tt vs r σ H Nx) :
    codeAny (model X.prog X.w) X.A (.compLoop e k (.ref it) acc ce) R s := by
  obtain ⟨W, ⟨m0, w0⟩, turn⟩ := w
  refine codeAny_loop rfl (fun n s' => ∃ i H', L2.Inv (X.blk s0 H0 scope ce fp0) pins (wipe σ vs) H' s' ∧ tn i s'.heap ∧ (∀ b ∈ fp, H' b = none) ∧ W i n H') ?_ m0 ⟨0, H, I0, st0, n0, w0⟩
  rintro n s1 ⟨i, H1, I1, st1, n1, w1⟩
  refine hden _ _ _ (wpAny_noted ?_)
  rw [teq]
  unfold oneTurn
  refine wpAny_bind (wpAny_standAt (wpAny_bind ?_))
  rcases turn i n H1 w1 with ⟨stop, q⟩ | ⟨go, N1, hN1, step⟩
  · refine thnF (T.done (X.blk s0 H0 scope ce fp0) rfl rfl rfl hc i pins s1 _ H1 (fun _ _ => False) I1 (fpok H1 n1 s1 I1) st1 stop) fun o s2 ⟨ho, I2⟩ => ?_
    subst ho
    exact wpAny_pure (hR s2 H1 I2 q)
  · refine thnF (T.item (X.blk s0 H0 scope ce fp0) rfl rfl rfl hc i pins s1 _ H1 (fun _ _ => False) I1 (fpok H1 n1 s1 I1) st1 go) fun o s2 ⟨u, ho, h2⟩ => ?_
    subst ho
    refine wpAny_bind (thnF h2 fun _ s3 ⟨x, H3, I3, r3, y3, st3, n3⟩ => ?_)
    have I3' := I3.pinned (fpok H3 n3 s3 I3) (T.obj _ _ st3)
    refine wpAny_bind (thnF (pg.run _ s3 _ H3 x u _ I3' r3 (step x H3 y3)) fun _ s4 ⟨σ4, H4, I4, hw4, q4⟩ => ?_)
    refine wpAny_bind (thnF (pt.run _ s4 σ4 H4 _ I4 q4) fun b s5 ⟨H5, I5, q5⟩ => ?_)
    -- back at the loop, from slots that know what the turn's start knew
    have fin : ∀ {σ' : L2.St} {s' : Shared} {H' : Hp}, L2.Inv (X.blk s0 H0 scope ce fp0) (pins ++ pinsAt fp s3.heap) σ' H' s' → (wipe σ vs).length = σ'.length → (∀ (j : Nat) v, (wipe σ vs)[j]? = some (some v) → σ'[j]? = some (some v)) → N1 H' →
        ∃ m', m' < n ∧ ∃ i H', L2.Inv (X.blk s0 H0 scope ce fp0) pins (wipe σ vs) H' s' ∧ tn i s'.heap ∧ (∀ b ∈ fp, H' b = none) ∧ W i m' H' := by
      intro σ' s' H' I' hl hk nx
      obtain ⟨m', hm, w'⟩ := hN1 H' nx
      have pin' : ∀ b ∈ fp, ∀ o, s3.heap.get? b = some o → s'.heap.get? b = some o ∧ H' b = none := fun b hb o e =>
        ⟨(I'.pin (b, o) (List.mem_append_right _ (List.mem_append_right _ (mem_pinsAt hb e)))).1, (I'.pin (b, o) (List.mem_append_right _ (List.mem_append_right _ (mem_pinsAt hb e)))).2.1⟩
      refine ⟨m', hm, i + 1, H', I'.unpinned.weak hl hk, T.keep _ _ _ st3 fun b hb o e => (pin' b hb o e).1, fun b hb => ?_, w'⟩
      obtain ⟨o, e, _⟩ := T.obj _ _ st3 b hb
      exact (pin' b hb o e).2
    have hl4 : (wipe σ vs).length = σ4.length := by rw [← hw4, wipe_length]
    have hk4 : ∀ (j : Nat) v, (wipe σ vs)[j]? = some (some v) → σ4[j]? = some (some v) ∧ j ∉ vs := fun j v ej => by
      rw [← hw4] at ej
      exact wipe_some ej
    cases b with
    | false =>
      simp only [Bool.false_eq_true, if_false] at q5 ⊢
      first
        | exact wpAny_pure ⟨rfl, fin I5 hl4 (fun j v ej => (hk4 j v ej).1) q5⟩
        | exact wpAny_bind (wpAny_pure (wpAny_pure ⟨rfl, fin I5 hl4 (fun j v ej => (hk4 j v ej).1) q5⟩))
    | true =>
      simp only [if_true] at q5 ⊢
      refine wpAny_bind (thnF (em _ s5 σ4 H5 N1 I5 q5) fun _ s6 ⟨σ6, H6, I6, l6, k6, nx⟩ => ?_)
      exact wpAny_pure ⟨rfl, fin I6 (hl4.trans l6.symm) (fun j v ej => k6 j v (hk4 j v ej).1 fun z => (hk4 j v ej).2 (hv j z)) nx⟩

/-- the element appended -/
def rApp (D : Addr) (te : TE) : L2.St → Hp → (Hp → Prop) → Prop := fun σ H Nx => te σ H fun y H4 => ∃ acc, H4 D = some (.lst acc) ∧ acc.length < sizeLine ∧ Nx (upd H4 D (.lst (acc ++ [y])))
theorem em_app {elt : Expr} {te : TE} {D : Addr} (pe : PE (X.blk s0 H0 scope ce fp0) elt te) : EmOk (X.blk s0 H0 scope ce fp0) (do let _ ← call (.builtin "list.append") [.ref D, ← eval elt ce]) (rApp D te) [] := by
  intro pins s σ H Nx I h
  refine wpAny_bind (thnF (pe.run _ s σ H _ I h) fun z s1 ⟨y, H1, I1, r1, acc, hD, hz, nx⟩ => ?_)
  refine wpAny_bind (app_ok (X := X.blk s0 H0 scope ce fp0) I1 hD hz r1 fun s2 I2 => wpAny_pure ?_)
  exact ⟨σ, _, I2, rfl, fun _ _ e _ => e, nx⟩
/-- a pair put into a dict with tuple keys -/
def rPutT (D : Addr) (tk tv : TE) : L2.St → Hp → (Hp → Prop) → Prop := fun σ H Nx => tk σ H fun y H4 => tv σ H4 fun z H5 => ∃ (kvs : List (List Key × V)) (k : List Key) (b : Addr),
  y = .ref b ∧ H5 b = some (.tup (k.map kV)) ∧ H5 D = some (.dT kvs) ∧ kvs.length < sizeLine ∧ Nx (upd H5 D (.dT (putK kvs k z)))
theorem dictSetT {Y : Cx} {pins : List (Addr × Obj)} {σ : L2.St} {H : Hp} {s : Shared} {E : Value → Shared → Prop} {D b : Addr} {kvs : List (List Key × V)} {k : List Key} {v : V} {r : Value} {Q : Unit → Shared → Prop} (hu : Y.A.units + 1 < cLine) (I : L2.Inv Y pins σ H s) (hD : H D = some (.dT kvs))
    (hb : H b = some (.tup (k.map kV))) (hz : kvs.length < sizeLine) (rv : RelV v r) (h : ∀ s', L2.Inv Y pins σ (upd H D (.dT (putK kvs k v))) s' → Q () s') : wpAny (model Y.prog Y.w) Y.A (dictSet D (.ref b) r) Q E s := by
  obtain ⟨z, hd, xs, rel, dd⟩ := dt_of I.hok hD
  have hzv : xs.length ≤ sizeLine := by rw [← Paired.length rel]; exact z
  have hl : (putK kvs k v).length ≤ sizeLine := by have := length_putK kvs k v; omega
  have room : (tupleKind (mixKind Y.prog Y.w)).room Y.A := by
    show Y.A.units < cLine
    omega
  refine wpAny_dictSet_heap (hsz := hzv) room (key_of I.hok hb) dd fun h' dd' hs => h _ ?_
  obtain ⟨q, es, ep, hq, h2, h3, h4, _, h5⟩ := dd'
  refine d_write I (by rw [hD]; exact True.intro) hs ⟨q, hq⟩ ⟨hl, hd, _, (rel.put k hb rv).keeps fun c ys ec => ?_, q, es, ep, hq, h2, h3, h4, h5⟩
  rw [upd_ne (ne_of ec hD (fun z => nomatch z))]
  exact ec
end
end Mw

namespace Mw
open PySem PySem.Spec PyProof.Rows L2

theorem start_ok {prog : Program} {w : World} {A : Around} {R : Result → Shared → Prop} {s : Shared} {elt : Expr} {gens : List Comprehension} {scope : Scope} {pos : Pos} {k : Nat} {t i : Expr} {ifs : List Expr} {it acc : Value} {env : Env}
    (hg : gens[k]? = some ⟨t, i, ifs, 0⟩) (h0 : codeAny (model prog w) A (.compLoop (.ListComp elt gens scope pos) k it acc env) R s)
    (h : wpAny (model prog w) A (pyIter it) (fun it' s' => codeAny (model prog w) A (.compLoop (.ListComp elt gens scope pos) k it' acc env) R s') (fun _ _ => False) s) :
    codeAny (model prog w) A (.compStart (.ListComp elt gens scope pos) k it acc env) R s := by
  refine codeAny_of_tree ?_
  show wpAny _ _ ((compStart (.ListComp elt gens scope pos) k it acc env).onRaise (fun x => do noteFrame x env; standAt theWindowsPlace)) _ _ s
  refine wpAny_notedAt ?_
  have hcl : (clausesOf (.ListComp elt gens scope pos))[k]? = some ⟨t, i, ifs, 0⟩ := hg
  unfold compStart
  simp only [hcl]
  show wpAny _ _ (ask >>= _) _ _ s
  refine wpAny_bind (wpAny_askSetting (wpAny_ite ?_))
  split
  · first
      | exact wpAny_bind (wpAny_pure (wpAny_pure (And.intro rfl h0)))
      | exact wpAny_pure (And.intro rfl h0)
  · refine wpAny_bind (wpAny_rule ?_)
    first
      | exact wpAny_bind (wpAny_standAt (wpAny_bind (thnF h fun it' s' h' => wpAny_pure (And.intro rfl h'))))
      | (show wpAny _ _ (standAt i.pos >>= _) _ _ s; exact wpAny_bind (wpAny_standAt (wpAny_bind (thnF h fun it' s' h' => wpAny_pure (And.intro rfl h')))))

/-- a clause within another: its source, then its loop -/
def tLv (wi : TI) (g : TG) (tt : TT) (vs : List Nat) (r : L2.St → Hp → (Hp → Prop) → Prop) : L2.St → Hp → (Hp → Prop) → Prop := fun σ H Nx => wi σ H fun J H1 => tRun J g tt vs r σ H1 Nx
section
variable {X : Cx} {s0 : Shared} {H0 : Hp} {scope : Scope} {ce : Env} {fp0 : List Addr}
def startStep (e : Expr) (k : Nat) (i1 : Expr) (acc : Value) (env : Env) : Sem Unit := do
  let x ← eval i1 env
  standAt i1.pos
  let x ← foldedSetIterable i1 env x
  let _ ← runOwn (.compStart e k (← holding [x] (pyIter x)) acc env) env
theorem em_lv (hc : X.calm = true) {elt : Expr} {gens : List Comprehension} {sc : Scope} {pos : Pos} {k : Nat} {t1 i1 : Expr} {ifs1 : List Expr} {acc : Value} {p : Pos} {m : Sem Unit} {r : L2.St → Hp → (Hp → Prop) → Prop} {vs vs' : List Nat} {wi : TI} {g : TG} {tt : TT}
    (hg : gens[k]? = some ⟨t1, i1, ifs1, 0⟩) (hs : ∀ x, foldedSetIterable i1 ce x = pure x)
    (teq : ∀ it, compTurn (.ListComp elt gens sc pos) k (.ref it) acc ce = oneTurn (.ListComp elt gens sc pos) k (.ref it) acc ce p t1 ifs1 m)
    (pi : PI (X.blk s0 H0 scope ce fp0) t1 i1 wi) (pg : PG (X.blk s0 H0 scope ce fp0) t1 g) (pt : PTs (X.blk s0 H0 scope ce fp0) ifs1 tt) (em : EmOk (X.blk s0 H0 scope ce fp0) m r vs') (hv : ∀ i ∈ vs', i ∈ vs) :
    EmOk (X.blk s0 H0 scope ce fp0) (startStep (.ListComp elt gens sc pos) k i1 acc ce) (tLv wi g tt vs r) vs := by
  intro pins s σ H Nx I h
  unfold startStep
  refine wpAny_bind (thnF (pi.run pins s σ H _ I h) fun xv s1 hx => ?_)
  refine wpAny_bind (wpAny_standAt (wpAny_bind (wpAny_of_eq (hs xv) (wpAny_bind (wpAny_holding (thnF hx fun itv s2 h2 => ?_))))))
  obtain ⟨it, fp, tn, J, H2, e1, I2, T, st2, f2, q⟩ := h2
  subst e1
  refine wpAny_bind (wpAny_runOwn ?_)
  rw [Around.mark_none]
  have loop : codeAny (model X.prog X.w) X.A (.compLoop (.ListComp elt gens sc pos) k (.ref it) acc ce)
      (fun r s' => match r with
        | .ok f => wpAny (model X.prog X.w) X.A (pure ()) (fun _ s' => ∃ σ' H', L2.Inv (X.blk s0 H0 scope ce fp0) pins σ' H' s' ∧ σ'.length = σ.length ∧ (∀ (j : Nat) v, σ[j]? = some (some v) → j ∉ vs → σ'[j]? = some (some v)) ∧ Nx H') (fun _ _ => False) s'
        | .error e => False) s2 := by
    refine clause_loop hc (teq it) (fun _ _ _ z => z) T pg pt em hv (fun H' hn s' I' b hb => ⟨hn b hb, (f2 b hb).2⟩) (fun s' H' I' nx => wpAny_pure ⟨wipe σ vs, H', I', wipe_length _ _, fun j v e hj => ?_, nx⟩)
      (I2.weak (wipe_length _ _) fun j v e => (wipe_some e).1) st2 (fun b hb => (f2 b hb).1) q
    rw [wipe_out hj]
    exact e
  refine codeAny_mono (start_ok hg loop (T.self X.A 0 _ _ _ st2 loop)) fun r s' hr => ?_
  cases r with
  | ok f => exact hr
  | error e => exact hr.elim
end

/-! ### the outermost clause -/
section
variable {X : Cx}
theorem comp_core {pins : List (Addr × Obj)} {s : Shared} {σ : L2.St} {H : Hp} {Q : VK} {e tg iter : Expr} {ifs : List Expr} {gs : List Comprehension} {scope : Scope} {own : List (Str × Nat)} {vs' : List Nat} {pos' p : Pos} {wi : TI} {g : TG} {tt : TT}
    {newAcc : Sem Value} {ob : Obj} {O : HO} {m : Addr → Env → Sem Unit} {r : Addr → L2.St → Hp → (Hp → Prop) → Prop} {use : Option (Value → Sem Unit)} {Qf : Value → Shared → Prop}
    (hc : X.calm = true) (hN : X.N.Nodup) (I : L2.Inv X pins σ H s) (hi : PI X tg iter wi) (ok : BlkOk X.N X.env.scope scope own) (hcl : clausesOf e = ⟨tg, iter, ifs, 0⟩ :: gs)
    (hacc : ∀ (A : Around) (Q : Value → Shared → Prop) (E : Value → Shared → Prop) (s : Shared), Q (.ref s.heap.objs.size) { s with heap := s.heap.push ob } → wpAny (model X.prog X.w) A newAcc Q E s)
    (hob : ∀ (H : Hp) (h : Heap), sysModules < h.objs.size → ObjOk X.prog X.w H (h.push ob) h.objs.size O)
    (teq : ∀ (D it : Addr) (ce : Env), compTurn e 0 (.ref it) (.ref D) ce = oneTurn e 0 (.ref it) (.ref D) ce p tg ifs (m D ce))
    (hden : ∀ (D it : Addr) (ce : Env) (Q : Fin → Shared → Prop) (E : Value → Shared → Prop) (s : Shared), wpAny (model X.prog X.w) X.A ((compTurn e 0 (.ref it) (.ref D) ce).onRaise (fun x => do noteFrame x ce; theTreesLotGoes x)) Q E s →
      wpAny (model X.prog X.w) (X.A.under (.compLoop e 0 (.ref it) (.ref D) ce)) ((model X.prog X.w).den (.compLoop e 0 (.ref it) (.ref D) ce)) Q E s)
    (hst : ∀ (D it : Addr) (ce : Env) (R : Result → Shared → Prop) (s : Shared), codeAny (model X.prog X.w) X.A (.compLoop e 0 (.ref it) (.ref D) ce) R s →
      wpAny (model X.prog X.w) X.A (pyIter (.ref it)) (fun it' s' => codeAny (model X.prog X.w) X.A (.compLoop e 0 it' (.ref D) ce) R s') (notedBy (model X.prog X.w) X.A ce fun x s' => R (.error x) s') s → codeAny (model X.prog X.w) X.A (.compStart e 0 (.ref it) (.ref D) ce) R s)
    (hg : ∀ (s : Shared) (H : Hp) (C : Addr) (cl : List (Str × Addr)) (fp : List Addr), PG (X.blk s H scope (compEnvC scope cl C X.env) fp) tg g)
    (ht : ∀ (s : Shared) (H : Hp) (C : Addr) (cl : List (Str × Addr)) (fp : List Addr), PTs (X.blk s H scope (compEnvC scope cl C X.env) fp) ifs tt)
    (hm : ∀ (s : Shared) (H : Hp) (C : Addr) (cl : List (Str × Addr)) (fp : List Addr) (D : Addr), EmOk (X.blk s H scope (compEnvC scope cl C X.env) fp) (m D (compEnvC scope cl C X.env)) (r D) vs')
    (hv : ∀ i ∈ vs', i ∈ own.map (·.2)) (hs : ∀ x, foldedSetIterable iter X.env x = pure x)
    (h : wi σ H fun J H1 => ∀ D, H1 D = none → tRun J g tt (own.map (·.2)) (r D) σ (upd H1 D O) fun H' => Q (.ref D) H')
    (hRR : ∀ D C s' m H', L2.Inv X pins σ H' s' → Q (.ref D) H' → s'.heap.Ns C m → FpOk X pins H' C → compPost (model X.prog X.w) X.A X.xe use Qf (.ref D) C (.ok .next) s') :
    wpAny (model X.prog X.w) X.A (comprehension e scope X.env pos' newAcc false (eval iter X.env) use) Qf X.xe s := by
  have hfree : ∀ y ∈ scope.names, y.2 = .free → ∃ c, X.env.cells.lookup y.1 = some c := fun y hy e => by
    rcases ok.free y hy e with k | k
    · exact I.ok.has _ (.inl k)
    · exact I.ok.has _ (.inr k)
  refine wpAny_comprehension_free (use := use) hcl hs (closure_ok hfree) ok.kind (fun y hy e => by rw [ok.uniq y hy, e])
    (thn (hi.run pins s σ H _ I h) fun xv s1 hx => thn hx fun itv s2 h2 => ?_)
  obtain ⟨it, fp, tn, J, H2, e1, I2, T, st2, f2, q⟩ := h2
  subst e1
  refine hacc _ _ _ _ (newEnv_comp ?_)
  have hDn : H2 s2.heap.objs.size = none := I2.hok.fresh (Nat.le_refl _)
  have q0 := q s2.heap.objs.size hDn
  generalize hD : s2.heap.objs.size = D at q0 hDn
  obtain ⟨s3, hs3⟩ : ∃ s3 : Shared, s3 = { s2 with heap := s2.heap.push ob } := ⟨_, rfl⟩
  rw [show ({ s2 with heap := s2.heap.push ob } : Shared) = s3 from hs3.symm]
  have I3 : L2.Inv X pins σ (upd H2 D O) s3 := by
    rw [hs3]
    refine I2.laid (t' := s2.toks) (fun b o e => Heap.get?_push_of_some _ e) (Nat.le_of_eq hD) ?_
    rw [← hD]
    exact hob _ s2.heap I2.big
  have h3 : s3.heap = s2.heap.push ob := by rw [hs3]
  have f3 : ∀ b ∈ fp, FpOk X pins (upd H2 D O) b ∧ b < s3.heap.objs.size := fun b hb => by
    obtain ⟨o, eo, _⟩ := T.obj _ _ st2 b hb
    have hlt := Heap.lt_size eo
    refine ⟨⟨?_, (f2 b hb).2⟩, by rw [h3, Heap.size_push]; exact Nat.lt_succ_of_lt hlt⟩
    rw [upd_ne (by rw [← hD]; exact Nat.ne_of_lt hlt)]
    exact (f2 b hb).1
  have st3 : tn 0 s3.heap := T.keep _ _ _ st2 fun b _ o e => by rw [h3]; exact Heap.get?_push_of_some _ e
  have I4 := block_start I3 ok hN f3
  have pg := hg s3 (upd H2 D O) s3.heap.objs.size (cellsFrom (s3.heap.objs.size + 1) scope.names (cloFrom X.env.cells scope.names [])) fp
  have pt := ht s3 (upd H2 D O) s3.heap.objs.size (cellsFrom (s3.heap.objs.size + 1) scope.names (cloFrom X.env.cells scope.names [])) fp
  have pm := hm s3 (upd H2 D O) s3.heap.objs.size (cellsFrom (s3.heap.objs.size + 1) scope.names (cloFrom X.env.cells scope.names [])) fp D
  show codeAny _ _ (.compStart e 0 (.ref it) (.ref D) (compEnvC scope (cellsFrom (s3.heap.objs.size + 1) scope.names (cloFrom X.env.cells scope.names [])) s3.heap.objs.size X.env)) (compPost (model X.prog X.w) X.A X.xe use Qf (.ref D) s3.heap.objs.size) { s3 with heap := pushCells (s3.heap.push { cls := .type "dict", data := .dict #[] }) scope.names }
  generalize hce : compEnvC scope (cellsFrom (s3.heap.objs.size + 1) scope.names (cloFrom X.env.cells scope.names [])) s3.heap.objs.size X.env = ce at I4 pg pt pm ⊢
  have cL : ce.locals = s3.heap.objs.size := by subst hce; rfl
  generalize hH3 : upd H2 D O = H3 at I3 I4 pg pt pm q0 f3
  generalize hs4 : ({ s3 with heap := pushCells (s3.heap.push { cls := .type "dict", data := .dict #[] }) scope.names } : Shared) = s4 at I4 ⊢
  have st4 : tn 0 s4.heap := T.keep _ _ _ st3 fun b _ o e => by rw [← hs4]; exact pushCells_keeps _ _ _ _ (Heap.get?_push_of_some _ e)
  have loop : codeAny (model X.prog X.w) X.A (.compLoop e 0 (.ref it) (.ref D) ce) (compPost (model X.prog X.w) X.A X.xe use Qf (.ref D) s3.heap.objs.size) s4 := by
    refine clause_loop (pins := []) hc (teq D it ce) (hden D it ce) T pg pt pm hv
      (fun H' hn s' I' b hb => ⟨hn b hb, (I'.ok.exf b hb).1, I'.ok.exfs b hb, .inl hb, fun x c e => (I'.ok.exf b hb).2 x c e, fun p hp => absurd (show p ∈ ([] : List (Addr × Obj)) ++ [] from hp) (by simp)⟩)
      (fun s6 H5 I6 qq => ?_) I4 st4 (fun b hb => (f3 b hb).1.1) q0
    have I7 : L2.Inv X pins σ H5 s6 := I3.call' (ch := fp) I6.os I6.base I6.hok I6.bare fun b hb => ⟨(f3 b hb).1.2.2.2.1, (f3 b hb).1.2.1, (f3 b hb).1.2.2.2.2.1, (f3 b hb).1.2.2.2.2.2⟩
    have nC : H5 s3.heap.objs.size = none := by
      have z : H5 ce.locals = none := I6.free
      rw [cL] at z
      exact z
    obtain ⟨mm, hn, _⟩ := I6.loc
    have hn : s6.heap.Ns ce.locals mm := hn
    rw [cL] at hn
    exact hRR D s3.heap.objs.size s6 mm H5 I7 qq hn (I3.fpOk (Nat.le_refl _) nC)
  exact hst D it ce _ s4 loop (T.self X.A 0 _ _ _ st4 loop)

/-- {k: v for tg in iter if ..} whose keys are tuples -/
def tDcT (wi : TI) (g : TG) (tt : TT) (tk tv : TE) (vs : List Nat) : TE := fun σ H Q => wi σ H fun J H1 => ∀ D, H1 D = none → tRun J g tt vs (rPutT D tk tv) σ (upd H1 D (.dT [])) fun H' => Q (.ref D) H'
def putStep (kx vx : Expr) (D : Addr) (env : Env) : Sem Unit := do
  let kv ← eval kx env
  let vv ← holding [kv] (eval vx env)
  standAt { kx.pos with endLine := vx.pos.endLine, endCol := vx.pos.endCol }
  holding [kv, vv] (dictSet D kv vv)
theorem em_put {s0 : Shared} {H0 : Hp} {scope : Scope} {ce : Env} {fp0 : List Addr} {kx vx : Expr} {tk tv : TE} {D : Addr} (hu : X.A.units + 1 < cLine) (pk : PE (X.blk s0 H0 scope ce fp0) kx tk) (pv : PE (X.blk s0 H0 scope ce fp0) vx tv) :
    EmOk (X.blk s0 H0 scope ce fp0) (putStep kx vx D ce) (rPutT D tk tv) [] := by
  intro pins s σ H Nx I h
  unfold putStep
  refine wpAny_bind (thnF (pk.run _ s σ H _ I h) fun z s1 ⟨y, H1, I1, r1, h1⟩ => ?_)
  refine wpAny_bind (wpAny_holding (thnF (pv.run _ s1 σ H1 _ I1 h1) fun z2 s2 ⟨y2, H2, I2, r2, kvs, k, b, ey, hb, hD, hz, nx⟩ => ?_))
  subst ey
  obtain rfl : z = Value.ref b := r1
  refine wpAny_bind (wpAny_standAt (wpAny_holding (dictSetT (Y := X.blk s0 H0 scope ce fp0) hu I2 hD hb hz r2 fun s3 I3 => ?_)))
  exact ⟨σ, _, I3, rfl, fun _ _ e _ => e, nx⟩
theorem pe_dcT {kx vx tg iter : Expr} {ifs : List Expr} {scope : Scope} {own : List (Str × Nat)} {pos : Pos} {wi : TI} {g : TG} {tt : TT} {tk tv : TE} (hu : X.A.units + 1 < cLine) (hc : X.calm = true) (hN : X.N.Nodup) (hi : PI X tg iter wi) (ok : BlkOk X.N X.env.scope scope own)
    (hg : ∀ (s : Shared) (H : Hp) (C : Addr) (cl : List (Str × Addr)) (fp : List Addr), PG (X.blk s H scope (compEnvC scope cl C X.env) fp) tg g) (ht : ∀ (s : Shared) (H : Hp) (C : Addr) (cl : List (Str × Addr)) (fp : List Addr), PTs (X.blk s H scope (compEnvC scope cl C X.env) fp) ifs tt)
    (hk : ∀ (s : Shared) (H : Hp) (C : Addr) (cl : List (Str × Addr)) (fp : List Addr), PE (X.blk s H scope (compEnvC scope cl C X.env) fp) kx tk)
    (he : ∀ (s : Shared) (H : Hp) (C : Addr) (cl : List (Str × Addr)) (fp : List Addr), PE (X.blk s H scope (compEnvC scope cl C X.env) fp) vx tv) (hs : ∀ x, foldedSetIterable iter X.env x = pure x := by intro _; rfl) :
    PE X (.DictComp kx vx [⟨tg, iter, ifs, 0⟩] scope pos) (tDcT wi g tt tk tv (own.map (·.2))) := by
  refine ⟨fun pins s σ H Q I h => ?_⟩
  rw [arm_eval_DictComp]
  refine comp_core (gs := []) (vs' := []) (p := iter.pos) (O := .dT []) (m := fun D ce => putStep kx vx D ce) (ob := { cls := .type "dict", data := .dict #[] }) hc hN I hi ok rfl (fun A Q E s q => wpAny_newObj_type q)
    (fun H h hb => dt_empty h hb) (fun D it ce => rfl) (fun _ _ _ _ _ _ z => z) (fun D it ce R s z1 z2 => codeAny_compStart_dict z1 z2) hg ht (fun s H C cl fp D => em_put hu (hk s H C cl fp) (he s H C cl fp)) (fun i z => by simp at z) hs h fun D C s' m H' I' q hn f => ⟨m, hn, fun h'' sb => ?_⟩
  obtain ⟨f0, f1, f2, f3, f4, f5⟩ := f
  exact ⟨.ref D, H', I'.turned (t' := s'.toks) (fun b o hb e => (sb.2 b hb).trans e) f0 f1 f3 f4 f5, rfl, q⟩

theorem turn3_0 (elt tg iter tg1 iter1 tg2 iter2 : Expr) (ifs ifs1 ifs2 : List Expr) (scope : Scope) (pos : Pos) (it acc : Value) (env : Env) :
    compTurn (.ListComp elt [⟨tg, iter, ifs, 0⟩, ⟨tg1, iter1, ifs1, 0⟩, ⟨tg2, iter2, ifs2, 0⟩] scope pos) 0 it acc env = oneTurn (.ListComp elt [⟨tg, iter, ifs, 0⟩, ⟨tg1, iter1, ifs1, 0⟩, ⟨tg2, iter2, ifs2, 0⟩] scope pos) 0 it acc env iter.pos tg ifs (startStep (.ListComp elt [⟨tg, iter, ifs, 0⟩, ⟨tg1, iter1, ifs1, 0⟩, ⟨tg2, iter2, ifs2, 0⟩] scope pos) 1 iter1 acc env) := by
  unfold oneTurn startStep
  simp only [bind_assoc, pure_bind]
  rfl
theorem turn3_1 (elt tg iter tg1 iter1 tg2 iter2 : Expr) (ifs ifs1 ifs2 : List Expr) (scope : Scope) (pos : Pos) (it acc : Value) (env : Env) :
    compTurn (.ListComp elt [⟨tg, iter, ifs, 0⟩, ⟨tg1, iter1, ifs1, 0⟩, ⟨tg2, iter2, ifs2, 0⟩] scope pos) 1 it acc env = oneTurn (.ListComp elt [⟨tg, iter, ifs, 0⟩, ⟨tg1, iter1, ifs1, 0⟩, ⟨tg2, iter2, ifs2, 0⟩] scope pos) 1 it acc env iter1.pos tg1 ifs1 (startStep (.ListComp elt [⟨tg, iter, ifs, 0⟩, ⟨tg1, iter1, ifs1, 0⟩, ⟨tg2, iter2, ifs2, 0⟩] scope pos) 2 iter2 acc env) := by
  unfold oneTurn startStep
  simp only [bind_assoc, pure_bind]
  rfl
theorem turnD_0 (kx vx tg iter : Expr) (ifs : List Expr) (scope : Scope) (pos : Pos) (it : Value) (D : Addr) (env : Env) :
    compTurn (.DictComp kx vx [⟨tg, iter, ifs, 0⟩] scope pos) 0 it (.ref D) env = oneTurn (.DictComp kx vx [⟨tg, iter, ifs, 0⟩] scope pos) 0 it (.ref D) env iter.pos tg ifs (putStep kx vx D env) := by
  rfl
/-- [elt for tg in iter if .. for tg1 in iter1 if .. for tg2 in iter2 if ..] -/
def tLc3 (wi : TI) (g : TG) (tt : TT) (wi1 : TI) (g1 : TG) (tt1 : TT) (wi2 : TI) (g2 : TG) (tt2 : TT) (te : TE) (vs vs1 vs2 : List Nat) : TE := fun σ H Q => wi σ H fun J H1 => ∀ D, H1 D = none →
  tRun J g tt vs (tLv wi1 g1 tt1 vs1 (tLv wi2 g2 tt2 vs2 (rApp D te))) σ (upd H1 D (.lst [])) fun H' => Q (.ref D) H'
theorem lc3_core {pins : List (Addr × Obj)} {s : Shared} {σ : L2.St} {H : Hp} {Q : VK} {elt tg iter tg1 iter1 tg2 iter2 : Expr} {ifs ifs1 ifs2 : List Expr} {scope : Scope} {own : List (Str × Nat)} {vs1 vs2 : List Nat} {pos pos' : Pos} {wi wi1 wi2 : TI} {g g1 g2 : TG} {tt tt1 tt2 : TT} {te : TE}
    {use : Option (Value → Sem Unit)} {Qf : Value → Shared → Prop}
    (hc : X.calm = true) (hN : X.N.Nodup) (I : L2.Inv X pins σ H s) (hi : PI X tg iter wi) (ok : BlkOk X.N X.env.scope scope own) (hv : ∀ i ∈ vs1, i ∈ own.map (·.2)) (hv2 : ∀ i ∈ vs2, i ∈ vs1)
    (hg : ∀ (s : Shared) (H : Hp) (C : Addr) (cl : List (Str × Addr)) (fp : List Addr), PG (X.blk s H scope (compEnvC scope cl C X.env) fp) tg g) (ht : ∀ (s : Shared) (H : Hp) (C : Addr) (cl : List (Str × Addr)) (fp : List Addr), PTs (X.blk s H scope (compEnvC scope cl C X.env) fp) ifs tt)
    (hi1 : ∀ (s : Shared) (H : Hp) (C : Addr) (cl : List (Str × Addr)) (fp : List Addr), PI (X.blk s H scope (compEnvC scope cl C X.env) fp) tg1 iter1 wi1)
    (hg1 : ∀ (s : Shared) (H : Hp) (C : Addr) (cl : List (Str × Addr)) (fp : List Addr), PG (X.blk s H scope (compEnvC scope cl C X.env) fp) tg1 g1) (ht1 : ∀ (s : Shared) (H : Hp) (C : Addr) (cl : List (Str × Addr)) (fp : List Addr), PTs (X.blk s H scope (compEnvC scope cl C X.env) fp) ifs1 tt1)
    (hi2 : ∀ (s : Shared) (H : Hp) (C : Addr) (cl : List (Str × Addr)) (fp : List Addr), PI (X.blk s H scope (compEnvC scope cl C X.env) fp) tg2 iter2 wi2)
    (hg2 : ∀ (s : Shared) (H : Hp) (C : Addr) (cl : List (Str × Addr)) (fp : List Addr), PG (X.blk s H scope (compEnvC scope cl C X.env) fp) tg2 g2) (ht2 : ∀ (s : Shared) (H : Hp) (C : Addr) (cl : List (Str × Addr)) (fp : List Addr), PTs (X.blk s H scope (compEnvC scope cl C X.env) fp) ifs2 tt2)
    (he : ∀ (s : Shared) (H : Hp) (C : Addr) (cl : List (Str × Addr)) (fp : List Addr), PE (X.blk s H scope (compEnvC scope cl C X.env) fp) elt te)
    (hs : ∀ x, foldedSetIterable iter X.env x = pure x) (hs1 : ∀ env x, foldedSetIterable iter1 env x = pure x) (hs2 : ∀ env x, foldedSetIterable iter2 env x = pure x)
    (h : tLc3 wi g tt wi1 g1 tt1 wi2 g2 tt2 te (own.map (·.2)) vs1 vs2 σ H Q)
    (hRR : ∀ D C s' m H', L2.Inv X pins σ H' s' → Q (.ref D) H' → s'.heap.Ns C m → FpOk X pins H' C → compPost (model X.prog X.w) X.A X.xe use Qf (.ref D) C (.ok .next) s') :
    wpAny (model X.prog X.w) X.A (comprehension (.ListComp elt [⟨tg, iter, ifs, 0⟩, ⟨tg1, iter1, ifs1, 0⟩, ⟨tg2, iter2, ifs2, 0⟩] scope pos) scope X.env pos' (newList []) false (eval iter X.env) use) Qf X.xe s := by
  refine comp_core (gs := [⟨tg1, iter1, ifs1, 0⟩, ⟨tg2, iter2, ifs2, 0⟩]) (vs' := vs1) (p := iter.pos) (O := .lst []) (ob := { cls := .type "list", data := .seq ([] : List Value).toArray })
    (m := fun D ce => startStep (.ListComp elt [⟨tg, iter, ifs, 0⟩, ⟨tg1, iter1, ifs1, 0⟩, ⟨tg2, iter2, ifs2, 0⟩] scope pos) 1 iter1 (.ref D) ce) hc hN I hi ok rfl
    (fun A Q E s q => wpAny_newObj_type q (by show 0 ≤ sizeLine; decide)) (fun H h hb => ⟨Nat.zero_le _, [], 0, .nil, Heap.get?_push_size _ rfl⟩) (fun D it ce => turn3_0 _ _ _ _ _ _ _ _ _ _ _ _ _ _ _) (fun _ _ _ _ _ _ z => z) (fun D it ce R s z1 z2 => codeAny_compStart_list z1 z2) hg ht
    (fun s H C cl fp D => em_lv (m := startStep (.ListComp elt [⟨tg, iter, ifs, 0⟩, ⟨tg1, iter1, ifs1, 0⟩, ⟨tg2, iter2, ifs2, 0⟩] scope pos) 2 iter2 (.ref D) (compEnvC scope cl C X.env)) hc (k := 1) (p := iter1.pos) rfl (hs1 _) (fun it => turn3_1 _ _ _ _ _ _ _ _ _ _ _ _ _ _ _) (hi1 s H C cl fp) (hg1 s H C cl fp) (ht1 s H C cl fp)
      (em_lv hc (k := 2) (p := iter2.pos) rfl (hs2 _) (fun it => rfl) (hi2 s H C cl fp) (hg2 s H C cl fp) (ht2 s H C cl fp) (em_app (he s H C cl fp)) (fun i z => by simp at z)) hv2) hv hs h hRR
theorem ps_setLc3 {i : Nat} {y : Str} {py : Pos} {elt tg iter tg1 iter1 tg2 iter2 : Expr} {ifs ifs1 ifs2 : List Expr} {scope : Scope} {own : List (Str × Nat)} {vs1 vs2 : List Nat} {pos spos : Pos} {wi wi1 wi2 : TI} {g g1 g2 : TG} {tt tt1 tt2 : TT} {te : TE}
    (hc : X.calm = true) (hN : X.N.Nodup) (hy : X.N[i]? = some y) (hyl : X.env.scope.names.lookup y = some .local)
    (hsw : swapsWith (.ListComp elt [⟨tg, iter, ifs, 0⟩, ⟨tg1, iter1, ifs1, 0⟩, ⟨tg2, iter2, ifs2, 0⟩] scope pos) (some (.Name y py)) spos.line X.env = pure true)
    (hi : PI X tg iter wi) (ok : BlkOk X.N X.env.scope scope own) (hv : ∀ i ∈ vs1, i ∈ own.map (·.2)) (hv2 : ∀ i ∈ vs2, i ∈ vs1)
    (hg : ∀ (s : Shared) (H : Hp) (C : Addr) (cl : List (Str × Addr)) (fp : List Addr), PG (X.blk s H scope (compEnvC scope cl C X.env) fp) tg g) (ht : ∀ (s : Shared) (H : Hp) (C : Addr) (cl : List (Str × Addr)) (fp : List Addr), PTs (X.blk s H scope (compEnvC scope cl C X.env) fp) ifs tt)
    (hi1 : ∀ (s : Shared) (H : Hp) (C : Addr) (cl : List (Str × Addr)) (fp : List Addr), PI (X.blk s H scope (compEnvC scope cl C X.env) fp) tg1 iter1 wi1)
    (hg1 : ∀ (s : Shared) (H : Hp) (C : Addr) (cl : List (Str × Addr)) (fp : List Addr), PG (X.blk s H scope (compEnvC scope cl C X.env) fp) tg1 g1) (ht1 : ∀ (s : Shared) (H : Hp) (C : Addr) (cl : List (Str × Addr)) (fp : List Addr), PTs (X.blk s H scope (compEnvC scope cl C X.env) fp) ifs1 tt1)
    (hi2 : ∀ (s : Shared) (H : Hp) (C : Addr) (cl : List (Str × Addr)) (fp : List Addr), PI (X.blk s H scope (compEnvC scope cl C X.env) fp) tg2 iter2 wi2)
    (hg2 : ∀ (s : Shared) (H : Hp) (C : Addr) (cl : List (Str × Addr)) (fp : List Addr), PG (X.blk s H scope (compEnvC scope cl C X.env) fp) tg2 g2) (ht2 : ∀ (s : Shared) (H : Hp) (C : Addr) (cl : List (Str × Addr)) (fp : List Addr), PTs (X.blk s H scope (compEnvC scope cl C X.env) fp) ifs2 tt2)
    (he : ∀ (s : Shared) (H : Hp) (C : Addr) (cl : List (Str × Addr)) (fp : List Addr), PE (X.blk s H scope (compEnvC scope cl C X.env) fp) elt te)
    (hs : ∀ x, foldedSetIterable iter X.env x = pure x := by intro _; rfl) (hs1 : ∀ env x, foldedSetIterable iter1 env x = pure x := by intro _ _; rfl) (hs2 : ∀ env x, foldedSetIterable iter2 env x = pure x := by intro _ _; rfl) :
    PS X (.Assign [.Name y py] (.ListComp elt [⟨tg, iter, ifs, 0⟩, ⟨tg1, iter1, ifs1, 0⟩, ⟨tg2, iter2, ifs2, 0⟩] scope pos) spos) (tAsg (tLc3 wi g tt wi1 g1 tt1 wi2 g2 tt2 te (own.map (·.2)) vs1 vs2) (gName i)) := by
  refine ⟨fun pins s σ H D I h => ?_⟩
  rw [exec_Assign_Name_used _ _ _ _ hsw]
  refine wpAny_bind (wpAny_standAt (wpAny_bind ?_))
  show wpAny _ X.A (do let _ ← comprehension (.ListComp elt [⟨tg, iter, ifs, 0⟩, ⟨tg1, iter1, ifs1, 0⟩, ⟨tg2, iter2, ifs2, 0⟩] scope pos) scope X.env (firstIterPos [⟨tg, iter, ifs, 0⟩, ⟨tg1, iter1, ifs1, 0⟩, ⟨tg2, iter2, ifs2, 0⟩] pos) (newList []) false (eval iter X.env) (some (assign (.Name y py) X.env))) _ _ s
  have h : tLc3 wi g tt wi1 g1 tt1 wi2 g2 tt2 te (own.map (·.2)) vs1 vs2 σ H (fun x H1 => gName i x σ H1 D.nx) := h
  refine wpAny_bind (thn (lc3_core (Qf := fun _ s' => SP X pins D .next s') hc hN I hi ok hv hv2 hg ht hi1 hg1 ht1 hi2 hg2 ht2 he hs hs1 hs2 h fun L C s' m H' I' q hn f => ?_) fun _ s' hq => wpAny_pure (wpAny_pure hq))
  show wpAny _ _ (assign (.Name y py) X.env (.ref L)) _ _ _
  refine wpAny_assign_Name (store_ok2 (v := V.ref L) I' hN hy (.inl hyl) rfl (fun s2 I2 ⟨a, sb, ha⟩ => ?_) (.inr hyl))
  obtain ⟨f0, f1, f2, f3, f4, f5⟩ := f
  have haC : C ≠ a := by
    rcases ha with z | z
    · rw [z]; exact f1
    · exact fun e => f4 y a z e.symm
  refine ⟨m, hn.sameBut sb haC, fun h3 sb3 => ?_⟩
  exact ⟨_, H', I2.turned (t' := s2.toks) (fun b o hb e => (sb3.2 b hb).trans e) f0 f1 f3 f4 f5, q⟩
end
end Mw

namespace Mw
open PySem PySem.Spec PyProof.Rows L2

/-! ### a display of one pair whose key is a tuple -/
def tDispT (tk tv : TE) : TE := fun σ H Q => ∀ p, H p = none → tk σ (upd H p (.dT [])) fun y H1 => tv σ H1 fun z H2 => H2 p = some (.dT []) ∧ ∃ (k : List Key) (b : Addr),
  y = .ref b ∧ H2 b = some (.tup (k.map kV)) ∧ Q (.ref p) (upd H2 p (.dT [(k, z)]))
theorem pe_dispT {X : Cx} {pos : Pos} {k v : Expr} {tk tv : TE} (hu : X.A.units + 1 < cLine) (hk : PE X k tk) (hv : PE X v tv) : PE X (.Dict [some k] [v] pos) (tDispT tk tv) := by
  refine ⟨fun pins s σ H Q I q => ?_⟩
  have hn := I.hok.fresh (Nat.le_refl s.heap.objs.size)
  have I1 := I.laid (a := s.heap.objs.size) (o := .dT []) (h' := s.heap.push { cls := .type "dict", data := .dict #[] }) (t' := s.toks) (fun _ _ q => Heap.get?_push_of_some _ q) (Nat.le_refl _) (dt_empty s.heap I.big)
  have q1 := q _ hn
  have h : tPairs [(tk, tv)] σ (upd H s.heap.objs.size (.dT [])) (fun ps H2 => H2 s.heap.objs.size = some (.dT []) ∧ ∃ (k : List Key) (b : Addr) (z : V),
      ps = [(.ref b, z)] ∧ H2 b = some (.tup (k.map kV)) ∧ Q (.ref s.heap.objs.size) (upd H2 s.heap.objs.size (.dT [(k, z)]))) := by
    have mono : (fun (y : V) (H1 : Hp) => tv σ H1 fun z H2 => H2 s.heap.objs.size = some (.dT []) ∧ ∃ (k : List Key) (b : Addr), y = .ref b ∧ H2 b = some (.tup (k.map kV)) ∧ Q (.ref s.heap.objs.size) (upd H2 s.heap.objs.size (.dT [(k, z)]))) =
        (fun (y : V) (H1 : Hp) => tv σ H1 fun z H2 => H2 s.heap.objs.size = some (.dT []) ∧ ∃ (k : List Key) (b : Addr) (z' : V), [(y, z)] = [(V.ref b, z')] ∧ H2 b = some (.tup (k.map kV)) ∧ Q (.ref s.heap.objs.size) (upd H2 s.heap.objs.size (.dT [(k, z')]))) := by
      funext y H1
      congr 1
      funext z H2
      apply propext
      constructor
      · rintro ⟨e, k, b, rfl, eb, q⟩
        exact ⟨e, k, b, z, rfl, eb, q⟩
      · rintro ⟨e, k, b, z', ez, eb, q⟩
        injection ez with ez _
        injection ez with ey ez
        subst ez
        exact ⟨e, k, b, ey, eb, q⟩
    rw [mono] at q1
    exact q1
  have room : (tupleKind (mixKind X.prog X.w)).room X.A := by
    show X.A.units < cLine
    omega
  have pp := (pps_cons hk hv pps_nil : PPs X pos [some k] [v] [(tk, tv)]).run pins _ σ _ _ I1 h
  have shape : (evalEachOpt [some k] X.env).zip ((evalEach [v] X.env).map fun v => do let x ← v; standAt pos; pure x) = [(eval k X.env, (do let x ← eval v X.env; standAt pos; pure x : Sem Value))].map fun p => (some p.1, p.2) := rfl
  rw [arm_eval_Dict, shape, dictDisplay_pairs _ (by simp) (by simp)]
  refine wpAny_bind (wpAny_standAt (wpAny_bind (wpAny_subDictH (knd := tupleKind (mixKind X.prog X.w)) (Q := fun d s' => wpAny (model X.prog X.w) X.A (pure (Value.ref d)) (EP X pins σ Q) X.xe s') room (by simp)
    (thn pp fun ws s2 hh => ?_))))
  obtain ⟨ps, H2, I2, rel, e, kk, b, z, ep, eb, q2⟩ := hh
  subst ep
  cases rel with
  | @cons _ w1 _ _ r rr =>
    cases rr
    obtain ⟨u, r'⟩ := w1
    obtain ⟨r1, r2⟩ := r
    obtain rfl : u = Value.ref b := r1
    obtain ⟨z0, hd, xs0, r0, dd⟩ := dt_of I2.hok e
    cases r0
    refine ⟨[(kk, b, r')], ⟨rfl, rfl, key_of I2.hok eb, True.intro⟩, dd, fun h' tk dd' hs => wpAny_pure ⟨.ref s.heap.objs.size, _, ?_, rfl, q2⟩⟩
    obtain ⟨o, es, ep, ho, h2, h3, h4, _, h5⟩ := dd'
    refine d_write I2 (by rw [e]; exact True.intro) hs ⟨o, ho⟩ ⟨by show 1 ≤ sizeLine; decide, hd, [(kk, b, r')], .cons ⟨rfl, ?_, r2⟩ .nil, o, es, ep, ho, h2, h3, h4, h5⟩
    rw [upd_ne (ne_of eb e (fun z => nomatch z))]
    exact eb

/-! ### dict of a list of pairs whose keys are tuples -/
def mergeT (kvs more : List (List Key × V)) : List (List Key × V) := more.foldl (fun acc kv => putK acc kv.1 kv.2) kvs
/-- the pairs: each one's tuple, its key's tuple, the key, the value -/
abbrev PairT (K : PySem.W.Frag) (H : Hp) : List Addr → List (Addr × List Key × V) → Prop := Paired fun p e => H p = some (.tup [.ref e.1, e.2.2]) ∧ H e.1 = some (.tup (e.2.1.map kV))
def rDictT (K : PySem.W.Frag) : List V → Hp → VK → Prop := fun xs H Q => ∃ (a : Addr) (ps : List Addr) (ks : List (Addr × List Key × V)), xs = [.ref a] ∧ SqL K H a (ps.map V.ref) ∧ PairT K H ps ks ∧
  ∀ p, H p = none → Q (.ref p) (upd H p (.dT (mergeT [] (ks.map (·.2)))))
theorem length_mergeT : ∀ (more kvs : List (List Key × V)), (mergeT kvs more).length ≤ kvs.length + more.length
  | [], kvs => by show kvs.length ≤ kvs.length + 0; omega
  | p :: r, kvs => by
    have h1 := length_mergeT r (putK kvs p.1 p.2)
    have h2 := length_putK kvs p.1 p.2
    show (mergeT (putK kvs p.1 p.2) r).length ≤ _
    rw [List.length_cons]
    omega
theorem kt_merge {H : Hp} : ∀ {ks : List (Addr × List Key × V)} {rs : List (List Key × Addr × Value)} {kvs : List (List Key × V)} {vs : List (List Key × Addr × Value)},
    Paired (fun (e : Addr × List Key × V) (q : List Key × Addr × Value) => e.2.1 = q.1 ∧ e.1 = q.2.1 ∧ H e.1 = some (.tup (e.2.1.map kV)) ∧ RelV e.2.2 q.2.2) ks rs → KT H kvs vs → KT H (mergeT kvs (ks.map (·.2))) (storedAllH vs rs) := by
  intro ks rs kvs vs r
  induction r generalizing kvs vs with
  | nil => intro q; exact q
  | @cons p q ps qs h t ih =>
    intro r0
    obtain ⟨k1, k2, k3, k4⟩ := h
    have e : KT H (putK kvs p.2.1 p.2.2) (storedH vs q.1 q.2.1 q.2.2) := by
      rw [← k1, ← k2]
      exact r0.put p.2.1 k3 k4
    exact ih e
theorem refsT_at : ∀ {ps : List Addr} {us : List Value}, Vals (ps.map V.ref) us → us = ps.map Value.ref
  | [], us, r => by
    rw [List.map_nil] at r
    cases r
    rfl
  | p :: ps, us, r => by
    rw [List.map_cons] at r
    cases r with
    | cons h t =>
      cases h
      rw [List.map_cons, ← refsT_at t]
theorem pairsT_of {X : Cx} {pins : List (Addr × Obj)} {σ : L2.St} {H : Hp} {s : Shared} (I : L2.Inv X pins σ H s) : ∀ {ps : List Addr} {ks : List (Addr × List Key × V)}, PairT X.K H ps ks →
    ∃ rs : List (List Key × Addr × Value), Paired (fun (e : Addr × List Key × V) (q : List Key × Addr × Value) => e.2.1 = q.1 ∧ e.1 = q.2.1 ∧ H e.1 = some (.tup (e.2.1.map kV)) ∧ RelV e.2.2 q.2.2) ks rs ∧ rs.length = ps.length ∧
      ∀ (j : Nat) (q : List Key × Addr × Value), rs[j]? = some q → ∃ b : Addr, ps[j]? = some b ∧ IsTup s.heap b #[.ref q.2.1, q.2.2] ∧ (tupleKind (mixKind X.prog X.w)).is s.heap q.1 q.2.1
  | _, _, .nil => ⟨[], .nil, rfl, fun j q e => by simp at e⟩
  | _, _, .cons (a := p) (b := e) h t => by
    obtain ⟨rs, r, hl, hp⟩ := pairsT_of I t
    obtain ⟨h1, h2⟩ := h
    obtain ⟨its, rv, ht, _⟩ := I.tuple (SqT.of h1)
    obtain ⟨u, y, ei, ru, ry⟩ := vals2 rv
    subst ei
    obtain rfl : u = Value.ref e.1 := ru
    refine ⟨(e.2.1, e.1, y) :: rs, .cons ⟨rfl, rfl, h2, ry⟩ r, by rw [List.length_cons, List.length_cons, hl], fun j q ej => ?_⟩
    cases j with
    | zero =>
      have e' : (e.2.1, e.1, y) = q := Option.some.inj ej
      subst e'
      exact ⟨p, rfl, ht, key_of I.hok h2⟩
    | succ j =>
      obtain ⟨b, e1, e2, e3⟩ := hp j q (by simpa using ej)
      exact ⟨b, by simpa using e1, e2, e3⟩
theorem call_dictT {X : Cx} (hcalm : X.calm = true) (hu : X.A.units + 64 < cLine) : CallR X (.type "dict") (rDictT X.K) := by
  intro pins s σ H xs us Q I r q
  obtain ⟨a, ps, ks, ex, hq, hp, q⟩ := q
  subst ex
  obtain ⟨u, eu, rx⟩ := vals1 r
  subst eu
  cases rx
  obtain ⟨its, rv, pl, hz⟩ := I.list hq
  have ei := refsT_at rv
  subst ei
  rw [List.length_map] at hz
  obtain ⟨rs, rel, hl, hpr⟩ := pairsT_of I hp
  have P := PairArg.list (prog := X.prog) (w := X.w) a (ps.map Value.ref).toArray (fun j => ps.getD j 0) (rs.map fun q => (Value.ref q.2.1, q.2.2))
  obtain ⟨o, n, ho, hc, hd, hdat⟩ := pl
  have lr : (rs.map fun q => (Value.ref q.2.1, q.2.2)).length = ps.length := by rw [List.length_map, hl]
  refine call_dict_pairsH (knd := tupleKind (mixKind X.prog X.w)) (ps := rs) P (I.ok.hd hcalm) (show X.A.units + 1 + 1 < cLine by omega) ⟨⟨o, n, ho, hc, hd, hdat⟩, ?_, fun j k v e => ?_⟩ ⟨by rw [List.length_map], fun i key v e => ?_⟩ (fun h' hk x hx => ?_) (by rw [lr]; exact hz) fun h' tk dd k => ?_
  · rw [lr]
    simp
  · rw [List.getElem?_map] at e
    obtain ⟨q', e1, e2⟩ := Option.map_eq_some_iff.mp e
    obtain ⟨b, f1, f2, f3⟩ := hpr j q' e1
    cases e2
    have gd : ps.getD j 0 = b := by rw [List.getD_eq_getElem?_getD, f1]; rfl
    simp only [gd]
    exact ⟨by simp [f1], .inl f2⟩
  · have e : (rs.map fun q => (Value.ref q.2.1, q.2.2))[i]? = some (key, v) := e
    rw [List.getElem?_map] at e
    obtain ⟨q', e1, e2⟩ := Option.map_eq_some_iff.mp e
    cases e2
    exact ⟨q'.1, q'.2.1, e1, rfl⟩
  · obtain ⟨j, hj⟩ := List.getElem?_of_mem hx
    obtain ⟨b, f1, f2, f3⟩ := hpr j x hj
    have kp : ∀ b o, s.heap.get? b = some o → h'.get? b = some o := fun b o e => hk b o (Nat.ne_of_lt (Heap.lt_size e)) (by simp) e
    obtain ⟨o', items, n', ho', r'⟩ := f3
    exact ⟨o', items, n', kp _ _ ho', r'⟩
  · have hm : (s.heap.objs.size == sysModules) = false := beq_eq_false_iff_ne.mpr (Nat.ne_of_gt I.big)
    have hlen : (mergeT [] (ks.map (·.2))).length ≤ sizeLine := by
      refine Nat.le_trans (length_mergeT _ []) ?_
      rw [List.length_nil, Nat.zero_add, List.length_map, Paired.length rel, hl]
      exact hz
    have fresh := I.hok.fresh (Nat.le_refl s.heap.objs.size)
    obtain ⟨o', es, ep, ho', h2, h3, h4, _, h5⟩ := dd
    refine ⟨.ref s.heap.objs.size, upd H s.heap.objs.size (.dT (mergeT [] (ks.map (·.2)))), I.laid (t' := tk) (fun b o e => k b o (by simp) e) (Nat.le_refl _) ?_, rfl, q _ fresh⟩
    refine ⟨hlen, hm, storedAllH [] rs, (kt_merge rel .nil).keeps fun c ys ec => ?_, o', es, ep, ho', h2, h3, h4, h5⟩
    rw [upd_ne (ne_of_none ec fresh)]
    exact ec
end Mw

namespace Mw
open PySem PySem.Spec PyProof.Rows L2
/-- name = {..} on one line, the name a local -/
theorem ps_setDc {X : Cx} {i : Nat} {y : Str} {py : Pos} {kx vx tg iter : Expr} {ifs : List Expr} {scope : Scope} {own : List (Str × Nat)} {pos spos : Pos} {wi : TI} {g : TG} {tt : TT} {tk tv : TE} (hc : X.calm = true) (hN : X.N.Nodup) (hy : X.N[i]? = some y) (hyl : X.env.scope.names.lookup y = some .local)
    (hsw : swapsWith (.DictComp kx vx [⟨tg, iter, ifs, 0⟩] scope pos) (some (.Name y py)) spos.line X.env = pure true) (hi : PI X tg iter wi) (ok : BlkOk X.N X.env.scope scope own)
    (hg : ∀ (s : Shared) (H : Hp) (C : Addr) (cl : List (Str × Addr)) (fp : List Addr), PG (X.blk s H scope (compEnvC scope cl C X.env) fp) tg g) (ht : ∀ (s : Shared) (H : Hp) (C : Addr) (cl : List (Str × Addr)) (fp : List Addr), PTs (X.blk s H scope (compEnvC scope cl C X.env) fp) ifs tt)
    (hk : ∀ (s : Shared) (H : Hp) (C : Addr) (cl : List (Str × Addr)) (fp : List Addr), PE (X.blk s H scope (compEnvC scope cl C X.env) fp) kx tk)
    (he : ∀ (s : Shared) (H : Hp) (C : Addr) (cl : List (Str × Addr)) (fp : List Addr), PE (X.blk s H scope (compEnvC scope cl C X.env) fp) vx tv) (hs : ∀ x, foldedSetIterable iter X.env x = pure x := by intro _; rfl) :
    PS X (.Assign [.Name y py] (.DictComp kx vx [⟨tg, iter, ifs, 0⟩] scope pos) spos) (tAsg (tDc wi g tt tk tv (own.map (·.2))) (gName i)) := by
  refine ⟨fun pins s σ H D I h => ?_⟩
  rw [exec_Assign_Name_used _ _ _ _ hsw]
  refine wpAny_bind (wpAny_standAt (wpAny_bind ?_))
  show wpAny _ X.A (do let _ ← comprehension (.DictComp kx vx [⟨tg, iter, ifs, 0⟩] scope pos) scope X.env (firstIterPos [⟨tg, iter, ifs, 0⟩] pos) newDict false (eval iter X.env) (some (assign (.Name y py) X.env))) _ _ s
  have h : tDc wi g tt tk tv (own.map (·.2)) σ H (fun x H1 => gName i x σ H1 D.nx) := h
  refine wpAny_bind (thn (dc_core (Qf := fun _ s' => SP X pins D .next s') hc hN I hi ok hg ht hk he hs h fun L C s' m H' I' q hn f => ?_) fun _ s' hq => wpAny_pure (wpAny_pure hq))
  show wpAny _ _ (assign (.Name y py) X.env (.ref L)) _ _ _
  refine wpAny_assign_Name (store_ok2 (v := V.ref L) I' hN hy (.inl hyl) rfl (fun s2 I2 ⟨a, sb, ha⟩ => ?_) (.inr hyl))
  obtain ⟨f0, f1, f2, f3, f4, f5⟩ := f
  have haC : C ≠ a := by
    rcases ha with z | z
    · rw [z]; exact f1
    · exact fun e => f4 y a z e.symm
  refine ⟨m, hn.sameBut sb haC, fun h3 sb3 => ?_⟩
  exact ⟨_, H', I2.turned (t' := s2.toks) (fun b o hb e => (sb3.2 b hb).trans e) f0 f1 f3 f4 f5, q⟩
theorem swD_true {kx vx : Expr} {gs : List Comprehension} {scope : Scope} {pos py : Pos} {y : Str} {l : Nat} {env : Env} (hk : env.scope.kind = .function) (hy : env.scope.names.lookup y = some .local) (hl : (py.line == pos.line) = true)
    (ha : (scope.names.any fun (n, k) => n == y && (k == .local || k == .cell)) = false) : swapsWith (.DictComp kx vx gs scope pos) (some (.Name y py)) l env = pure true := by
  have ky : env.kindOf y = some .local := hy
  have hb : env.blockKind = .function := by unfold Env.blockKind; rw [hk]; rfl
  unfold swapsWith
  simp only [hb, ky, ha, Expr.pos, hl]
  rfl
end Mw

namespace Mw
open PySem PySem.Spec PyProof.Rows L2
abbrev Slots := L2.St

/-! ### data without addresses -/
/-- what a value that never changes says -/
inductive D where
  | non | bl (b : Bool) | int (i : Int) | str (x : Str) | tup (ds : List D)
mutual
def Dv (H : Hp) : D → V → Prop
  | .non, v => v = .non
  | .bl b, v => v = .bl b
  | .int i, v => v = .int i
  | .str x, v => v = .str x
  | .tup ds, v => ∃ a xs, v = .ref a ∧ H a = some (.tup xs) ∧ DvL H ds xs
def DvL (H : Hp) : List D → List V → Prop
  | [], xs => xs = []
  | d :: ds, xs => ∃ v vs, xs = v :: vs ∧ Dv H d v ∧ DvL H ds vs
end
/-- the tuples stay -/
def TupX (H H' : Hp) : Prop := ∀ a xs, H a = some (.tup xs) → H' a = some (.tup xs)
theorem TupX.of {H H' : Hp} (e : Same H H') : TupX H H' := fun a xs h => e a _ h
mutual
theorem Dv.monoT {H H' : Hp} (e : TupX H H') : ∀ (d : D) (v : V), Dv H d v → Dv H' d v
  | .non, _, h => h
  | .bl _, _, h => h
  | .int _, _, h => h
  | .str _, _, h => h
  | .tup ds, v, h => by
    obtain ⟨a, xs, h1, h2, h3⟩ := (show ∃ a xs, v = .ref a ∧ H a = some (.tup xs) ∧ DvL H ds xs from h)
    exact (show ∃ a xs, v = .ref a ∧ H' a = some (.tup xs) ∧ DvL H' ds xs from ⟨a, xs, h1, e a xs h2, DvL.monoT e ds xs h3⟩)
theorem DvL.monoT {H H' : Hp} (e : TupX H H') : ∀ (ds : List D) (xs : List V), DvL H ds xs → DvL H' ds xs
  | [], _, h => h
  | d :: ds, xs, h => by
    obtain ⟨v, vs, h1, h2, h3⟩ := (show ∃ v vs, xs = v :: vs ∧ Dv H d v ∧ DvL H ds vs from h)
    exact (show ∃ v vs, xs = v :: vs ∧ Dv H' d v ∧ DvL H' ds vs from ⟨v, vs, h1, Dv.monoT e d v h2, DvL.monoT e ds vs h3⟩)
end
theorem Dv.mono {H H' : Hp} (e : Same H H') {d : D} {v : V} (h : Dv H d v) : Dv H' d v := Dv.monoT (TupX.of e) d v h
theorem DvL.mono {H H' : Hp} (e : Same H H') {ds : List D} {xs : List V} (h : DvL H ds xs) : DvL H' ds xs := DvL.monoT (TupX.of e) ds xs h
theorem DvL.len {H : Hp} : ∀ {ds : List D} {xs : List V}, DvL H ds xs → xs.length = ds.length
  | [], xs, h => by
    obtain rfl : xs = [] := h
    rfl
  | d :: ds, xs, h => by
    obtain ⟨v, vs, rfl, _, h3⟩ := (show ∃ v vs, xs = v :: vs ∧ Dv H d v ∧ DvL H ds vs from h)
    rw [List.length_cons, List.length_cons, DvL.len h3]
theorem DvL.get {H : Hp} : ∀ {ds : List D} {xs : List V} {i : Nat} {d : D}, DvL H ds xs → ds[i]? = some d → ∃ v, xs[i]? = some v ∧ Dv H d v
  | [], _, _, _, _, e => by simp at e
  | d :: ds, xs, i, d', h, e => by
    obtain ⟨v, vs, rfl, h2, h3⟩ := (show ∃ v vs, xs = v :: vs ∧ Dv H d v ∧ DvL H ds vs from h)
    cases i with
    | zero =>
      obtain rfl : d = d' := by simpa using e
      exact ⟨v, rfl, h2⟩
    | succ i =>
      obtain ⟨u, e1, e2⟩ := DvL.get (i := i) (d := d') h3 (by simpa using e)
      exact ⟨u, by simpa using e1, e2⟩
theorem DvL.getV {H : Hp} {ds : List D} {xs : List V} {i : Nat} {v : V} (h : DvL H ds xs) (e : xs[i]? = some v) : ∃ d, ds[i]? = some d ∧ Dv H d v := by
  have hi : i < ds.length := by
    rw [← h.len]
    exact (List.getElem?_eq_some_iff.mp e).1
  obtain ⟨u, e1, e2⟩ := h.get (List.getElem?_eq_getElem hi)
  rw [e] at e1
  cases e1
  exact ⟨_, List.getElem?_eq_getElem hi, e2⟩
theorem DvL.cons {H : Hp} {d : D} {ds : List D} {v : V} {vs : List V} (h : Dv H d v) (t : DvL H ds vs) : DvL H (d :: ds) (v :: vs) := ⟨v, vs, rfl, h, t⟩
theorem DvL.nil {H : Hp} : DvL H [] [] := rfl
theorem DvL.snoc {H : Hp} : ∀ {ds : List D} {xs : List V} {d : D} {v : V}, DvL H ds xs → Dv H d v → DvL H (ds ++ [d]) (xs ++ [v])
  | [], xs, d, v, h, q => by
    obtain rfl : xs = [] := h
    exact DvL.cons q DvL.nil
  | e :: ds, xs, d, v, h, q => by
    obtain ⟨u, us, rfl, h2, h3⟩ := (show ∃ v vs, xs = v :: vs ∧ Dv H e v ∧ DvL H ds vs from h)
    exact DvL.cons h2 (DvL.snoc h3 q)
theorem DvL.append {H : Hp} : ∀ {ds es : List D} {xs ys : List V}, DvL H ds xs → DvL H es ys → DvL H (ds ++ es) (xs ++ ys)
  | [], es, xs, ys, h, q => by
    obtain rfl : xs = [] := h
    exact q
  | e :: ds, es, xs, ys, h, q => by
    obtain ⟨u, us, rfl, h2, h3⟩ := (show ∃ v vs, xs = v :: vs ∧ Dv H e v ∧ DvL H ds vs from h)
    exact DvL.cons h2 (DvL.append h3 q)
/-! the library's data -/
mutual
def D.py : D → PyData
  | .non => .none
  | .bl b => .bool b
  | .int i => .int i
  | .str x => .str x
  | .tup ds => .tuple (D.pyL ds)
def D.pyL : List D → List PyData
  | [] => []
  | d :: ds => D.py d :: D.pyL ds
end
theorem D.pyL_map : ∀ ds : List D, D.pyL ds = ds.map D.py
  | [] => rfl
  | d :: ds => by rw [D.pyL, List.map_cons, D.pyL_map ds]
mutual
theorem Dv.dp {K : PySem.W.Frag} {H : Hp} : ∀ (d : D) (v : V), Dv H d v → Dp K H v d.py
  | .non, v, h => by
    obtain rfl : v = .non := h
    exact .non
  | .bl b, v, h => by
    obtain rfl : v = .bl b := h
    exact .bl b
  | .int b, v, h => by
    obtain rfl : v = .int b := h
    exact .int b
  | .str b, v, h => by
    obtain rfl : v = .str b := h
    exact .str b
  | .tup ds, v, h => by
    obtain ⟨a, xs, rfl, h2, h3⟩ := (show ∃ a xs, v = .ref a ∧ H a = some (.tup xs) ∧ DvL H ds xs from h)
    exact .tup (SqT.of h2) (DvL.dp ds xs h3)
theorem DvL.dp {K : PySem.W.Frag} {H : Hp} : ∀ (ds : List D) (xs : List V), DvL H ds xs → DpAll K H xs (D.pyL ds)
  | [], xs, h => by
    obtain rfl : xs = [] := h
    exact .nil
  | d :: ds, xs, h => by
    obtain ⟨v, vs, rfl, h2, h3⟩ := (show ∃ v vs, xs = v :: vs ∧ Dv H d v ∧ DvL H ds vs from h)
    exact .cons (Dv.dp d v h2) (DvL.dp ds vs h3)
end

/-! ### what a slot holds -/
inductive T where
  | u | v (x : V) | d (d : D) | li (ds : List D) | dk (m : List (Int × D)) | rk (m : List (Int × D)) | dt (m : List (List Int × D)) | dl (m : List (List Int × List D)) | fk (m : List (Int × D)) | fl (m : List (List Int × List D)) | pl (k : List Int) (l : List D) | la (a : Addr) (ds : List D)
def kI (k : List Int) : List Key := k.map Sum.inl
def IsLi (H : Hp) (ds : List D) (v : V) : Prop := ∃ a xs, v = .ref a ∧ H a = some (.lst xs) ∧ DvL H ds xs
def MK (H : Hp) : List (Key × V) → List (Int × D) → Prop := Paired fun p q => p.1 = .inl q.1 ∧ Dv H q.2 p.2
def MT (H : Hp) : List (List Key × V) → List (List Int × D) → Prop := Paired fun p q => p.1 = kI q.1 ∧ Dv H q.2 p.2
def ML (H : Hp) : List (List Key × V) → List (List Int × List D) → Prop := Paired fun p q => p.1 = kI q.1 ∧ IsLi H q.2 p.2
def Is (H : Hp) : T → V → Prop
  | .u, _ => True
  | .v x, w => w = x
  | .d d, w => Dv H d w
  | .li ds, w => IsLi H ds w
  | .dk m, w => ∃ a kvs, w = .ref a ∧ H a = some (.dK kvs) ∧ MK H kvs m
  | .rk m, w => ∃ a kvs, w = .ref a ∧ Rd H a (.dK kvs) ∧ MK H kvs m
  | .dt m, w => ∃ a kvs, w = .ref a ∧ H a = some (.dT kvs) ∧ MT H kvs m
  | .dl m, w => ∃ a kvs, w = .ref a ∧ H a = some (.dT kvs) ∧ ML H kvs m
  | .fk m, w => ∃ a kvs o, w = .ref a ∧ H a = some (.frz o (.dK kvs)) ∧ MK H kvs m
  | .fl m, w => ∃ a kvs o, w = .ref a ∧ H a = some (.frz o (.dT kvs)) ∧ ML H kvs m
  | .la a ds, w => w = .ref a ∧ ∃ xs, H a = some (.lst xs) ∧ DvL H ds xs
  | .pl k l, w => ∃ a q v, w = .ref a ∧ H a = some (.tup [.ref q, v]) ∧ H q = some (.tup (k.map V.int)) ∧ IsLi H l v
theorem same_rd {H H' : Hp} (e : Same H H') {a : Addr} {u : HO} (h : Rd H a u) : Rd H' a u := by
  rcases h with h | ⟨o, h⟩
  · exact .inl (e _ _ h)
  · exact .inr ⟨o, e _ _ h⟩
theorem IsLi.mono {H H' : Hp} (e : Same H H') {ds : List D} {v : V} (h : IsLi H ds v) : IsLi H' ds v := by
  obtain ⟨a, xs, h1, h2, h3⟩ := h
  exact ⟨a, xs, h1, e _ _ h2, h3.mono e⟩
theorem Is.mono {H H' : Hp} (e : Same H H') {t : T} {v : V} (h : Is H t v) : Is H' t v := by
  cases t with
  | u => trivial
  | v x => exact h
  | d d => exact Dv.mono e h
  | li ds => exact IsLi.mono e h
  | dk m =>
    obtain ⟨a, kvs, h1, h2, h3⟩ := h
    exact ⟨a, kvs, h1, e _ _ h2, Paired.mapP h3 fun p q z => ⟨z.1, z.2.mono e⟩⟩
  | rk m =>
    obtain ⟨a, kvs, h1, h2, h3⟩ := h
    exact ⟨a, kvs, h1, same_rd e h2, Paired.mapP h3 fun p q z => ⟨z.1, z.2.mono e⟩⟩
  | dt m =>
    obtain ⟨a, kvs, h1, h2, h3⟩ := h
    exact ⟨a, kvs, h1, e _ _ h2, Paired.mapP h3 fun p q z => ⟨z.1, z.2.mono e⟩⟩
  | dl m =>
    obtain ⟨a, kvs, h1, h2, h3⟩ := h
    exact ⟨a, kvs, h1, e _ _ h2, Paired.mapP h3 fun p q z => ⟨z.1, z.2.mono e⟩⟩
  | fk m =>
    obtain ⟨a, kvs, o, h1, h2, h3⟩ := h
    exact ⟨a, kvs, o, h1, e _ _ h2, Paired.mapP h3 fun p q z => ⟨z.1, z.2.mono e⟩⟩
  | fl m =>
    obtain ⟨a, kvs, o, h1, h2, h3⟩ := h
    exact ⟨a, kvs, o, h1, e _ _ h2, Paired.mapP h3 fun p q z => ⟨z.1, z.2.mono e⟩⟩
  | la a ds =>
    obtain ⟨h1, xs, h2, h3⟩ := h
    exact ⟨h1, xs, e _ _ h2, h3.mono e⟩
  | pl k l =>
    obtain ⟨a, q, v, h1, h2, h3, h4⟩ := h
    exact ⟨a, q, v, h1, e _ _ h2, e _ _ h3, h4.mono e⟩
theorem Is.rk_of {H : Hp} {m : List (Int × D)} {v : V} (h : Is H (.dk m) v) : Is H (.rk m) v := by
  obtain ⟨a, kvs, h1, h2, h3⟩ := h
  exact ⟨a, kvs, h1, .inl h2, h3⟩
/-- a slot -/
def SlOk (H : Hp) (t : T) (o : Option V) : Prop := match t with
  | .u => True
  | t => ∃ v, o = some v ∧ Is H t v
theorem SlOk.mk {H : Hp} {t : T} {v : V} (h : Is H t v) : SlOk H t (some v) := by
  cases t <;> first | trivial | exact ⟨v, rfl, h⟩
theorem SlOk.mono {H H' : Hp} (e : Same H H') {t : T} {o : Option V} (h : SlOk H t o) : SlOk H' t o := by
  cases t <;> first | trivial | (obtain ⟨v, h1, h2⟩ := h; exact ⟨v, h1, Is.mono e h2⟩)
/-- all slots -/
def EnvOk (H : Hp) (G : List T) (σ : Slots) : Prop := Paired (SlOk H) G σ
theorem EnvOk.mono {H H' : Hp} (e : Same H H') {G : List T} {σ : Slots} (h : EnvOk H G σ) : EnvOk H' G σ := Paired.mapP h fun _ _ z => z.mono e
theorem EnvOk.get {H : Hp} : ∀ {G : List T} {σ : Slots} {i : Nat} {t : T}, EnvOk H G σ → G[i]? = some t → ∃ o, σ[i]? = some o ∧ SlOk H t o
  | _, _, _, _, .nil, e => by simp at e
  | _, _, 0, t, .cons r _, e => by
    simp at e
    subst e
    exact ⟨_, rfl, r⟩
  | _, _, i + 1, t, .cons _ tt, e => by
    obtain ⟨o, h1, h2⟩ := EnvOk.get (i := i) (t := t) tt (by simpa using e)
    exact ⟨o, by simpa using h1, h2⟩
theorem EnvOk.set {H : Hp} {t : T} {o : Option V} (r : SlOk H t o) : ∀ {G : List T} {σ : Slots} (i : Nat), EnvOk H G σ → EnvOk H (G.set i t) (σ.set i o)
  | _, _, _, .nil => .nil
  | _, _, 0, .cons _ tt => .cons r tt
  | _, _, i + 1, .cons q tt => .cons q (EnvOk.set r i tt)
theorem EnvOk.setv {H : Hp} {G : List T} {σ : Slots} (h : EnvOk H G σ) {t : T} {v : V} (i : Nat) (r : Is H t v) : EnvOk H (G.set i t) (σ.set i (some v)) := EnvOk.set (SlOk.mk r) i h
/-- names forgotten -/
def wipeG (G : List T) : List Nat → List T
  | [] => G
  | v :: vs => (wipeG G vs).set v .u
theorem EnvOk.wipe {H : Hp} {G : List T} {σ : Slots} (h : EnvOk H G σ) : ∀ vs : List Nat, EnvOk H (wipeG G vs) (wipe σ vs)
  | [] => h
  | v :: vs => EnvOk.set (show SlOk H .u none from trivial) v (EnvOk.wipe h vs)
/-- less known -/
def LeG : List T → List T → Prop := Paired fun t t' => t = .u ∨ t = t'
theorem EnvOk.le {H : Hp} : ∀ {G G' : List T} {σ : Slots}, LeG G G' → EnvOk H G' σ → EnvOk H G σ
  | _, _, _, .nil, .nil => .nil
  | _, _, _, .cons a b, .cons r q => .cons (by
      rcases a with rfl | rfl
      · trivial
      · exact r) (EnvOk.le b q)
theorem EnvOk.start {H : Hp} {N : List Str} {ts : List T} {vs : List V} (h : Paired (Is H) ts vs) : EnvOk H (ts ++ List.replicate (N.length - ts.length) .u) (L2.start N vs) := by
  have e : ts.length = vs.length := h.length
  unfold L2.start
  rw [e]
  clear e
  have rest : ∀ n, EnvOk H (List.replicate n .u) (List.replicate n (none : Option V)) := by
    intro n
    induction n with
    | zero => exact .nil
    | succ n ih => exact .cons trivial ih
  generalize N.length - vs.length = n
  induction h with
  | nil => exact rest n
  | cons r _ ih => exact .cons (SlOk.mk r) ih
theorem wipe_set {σ : Slots} {j : Nat} {o : Option V} : ∀ {vs : List Nat}, j ∈ vs → wipe (σ.set j o) vs = wipe σ vs
  | v :: vs, h => by
    show (wipe (σ.set j o) vs).set v none = (wipe σ vs).set v none
    by_cases hj : j ∈ vs
    · rw [wipe_set hj]
    · have e : j = v := by
        rcases List.mem_cons.mp h with h | h
        · exact h
        · exact absurd h hj
      subst e
      have : wipe (σ.set j o) vs = (wipe σ vs).set j o := by
        clear h
        induction vs with
        | nil => rfl
        | cons w ws ih =>
          have h1 : j ≠ w := fun z => hj (by rw [z]; exact List.mem_cons_self)
          have h2 : j ∉ ws := fun z => hj (List.mem_cons_of_mem _ z)
          show (wipe (σ.set j o) ws).set w none = ((wipe σ ws).set w none).set j o
          rw [ih h2, List.set_comm _ _ h1]
      rw [this, List.set_set]
theorem wipe_wipe {σ : Slots} : ∀ {vs : List Nat}, wipe (wipe σ vs) vs = wipe σ vs := by
  have aux : ∀ (ws vs : List Nat), (∀ j ∈ ws, j ∈ vs) → wipe (wipe σ ws) vs = wipe σ vs := by
    intro ws
    induction ws with
    | nil => intro vs _; rfl
    | cons w ws ih =>
      intro vs h
      show wipe ((wipe σ ws).set w none) vs = wipe σ vs
      rw [wipe_set (h w List.mem_cons_self), ih vs fun j hj => h j (List.mem_cons_of_mem _ hj)]
  intro vs
  exact aux vs vs fun _ h => h

/-! ### pure evaluation -/
abbrev IsL (H : Hp) : List T → List V → Prop := Paired (Is H)
theorem IsL.mono {H H' : Hp} (e : Same H H') {ts : List T} {vs : List V} (h : IsL H ts vs) : IsL H' ts vs := Paired.mapP h fun _ _ z => z.mono e
def EvX (G : List T) (te : TE) (t : T) : Prop := ∀ σ H, EnvOk H G σ → ∀ Q : VK, (∀ v H', Same H H' → Is H' t v → Q v H') → te σ H Q
def EvA (G : List T) (ta : TA) (ts : List T) : Prop := ∀ σ H, EnvOk H G σ → ∀ Q : List V → Hp → Prop, (∀ vs H', Same H H' → IsL H' ts vs → Q vs H') → ta σ H Q
def EvB (G : List T) (tt : TT) (b : Bool) : Prop := ∀ σ H, EnvOk H G σ → ∀ Q : Bool → Hp → Prop, (∀ H', Same H H' → Q b H') → tt σ H Q
/-- the promise of a pure def -/
def spX (R : List T → T → Prop) : Sp := fun vs H Q _ => ∃ ts t, R ts t ∧ IsL H ts vs ∧ ∀ v H', Same H H' → Is H' t v → Q v H'
section
variable {G : List T} {ta tb te tc : TE} {tt tu : TT} {a : TA} {K : PySem.W.Frag}
theorem evx_var {i : Nat} {t : T} (h : G[i]? = some t) (hu : t ≠ .u := by intro z; cases z) : EvX G (tVar i) t := by
  intro σ H I Q q
  obtain ⟨o, h1, h2⟩ := I.get h
  cases t <;> first
    | exact absurd rfl hu
    | (obtain ⟨v, rfl, hv⟩ := h2; exact ⟨v, h1, q v H (Same.refl H) hv⟩)
theorem evx_int {i : Int} : EvX G (tC (.int i)) (.d (.int i)) := fun σ H I Q q => q _ H (Same.refl H) rfl
theorem evx_bl {i : Bool} : EvX G (tC (.bl i)) (.d (.bl i)) := fun σ H I Q q => q _ H (Same.refl H) rfl
theorem evx_non : EvX G (tC .non) (.d .non) := fun σ H I Q q => q _ H (Same.refl H) rfl
theorem evx_str {x : Str} : EvX G (tC (.str x)) (.d (.str x)) := fun σ H I Q q => q _ H (Same.refl H) rfl
theorem evx_cv {x : V} : EvX G (tC x) (.v x) := fun σ H I Q q => q _ H (Same.refl H) rfl
theorem eva_nil : EvA G tNil [] := fun σ H I Q q => q [] H (Same.refl H) .nil
theorem eva_cons {t : T} {ts : List T} (h : EvX G te t) (r : EvA G a ts) : EvA G (tCons te a) (t :: ts) := fun σ H I Q q =>
  h σ H I _ fun v H1 s1 hv => r σ H1 (I.mono s1) _ fun vs H2 s2 hvs => q _ H2 (s1.trans s2) (.cons (hv.mono s2) hvs)
theorem evx_call {R : List T → T → Prop} {E : XK} {ts : List T} {t : T} (h : EvA G a ts) (hR : R ts t) : EvX G (tCall (spX R) [] E a) t := fun σ H I Q q =>
  h σ H I _ fun vs H1 s1 hvs => by
    rw [List.append_nil]
    exact ⟨ts, t, hR, hvs, fun v H2 s2 hv => q v H2 (s1.trans s2) hv⟩
/-- a new object -/
theorem same_new {H : Hp} {p : Addr} {o : HO} (h : H p = none) : Same H (upd H p o) := fun b u e => by
  rw [upd_ne (ne_of_none e h)]
  exact e
theorem isL_d {H : Hp} : ∀ {ds : List D} {vs : List V}, IsL H (ds.map T.d) vs → DvL H ds vs
  | [], vs, h => by
    cases h
    exact DvL.nil
  | d :: ds, vs, h => by
    cases h with
    | cons r t => exact DvL.cons r (isL_d t)
theorem len_ok {n : Nat} (h : n ≤ 100000) : n ≤ sizeLine := Nat.le_trans h (by decide)
theorem len_lt {n : Nat} (h : n < 100000) : n < sizeLine := Nat.lt_of_lt_of_le h (by decide)
theorem evx_tup {ds : List D} (h : EvA G a (ds.map T.d)) (hl : ds.length ≤ 100000 := by first | decide | simp) : EvX G (tTup a) (.d (.tup ds)) := fun σ H I Q q =>
  h σ H I _ fun vs H1 s1 hvs => by
    have hv := isL_d hvs
    refine ⟨by rw [hv.len]; exact len_ok hl, fun p hp => q _ _ (s1.trans (same_new hp)) ?_⟩
    exact ⟨p, vs, rfl, upd_same, hv.mono (same_new hp)⟩
theorem evx_lst {ds : List D} (h : EvA G a (ds.map T.d)) (hl : ds.length ≤ 100000 := by first | decide | simp) : EvX G (tLst a) (.li ds) := fun σ H I Q q =>
  h σ H I _ fun vs H1 s1 hvs => by
    have hv := isL_d hvs
    refine ⟨by rw [hv.len]; exact len_ok hl, fun p hp => q _ _ (s1.trans (same_new hp)) ?_⟩
    exact ⟨p, vs, rfl, upd_same, hv.mono (same_new hp)⟩
/-! operators -/
theorem evx_op {r : R2} {x y z : T} (ha : EvX G ta x) (hb : EvX G tb y) (hr : ∀ v w H, Is H x v → Is H y w → ∀ Q : VK, (∀ u H', Same H H' → Is H' z u → Q u H') → r v w H Q) : EvX G (tOp r ta tb) z := fun σ H I Q q =>
  ha σ H I _ fun v H1 s1 hv => hb σ H1 (I.mono s1) _ fun w H2 s2 hw => hr v w H2 (hv.mono s2) hw Q fun u H3 s3 hu => q u H3 ((s1.trans s2).trans s3) hu
theorem evx_ixT {ds : List D} {i : Int} {d : D} (ha : EvX G ta (.d (.tup ds))) (hb : EvX G tb (.d (.int i))) (h0 : 0 ≤ i) (hd : ds[i.toNat]? = some d) : EvX G (tOp (rIxT K) ta tb) (.d d) := evx_op ha hb fun v w H hv hw Q q => by
  obtain ⟨a, xs, rfl, h1, h2⟩ := hv
  obtain rfl : w = .int i := hw
  obtain ⟨u, e1, e2⟩ := h2.get hd
  exact ⟨a, xs, i, u, rfl, rfl, SqT.of h1, at_of (j := i.toNat) (by omega) e1, q u H (Same.refl H) e2⟩
theorem evx_ixL {ds : List D} {i : Int} {d : D} (ha : EvX G ta (.li ds)) (hb : EvX G tb (.d (.int i))) (h0 : 0 ≤ i) (hd : ds[i.toNat]? = some d) : EvX G (tOp (rIxL K) ta tb) (.d d) := evx_op ha hb fun v w H hv hw Q q => by
  obtain ⟨a, xs, rfl, h1, h2⟩ := hv
  obtain rfl : w = .int i := hw
  obtain ⟨u, e1, e2⟩ := h2.get hd
  exact ⟨a, xs, i, u, rfl, rfl, SqL.of h1, at_of (j := i.toNat) (by omega) e1, q u H (Same.refl H) e2⟩
theorem evx_ixTn {ds : List D} {i : Nat} {d : D} (ha : EvX G ta (.d (.tup ds))) (hb : EvX G tb (.d (.int i))) (hd : ds[i]? = some d) : EvX G (tOp (rIxT K) ta tb) (.d d) := evx_ixT ha hb (by omega) (by simpa using hd)
theorem evx_ixLn {ds : List D} {i : Nat} {d : D} (ha : EvX G ta (.li ds)) (hb : EvX G tb (.d (.int i))) (hd : ds[i]? = some d) : EvX G (tOp (rIxL K) ta tb) (.d d) := evx_ixL ha hb (by omega) (by simpa using hd)
theorem evx_I0i {g : Int → Int → Int} {i j : Int} (ha : EvX G ta (.d (.int i))) (hb : EvX G tb (.d (.int j))) : EvX G (tOp (rI0 fun i j => .int (g i j)) ta tb) (.d (.int (g i j))) := evx_op ha hb fun v w H hv hw Q q => by
  obtain rfl : v = .int i := hv
  obtain rfl : w = .int j := hw
  exact ⟨i, j, rfl, rfl, q _ H (Same.refl H) rfl⟩
theorem evx_I0b {g : Int → Int → Bool} {i j : Int} {b : Bool} (ha : EvX G ta (.d (.int i))) (hb : EvX G tb (.d (.int j))) (e : g i j = b) : EvX G (tOp (rI0 fun i j => .bl (g i j)) ta tb) (.d (.bl b)) := evx_op ha hb fun v w H hv hw Q q => by
  subst e
  obtain rfl : v = .int i := hv
  obtain rfl : w = .int j := hw
  exact ⟨i, j, rfl, rfl, q _ H (Same.refl H) rfl⟩
theorem evx_I {C : Int → Int → Prop} {g : Int → Int → Int} {i j : Int} (ha : EvX G ta (.d (.int i))) (hb : EvX G tb (.d (.int j))) (hc : C i j) : EvX G (tOp (rI C fun i j => .int (g i j)) ta tb) (.d (.int (g i j))) := evx_op ha hb fun v w H hv hw Q q => by
  obtain rfl : v = .int i := hv
  obtain rfl : w = .int j := hw
  exact ⟨i, j, rfl, rfl, hc, q _ H (Same.refl H) rfl⟩
theorem evx_eqI {i j : Int} {b : Bool} (ha : EvX G ta (.d (.int i))) (hb : EvX G tb (.d (.int j))) (e : decide (i = j) = b) : EvX G (tOp rEq ta tb) (.d (.bl b)) := evx_op ha hb fun v w H hv hw Q q => by
  subst e
  obtain rfl : v = .int i := hv
  obtain rfl : w = .int j := hw
  refine ⟨rfl, ?_⟩
  have e : decide (V.int i = V.int j) = decide (i = j) := by simp
  rw [e]
  exact q _ H (Same.refl H) rfl
theorem evx_neI {i j : Int} {b : Bool} (ha : EvX G ta (.d (.int i))) (hb : EvX G tb (.d (.int j))) (e : (!decide (i = j)) = b) : EvX G (tOp rNe ta tb) (.d (.bl b)) := evx_op ha hb fun v w H hv hw Q q => by
  subst e
  obtain rfl : v = .int i := hv
  obtain rfl : w = .int j := hw
  refine ⟨rfl, ?_⟩
  have e : decide (V.int i = V.int j) = decide (i = j) := by simp
  rw [e]
  exact q _ H (Same.refl H) rfl
theorem evx_neB {i j : Bool} {b : Bool} (ha : EvX G ta (.d (.bl i))) (hb : EvX G tb (.d (.bl j))) (e : (!decide (i = j)) = b) : EvX G (tOp rNe ta tb) (.d (.bl b)) := evx_op ha hb fun v w H hv hw Q q => by
  subst e
  obtain rfl : v = .bl i := hv
  obtain rfl : w = .bl j := hw
  refine ⟨rfl, ?_⟩
  have e : decide (V.bl i = V.bl j) = decide (i = j) := by simp
  rw [e]
  exact q _ H (Same.refl H) rfl
theorem evx_eqS {x y : Str} {b : Bool} (ha : EvX G ta (.d (.str x))) (hb : EvX G tb (.d (.str y))) (e : decide (x = y) = b) : EvX G (tOp rEq ta tb) (.d (.bl b)) := evx_op ha hb fun v w H hv hw Q q => by
  subst e
  obtain rfl : v = .str x := hv
  obtain rfl : w = .str y := hw
  refine ⟨rfl, ?_⟩
  have e : decide (V.str x = V.str y) = decide (x = y) := by simp
  rw [e]
  exact q _ H (Same.refl H) rfl
theorem evx_neS {x y : Str} {b : Bool} (ha : EvX G ta (.d (.str x))) (hb : EvX G tb (.d (.str y))) (e : (!decide (x = y)) = b) : EvX G (tOp rNe ta tb) (.d (.bl b)) := evx_op ha hb fun v w H hv hw Q q => by
  subst e
  obtain rfl : v = .str x := hv
  obtain rfl : w = .str y := hw
  refine ⟨rfl, ?_⟩
  have e : decide (V.str x = V.str y) = decide (x = y) := by simp
  rw [e]
  exact q _ H (Same.refl H) rfl
def D.isNon : D → Bool
  | .non => true
  | _ => false
theorem non_dec {H : Hp} {d : D} {v : V} (h : Dv H d v) : decide (v = .non) = d.isNon := by
  cases d with
  | non =>
    obtain rfl : v = .non := h
    rfl
  | bl b =>
    obtain rfl : v = .bl b := h
    rfl
  | int b =>
    obtain rfl : v = .int b := h
    rfl
  | str b =>
    obtain rfl : v = .str b := h
    rfl
  | tup ds =>
    obtain ⟨a, xs, rfl, _, _⟩ := h
    rfl
theorem evx_isN {d : D} {b : Bool} (ha : EvX G ta (.d d)) (hb : EvX G tb (.d .non)) (e : d.isNon = b) : EvX G (tOp (fun x y H Q => y = .non ∧ Q (.bl (decide (x = .non))) H) ta tb) (.d (.bl b)) := evx_op ha hb fun v w H hv hw Q q => by
  subst e
  obtain rfl : w = .non := hw
  refine ⟨rfl, ?_⟩
  rw [non_dec hv]
  exact q _ H (Same.refl H) rfl
theorem evx_notN {d : D} {b : Bool} (ha : EvX G ta (.d d)) (hb : EvX G tb (.d .non)) (e : (!d.isNon) = b) : EvX G (tOp (fun x y H Q => y = .non ∧ Q (.bl (!decide (x = .non))) H) ta tb) (.d (.bl b)) := evx_op ha hb fun v w H hv hw Q q => by
  subst e
  obtain rfl : w = .non := hw
  refine ⟨rfl, ?_⟩
  rw [non_dec hv]
  exact q _ H (Same.refl H) rfl
/-! truth -/
theorem evx_andV {x y : Bool} (ha : EvX G ta (.d (.bl x))) (hb : x = true → EvX G tb (.d (.bl y))) : EvX G (tAndV ta tb) (.d (.bl (x && y))) := fun σ H I Q q => ha σ H I _ fun v H1 s1 hv => by
  obtain rfl : v = .bl x := hv
  refine ⟨x, rfl, ?_⟩
  cases x with
  | true => exact iteT (hb rfl σ H1 (I.mono s1) Q fun v H2 s2 h2 => q v H2 (s1.trans s2) h2)
  | false => exact iteF (q _ H1 s1 rfl)
theorem evx_orV {x y : Bool} (ha : EvX G ta (.d (.bl x))) (hb : x = false → EvX G tb (.d (.bl y))) : EvX G (tOrV ta tb) (.d (.bl (x || y))) := fun σ H I Q q => ha σ H I _ fun v H1 s1 hv => by
  obtain rfl : v = .bl x := hv
  refine ⟨x, rfl, ?_⟩
  cases x with
  | true => exact iteT (q _ H1 s1 rfl)
  | false => exact iteF (hb rfl σ H1 (I.mono s1) Q fun v H2 s2 h2 => q v H2 (s1.trans s2) h2)
theorem evx_notV {x : Bool} (ha : EvX G ta (.d (.bl x))) : EvX G (tNotV ta) (.d (.bl (!x))) := fun σ H I Q q => ha σ H I _ fun v H1 s1 hv => by
  obtain rfl : v = .bl x := hv
  exact ⟨x, rfl, q _ H1 s1 rfl⟩
theorem evx_if {b : Bool} {t : T} (hc : EvB G tt b) (h1 : b = true → EvX G ta t) (h2 : b = false → EvX G tb t) : EvX G (tIf tt ta tb) t := fun σ H I Q q => hc σ H I _ fun H1 s1 => by
  cases b with
  | true => exact iteT (h1 rfl σ H1 (I.mono s1) Q fun v H2 s2 hh => q v H2 (s1.trans s2) hh)
  | false => exact iteF (h2 rfl σ H1 (I.mono s1) Q fun v H2 s2 hh => q v H2 (s1.trans s2) hh)
theorem evb_B {b : Bool} (h : EvX G te (.d (.bl b))) : EvB G (tB te) b := fun σ H I Q q => h σ H I _ fun v H1 s1 hv => by
  obtain rfl : v = .bl b := hv
  exact ⟨b, rfl, q H1 s1⟩
theorem evb_T {b : Bool} (h : EvX G te (.d (.bl b))) : EvB G (tTest te) b := fun σ H I Q q => h σ H I _ fun v H1 s1 hv => by
  obtain rfl : v = .bl b := hv
  exact ⟨b, rfl, q H1 s1⟩
theorem evb_and {x y : Bool} (ha : EvB G tt x) (hb : x = true → EvB G tu y) : EvB G (tAnd tt tu) (x && y) := fun σ H I Q q => ha σ H I _ fun H1 s1 => by
  cases x with
  | true => exact iteT (hb rfl σ H1 (I.mono s1) Q fun H2 s2 => q H2 (s1.trans s2))
  | false => exact iteF (q H1 s1)
theorem evb_or {x y : Bool} (ha : EvB G tt x) (hb : x = false → EvB G tu y) : EvB G (tOr tt tu) (x || y) := fun σ H I Q q => ha σ H I _ fun H1 s1 => by
  cases x with
  | true => exact iteT (q H1 s1)
  | false => exact iteF (hb rfl σ H1 (I.mono s1) Q fun H2 s2 => q H2 (s1.trans s2))
theorem evb_not {x : Bool} (ha : EvB G tt x) : EvB G (tNot tt) (!x) := fun σ H I Q q => ha σ H I _ fun H1 s1 => q H1 s1
theorem evb_yes : EvB G tYes true := fun σ H I Q q => q H (Same.refl H)
theorem evb_eq {x y : Bool} (h : EvB G tt x) (e : x = y) : EvB G tt y := e ▸ h
theorem evx_eq {x y : T} (h : EvX G te x) (e : x = y) : EvX G te y := e ▸ h
/-- a ≤ b < c of ints -/
theorem evx_chain {f g : Int → Int → Bool} {x y z : Int} (ha : EvX G ta (.d (.int x))) (hb : EvX G tb (.d (.int y))) (hc : EvX G tc (.d (.int z))) :
    EvX G (tChain (rI0 fun i j => .bl (f i j)) (rI0 fun i j => .bl (g i j)) ta tb tc) (.d (.bl (f x y && g y z))) := fun σ H I Q q => ha σ H I _ fun v H1 s1 hv => hb σ H1 (I.mono s1) _ fun w H2 s2 hw => by
  obtain rfl : v = .int x := hv
  obtain rfl : w = .int y := hw
  refine ⟨x, y, rfl, rfl, f x y, rfl, ?_⟩
  cases hf : f x y with
  | true =>
    rw [hf] at q
    refine iteT (hc σ H2 (I.mono (s1.trans s2)) _ fun u H3 s3 hu => ?_)
    obtain rfl : u = .int z := hu
    exact ⟨y, z, rfl, rfl, q _ H3 ((s1.trans s2).trans s3) rfl⟩
  | false =>
    rw [hf] at q
    exact iteF (q _ H2 (s1.trans s2) rfl)
/-! built-ins -/
theorem evx_lenT {ds : List D} (h : EvA G a [.d (.tup ds)]) : EvX G (tCB (fun xs H Q => ∃ p ys, xs = [.ref p] ∧ (SqL K H p ys ∨ SqT K H p ys) ∧ Q (.int ys.length) H) a) (.d (.int ds.length)) := fun σ H I Q q => h σ H I _ fun vs H1 s1 hvs => by
  cases hvs with
  | cons r t =>
    cases t
    obtain ⟨p, xs, rfl, h1, h2⟩ := r
    refine ⟨p, xs, rfl, .inr (SqT.of h1), ?_⟩
    rw [h2.len]
    exact q _ H1 s1 rfl
theorem evx_lenL {ds : List D} (h : EvA G a [.li ds]) : EvX G (tCB (fun xs H Q => ∃ p ys, xs = [.ref p] ∧ (SqL K H p ys ∨ SqT K H p ys) ∧ Q (.int ys.length) H) a) (.d (.int ds.length)) := fun σ H I Q q => h σ H I _ fun vs H1 s1 hvs => by
  cases hvs with
  | cons r t =>
    cases t
    obtain ⟨p, xs, rfl, h1, h2⟩ := r
    refine ⟨p, xs, rfl, .inl (SqL.of h1), ?_⟩
    rw [h2.len]
    exact q _ H1 s1 rfl
def D.ty : D → String
  | .non => "NoneType"
  | .bl _ => "bool"
  | .int _ => "int"
  | .str _ => "str"
  | .tup _ => "tuple"
theorem ty_ok {K : PySem.W.Frag} {H : Hp} {d : D} {v : V} (h : Dv H d v) : TyX K H v (.type d.ty) := by
  cases d with
  | non =>
    obtain rfl : v = .non := h
    exact .base .non
  | bl b =>
    obtain rfl : v = .bl b := h
    exact .base (.bl _)
  | int b =>
    obtain rfl : v = .int b := h
    exact .base (.int _)
  | str b =>
    obtain rfl : v = .str b := h
    exact .base (.str _)
  | tup ds =>
    obtain ⟨a, xs, rfl, h1, _⟩ := h
    exact .base (.tup h1)
theorem evx_isi {d : D} {n : String} {b : Bool} (h : EvA G a [.d d, .v (.ty n)]) (e : kitB d.ty n = some b) : EvX G (tCB (rIsi K) a) (.d (.bl b)) := fun σ H I Q q => h σ H I _ fun vs H1 s1 hvs => by
  cases hvs with
  | cons r t =>
    cases t with
    | cons r2 t =>
      cases t
      rename_i v1 v2
      obtain rfl : v2 = .ty n := r2
      exact ⟨v1, .ty n, _, _, b, rfl, .ty n, ty_ok r, kit_ty e, q _ H1 s1 rfl⟩
theorem bls_of {H : Hp} : ∀ {bs : List Bool} {xs : List V}, DvL H (bs.map D.bl) xs → xs = bs.map V.bl
  | [], xs, h => h
  | b :: bs, xs, h => by
    obtain ⟨v, vs, rfl, h2, h3⟩ := (show ∃ v vs, xs = v :: vs ∧ Dv H (.bl b) v ∧ DvL H (bs.map D.bl) vs from h)
    obtain rfl : v = .bl b := h2
    rw [List.map_cons, bls_of h3]
theorem ints_of {H : Hp} : ∀ {is : List Int} {xs : List V}, DvL H (is.map D.int) xs → xs = is.map V.int
  | [], xs, h => h
  | b :: bs, xs, h => by
    obtain ⟨v, vs, rfl, h2, h3⟩ := (show ∃ v vs, xs = v :: vs ∧ Dv H (.int b) v ∧ DvL H (bs.map D.int) vs from h)
    obtain rfl : v = .int b := h2
    rw [List.map_cons, ints_of h3]
theorem evx_all {bs : List Bool} (h : EvA G a [.li (bs.map D.bl)]) : EvX G (tCB (rAll K) a) (.d (.bl (bs.all id))) := fun σ H I Q q => h σ H I _ fun vs H1 s1 hvs => by
  cases hvs with
  | cons r t =>
    cases t
    obtain ⟨p, xs, rfl, h1, h2⟩ := r
    have e := bls_of h2
    subst e
    exact ⟨p, bs, rfl, SqL.of h1, q _ H1 s1 rfl⟩
theorem evx_any {bs : List Bool} (h : EvA G a [.li (bs.map D.bl)]) : EvX G (tCB (rAny K) a) (.d (.bl (bs.any id))) := fun σ H I Q q => h σ H I _ fun vs H1 s1 hvs => by
  cases hvs with
  | cons r t =>
    cases t
    obtain ⟨p, xs, rfl, h1, h2⟩ := r
    have e := bls_of h2
    subst e
    exact ⟨p, bs, rfl, SqL.of h1, q _ H1 s1 rfl⟩
/-- tuple(list) -/
theorem evx_tuple {ds : List D} (h : EvA G a [.li ds]) : EvX G (tCB (fun xs H Q => ∃ p ys, xs = [.ref p] ∧ ((SqL K H p ys ∧ ∀ l, H l = none → Q (.ref l) (upd H l (.tup ys))) ∨ (SqT K H p ys ∧ Q (.ref p) H))) a) (.d (.tup ds)) := fun σ H I Q q => h σ H I _ fun vs H1 s1 hvs => by
  cases hvs with
  | cons r t =>
    cases t
    obtain ⟨p, xs, rfl, h1, h2⟩ := r
    exact ⟨p, xs, rfl, .inl ⟨SqL.of h1, fun l hl => q _ _ (s1.trans (same_new hl)) ⟨l, xs, rfl, upd_same, h2.mono (same_new hl)⟩⟩⟩
end
end Mw

namespace Mw
open PySem PySem.Spec PyProof.Rows L2

section
variable {G G' G1 G2 : List T} {ta tb te tc tl : TE} {tt tu : TT} {a : TA} {K : PySem.W.Frag}
/-! ### targets -/
def TgX (G : List T) (g : TG) (t : T) (G' : List T) (js : List Nat) : Prop := ∀ σ H, EnvOk H G σ → ∀ v, Is H t v → ∀ Q : Slots → Hp → Prop,
  (∀ σ', EnvOk H G' σ' → (∀ vs : List Nat, (∀ j ∈ js, j ∈ vs) → wipe σ' vs = wipe σ vs) → Q σ' H) → g v σ H Q
def TgsX (G : List T) (g : TGs) (ds : List D) (G' : List T) (js : List Nat) : Prop := ∀ σ H, EnvOk H G σ → ∀ xs, DvL H ds xs → ∀ Q : Slots → Hp → Prop,
  (∀ σ', EnvOk H G' σ' → (∀ vs : List Nat, (∀ j ∈ js, j ∈ vs) → wipe σ' vs = wipe σ vs) → Q σ' H) → g xs σ H Q
theorem tg_name {i : Nat} {t : T} : TgX G (gName i) t (G.set i t) [i] := fun σ H I v hv Q q => q _ (I.setv i hv) fun vs h => wipe_set (h i (by simp))
theorem tgs_nil : TgsX G gNil [] G [] := fun σ H I xs hx Q q => by
  obtain rfl : xs = [] := hx
  exact ⟨rfl, q σ I fun _ _ => rfl⟩
theorem tgs_cons {g : TG} {gs : TGs} {d : D} {ds : List D} {j1 j2 : List Nat} (h1 : TgX G g (.d d) G1 j1) (h2 : TgsX G1 gs ds G2 j2) : TgsX G (gCons g gs) (d :: ds) G2 (j1 ++ j2) := fun σ H I xs hx Q q => by
  obtain ⟨v, vs, rfl, a1, a2⟩ := (show ∃ v vs, xs = v :: vs ∧ Dv H d v ∧ DvL H ds vs from hx)
  refine ⟨v, vs, rfl, h1 σ H I v a1 _ fun σ1 I1 w1 => h2 σ1 H I1 vs a2 _ fun σ2 I2 w2 => q σ2 I2 fun ws hw => ?_⟩
  rw [w2 ws fun j hj => hw j (List.mem_append_right _ hj), w1 ws fun j hj => hw j (List.mem_append_left _ hj)]
theorem tg_tup {gs : TGs} {ds : List D} {n : Nat} {js : List Nat} (h : TgsX G gs ds G' js) (hn : ds.length = n := by rfl) : TgX G (gTup K n gs) (.d (.tup ds)) G' js := fun σ H I v hv Q q => by
  obtain ⟨p, xs, rfl, e1, e2⟩ := (show ∃ a xs, v = .ref a ∧ H a = some (.tup xs) ∧ DvL H ds xs from hv)
  exact ⟨p, xs, rfl, SqT.of e1, by rw [e2.len, hn], h σ H I xs e2 Q q⟩

/-! ### what is walked -/
def WalkX (J : It) (n : Nat) (F : Nat → T → Prop) (H0 : Hp) : Prop := (∀ i H, i < n → Same H0 H → J.go i H) ∧ (∀ H, Same H0 H → J.stop n H) ∧
  ∀ i H x H', i < n → Same H0 H → J.yld i H x H' → Same H H' ∧ ∃ t, F i t ∧ Is H' t x
def ItX (G : List T) (wi : TI) (n : Nat) (F : Nat → T → Prop) : Prop := ∀ σ H, EnvOk H G σ → ∀ R : It → Hp → Prop, (∀ J H', Same H H' → WalkX J n F H' → R J H') → wi σ H R
abbrev FD (ds : List D) : Nat → T → Prop := fun i t => ∃ d, ds[i]? = some d ∧ t = .d d
abbrev FN : Nat → T → Prop := fun i t => t = .d (.int (i : Int))
abbrev FE (ds : List D) : Nat → T → Prop := fun i t => ∃ d, ds[i]? = some d ∧ t = .d (.tup [.int (i : Int), d])
abbrev FZ (ds es : List D) : Nat → T → Prop := fun i t => ∃ d e, ds[i]? = some d ∧ es[i]? = some e ∧ t = .d (.tup [d, e])
theorem TupX.trans {H H1 H2 : Hp} (a : TupX H H1) (b : TupX H1 H2) : TupX H H2 := fun p xs h => b p xs (a p xs h)
/-- the same where all but the tuples may change -/
def WalkT (J : It) (n : Nat) (F : Nat → T → Prop) (H0 : Hp) : Prop := (∀ i H, i < n → TupX H0 H → J.go i H) ∧ (∀ H, TupX H0 H → J.stop n H) ∧
  ∀ i H x H', i < n → TupX H0 H → J.yld i H x H' → Same H H' ∧ ∃ t, F i t ∧ Is H' t x
def ItT (G : List T) (wi : TI) (n : Nat) (F : Nat → T → Prop) : Prop := ∀ σ H, EnvOk H G σ → ∀ R : It → Hp → Prop, (∀ J H', Same H H' → WalkT J n F H' → R J H') → wi σ H R
theorem WalkT.x {J : It} {n : Nat} {F : Nat → T → Prop} {H0 : Hp} (w : WalkT J n F H0) : WalkX J n F H0 :=
  ⟨fun i H hi s => w.1 i H hi (TupX.of s), fun H s => w.2.1 H (TupX.of s), fun i H x H' hi s y => w.2.2 i H x H' hi (TupX.of s) y⟩
theorem ItT.x {wi : TI} {n : Nat} {F : Nat → T → Prop} (h : ItT G wi n F) : ItX G wi n F := fun σ H I R q => h σ H I R fun J H' s w => q J H' s w.x
theorem itT_tup {ds : List D} (h : EvX G tl (.d (.tup ds))) : ItT G (iTup K tl) ds.length (FD ds) := fun σ H I R q => h σ H I _ fun v H1 s1 hv => by
  obtain ⟨p, xs, rfl, e1, e2⟩ := (show ∃ a xs, v = .ref a ∧ H1 a = some (.tup xs) ∧ DvL H1 ds xs from hv)
  refine ⟨p, rfl, ⟨xs, SqT.of e1⟩, q _ H1 s1 ⟨fun i H' hi s => ?_, fun H' s => ⟨xs, SqT.of (s _ _ e1), by rw [e2.len]; exact Nat.le_refl _⟩, fun i H' x H'' hi s y => ?_⟩⟩
  · obtain ⟨w, hw, _⟩ := e2.get (List.getElem?_eq_getElem hi)
    exact ⟨xs, w, SqT.of (s _ _ e1), hw⟩
  · obtain ⟨rfl, y2⟩ := y
    obtain ⟨w, hw, hd⟩ := e2.get (List.getElem?_eq_getElem hi)
    have := y2 xs (SqT.of (s _ _ e1))
    rw [hw] at this
    cases this
    exact ⟨Same.refl _, _, ⟨_, List.getElem?_eq_getElem hi, rfl⟩, Dv.monoT s _ _ hd⟩
theorem itT_rng {n : Int} (h : EvA G a [.d (.int n)]) (h1 : n ≤ 1000000) (h0 : -1000000 ≤ n := by omega) : ItT G (iRng1 a) n.toNat FN := fun σ H I R q => h σ H I _ fun vs H1 s1 hvs => by
  cases hvs with
  | cons r t =>
    cases t
    obtain rfl := (show _ = V.int n from r)
    refine ⟨n, rfl, by omega, by omega, q _ H1 s1 ⟨fun i H' hi s => hi, fun H' s => Nat.le_refl _, fun i H' x H'' hi s y => ?_⟩⟩
    obtain ⟨rfl, rfl⟩ := y
    refine ⟨Same.refl _, _, rfl, ?_⟩
    show V.int (0 + (i : Int)) = V.int (i : Int)
    rw [Int.zero_add]
theorem itT_rngN {n : Nat} (h : EvA G a [.d (.int (n : Int))]) (h1 : n ≤ 1000000) : ItT G (iRng1 a) n FN := itT_rng (n := (n : Int)) h (by omega) (by omega)
theorem itT_enum {ds : List D} (h : EvA G a [.d (.tup ds)]) : ItT G (iEnumT K a) ds.length (FE ds) := fun σ H I R q => h σ H I _ fun vs H1 s1 hvs => by
  cases hvs with
  | @cons _ v0 _ _ r t =>
    cases t
    obtain ⟨p, xs, rfl, e1, e2⟩ := (show ∃ a xs, v0 = .ref a ∧ H1 a = some (.tup xs) ∧ DvL H1 ds xs from r)
    refine ⟨p, xs, rfl, SqT.of e1, q _ H1 s1 ⟨fun i H' hi s => ?_, fun H' s => ⟨xs, SqT.of (s _ _ e1), by rw [e2.len]; exact Nat.le_refl _⟩, fun i H' x H'' hi s y => ?_⟩⟩
    · obtain ⟨w, hw, _⟩ := e2.get (List.getElem?_eq_getElem hi)
      exact ⟨xs, w, SqT.of (s _ _ e1), hw⟩
    · obtain ⟨T', x', rfl, nT, rfl, y2⟩ := y
      obtain ⟨w, hw, hd⟩ := e2.get (List.getElem?_eq_getElem hi)
      have := y2 xs (SqT.of (s _ _ e1))
      rw [hw] at this
      cases this
      refine ⟨same_new nT, _, ⟨_, List.getElem?_eq_getElem hi, rfl⟩, ⟨T', _, rfl, upd_same, ?_⟩⟩
      exact DvL.cons rfl (DvL.cons (Dv.monoT (s.trans (TupX.of (same_new nT))) _ _ hd) DvL.nil)
theorem itT_zip {ds es : List D} (h : EvA G a [.d (.tup ds), .d (.tup es)]) : ItT G (RZ.iZipA K a) (min ds.length es.length) (FZ ds es) := fun σ H I R q => h σ H I _ fun vs H1 s1 hvs => by
  cases hvs with
  | @cons _ v0 _ _ r t =>
    cases t with
    | @cons _ w0 _ _ r2 t =>
      cases t
      obtain ⟨p, xs, rfl, e1, e2⟩ := (show ∃ a xs, v0 = .ref a ∧ H1 a = some (.tup xs) ∧ DvL H1 ds xs from r)
      obtain ⟨p2, ys, rfl, f1, f2⟩ := (show ∃ a xs, w0 = .ref a ∧ H1 a = some (.tup xs) ∧ DvL H1 es xs from r2)
      refine ⟨p, p2, xs, ys, rfl, .inr ⟨SqT.of e1, SqT.of f1, q _ H1 s1 ⟨fun i H' hi s => ?_, fun H' s => ⟨xs, ys, SqT.of (s _ _ e1), SqT.of (s _ _ f1), by rw [e2.len, f2.len]; omega⟩, fun i H' x H'' hi s y => ?_⟩⟩⟩
      · obtain ⟨w, hw, _⟩ := e2.get (List.getElem?_eq_getElem (show i < ds.length by omega))
        obtain ⟨w', hw', _⟩ := f2.get (List.getElem?_eq_getElem (show i < es.length by omega))
        exact ⟨xs, ys, w, w', SqT.of (s _ _ e1), SqT.of (s _ _ f1), hw, hw'⟩
      · obtain ⟨T', x', y', rfl, nT, rfl, y2, y3⟩ := y
        have h1 : i < ds.length := by omega
        have h2 : i < es.length := by omega
        obtain ⟨w, hw, hd⟩ := e2.get (List.getElem?_eq_getElem h1)
        obtain ⟨w', hw', hd'⟩ := f2.get (List.getElem?_eq_getElem h2)
        have z1 := y2 xs (SqT.of (s _ _ e1))
        have z2 := y3 ys (SqT.of (s _ _ f1))
        rw [hw] at z1
        cases z1
        rw [hw'] at z2
        cases z2
        refine ⟨same_new nT, _, ⟨_, _, List.getElem?_eq_getElem h1, List.getElem?_eq_getElem h2, rfl⟩, ⟨T', _, rfl, upd_same, ?_⟩⟩
        exact DvL.cons (Dv.monoT (s.trans (TupX.of (same_new nT))) _ _ hd) (DvL.cons (Dv.monoT (s.trans (TupX.of (same_new nT))) _ _ hd') DvL.nil)

theorem it_list {ds : List D} (h : EvX G tl (.li ds)) : ItX G (iList K tl) ds.length (FD ds) := fun σ H I R q => h σ H I _ fun v H1 s1 hv => by
  obtain ⟨p, xs, rfl, e1, e2⟩ := hv
  refine ⟨p, rfl, ⟨xs, SqL.of e1⟩, q _ H1 s1 ⟨fun i H' hi s => ?_, fun H' s => ⟨xs, SqL.of (s _ _ e1), by rw [e2.len]; exact Nat.le_refl _⟩, fun i H' x H'' hi s y => ?_⟩⟩
  · obtain ⟨w, hw, _⟩ := e2.get (List.getElem?_eq_getElem hi)
    exact ⟨xs, w, SqL.of (s _ _ e1), hw⟩
  · obtain ⟨rfl, y2⟩ := y
    obtain ⟨w, hw, hd⟩ := e2.get (List.getElem?_eq_getElem hi)
    have := y2 xs (SqL.of (s _ _ e1))
    rw [hw] at this
    cases this
    exact ⟨Same.refl _, _, ⟨_, List.getElem?_eq_getElem hi, rfl⟩, Dv.mono s hd⟩
theorem it_tup {ds : List D} (h : EvX G tl (.d (.tup ds))) : ItX G (iTup K tl) ds.length (FD ds) := (itT_tup h).x
theorem it_rng {n : Int} (h : EvA G a [.d (.int n)]) (h1 : n ≤ 1000000) (h0 : -1000000 ≤ n := by omega) : ItX G (iRng1 a) n.toNat FN := (itT_rng h h1 h0).x
theorem it_rngN {n : Nat} (h : EvA G a [.d (.int (n : Int))]) (h1 : n ≤ 1000000) : ItX G (iRng1 a) n FN := (itT_rngN h h1).x
theorem it_enumT {ds : List D} (h : EvA G a [.d (.tup ds)]) : ItX G (iEnumT K a) ds.length (FE ds) := (itT_enum h).x
theorem it_zipT {ds es : List D} (h : EvA G a [.d (.tup ds), .d (.tup es)]) : ItX G (RZ.iZipA K a) (min ds.length es.length) (FZ ds es) := (itT_zip h).x
/-- only data that never change -/
def PureT : T → Bool
  | .u => true
  | .v _ => true
  | .d _ => true
  | _ => false
theorem EnvOk.monoT {H H' : Hp} (e : TupX H H') : ∀ {G : List T} {σ : Slots}, G.all PureT = true → EnvOk H G σ → EnvOk H' G σ
  | _, _, _, .nil => .nil
  | t :: ts, _, hp, .cons r q => by
    rw [List.all_cons, Bool.and_eq_true] at hp
    refine .cons ?_ (EnvOk.monoT e hp.2 q)
    cases t with
    | u => trivial
    | v x => exact r
    | d d =>
      obtain ⟨v, h1, h2⟩ := r
      exact ⟨v, h1, Dv.monoT e _ _ h2⟩
    | li _ => cases hp.1
    | dk _ => cases hp.1
    | rk _ => cases hp.1
    | dt _ => cases hp.1
    | dl _ => cases hp.1
    | fk _ => cases hp.1
    | fl _ => cases hp.1
    | pl _ _ => cases hp.1
    | la _ _ => cases hp.1
theorem pure_wipe {G : List T} (h : G.all PureT = true) : ∀ vs : List Nat, (wipeG G vs).all PureT = true
  | [] => h
  | v :: vs => by
    have ih := pure_wipe h vs
    show ((wipeG G vs).set v .u).all PureT = true
    rw [List.all_eq_true] at ih ⊢
    intro t ht
    rcases List.mem_or_eq_of_mem_set ht with q | q
    · exact ih t q
    · rw [q]; rfl

/-! ### comprehensions -/
/-- one that yields nothing, or a datum -/
def LcTurn (G : List T) (g : TG) (tt : TT) (te : TE) (vs : List Nat) (t : T) (o : Option D) : Prop := ∃ G' js, TgX G g t G' js ∧ (∀ j ∈ js, j ∈ vs) ∧ EvB G' tt o.isSome ∧ ∀ d, o = some d → EvX G' te (.d d)
theorem LcTurn.mk {g : TG} {vs : List Nat} {t : T} {d : D} {js : List Nat} (h : TgX G g t G' js) (hj : ∀ j ∈ js, j ∈ vs) (he : EvX G' te (.d d)) : LcTurn G g tYes te vs t (some d) := ⟨G', js, h, hj, evb_yes, fun e z => by cases z; exact he⟩
theorem LcTurn.tst {g : TG} {vs : List Nat} {t : T} {d : D} {b : Bool} {js : List Nat} (h : TgX G g t G' js) (hj : ∀ j ∈ js, j ∈ vs) (ht : EvB G' tt b) (he : b = true → EvX G' te (.d d)) : LcTurn G g tt te vs t (if b then some d else none) := by
  refine ⟨G', js, h, hj, ?_, fun e z => ?_⟩
  · cases b <;> exact ht
  · cases b with
    | true =>
      cases z
      exact he rfl
    | false => cases z
/-- a run of turns of an innermost clause -/
theorem run_lc {n : Nat} {F : Nat → T → Prop} {g : TG} {vs : List Nat} {f : Nat → Option D} {σ : Slots} {H0 H1 : Hp} {J : It} {Dl : Addr} {Nx : Hp → Prop} {ds : List D} (w : WalkX J n F H0) (I : EnvOk H0 G σ) (hn : H0 Dl = none)
    (ht : ∀ i t, i < n → F i t → LcTurn (wipeG G vs) g tt te vs t (f i)) (hs : Same H0 H1) (hD : ∃ xs, H1 Dl = some (.lst xs) ∧ DvL H1 ds xs) (hz : ds.length + n < 100000)
    (q : ∀ H', Same H0 H' → (∃ xs, H' Dl = some (.lst xs) ∧ DvL H' (ds ++ (List.range n).filterMap f) xs) → Nx H') :
    tRun J g tt vs (rApp Dl te) σ H1 Nx := by
  refine ⟨fun i m H' => m = n - i ∧ i ≤ n ∧ Same H0 H' ∧ ∃ xs, H' Dl = some (.lst xs) ∧ DvL H' (ds ++ (List.range i).filterMap f) xs, ⟨n, by simp, Nat.zero_le _, hs, ?_⟩, ?_⟩
  · obtain ⟨xs, h1, h2⟩ := hD
    exact ⟨xs, h1, by simpa using h2⟩
  rintro i m H' ⟨rfl, hi, s', xs, hx, hd⟩
  by_cases hlt : i < n
  · refine .inr ⟨w.1 i H' hlt s', fun H'' => Same H0 H'' ∧ ∃ xs, H'' Dl = some (.lst xs) ∧ DvL H'' (ds ++ (List.range (i + 1)).filterMap f) xs, fun H'' z => ⟨n - (i + 1), by omega, rfl, hlt, z⟩, fun x H2 y => ?_⟩
    obtain ⟨s2, t, ft, hv⟩ := w.2.2 i H' x H2 hlt s' y
    obtain ⟨G', js, hg, hj, hb, he⟩ := ht i t hlt ft
    have I2 : EnvOk H2 (wipeG G vs) (wipe σ vs) := (I.mono (s'.trans s2)).wipe vs
    refine hg _ H2 I2 x hv _ fun σ2 J2 hw => ⟨by rw [hw vs hj, wipe_wipe], ?_⟩
    refine hb σ2 H2 J2 _ fun H3 s3 => ?_
    have hx3 : H3 Dl = some (.lst xs) := s3 _ _ (s2 _ _ hx)
    cases hf : f i with
    | none =>
      refine iteF ⟨(s'.trans s2).trans s3, xs, hx3, ?_⟩
      have e : (List.range (i + 1)).filterMap f = (List.range i).filterMap f := by rw [List.range_succ, List.filterMap_append]; simp [hf]
      rw [e]
      exact hd.mono (s2.trans s3)
    | some d =>
      refine iteT (he d hf σ2 H3 (J2.mono s3) _ fun v H4 s4 hv4 => ⟨xs, s4 _ _ hx3, ?_, ?_, ?_⟩)
      · have l1 := hd.len
        have l2 : ((List.range i).filterMap f).length ≤ i := Nat.le_trans (List.length_filterMap_le _ _) (by simp)
        rw [List.length_append] at l1
        exact len_lt (by omega)
      · intro b o eb
        rw [upd_ne (ne_of_none eb hn)]
        exact s4 _ _ (s3 _ _ (s2 _ _ (s' _ _ eb)))
      · have tx : TupX H4 (upd H4 Dl (.lst (xs ++ [v]))) := fun b ys eb => by
          rw [upd_ne (ne_of eb (s4 _ _ hx3) (by intro z; cases z))]
          exact eb
        refine ⟨_, upd_same, ?_⟩
        have e : (List.range (i + 1)).filterMap f = (List.range i).filterMap f ++ [d] := by rw [List.range_succ, List.filterMap_append]; simp [hf]
        rw [e, ← List.append_assoc]
        exact DvL.monoT tx _ _ ((hd.mono ((s2.trans s3).trans s4)).snoc hv4)
  · have e : i = n := by omega
    subst e
    exact .inl ⟨w.2.1 H' s', q H' s' ⟨xs, hx, hd⟩⟩
theorem evx_lc {wi : TI} {n : Nat} {F : Nat → T → Prop} {g : TG} {vs : List Nat} (f : Nat → Option D) (hi : ItX G wi n F) (ht : ∀ i t, i < n → F i t → LcTurn (wipeG G vs) g tt te vs t (f i)) (hz : n < 100000) :
    EvX G (tLc wi g tt te vs) (.li ((List.range n).filterMap f)) := fun σ H I Q q => hi σ H I _ fun J H1 s1 w Dl hD =>
  run_lc w (I.mono s1) hD ht (same_new hD) ⟨[], upd_same, DvL.nil⟩ (by simpa using hz) fun H' s' ⟨xs, hx, hd⟩ => q _ H' (s1.trans s') ⟨Dl, xs, rfl, hx, by simpa using hd⟩
/-- all of a list -/
theorem fm_list {α β : Type} (h : α → Option β) : ∀ (ds : List α), (List.range ds.length).filterMap (fun i => (ds[i]?).bind h) = ds.filterMap h := by
  intro ds
  have key : ∀ n, n ≤ ds.length → (List.range n).filterMap (fun i => (ds[i]?).bind h) = (ds.take n).filterMap h := by
    intro n
    induction n with
    | zero => intro _; rfl
    | succ n ih =>
      intro hn
      rw [List.range_succ, List.filterMap_append, ih (by omega), List.take_add_one, List.filterMap_append]
      have e : ds[n]? = some ds[n] := List.getElem?_eq_getElem (by omega)
      rw [e]
      congr 1
      cases hh : h ds[n] <;> simp [e, hh]
  rw [key _ (Nat.le_refl _), List.take_length]
theorem fm_map {α β : Type} (h : α → β) (ds : List α) : (List.range ds.length).filterMap (fun i => (ds[i]?).map h) = ds.map h := by
  have e := fm_list (fun a => some (h a)) ds
  have e2 : (fun (i : Nat) => (ds[i]?).bind fun a => some (h a)) = fun (i : Nat) => (ds[i]?).map h := by
    funext i
    cases ds[i]? <;> rfl
  rw [e2] at e
  rw [e]
  clear e e2
  induction ds with
  | nil => rfl
  | cons x r ih => simp [ih]
theorem fm_range {β : Type} (h : Nat → β) (n : Nat) : (List.range n).filterMap (fun i => some (h i)) = (List.range n).map h := by
  induction n with
  | zero => rfl
  | succ n ih => rw [List.range_succ, List.filterMap_append, List.map_append, ih]; rfl
/-- from the items of a list of data -/
theorem evx_lcD {wi : TI} {ds : List D} {g : TG} {vs : List Nat} (h : D → Option D) (hi : ItX G wi ds.length (FD ds)) (ht : ∀ d, d ∈ ds → LcTurn (wipeG G vs) g tt te vs (.d d) (h d)) (hz : ds.length < 100000) :
    EvX G (tLc wi g tt te vs) (.li (ds.filterMap h)) := by
  rw [← fm_list h ds]
  refine evx_lc _ hi (fun i t hi ⟨d, e, et⟩ => ?_) hz
  subst et
  rw [e]
  exact ht d (List.mem_of_getElem? e)
end
end Mw

namespace Mw
open PySem PySem.Spec PyProof.Rows L2

section
variable {G G' G1 G2 : List T} {ta tb te tc tl : TE} {tt tu : TT} {a : TA} {K : PySem.W.Frag}
/-! ### clauses within clauses: what is appended to the list at Dl -/
def SameB (Dl : Addr) (H H' : Hp) : Prop := ∀ b o, b ≠ Dl → H b = some o → H' b = some o
theorem SameB.trans {Dl : Addr} {H H1 H2 : Hp} (a : SameB Dl H H1) (b : SameB Dl H1 H2) : SameB Dl H H2 := fun c o n h => b c o n (a c o n h)
theorem SameB.of {Dl : Addr} {H H' : Hp} (e : Same H H') : SameB Dl H H' := fun b o _ h => e b o h
theorem SameB.refl (Dl : Addr) (H : Hp) : SameB Dl H H := fun _ _ _ h => h
theorem SameB.upd {Dl : Addr} {H : Hp} {o : HO} : SameB Dl H (upd H Dl o) := fun b u n h => by rw [upd_ne n]; exact h
theorem SameB.tup {Dl : Addr} {H H' : Hp} {xs : List V} (e : SameB Dl H H') (hl : H Dl = some (.lst xs)) : TupX H H' := fun a ys h => e a _ (ne_of h hl (by intro z; cases z)) h
def ApX (G : List T) (Dl : Addr) (r : Slots → Hp → (Hp → Prop) → Prop) (es : List D) : Prop := ∀ σ H, EnvOk H G σ → ∀ xs, H Dl = some (.lst xs) → xs.length + es.length < 100000 → ∀ Nx : Hp → Prop,
  (∀ H', SameB Dl H H' → (∃ ys, H' Dl = some (.lst (xs ++ ys)) ∧ DvL H' es ys) → Nx H') → r σ H Nx
theorem ap_app {Dl : Addr} {d : D} (h : EvX G te (.d d)) : ApX G Dl (rApp Dl te) [d] := fun σ H I xs hx hz Nx q => h σ H I _ fun v H1 s1 hv => by
  have h1 := s1 _ _ hx
  have hz : xs.length + 1 < 100000 := hz
  refine ⟨xs, h1, len_lt (by omega), q _ ((SameB.of s1).trans SameB.upd) ⟨[v], upd_same, DvL.cons (Dv.monoT ?_ _ _ hv) DvL.nil⟩⟩
  exact (SameB.upd (o := .lst (xs ++ [v]))).tup h1
def ApTurn (G : List T) (Dl : Addr) (g : TG) (tt : TT) (vs : List Nat) (r : Slots → Hp → (Hp → Prop) → Prop) (t : T) (es : List D) : Prop :=
  ∃ G' js b, TgX (wipeG G vs) g t G' js ∧ (∀ j ∈ js, j ∈ vs) ∧ G'.all PureT = true ∧ EvB G' tt b ∧ (b = true → ApX G' Dl r es) ∧ (b = false → es = [])
theorem run_ap {n : Nat} {F : Nat → T → Prop} {g : TG} {vs : List Nat} {r : Slots → Hp → (Hp → Prop) → Prop} {f : Nat → List D} {σ : Slots} {H0 : Hp} {J : It} {Dl : Addr} {Nx : Hp → Prop} {xs : List V} (w : WalkT J n F H0) (I : EnvOk H0 G σ) (hG : G.all PureT = true)
    (ht : ∀ i t, i < n → F i t → ApTurn G Dl g tt vs r t (f i)) (hD : H0 Dl = some (.lst xs)) (hz : xs.length + ((List.range n).flatMap f).length < 100000)
    (q : ∀ H', SameB Dl H0 H' → (∃ ys, H' Dl = some (.lst (xs ++ ys)) ∧ DvL H' ((List.range n).flatMap f) ys) → Nx H') : tRun J g tt vs r σ H0 Nx := by
  have step : ∀ i, (List.range (i + 1)).flatMap f = (List.range i).flatMap f ++ f i := fun i => by rw [List.range_succ, List.flatMap_append]; simp
  have mon : ∀ i j, i ≤ j → ((List.range i).flatMap f).length ≤ ((List.range j).flatMap f).length := by
    intro i j hij
    induction j with
    | zero =>
      obtain rfl : i = 0 := by omega
      exact Nat.le_refl _
    | succ j ih =>
      by_cases e : i = j + 1
      · subst e; exact Nat.le_refl _
      · rw [step, List.length_append]
        have := ih (by omega)
        omega
  refine ⟨fun i m H' => m = n - i ∧ i ≤ n ∧ SameB Dl H0 H' ∧ ∃ ys, H' Dl = some (.lst (xs ++ ys)) ∧ DvL H' ((List.range i).flatMap f) ys, ⟨n, by simp, Nat.zero_le _, SameB.refl _ _, [], by simpa using hD, DvL.nil⟩, ?_⟩
  rintro i m H' ⟨rfl, hi, s', ys, hx, hd⟩
  have tx : TupX H0 H' := s'.tup hD
  by_cases hlt : i < n
  · refine .inr ⟨w.1 i H' hlt tx, fun H'' => SameB Dl H0 H'' ∧ ∃ ys, H'' Dl = some (.lst (xs ++ ys)) ∧ DvL H'' ((List.range (i + 1)).flatMap f) ys, fun H'' z => ⟨n - (i + 1), by omega, rfl, hlt, z⟩, fun x H2 y => ?_⟩
    obtain ⟨s2, t, ft, hv⟩ := w.2.2 i H' x H2 hlt tx y
    obtain ⟨G', js, b, hg, hj, hp, hb, hr, hf⟩ := ht i t hlt ft
    have I2 : EnvOk H2 (wipeG G vs) (wipe σ vs) := ((I.monoT (tx.trans (TupX.of s2)) hG)).wipe vs
    refine hg _ H2 I2 x hv _ fun σ2 J2 hw => ⟨by rw [hw vs hj, wipe_wipe], ?_⟩
    refine hb σ2 H2 J2 _ fun H3 s3 => ?_
    have hx3 : H3 Dl = some (.lst (xs ++ ys)) := s3 _ _ (s2 _ _ hx)
    cases b with
    | false =>
      refine iteF ⟨(s'.trans (SameB.of s2)).trans (SameB.of s3), ys, hx3, ?_⟩
      rw [step, hf rfl, List.append_nil]
      exact hd.mono (s2.trans s3)
    | true =>
      have l1 := hd.len
      have l2 := mon (i + 1) n hlt
      rw [step, List.length_append] at l2
      refine iteT (hr rfl σ2 H3 (J2.mono s3) (xs ++ ys) hx3 (by rw [List.length_append]; omega) _ fun H4 s4 ⟨zs, hz4, hd4⟩ => ⟨((s'.trans (SameB.of s2)).trans (SameB.of s3)).trans s4, ys ++ zs, by rw [← List.append_assoc]; exact hz4, ?_⟩)
      rw [step]
      exact (DvL.monoT (s4.tup hx3) _ _ (hd.mono (s2.trans s3))).append hd4
  · have e : i = n := by omega
    subst e
    exact .inl ⟨w.2.1 H' tx, q H' s' ⟨ys, hx, hd⟩⟩
theorem ap_lv {wi : TI} {n : Nat} {F : Nat → T → Prop} {g : TG} {vs : List Nat} {r : Slots → Hp → (Hp → Prop) → Prop} {Dl : Addr} (f : Nat → List D) (hi : ItT G wi n F) (hG : G.all PureT = true) (ht : ∀ i t, i < n → F i t → ApTurn G Dl g tt vs r t (f i)) :
    ApX G Dl (tLv wi g tt vs r) ((List.range n).flatMap f) := fun σ H I xs hx hz Nx q => hi σ H I _ fun J H1 s1 w =>
  run_ap w (I.mono s1) hG ht (s1 _ _ hx) hz fun H' s' z => q H' ((SameB.of s1).trans s') z
theorem evx_lc2 {wi wi1 : TI} {n : Nat} {F : Nat → T → Prop} {g g1 : TG} {tt1 : TT} {vs vs1 : List Nat} (f : Nat → List D) (hi : ItT G wi n F) (hG : G.all PureT = true) (ht : ∀ Dl i t, i < n → F i t → ApTurn G Dl g tt vs (tLv wi1 g1 tt1 vs1 (rApp Dl te)) t (f i)) (hz : ((List.range n).flatMap f).length < 100000) :
    EvX G (tLc2 wi g tt wi1 g1 tt1 te vs vs1) (.li ((List.range n).flatMap f)) := fun σ H I Q q => hi σ H I _ fun J H1 s1 w Dl hD => by
  have w' : WalkT J n F (upd H1 Dl (.lst [])) := by
    have tx : TupX H1 (upd H1 Dl (.lst [])) := TupX.of (same_new hD)
    exact ⟨fun i H hi s => w.1 i H hi (tx.trans s), fun H s => w.2.1 H (tx.trans s), fun i H x H' hi s y => w.2.2 i H x H' hi (tx.trans s) y⟩
  have z := run_ap w' ((I.mono s1).mono (same_new hD)) hG (ht Dl) upd_same (by simpa using hz) (Nx := fun H' => Q (.ref Dl) H') fun H' s' ⟨ys, hx, hd⟩ => q _ H' (s1.trans fun b o eb => s' b o (ne_of_none eb hD) (by rw [upd_ne (ne_of_none eb hD)]; exact eb)) ⟨Dl, ys, rfl, by simpa using hx, hd⟩
  exact z
theorem evx_lc3 {wi wi1 wi2 : TI} {n : Nat} {F : Nat → T → Prop} {g g1 g2 : TG} {tt1 tt2 : TT} {vs vs1 vs2 : List Nat} (f : Nat → List D) (hi : ItT G wi n F) (hG : G.all PureT = true) (ht : ∀ Dl i t, i < n → F i t → ApTurn G Dl g tt vs (tLv wi1 g1 tt1 vs1 (tLv wi2 g2 tt2 vs2 (rApp Dl te))) t (f i)) (hz : ((List.range n).flatMap f).length < 100000) :
    EvX G (tLc3 wi g tt wi1 g1 tt1 wi2 g2 tt2 te vs vs1 vs2) (.li ((List.range n).flatMap f)) := fun σ H I Q q => hi σ H I _ fun J H1 s1 w Dl hD => by
  have w' : WalkT J n F (upd H1 Dl (.lst [])) := by
    have tx : TupX H1 (upd H1 Dl (.lst [])) := TupX.of (same_new hD)
    exact ⟨fun i H hi s => w.1 i H hi (tx.trans s), fun H s => w.2.1 H (tx.trans s), fun i H x H' hi s y => w.2.2 i H x H' hi (tx.trans s) y⟩
  have z := run_ap w' ((I.mono s1).mono (same_new hD)) hG (ht Dl) upd_same (by simpa using hz) (Nx := fun H' => Q (.ref Dl) H') fun H' s' ⟨ys, hx, hd⟩ => q _ H' (s1.trans fun b o eb => s' b o (ne_of_none eb hD) (by rw [upd_ne (ne_of_none eb hD)]; exact eb)) ⟨Dl, ys, rfl, by simpa using hx, hd⟩
  exact z

/-! ### statements -/
def StX (H0 : Hp) (G : List T) (ts : TS) (D : Ends) : Prop := ∀ σ H, Same H0 H → EnvOk H G σ → ts D σ H
def NxX (H0 : Hp) (G : List T) (P : Slots → Hp → Prop) : Prop := ∀ σ H, Same H0 H → EnvOk H G σ → P σ H
variable {H0 : Hp} {D : Ends} {t1 t2 : TS}
theorem st_seq (h : StX H0 G t1 { D with nx := t2 D }) : StX H0 G (tSeq t1 t2) D := h
theorem st_asg {g : TG} {t : T} {js : List Nat} (h : EvX G te t) (hg : TgX G g t G' js) (k : NxX H0 G' D.nx) : StX H0 G (tAsg te g) D := fun σ H s I =>
  h σ H I _ fun v H1 s1 hv => hg σ H1 (I.mono s1) v hv _ fun σ' I' _ => k σ' H1 (s.trans s1) I'
theorem st_ret {t : T} (h : EvX G te t) (k : ∀ v H, Same H0 H → Is H t v → D.rt v H) : StX H0 G (tRet te) D := fun σ H s I =>
  h σ H I _ fun v H1 s1 hv => k v H1 (s.trans s1) hv
theorem st_if {b : Bool} (h : EvB G tt b) (h1 : b = true → StX H0 G t1 D) (h2 : b = false → StX H0 G t2 D) : StX H0 G (tIfS tt t1 t2) D := fun σ H s I =>
  h σ H I _ fun H1 s1 => by
    cases b with
    | true => exact iteT (h1 rfl σ H1 (s.trans s1) (I.mono s1))
    | false => exact iteF (h2 rfl σ H1 (s.trans s1) (I.mono s1))
theorem st_next (k : NxX H0 G D.nx) : StX H0 G tNext D := k
theorem st_drop {t : T} (h : EvX G te t) (k : NxX H0 G D.nx) : StX H0 G (tDrop te) D := fun σ H s I => h σ H I _ fun v H1 s1 _ => k σ H1 (s.trans s1) (I.mono s1)
/-- what a turn is to reach -/
def TurnTo (H0 : Hp) (G : List T) (P : Prop) : Slots → Hp → Prop := fun σ H => Same H0 H ∧ EnvOk H G σ ∧ P
theorem nx_turn {P : Prop} (hl : LeG G G1) (p : P) : NxX H0 G1 (TurnTo H0 G P) := fun σ H s I => ⟨s, I.le hl, p⟩
theorem st_for {wi : TI} {n : Nat} {F : Nat → T → Prop} {g : TG} (hi : ItX G wi n F) (Pv : Nat → Prop) (h0 : Pv 0)
    (hs : ∀ Hb, Same H0 Hb → ∀ i t, i < n → F i t → Pv i → ∃ G' js, TgX G g t G' js ∧ StX Hb G' t1 { nx := TurnTo Hb G (Pv (i + 1)), rt := D.rt, bk := D.nx, ct := TurnTo Hb G (Pv (i + 1)) }) (hd : Pv n → NxX H0 G D.nx) : StX H0 G (tFor wi g t1) D := fun σ H s I =>
  hi σ H I _ fun J H1 s1 w => by
    refine ⟨fun i m σ' H' => m = n - i ∧ i ≤ n ∧ Same H1 H' ∧ EnvOk H' G σ' ∧ Pv i, ⟨n, by simp, Nat.zero_le _, Same.refl _, I.mono s1, h0⟩, ?_⟩
    rintro i m σ' H' ⟨rfl, hi, s', I', p⟩
    by_cases hlt : i < n
    · refine .inr ⟨w.1 i H' hlt s', fun σ2 H2 => Same H1 H2 ∧ EnvOk H2 G σ2 ∧ Pv (i + 1), fun σ2 H2 z => ⟨n - (i + 1), by omega, rfl, hlt, z⟩, fun x H2 y => ?_⟩
      obtain ⟨s2, t, ft, hv⟩ := w.2.2 i H' x H2 hlt s' y
      obtain ⟨G', js, hg, hb⟩ := hs H1 (s.trans s1) i t hlt ft p
      exact hg σ' H2 (I'.mono s2) x hv _ fun σ2 I2 _ => hb σ2 H2 (s'.trans s2) I2
    · have e : i = n := by omega
      subst e
      exact .inl ⟨w.2.1 H' s', hd p σ' H' ((s.trans s1).trans s') I'⟩
end
end Mw

namespace Mw
open PySem PySem.Spec PyProof.Rows L2
/-- what the top leaves under the names -/
structure Glo (mg : Str → Option Value) : Prop where
  isinstance : mg "isinstance" = none
  int : mg "int" = none
  bool : mg "bool" = none
  str : mg "str" = none
  tuple : mg "tuple" = none
  list : mg "list" = none
  dict : mg "dict" = none
  len : mg "len" = none
  all : mg "all" = none
  any : mg "any" = none
  range : mg "range" = none
  enumerate : mg "enumerate" = none
  zip : mg "zip" = none
  min : mg "min" = none
  max : mg "max" = none
  abs : mg "abs" = none
  sorted : mg "sorted" = none
  MOST : ∃ t, mg "MOST" = some (.int 100 t)
  WIDE : ∃ t, mg "WIDE" = some (.int 9 t)
  DEAR : ∃ t, mg "DEAR" = some (.int 99 t)
  MILDER : ∃ t, mg "MILDER" = some (.str "milder" t)
  NOT : ∃ t, mg "NOT" = some (.str "not" t)
structure MDef (K : PySem.W.Frag) (mg : Str → Option Value) (x : Str) (st : Stmt) : Prop where
  ex : ∃ (f : Addr) (fd : FuncData), FunD K x x (defArgs st) (defBody st) (defScope st) [] [] f fd ∧ mg x = some (.ref f)
section
variable {P : Program} {w : World} {K : PySem.W.Frag} {mg : Str → Option Value} {base : Heap}
/-- a def's promise, by its body -/
theorem cal_of {x : Str} {st : Stmt} {N ps : List Str} {k : Nat} {sp : Sp} (F : MDef K mg x st) (S : FnScope N ps (defScope st))
    (hb : ∀ (kV doc pm : Value) (an : Option Addr) (cdv ct : Value) (us : List Value), us.length = ps.length → bindArgs (PySem.W.fnOf x x (defArgs st) (defBody st) (defScope st) .none kV doc pm an cdv ct) ⟨us, []⟩ = pure (ps.zip us))
    (len : ∀ vs H Q E, sp vs H Q E → vs.length = ps.length)
    (hbody : ∀ (f : Addr) (cdv : Value) (A : Around) (outer : List Env) (s : Shared) (H : Hp) (vs : List V) (Q : VK) (E : XK), Room k (A.deeper (envOfC x (defScope st) s.heap.objs.size f cdv)) → sp vs H Q E →
      ∃ t, PSs (cxOf CX0 P w K mg base N x (defScope st) f cdv A outer s H E).nox (defBody st) t ∧ t { nx := fun _ H' => Q .non H', rt := Q } (start N vs) H) : C8.Cal P w K mg base (k + 1) x sp [] := by
  obtain ⟨f, fd, F, hm⟩ := F.ex
  refine ⟨f, fd, ps, [], F.ok S len fun cdv A outer s H vs Q E hr h => ?_, hm, F.kp, F.bindsN hb, .nil⟩
  obtain ⟨t, h1, h2⟩ := hbody f cdv A outer s H vs Q E hr h
  exact ⟨t, PSs.nox h1, h2⟩
/-- one that leaves all as it was -/
theorem cal_pure {x : Str} {st : Stmt} {N ps : List Str} {k : Nat} {R : List T → T → Prop} (F : MDef K mg x st) (S : FnScope N ps (defScope st))
    (hb : ∀ (kV doc pm : Value) (an : Option Addr) (cdv ct : Value) (us : List Value), us.length = ps.length → bindArgs (PySem.W.fnOf x x (defArgs st) (defBody st) (defScope st) .none kV doc pm an cdv ct) ⟨us, []⟩ = pure (ps.zip us))
    (len : ∀ ts t, R ts t → ts.length = ps.length)
    (hbody : ∀ (f : Addr) (cdv : Value) (A : Around) (outer : List Env) (s : Shared) (H : Hp) (E : XK), Room k (A.deeper (envOfC x (defScope st) s.heap.objs.size f cdv)) → ∀ ts t, R ts t →
      ∃ tt, PSs (cxOf CX0 P w K mg base N x (defScope st) f cdv A outer s H E).nox (defBody st) tt ∧ ∀ (D : Ends), (∀ v H', Same H H' → Is H' t v → D.rt v H') → (t = .d .non → ∀ σ H', Same H H' → D.nx σ H') → StX H (ts ++ List.replicate (N.length - ts.length) .u) tt D) : C8.Cal P w K mg base (k + 1) x (spX R) [] := by
  refine cal_of F S hb (fun vs H Q E ⟨ts, t, hR, hv, _⟩ => hv.length.symm.trans (len ts t hR)) fun f cdv A outer s H vs Q E hr ⟨ts, t, hR, hv, hQ⟩ => ?_
  obtain ⟨tt, h1, h2⟩ := hbody f cdv A outer s H E hr ts t hR
  refine ⟨tt, h1, h2 _ hQ (fun e σ H' hs => hQ _ H' hs (by rw [e]; rfl)) (start N vs) H (Same.refl H) (EnvOk.start hv)⟩
end
abbrev rLenK (K : PySem.W.Frag) : List V → Hp → VK → Prop := fun xs H Q => ∃ p ys, xs = [.ref p] ∧ (SqL K H p ys ∨ SqT K H p ys) ∧ Q (.int ys.length) H
abbrev rTupK (K : PySem.W.Frag) : List V → Hp → VK → Prop := fun xs H Q => ∃ p ys, xs = [.ref p] ∧ ((SqL K H p ys ∧ ∀ l, H l = none → Q (.ref l) (upd H l (.tup ys))) ∨ (SqT K H p ys ∧ Q (.ref p) H))
section
variable {X : Cx} {K : PySem.W.Frag} {tg l e e2 : Expr} {tl : TE} {ta : TA} {p pos tpos : Pos} {elts : List Expr} {kk : Nat}
theorem pi_tupK (hK : X.K = K) (h : PE X l tl) : PI X tg l (iTup K tl) := by
  subst hK
  exact pi_tup h
theorem pi_listK (hK : X.K = K) (h : PE X l tl) : PI X tg l (iList K tl) := by
  subst hK
  exact pi_list h
theorem pi_enumTK (hK : X.K = K) (hg : Gl X "enumerate") (hm : X.mg "enumerate" = none) (ha : PA X [e] ta) (hs : starEach [e] X.env = [(false, eval e X.env)] := by rfl) : PI X (.Tuple elts kk tpos) (.Call (.Name "enumerate" p) [e] [] pos) (iEnumT K ta) := by
  subst hK
  exact pi_enumT hg hm ha hs
theorem pi_zipAK (hK : X.K = K) (hg : Gl X "zip") (hm : X.mg "zip" = none) (ha : PA X [e, e2] ta) (hs : starEach [e, e2] X.env = (false, eval e X.env) :: starEach [e2] X.env := by rfl) (hpl : (backTo pos (starEach [e2] X.env)).any (·.1) = false := by rfl) : PI X (.Tuple elts kk tpos) (.Call (.Name "zip" p) [e, e2] [] pos) (RZ.iZipA K ta) := by
  subst hK
  exact RZ.pi_zipA hg hm ha hs hpl
end
end Mw

namespace Mw
open PySem PySem.Spec PyProof.Rows L2
/-! ### what the data say -/
@[reducible] def encO : Option Nat → D
  | none => .non
  | some n => .int (n : Int)
def tb {α : Type} (n : Nat) (f : Nat → α) : List α := (List.range n).map f
theorem tb_len {α : Type} (n : Nat) (f : Nat → α) : (tb n f).length = n := by simp [tb]
theorem tb_get {α : Type} {n i : Nat} {f : Nat → α} (h : i < n) : (tb n f)[i]? = some (f i) := by simp [tb, h]
theorem tb_inv {α : Type} {n i : Nat} {f : Nat → α} {x : α} (h : (tb n f)[i]? = some x) : i < n ∧ x = f i := by
  by_cases hi : i < n
  · rw [tb_get hi] at h
    cases h
    exact ⟨hi, rfl⟩
  · rw [List.getElem?_eq_none (by rw [tb_len]; omega)] at h
    cases h
theorem tb_mem {α : Type} {n : Nat} {f : Nat → α} {x : α} (h : x ∈ tb n f) : ∃ i, i < n ∧ x = f i := by
  simp only [tb, List.mem_map, List.mem_range] at h
  obtain ⟨i, h1, h2⟩ := h
  exact ⟨i, h1, h2.symm⟩
abbrev intD (l : List Nat) : List D := l.map fun n : Nat => D.int (n : Int)
/-- a saying -/
structure Sy where
  s : Nat
  d : Nat
  n : Nat
  b : Nat → Nat → Nat → Option Nat
@[reducible] def Sy.row (S : Sy) (r g : Nat) : D := .tup (tb S.d fun w => encO (S.b r g w))
@[reducible] def Sy.room (S : Sy) (r : Nat) : D := .tup (tb S.s fun g => S.row r g)
@[reducible] def Sy.rooms (S : Sy) : D := .tup (tb S.n fun r => S.room r)
@[reducible] def Sy.D (S : Sy) : D := .tup [.int (S.s : Int), .int (S.d : Int), S.rooms]
/-- prices of d deeds -/
abbrev Pr := Option (Nat → Nat → Option Nat)
@[reducible] def encP (d : Nat) : Pr → D
  | none => .non
  | some p => .tup (tb d fun w => .tup (tb d fun g => encO (p w g)))
/-- a watcher -/
structure Wa where
  s : Nat
  d : Nat
  n : Nat
  g : Nat → Nat → Nat → Nat
  t : Nat → Nat → Nat → Nat
@[reducible] def Wa.cell (W : Wa) (q g w : Nat) : D := .tup [.int (W.g q g w : Int), .int (W.t q g w : Int)]
@[reducible] def Wa.row (W : Wa) (q g : Nat) : D := .tup (tb W.d fun w => W.cell q g w)
@[reducible] def Wa.state (W : Wa) (q : Nat) : D := .tup (tb W.s fun g => W.row q g)
@[reducible] def Wa.states (W : Wa) : D := .tup (tb W.n fun q => W.state q)
@[reducible] def Wa.D (W : Wa) : D := .tup [.int (W.s : Int), .int (W.d : Int), W.states]
/-- is o in l -/
def inO (o : Option Nat) (l : List Nat) : Bool := match o with
  | none => false
  | some v => decide (v ∈ l)
section
variable {G G' : List T} {ta tb' te tl : TE} {tt : TT} {a : TA} {K : PySem.W.Frag}
theorem inV_ints (o : Option Nat) (v : V) (H : Hp) (h : Dv H (encO o) v) (l : List Nat) : flatV v = true ∧ ((l.map fun n : Nat => V.int (n : Int)).all flatV = true) ∧ inV v (l.map fun n : Nat => V.int (n : Int)) = inO o l := by
  have h2 : (l.map fun n : Nat => V.int (n : Int)).all flatV = true := by
    rw [List.all_eq_true]
    intro x hx
    obtain ⟨n, _, rfl⟩ := List.mem_map.mp hx
    rfl
  cases o with
  | none =>
    obtain rfl : v = .non := h
    refine ⟨rfl, h2, ?_⟩
    show inV _ _ = false
    unfold inV
    rw [List.any_eq_false]
    intro x hx
    obtain ⟨n, _, rfl⟩ := List.mem_map.mp hx
    simp [eqV]
  | some m =>
    obtain rfl : v = .int (m : Int) := h
    refine ⟨rfl, h2, ?_⟩
    show inV _ _ = decide (m ∈ l)
    unfold inV
    rw [Bool.eq_iff_iff, List.any_eq_true, decide_eq_true_eq]
    constructor
    · rintro ⟨x, hx, e⟩
      obtain ⟨n, hn, rfl⟩ := List.mem_map.mp hx
      have e : ((n : Int) == (m : Int)) = true := e
      have : n = m := by
        have e := eq_of_beq e
        omega
      exact this ▸ hn
    · intro hm
      exact ⟨_, List.mem_map.mpr ⟨m, hm, rfl⟩, by show ((m : Int) == (m : Int)) = true; simp⟩
theorem ints_ofN {H : Hp} : ∀ {l : List Nat} {xs : List V}, DvL H (intD l) xs → xs = l.map fun n : Nat => V.int (n : Int)
  | [], xs, h => h
  | b :: bs, xs, h => by
    obtain ⟨v, vs, rfl, h2, h3⟩ := (show ∃ v vs, xs = v :: vs ∧ Dv H (.int (b : Int)) v ∧ DvL H (intD bs) vs from h)
    obtain rfl : v = .int (b : Int) := h2
    rw [List.map_cons, ints_ofN h3]
theorem evx_inT {o : Option Nat} {l : List Nat} {b : Bool} (ha : EvX G ta (.d (encO o))) (hb : EvX G tb' (.d (.tup (intD l)))) (e : inO o l = b) : EvX G (tOp (rIn K false) ta tb') (.d (.bl b)) := evx_op ha hb fun v w H hv hw Q q => by
  obtain ⟨p, xs, rfl, h1, h2⟩ := hw
  have e2 := ints_ofN h2
  subst e2
  obtain ⟨f1, f2, f3⟩ := inV_ints o v H hv l
  refine ⟨p, _, rfl, .inr (SqT.of h1), f1, f2, ?_⟩
  rw [f3, e]
  exact q _ H (Same.refl H) rfl
theorem evx_inL {o : Option Nat} {l : List Nat} {b : Bool} (ha : EvX G ta (.d (encO o))) (hb : EvX G tb' (.li (intD l))) (e : inO o l = b) : EvX G (tOp (rIn K false) ta tb') (.d (.bl b)) := evx_op ha hb fun v w H hv hw Q q => by
  obtain ⟨p, xs, rfl, h1, h2⟩ := hw
  have e2 := ints_ofN h2
  subst e2
  obtain ⟨f1, f2, f3⟩ := inV_ints o v H hv l
  refine ⟨p, _, rfl, .inl (SqL.of h1), f1, f2, ?_⟩
  rw [f3, e]
  exact q _ H (Same.refl H) rfl
theorem evx_ninT {o : Option Nat} {l : List Nat} {b : Bool} (ha : EvX G ta (.d (encO o))) (hb : EvX G tb' (.d (.tup (intD l)))) (e : (!inO o l) = b) : EvX G (tOp (rIn K true) ta tb') (.d (.bl b)) := evx_op ha hb fun v w H hv hw Q q => by
  obtain ⟨p, xs, rfl, h1, h2⟩ := hw
  have e2 := ints_ofN h2
  subst e2
  obtain ⟨f1, f2, f3⟩ := inV_ints o v H hv l
  refine ⟨p, _, rfl, .inr (SqT.of h1), f1, f2, ?_⟩
  rw [if_pos rfl, f3, e]
  exact q _ H (Same.refl H) rfl
theorem evx_ninL {o : Option Nat} {l : List Nat} {b : Bool} (ha : EvX G ta (.d (encO o))) (hb : EvX G tb' (.li (intD l))) (e : (!inO o l) = b) : EvX G (tOp (rIn K true) ta tb') (.d (.bl b)) := evx_op ha hb fun v w H hv hw Q q => by
  obtain ⟨p, xs, rfl, h1, h2⟩ := hw
  have e2 := ints_ofN h2
  subst e2
  obtain ⟨f1, f2, f3⟩ := inV_ints o v H hv l
  refine ⟨p, _, rfl, .inl (SqL.of h1), f1, f2, ?_⟩
  rw [if_pos rfl, f3, e]
  exact q _ H (Same.refl H) rfl
/-! dicts with int keys -/
def keyIn (m : List (Int × D)) (i : Int) : Bool := m.any fun p => decide (p.1 = i)
theorem valV_mk {H : Hp} {i : Int} : ∀ {kvs : List (Key × V)} {m : List (Int × D)}, MK H kvs m → (valV kvs (.inl i : Key)).isSome = keyIn m i
  | _, _, .nil => rfl
  | _, _, .cons (a := p) (b := q) (l₁ := l) (l₂ := l') r t => by
    have ih := valV_mk (i := i) t
    unfold valV keyIn at *
    rw [List.find?_cons, List.any_cons]
    by_cases h : q.1 = i
    · have e : p.1 = (.inl i : Key) := by rw [r.1, h]
      simp [e, h]
    · have e : ¬ p.1 = (.inl i : Key) := by
        rw [r.1]
        intro z
        exact h (Sum.inl.inj z)
      simp only [e, h, decide_false]
      simpa using ih
theorem DGet.rk {H : Hp} {a : Addr} {kvs : List (Key × V)} {k : Key} (e : Rd H a (.dK kvs)) : DGet H a (kV k) (valV kvs k) := .inl ⟨kvs, k, e, rfl, rfl⟩
theorem evx_dinN {o : Option Nat} {m : List (Int × D)} {b : Bool} (ha : EvX G ta (.d (encO o))) (hb : EvX G tb' (.rk m)) (e : (o.any fun i : Nat => keyIn m (i : Int)) = b) : EvX G (tDInN ta tb') (.d (.bl b)) := fun σ H I Q q =>
  ha σ H I _ fun v H1 s1 hv => hb σ H1 (I.mono s1) _ fun w H2 s2 hw => by
    obtain ⟨p, kvs, rfl, h1, h2⟩ := hw
    cases o with
    | none =>
      obtain rfl : v = .non := hv
      subst e
      exact .inr ⟨p, kvs, rfl, rfl, h1, q _ H2 (s1.trans s2) rfl⟩
    | some i =>
      obtain rfl : v = .int (i : Int) := hv
      refine .inl ⟨p, valV kvs (.inl (i : Int) : Key), rfl, DGet.rk (k := .inl (i : Int)) h1, ?_⟩
      rw [valV_mk h2]
      subst e
      exact q _ H2 (s1.trans s2) rfl
theorem evx_dnin {i : Int} {m : List (Int × D)} {b : Bool} (ha : EvX G ta (.d (.int i))) (hb : EvX G tb' (.dk m)) (e : (!keyIn m i) = b) : EvX G (tDNotIn ta tb') (.d (.bl b)) := fun σ H I Q q =>
  ha σ H I _ fun v H1 s1 hv => hb σ H1 (I.mono s1) _ fun w H2 s2 hw => by
    obtain ⟨p, kvs, rfl, h1, h2⟩ := hw
    obtain rfl : v = .int i := hv
    refine ⟨p, valV kvs (.inl i : Key), rfl, DGet.k (k := .inl i) h1, ?_⟩
    rw [valV_mk h2, e]
    exact q _ H2 (s1.trans s2) rfl
/-! equality of data -/
theorem sh_ints : ∀ l : List Nat, PyData.canLayAll0 (D.pyL (intD l)) = true ∧ PyData.depthAll (D.pyL (intD l)) = 0
  | [] => ⟨rfl, rfl⟩
  | x :: l => by
    obtain ⟨h1, h2⟩ := sh_ints l
    refine ⟨?_, ?_⟩
    · show (PyData.canLay0 (.int (x : Int)) && PyData.canLayAll0 (D.pyL (intD l))) = true
      rw [h1]
      rfl
    · show max (PyData.depth (.int (x : Int))) (PyData.depthAll (D.pyL (intD l))) = 0
      rw [h2]
      rfl
theorem sh_list (l : List Nat) : SeqAt.shaped (.list (D.pyL (intD l))) = true := by
  obtain ⟨h1, h2⟩ := sh_ints l
  show (PyData.canLayAll0 (D.pyL (intD l)) && decide (PyData.depthAll (D.pyL (intD l)) + 1 ≤ 64)) = true
  rw [h1, h2]
  rfl
theorem eqv_ints : ∀ l m : List Nat, PyData.eqvAll (D.pyL (intD l)) (D.pyL (intD m)) = decide (l = m)
  | [], [] => rfl
  | [], _ :: _ => rfl
  | _ :: _, [] => rfl
  | x :: l, y :: m => by
    show (((x : Int) == (y : Int)) && PyData.eqvAll (D.pyL (intD l)) (D.pyL (intD m))) = _
    rw [eqv_ints l m, Bool.eq_iff_iff]
    simp
    omega
theorem evx_eqLi {l m : List Nat} {b : Bool} (ha : EvX G ta (.li (intD l))) (hb : EvX G tb' (.li (intD m))) (e : decide (l = m) = b) : EvX G (tOp (rEqD K) ta tb') (.d (.bl b)) := evx_op ha hb fun v w H hv hw Q q => by
  obtain ⟨p, xs, rfl, h1, h2⟩ := hv
  obtain ⟨p2, ys, rfl, f1, f2⟩ := hw
  refine ⟨.list (D.pyL (intD l)), .list (D.pyL (intD m)), .lst (SqL.of h1) (DvL.dp _ _ h2), .lst (SqL.of f1) (DvL.dp _ _ f2), sh_list l, sh_list m, ?_⟩
  have e2 : PyData.eqv (.list (D.pyL (intD l))) (.list (D.pyL (intD m))) = b := (eqv_ints l m).trans e
  rw [e2]
  exact q _ H (Same.refl H) rfl
theorem evx_neLi {l m : List Nat} {b : Bool} (ha : EvX G ta (.li (intD l))) (hb : EvX G tb' (.li (intD m))) (e : (!decide (l = m)) = b) : EvX G (tOp (rNeD K) ta tb') (.d (.bl b)) := evx_op ha hb fun v w H hv hw Q q => by
  obtain ⟨p, xs, rfl, h1, h2⟩ := hv
  obtain ⟨p2, ys, rfl, f1, f2⟩ := hw
  refine ⟨.list (D.pyL (intD l)), .list (D.pyL (intD m)), .lst (SqL.of h1) (DvL.dp _ _ h2), .lst (SqL.of f1) (DvL.dp _ _ f2), sh_list l, sh_list m, ?_⟩
  have e2 : PyData.eqv (.list (D.pyL (intD l))) (.list (D.pyL (intD m))) = decide (l = m) := eqv_ints l m
  rw [e2, e]
  exact q _ H (Same.refl H) rfl
/-! comprehensions over what is told by a list -/
theorem filterMap_if {α β : Type} (l : List α) (p : α → Bool) (h : α → β) : l.filterMap (fun a => if p a then some (h a) else none) = (l.filter p).map h := by
  induction l with
  | nil => rfl
  | cons x l ih =>
    cases hx : p x with
    | true => simp [hx, ih]
    | false => simp [hx, ih]
/-- over a list or tuple of data told by l -/
theorem evx_lcM {α : Type} {wi : TI} {l : List α} {en h : α → D} {p : α → Bool} {g : TG} {vs : List Nat} (hi : ItX G wi (l.map en).length (FD (l.map en)))
    (ht : ∀ a, a ∈ l → LcTurn (wipeG G vs) g tt te vs (.d (en a)) (if p a then some (h a) else none)) (hz : l.length < 100000) : EvX G (tLc wi g tt te vs) (.li ((l.filter p).map h)) := by
  rw [← filterMap_if l p h, ← fm_list _ l]
  have e : l.length = (l.map en).length := by simp
  rw [e]
  refine evx_lc _ hi (fun i t hi ⟨d, e, et⟩ => ?_) (by rw [← e]; exact hz)
  subst et
  rw [List.getElem?_map] at e
  cases hx : l[i]? with
  | none =>
    rw [hx] at e
    cases e
  | some x =>
    rw [hx] at e
    cases e
    exact ht x (List.mem_of_getElem? hx)
/-- over a range -/
theorem evx_lcR {wi : TI} {n : Nat} {h : Nat → D} {p : Nat → Bool} {g : TG} {vs : List Nat} (hi : ItX G wi n FN)
    (ht : ∀ a, a < n → LcTurn (wipeG G vs) g tt te vs (.d (.int (a : Int))) (if p a then some (h a) else none)) (hz : n < 100000) : EvX G (tLc wi g tt te vs) (.li (((List.range n).filter p).map h)) := by
  rw [← filterMap_if (List.range n) p h]
  refine evx_lc _ hi (fun i t hi e => ?_) hz
  subst e
  exact ht i hi
/-- .. without a test -/
theorem evx_lcT {wi : TI} {n : Nat} {h : Nat → D} {g : TG} {vs : List Nat} (hi : ItX G wi n FN)
    (ht : ∀ a, a < n → LcTurn (wipeG G vs) g tt te vs (.d (.int (a : Int))) (some (h a))) (hz : n < 100000) : EvX G (tLc wi g tt te vs) (.li (tb n h)) := by
  unfold tb
  rw [← fm_range h n]
  refine evx_lc _ hi (fun i t hi e => ?_) hz
  subst e
  exact ht i hi
/-- over a table -/
theorem it_tb {α : Type} {wi : TI} {n : Nat} {f : Nat → D} (h : ItX G wi (tb n f).length (FD (tb n f))) : ItX G wi n (fun i t => t = .d (f i)) := by
  rw [tb_len] at h
  intro σ H I R q
  refine h σ H I R fun J H' s w => q J H' s ⟨w.1, w.2.1, fun i H x H' hi hs y => ?_⟩
  obtain ⟨s2, t, ⟨d, e, rfl⟩, hv⟩ := w.2.2 i H x H' hi hs y
  rw [tb_get hi] at e
  cases e
  exact ⟨s2, _, rfl, hv⟩
theorem it_tbE {α : Type} {wi : TI} {n : Nat} {f : Nat → D} (h : ItX G wi (tb n f).length (FE (tb n f))) : ItX G wi n (fun i t => t = .d (.tup [.int (i : Int), f i])) := by
  rw [tb_len] at h
  intro σ H I R q
  refine h σ H I R fun J H' s w => q J H' s ⟨w.1, w.2.1, fun i H x H' hi hs y => ?_⟩
  obtain ⟨s2, t, ⟨d, e, rfl⟩, hv⟩ := w.2.2 i H x H' hi hs y
  rw [tb_get hi] at e
  cases e
  exact ⟨s2, _, rfl, hv⟩
/-- a comprehension, turn by turn, without a test -/
theorem evx_lcF {wi : TI} {n : Nat} {F : Nat → T → Prop} {h : Nat → D} {g : TG} {vs : List Nat} (hi : ItX G wi n F)
    (ht : ∀ a t, a < n → F a t → LcTurn (wipeG G vs) g tt te vs t (some (h a))) (hz : n < 100000) : EvX G (tLc wi g tt te vs) (.li (tb n h)) := by
  unfold tb
  rw [← fm_range h n]
  exact evx_lc _ hi ht hz
end
end Mw

namespace Mw
open PySem PySem.Spec PyProof.Rows L2
def D.isInt : D → Bool
  | .int _ => true
  | _ => false
def D.isBl : D → Bool
  | .bl _ => true
  | _ => false
def D.isTup : D → Bool
  | .tup _ => true
  | _ => false
def D.isStr : D → Bool
  | .str _ => true
  | _ => false
theorem kit_int : ∀ d : D, kitB d.ty "int" = some (d.isInt || d.isBl)
  | .non => (by decide +kernel : kitB "NoneType" "int" = some false)
  | .bl _ => (by decide +kernel : kitB "bool" "int" = some true)
  | .int _ => (by decide +kernel : kitB "int" "int" = some true)
  | .str _ => (by decide +kernel : kitB "str" "int" = some false)
  | .tup _ => (by decide +kernel : kitB "tuple" "int" = some false)
theorem kit_bool : ∀ d : D, kitB d.ty "bool" = some d.isBl
  | .non => (by decide +kernel : kitB "NoneType" "bool" = some false)
  | .bl _ => (by decide +kernel : kitB "bool" "bool" = some true)
  | .int _ => (by decide +kernel : kitB "int" "bool" = some false)
  | .str _ => (by decide +kernel : kitB "str" "bool" = some false)
  | .tup _ => (by decide +kernel : kitB "tuple" "bool" = some false)
theorem kit_tuple : ∀ d : D, kitB d.ty "tuple" = some d.isTup
  | .non => (by decide +kernel : kitB "NoneType" "tuple" = some false)
  | .bl _ => (by decide +kernel : kitB "bool" "tuple" = some false)
  | .int _ => (by decide +kernel : kitB "int" "tuple" = some false)
  | .str _ => (by decide +kernel : kitB "str" "tuple" = some false)
  | .tup _ => (by decide +kernel : kitB "tuple" "tuple" = some true)
theorem kit_str : ∀ d : D, kitB d.ty "str" = some d.isStr
  | .non => (by decide +kernel : kitB "NoneType" "str" = some false)
  | .bl _ => (by decide +kernel : kitB "bool" "str" = some false)
  | .int _ => (by decide +kernel : kitB "int" "str" = some false)
  | .str _ => (by decide +kernel : kitB "str" "str" = some true)
  | .tup _ => (by decide +kernel : kitB "tuple" "str" = some false)
section
variable {P : Program} {w : World} {K : PySem.W.Frag} {mg : Str → Option Value} {base : Heap}
abbrev N_is_whole : List Str := ["thing"]
theorem sc_is_whole : FnScope N_is_whole ["thing"] (defScope s_is_whole) := C8.fnScope_by (by decide +kernel)

def R_is_whole (ts : List T) (t : T) : Prop := ∃ d : D, ts = [.d d] ∧ t = .d (.bl d.isInt)
theorem cal_is_whole (F : MDef K mg "is_whole" s_is_whole) (g : Glo mg) : C8.Cal P w K mg base 1 "is_whole" (spX R_is_whole) [] :=
  cal_pure F sc_is_whole (fun _ _ _ _ _ _ us hl => match us, hl with | [_], _ => rfl) (fun ts t ⟨_, e, _⟩ => by rw [e]; rfl) fun f cdv A outer s H E hr ts t ⟨d, e1, e2⟩ => by
    subst e1 e2
    have nd := sc_is_whole.nd
    have hu := hu_of hr
    refine ⟨_, (pss_one (ps_ret (pe_and (pe_callB (r := rIsi K) call_isi (by rfl) g.isinstance (by decide +kernel) (pa_cons (pv 0) (pa_cons (pe_bltn (v := .ty "int") (u := .type "int") (by rfl) g.int (by decide +kernel) rfl) pa_nil))) (pe_one (pe_not (pe_callB (r := rIsi K) call_isi (by rfl) g.isinstance (by decide +kernel) (pa_cons (pv 0) (pa_cons (pe_bltn (v := .ty "bool") (u := .type "bool") (by rfl) g.bool (by decide +kernel) rfl) pa_nil)))))))), ?_⟩
    intro En hD hN
    refine st_ret (evx_eq (evx_andV (evx_isi (eva_cons (evx_var rfl) (eva_cons evx_cv eva_nil)) (kit_int d)) fun _ => evx_notV (evx_isi (eva_cons (evx_var rfl) (eva_cons evx_cv eva_nil)) (kit_bool d))) ?_) hD
    cases d <;> rfl
abbrev N_is_below : List Str := ["thing", "most"]
theorem sc_is_below : FnScope N_is_below ["thing", "most"] (defScope s_is_below) := C8.fnScope_by (by decide +kernel)

def R_is_below (ts : List T) (t : T) : Prop := ∃ i m : Int, ts = [.d (.int i), .d (.int m)] ∧ t = .d (.bl (decide (0 ≤ i) && decide (i < m)))
theorem cal_is_below (F : MDef K mg "is_below" s_is_below) (g : Glo mg) (c_is_whole : C8.Cal P w K mg base 1 "is_whole" (spX R_is_whole) []) : C8.Cal P w K mg base 2 "is_below" (spX R_is_below) [] :=
  cal_pure F sc_is_below (fun _ _ _ _ _ _ us hl => match us, hl with | [_, _], _ => rfl) (fun ts t ⟨_, _, e, _⟩ => by rw [e]; rfl) fun f cdv A outer s H E hr ts t ⟨i, m, e1, e2⟩ => by
    subst e1 e2
    have nd := sc_is_below.nd
    have hu := hu_of hr
    refine ⟨_, (pss_one (ps_ret (pe_and (C8.pe_c c_is_whole hr (by decide) rfl (pa_cons (pv 0) pa_nil)) (pe_one (pe_chain op_le op_lt pe_int (pv 0) (pv 1)))))), ?_⟩
    intro En hD hN
    exact st_ret (evx_andV (evx_call (eva_cons (evx_var rfl) eva_nil) ⟨_, rfl, rfl⟩) fun _ => evx_chain evx_int (evx_var rfl) (evx_var rfl)) hD
abbrev N_is_count : List Str := ["thing"]
theorem sc_is_count : FnScope N_is_count ["thing"] (defScope s_is_count) := C8.fnScope_by (by decide +kernel)

def R_is_count (ts : List T) (t : T) : Prop := ∃ i : Int, ts = [.d (.int i)] ∧ t = .d (.bl (decide (1 ≤ i) && decide (i ≤ 9)))
theorem cal_is_count (F : MDef K mg "is_count" s_is_count) (g : Glo mg) (c_is_whole : C8.Cal P w K mg base 1 "is_whole" (spX R_is_whole) []) : C8.Cal P w K mg base 2 "is_count" (spX R_is_count) [] :=
  cal_pure F sc_is_count (fun _ _ _ _ _ _ us hl => match us, hl with | [_], _ => rfl) (fun ts t ⟨_, e, _⟩ => by rw [e]; rfl) fun f cdv A outer s H E hr ts t ⟨i, e1, e2⟩ => by
    subst e1 e2
    have nd := sc_is_count.nd
    have hu := hu_of hr
    refine ⟨_, (pss_one (ps_ret (pe_and (C8.pe_c c_is_whole hr (by decide) rfl (pa_cons (pv 0) pa_nil)) (pe_one (pe_chain op_le op_le pe_int (pv 0) (pe_glob (v := .int 9) rfl g.WIDE.choose_spec ⟨_, rfl⟩)))))), ?_⟩
    intro En hD hN
    exact st_ret (evx_andV (evx_call (eva_cons (evx_var rfl) eva_nil) ⟨_, rfl, rfl⟩) fun _ => evx_chain evx_int (evx_var rfl) evx_cv) hD
abbrev N_is_row : List Str := ["thing", "many"]
theorem sc_is_row : FnScope N_is_row ["thing", "many"] (defScope s_is_row) := C8.fnScope_by (by decide +kernel)

def R_is_row (ts : List T) (t : T) : Prop := ∃ (ds : List D) (n : Nat), ts = [.d (.tup ds), .d (.int (n : Int))] ∧ ds.length = n ∧ t = .d (.bl true)
theorem cal_is_row (F : MDef K mg "is_row" s_is_row) (g : Glo mg) : C8.Cal P w K mg base 1 "is_row" (spX R_is_row) [] :=
  cal_pure F sc_is_row (fun _ _ _ _ _ _ us hl => match us, hl with | [_, _], _ => rfl) (fun ts t ⟨_, _, e, _⟩ => by rw [e]; rfl) fun f cdv A outer s H E hr ts t ⟨ds, n, e1, e3, e2⟩ => by
    subst e1 e2 e3
    have nd := sc_is_row.nd
    have hu := hu_of hr
    refine ⟨_, (pss_one (ps_ret (pe_and (pe_callB (r := rIsi K) call_isi (by rfl) g.isinstance (by decide +kernel) (pa_cons (pv 0) (pa_cons (pe_bltn (v := .ty "tuple") (u := .type "tuple") (by rfl) g.tuple (by decide +kernel) rfl) pa_nil))) (pe_one (pe_cmpR op_eq (pe_callB (r := rLenK K) call_len_seq (by rfl) g.len PySem.boot_len (pa_cons (pv 0) pa_nil)) (pv 1) (nomark _)))))), ?_⟩
    intro En hD hN
    exact st_ret (evx_eq (evx_andV (evx_isi (eva_cons (evx_var rfl) (eva_cons evx_cv eva_nil)) (kit_tuple _)) fun _ => evx_eqI (b := true) (evx_lenT (eva_cons (evx_var rfl) eva_nil)) (evx_var rfl) (by simp)) rfl) hD
def Sy.Valid (S : Sy) : Prop := (1 ≤ S.s ∧ S.s ≤ 9) ∧ (1 ≤ S.d ∧ S.d ≤ 9) ∧ (1 ≤ S.n ∧ S.n ≤ 100) ∧ ∀ r g w v, r < S.n → g < S.s → w < S.d → S.b r g w = some v → v < S.n
abbrev N_is_room : List Str := ["thing", "signs", "deeds", "many", "row", "behind"]
theorem sc_is_room : FnScope N_is_room ["thing", "signs", "deeds", "many"] (defScope s_is_room) := C8.fnScope_by (by decide +kernel)

def R_is_room (ts : List T) (t : T) : Prop := ∃ (S : Sy) (r : Nat), S.Valid ∧ r < S.n ∧ ts = [.d (S.room r), .d (.int (S.s : Int)), .d (.int (S.d : Int)), .d (.int (S.n : Int))] ∧ t = .d (.bl true)
theorem cal_is_room (F : MDef K mg "is_room" s_is_room) (g : Glo mg) (c_is_row : C8.Cal P w K mg base 1 "is_row" (spX R_is_row) []) (c_is_below : C8.Cal P w K mg base 2 "is_below" (spX R_is_below) []) : C8.Cal P w K mg base 3 "is_room" (spX R_is_room) [] :=
  cal_pure F sc_is_room (fun _ _ _ _ _ _ us hl => match us, hl with | [_, _, _, _], _ => rfl) (fun ts t ⟨_, _, _, _, e, _⟩ => by rw [e]; rfl) fun f cdv A outer s H E hr ts t ⟨S, r, hS, hr', e1, e2⟩ => by
    subst e1 e2
    have nd := sc_is_room.nd
    have hu := hu_of hr
    refine ⟨_, (pss_cons (ps_if (pt_not (pt_val (C8.pe_c c_is_row hr (by decide) rfl (pa_cons (pv 0) (pa_cons (pv 1) pa_nil))))) (pss_one (ps_ret pe_bl)) pss_nil)
      (pss_cons (ps_for PassesOwn.never rfl (pi_tupK (K := K) rfl (pv 0)) (pg_name (i := 4) nd rfl (Or.inl rfl)) (pss_cons (ps_if (pt_not (pt_val (C8.pe_c c_is_row hr (by decide) rfl (pa_cons (pv 4) (pa_cons (pv 2) pa_nil))))) (pss_one (ps_ret pe_bl)) pss_nil)
      (pss_one (ps_for PassesOwn.never rfl (pi_tupK (K := K) rfl (pv 4)) (pg_name (i := 5) nd rfl (Or.inl rfl)) (pss_one (ps_if (PW.pt (pw_and (pt_cmpR op_notN (pv 5) pe_non (nomark _)) (pw_and1 (pt_not (pt_val (C8.pe_c c_is_below hr (by decide) rfl (pa_cons (pv 5) (pa_cons (pv 3) pa_nil)))))))) (pss_one (ps_ret pe_bl)) pss_nil))))))
      (pss_one (ps_ret pe_bl)))), ?_⟩
    intro En hD hN
    refine st_seq (st_if (b := false) (evb_not (x := true) (evb_B (evx_call (eva_cons (evx_var rfl) (eva_cons (evx_var rfl) eva_nil)) ⟨_, _, rfl, tb_len _ _, rfl⟩))) (fun h => nomatch h) fun _ => st_next ?_)
    refine st_seq (st_for (it_tb (α := Unit) (it_tup (evx_var rfl))) (fun _ => True) trivial (fun Hb hs i t hi ht _ => ?_) fun _ => ?_)
    · subst ht
      refine ⟨_, _, tg_name, st_seq (st_if (b := false) (evb_not (x := true) (evb_B (evx_call (eva_cons (evx_var rfl) (eva_cons (evx_var rfl) eva_nil)) ⟨_, _, rfl, tb_len _ _, rfl⟩))) (fun h => nomatch h) fun _ => st_next ?_)⟩
      refine st_seq (st_for (it_tb (α := Unit) (it_tup (evx_var rfl))) (fun _ => True) trivial (fun Hb2 hs2 j t hj ht _ => ?_) fun _ => ?_)
      · subst ht
        refine ⟨_, _, tg_name, st_if (b := false) (evb_eq (evb_and (evb_B (evx_notN (evx_var rfl) evx_non rfl)) fun h => evb_not (x := true) ?_) ?_) (fun h => nomatch h) fun _ => st_next (nx_turn ?_ trivial)⟩
        · cases hb : S.b r i j with
          | none => rw [hb] at h; cases h
          | some v =>
            have := hS.2.2.2 r i j v hr' hi hj hb
            refine evb_B (evx_eq (evx_call (eva_cons (evx_var rfl) (eva_cons (evx_var rfl) eva_nil)) ⟨_, _, rfl, rfl⟩) ?_)
            have h1 : decide ((0 : Int) ≤ (v : Int)) = true := by simp
            have h2 : decide ((v : Int) < (S.n : Int)) = true := by simpa using this
            rw [h1, h2]
            rfl
        · cases S.b r i j <;> rfl
        · repeat (first | exact .nil | refine .cons (.inr rfl) ?_ | refine .cons (.inl rfl) ?_)
      · refine st_next (nx_turn ?_ trivial)
        repeat (first | exact .nil | refine .cons (.inr rfl) ?_ | refine .cons (.inl rfl) ?_)
    · exact st_ret evx_bl hD
/-- all true -/
theorem all_tb (n : Nat) : (tb n fun _ => true).all id = true := by simp [tb]
abbrev N_is_saying : List Str := ["thing", "signs", "deeds", "rooms", "room"]
theorem sc_is_saying : FnScope N_is_saying ["thing"] (defScope s_is_saying) := C8.fnScope_by (by decide +kernel)

def R_is_saying (ts : List T) (t : T) : Prop := ∃ S : Sy, S.Valid ∧ ts = [.d S.D] ∧ t = .d (.bl true)
theorem cal_is_saying (F : MDef K mg "is_saying" s_is_saying) (g : Glo mg) (c_is_row : C8.Cal P w K mg base 1 "is_row" (spX R_is_row) []) (c_is_count : C8.Cal P w K mg base 2 "is_count" (spX R_is_count) []) (c_is_room : C8.Cal P w K mg base 3 "is_room" (spX R_is_room) []) : C8.Cal P w K mg base 4 "is_saying" (spX R_is_saying) [] :=
  cal_pure F sc_is_saying (fun _ _ _ _ _ _ us hl => match us, hl with | [_], _ => rfl) (fun ts t ⟨_, _, e, _⟩ => by rw [e]; rfl) fun f cdv A outer s H E hr ts t ⟨S, hS, e1, e2⟩ => by
    subst e1 e2
    have nd := sc_is_saying.nd
    have hu := hu_of hr
    refine ⟨_, (pss_cons (ps_if (pt_not (pt_val (C8.pe_c c_is_row hr (by decide) rfl (pa_cons (pv 0) (pa_cons pe_int pa_nil))))) (pss_one (ps_ret pe_bl)) pss_nil)
      (pss_cons (ps_asg (pv 0) (pg_tup rfl (pgs_cons (pg_name (i := 1) nd rfl (Or.inr rfl)) (pgs_cons (pg_name (i := 2) nd rfl (Or.inr rfl)) (pgs_cons (pg_name (i := 3) nd rfl (Or.inr rfl)) pgs_nil)))))
      (pss_cons (ps_if (PW.pt (pw_or (pt_not (pt_val (C8.pe_c c_is_count hr (by decide) rfl (pa_cons (pv 1) pa_nil)))) (pw_or (pt_not (pt_val (C8.pe_c c_is_count hr (by decide) rfl (pa_cons (pv 2) pa_nil)))) (pw_or1 (pt_not (pt_val (pe_callB (r := rIsi K) call_isi (by rfl) g.isinstance (by decide +kernel) (pa_cons (pv 3) (pa_cons (pe_bltn (v := .ty "tuple") (u := .type "tuple") (by rfl) g.tuple (by decide +kernel) rfl) pa_nil))))))))) (pss_one (ps_ret pe_bl)) pss_nil)
      (pss_one (ps_ret (pe_and (pe_chain op_le op_le pe_int (pe_callB (r := rLenK K) call_len_seq (by rfl) g.len PySem.boot_len (pa_cons (pv 3) pa_nil)) (pe_glob (v := .int 100) rfl g.MOST.choose_spec ⟨_, rfl⟩)) (pe_one (pe_callB (r := rAll K) (cr_all rfl) (by rfl) g.all (by decide +kernel) (pa_cons (pe_lc (own := [("room", 4)]) (g := (gName 4)) (tt := tYes) rfl nd (pi_tupK (K := K) rfl (pv 3)) (blkOk_by (by show blkC N_is_saying (defScope s_is_saying) _ _ = true; decide +kernel)) (fun _ _ _ _ _ => (pg_name (i := 4) nd rfl (Or.inl rfl))) (fun _ _ _ _ _ => pts_nil) (fun _ _ _ _ _ => (C8.pe_c c_is_room hr (by decide) rfl (pa_cons (pv 4) (pa_cons (pv 1) (pa_cons (pv 2) (pa_cons (pe_callB (r := rLenK K) call_len_seq (by rfl) g.len PySem.boot_len (pa_cons (pv 3) pa_nil)) pa_nil))))))) pa_nil))))))))), ?_⟩
    intro En hD hN
    have hS' := hS
    obtain ⟨⟨a1, a2⟩, ⟨b1, b2⟩, ⟨c1, c2⟩, _⟩ := hS'
    refine st_seq (st_if (b := false) (evb_not (x := true) (evb_B (evx_call (eva_cons (evx_var rfl) (eva_cons evx_int eva_nil)) ⟨_, 3, rfl, rfl, rfl⟩))) (fun h => nomatch h) fun _ => st_next ?_)
    refine st_seq (st_asg (evx_var rfl) (tg_tup (tgs_cons tg_name (tgs_cons tg_name (tgs_cons tg_name tgs_nil)))) ?_)
    refine st_seq (st_if (b := false) (evb_eq (evb_or (evb_not (evb_B (evx_call (eva_cons (evx_var rfl) eva_nil) ⟨_, rfl, rfl⟩))) fun _ => evb_or (evb_not (evb_B (evx_call (eva_cons (evx_var rfl) eva_nil) ⟨_, rfl, rfl⟩))) fun _ => evb_not (evb_B (evx_isi (eva_cons (evx_var rfl) (eva_cons evx_cv eva_nil)) (kit_tuple _)))) ?_) (fun h => nomatch h) fun _ => st_next ?_)
    · have h1 : decide ((1 : Int) ≤ (S.s : Int)) = true := by simp; omega
      have h2 : decide ((S.s : Int) ≤ 9) = true := by simp; omega
      have h3 : decide ((1 : Int) ≤ (S.d : Int)) = true := by simp; omega
      have h4 : decide ((S.d : Int) ≤ 9) = true := by simp; omega
      rw [h1, h2, h3, h4]
      rfl
    refine st_ret (evx_eq (evx_andV (evx_chain evx_int (evx_lenT (eva_cons (evx_var rfl) eva_nil)) evx_cv) fun _ => evx_all (bs := tb S.n fun _ => true) (eva_cons ?_ eva_nil)) ?_) hD
    · have e : (tb S.n fun _ => true).map D.bl = tb S.n fun _ => D.bl true := by simp [tb]
      rw [e]
      refine evx_lcF (it_tb (α := Unit) (it_tup (evx_var rfl))) (fun i t hi ht => ?_) (by omega)
      subst ht
      refine .mk tg_name (by decide) (evx_call (eva_cons (evx_var rfl) (eva_cons (evx_var rfl) (eva_cons (evx_var rfl) (eva_cons (evx_lenT (eva_cons (evx_var rfl) eva_nil)) eva_nil)))) ⟨S, i, hS, hi, ?_, rfl⟩)
      rw [tb_len]
    · rw [all_tb, tb_len]
      have h1 : decide ((1 : Int) ≤ (S.n : Int)) = true := by simp; omega
      have h2 : decide ((S.n : Int) ≤ 100) = true := by simp; omega
      rw [h1, h2]
      rfl
abbrev N_need_saying : List Str := ["thing"]
theorem sc_need_saying : FnScope N_need_saying ["thing"] (defScope s_need_saying) := C8.fnScope_by (by decide +kernel)

def R_need_saying (ts : List T) (t : T) : Prop := ∃ S : Sy, S.Valid ∧ ts = [.d S.D] ∧ t = .d .non
theorem cal_need_saying (F : MDef K mg "need_saying" s_need_saying) (g : Glo mg) (c_is_saying : C8.Cal P w K mg base 4 "is_saying" (spX R_is_saying) []) : C8.Cal P w K mg base 5 "need_saying" (spX R_need_saying) [] :=
  cal_pure F sc_need_saying (fun _ _ _ _ _ _ us hl => match us, hl with | [_], _ => rfl) (fun ts t ⟨_, _, e, _⟩ => by rw [e]; rfl) fun f cdv A outer s H E hr ts t ⟨S, hS, e1, e2⟩ => by
    subst e1 e2
    have nd := sc_need_saying.nd
    have hu := hu_of hr
    refine ⟨_, (pss_one (ps_if (pt_not (pt_val (C8.pe_c c_is_saying hr (by decide) rfl (pa_cons (pv 0) pa_nil)))) pss_never pss_nil)), ?_⟩
    intro En hD hN
    exact st_if (b := false) (evb_not (x := true) (evb_B (evx_call (eva_cons (evx_var rfl) eva_nil) ⟨S, hS, rfl, rfl⟩))) (fun h => nomatch h) fun _ => st_next fun σ H' s _ => hN rfl σ H' s
abbrev N_need_alike : List Str := ["one", "other"]
theorem sc_need_alike : FnScope N_need_alike ["one", "other"] (defScope s_need_alike) := C8.fnScope_by (by decide +kernel)

def R_need_alike (ts : List T) (t : T) : Prop := ∃ (a b : Nat) (d e : D), ts = [.d (.tup [.int (a : Int), .int (b : Int), d]), .d (.tup [.int (a : Int), .int (b : Int), e])] ∧ t = .d .non
theorem cal_need_alike (F : MDef K mg "need_alike" s_need_alike) (g : Glo mg) : C8.Cal P w K mg base 1 "need_alike" (spX R_need_alike) [] :=
  cal_pure F sc_need_alike (fun _ _ _ _ _ _ us hl => match us, hl with | [_, _], _ => rfl) (fun ts t ⟨_, _, _, _, e, _⟩ => by rw [e]; rfl) fun f cdv A outer s H E hr ts t ⟨a, b, d, e, e1, e2⟩ => by
    subst e1 e2
    have nd := sc_need_alike.nd
    have hu := hu_of hr
    refine ⟨_, (pss_one (ps_if (PW.pt (pw_or (pt_cmpR op_ne (pe_ix (r := rIxT K) ix_tup (pv 0) pe_int (fun _ _ => rfl)) (pe_ix (r := rIxT K) ix_tup (pv 1) pe_int (fun _ _ => rfl)) (nomark _)) (pw_or1 (pt_cmpR op_ne (pe_ix (r := rIxT K) ix_tup (pv 0) pe_int (fun _ _ => rfl)) (pe_ix (r := rIxT K) ix_tup (pv 1) pe_int (fun _ _ => rfl)) (nomark _))))) pss_never pss_nil)), ?_⟩
    intro En hD hN
    exact st_if (b := false) (evb_or (x := false) (y := false) (evb_T (evx_neI (evx_ixTn (i := 0) (evx_var rfl) evx_int rfl) (evx_ixTn (i := 0) (evx_var rfl) evx_int rfl) (by simp))) fun _ => evb_T (evx_neI (evx_ixTn (i := 1) (evx_var rfl) evx_int rfl) (evx_ixTn (i := 1) (evx_var rfl) evx_int rfl) (by simp))) (fun h => nomatch h) fun _ => st_next fun σ H' s _ => hN rfl σ H' s
end
end Mw

namespace Mw
open PySem PySem.Spec PyProof.Rows L2
/-- sound prices -/
def PrOk (d : Nat) : Pr → Prop
  | none => True
  | some p => ∀ w g, w < d → g < d → (w = g → p w g = some 0) ∧ (w ≠ g → ∀ c, p w g = some c → 1 ≤ c ∧ c ≤ 99)
def costF : Pr → Nat → Nat → Option Nat
  | none, w, g => some (if g = w then 0 else 1)
  | some p, w, g => p w g
def ansF (d : Nat) (P : Pr) (w : Nat) : List Nat := (List.range d).filter fun g => (costF P w g).isSome
theorem ansF_lt {d : Nat} {P : Pr} {w g : Nat} (h : g ∈ ansF d P w) : g < d := by
  simp only [ansF, List.mem_filter, List.mem_range] at h
  exact h.1
theorem ansF_len (d : Nat) (P : Pr) (w : Nat) : (ansF d P w).length ≤ d := Nat.le_trans (List.length_filter_le _ _) (by simp)
theorem encO_isNon (o : Option Nat) : (encO o).isNon = !o.isSome := by cases o <;> rfl
section
variable {P : Program} {w : World} {K : PySem.W.Frag} {mg : Str → Option Value} {base : Heap}
abbrev N_is_price : List Str := ["thing", "own"]
theorem sc_is_price : FnScope N_is_price ["thing", "own"] (defScope s_is_price) := C8.fnScope_by (by decide +kernel)

def R_is_price (ts : List T) (t : T) : Prop := ∃ (o : Option Nat) (own : Bool), ts = [.d (encO o), .d (.bl own)] ∧ (own = true → o = some 0) ∧ (own = false → ∀ c, o = some c → 1 ≤ c ∧ c ≤ 99) ∧ t = .d (.bl true)
theorem cal_is_price (F : MDef K mg "is_price" s_is_price) (g : Glo mg) (c_is_whole : C8.Cal P w K mg base 1 "is_whole" (spX R_is_whole) []) : C8.Cal P w K mg base 2 "is_price" (spX R_is_price) [] :=
  cal_pure F sc_is_price (fun _ _ _ _ _ _ us hl => match us, hl with | [_, _], _ => rfl) (fun ts t ⟨_, _, e, _⟩ => by rw [e]; rfl) fun f cdv A outer s H E hr ts t ⟨o, own, e1, h1, h2, e2⟩ => by
    subst e1 e2
    have nd := sc_is_price.nd
    have hu := hu_of hr
    refine ⟨_, (pss_cons (ps_if (pt_val (pv 1)) (pss_one (ps_ret (pe_and (C8.pe_c c_is_whole hr (by decide) rfl (pa_cons (pv 0) pa_nil)) (pe_one (pe_cmpR op_eq (pv 0) pe_int (nomark _)))))) pss_nil)
      (pss_one (ps_ret (pe_or (pe_cmpR op_isN (pv 0) pe_non (nomark _)) (pe_one (pe_and (C8.pe_c c_is_whole hr (by decide) rfl (pa_cons (pv 0) pa_nil)) (pe_one (pe_chain op_le op_le pe_int (pv 0) (pe_glob (v := .int 99) rfl g.DEAR.choose_spec ⟨_, rfl⟩))))))))), ?_⟩
    intro En hD hN
    cases own with
    | true =>
      obtain rfl := h1 rfl
      exact st_seq (st_if (b := true) (evb_B (evx_var rfl)) (fun _ => st_ret (evx_eq (evx_andV (evx_call (eva_cons (evx_var rfl) eva_nil) ⟨_, rfl, rfl⟩) fun _ => evx_eqI (b := true) (evx_var rfl) evx_int rfl) rfl) hD) (fun h => nomatch h))
    | false =>
      refine st_seq (st_if (b := false) (evb_B (evx_var rfl)) (fun h => nomatch h) fun _ => st_next ?_)
      cases o with
      | none => exact st_ret (evx_eq (evx_orV (x := true) (y := true) (evx_isN (evx_var rfl) evx_non rfl) (fun h => nomatch h)) rfl) hD
      | some c =>
        obtain ⟨q1, q2⟩ := h2 rfl c rfl
        have h3 : decide ((1 : Int) ≤ (c : Int)) = true := by simp; omega
        have h4 : decide ((c : Int) ≤ 99) = true := by simp; omega
        refine st_ret (evx_eq (evx_orV (evx_isN (evx_var rfl) evx_non rfl) fun _ => evx_andV (evx_call (eva_cons (evx_var rfl) eva_nil) ⟨_, rfl, rfl⟩) fun _ => evx_chain evx_int (evx_var rfl) evx_cv) ?_) hD
        rw [h3, h4]
        rfl
abbrev N_are_prices : List Str := ["deeds", "thing", "wanted", "row", "given", "price"]
theorem sc_are_prices : FnScope N_are_prices ["deeds", "thing"] (defScope s_are_prices) := C8.fnScope_by (by decide +kernel)

def R_are_prices (ts : List T) (t : T) : Prop := ∃ (d : Nat) (p : Pr), d ≤ 1000 ∧ PrOk d p ∧ ts = [.d (.int (d : Int)), .d (encP d p)] ∧ t = .d (.bl true)
theorem cal_are_prices (F : MDef K mg "are_prices" s_are_prices) (g : Glo mg) (c_is_row : C8.Cal P w K mg base 1 "is_row" (spX R_is_row) []) (c_is_price : C8.Cal P w K mg base 2 "is_price" (spX R_is_price) []) : C8.Cal P w K mg base 3 "are_prices" (spX R_are_prices) [] :=
  cal_pure F sc_are_prices (fun _ _ _ _ _ _ us hl => match us, hl with | [_, _], _ => rfl) (fun ts t ⟨_, _, _, _, e, _⟩ => by rw [e]; rfl) fun f cdv A outer s H E hr ts t ⟨d, p, hd, hp, e1, e2⟩ => by
    subst e1 e2
    have nd := sc_are_prices.nd
    have hu := hu_of hr
    refine ⟨_, (pss_cons (ps_if (pt_cmpR op_isN (pv 1) pe_non (nomark _)) (pss_one (ps_ret pe_bl)) pss_nil)
      (pss_cons (ps_if (pt_not (pt_val (C8.pe_c c_is_row hr (by decide) rfl (pa_cons (pv 1) (pa_cons (pv 0) pa_nil))))) (pss_one (ps_ret pe_bl)) pss_nil)
      (pss_cons (ps_for PassesOwn.never rfl (pi_enumTK (K := K) rfl rfl g.enumerate (pa_cons (pv 1) pa_nil)) (pg_tup rfl (pgs_cons (pg_name (i := 2) nd rfl (Or.inr rfl)) (pgs_cons (pg_name (i := 3) nd rfl (Or.inl rfl)) pgs_nil))) (pss_one (ps_if (PW.pt (pw_or (pt_not (pt_val (C8.pe_c c_is_row hr (by decide) rfl (pa_cons (pv 3) (pa_cons (pv 0) pa_nil))))) (pw_or1 (pt_not (pt_val (pe_callB (r := rAll K) (cr_all rfl) (by rfl) g.all (by decide +kernel) (pa_cons (pe_lc (own := [("given", 4), ("price", 5)]) (g := (gTup K 2 (gCons (gName 4) (gCons (gName 5) gNil)))) (tt := tYes) rfl nd (pi_enumTK (K := K) rfl rfl g.enumerate (pa_cons (pv 3) pa_nil)) (blkOk_by (by show blkC N_are_prices (defScope s_are_prices) _ _ = true; decide +kernel)) (fun _ _ _ _ _ => (pg_tup rfl (pgs_cons (pg_name (i := 4) nd rfl (Or.inl rfl)) (pgs_cons (pg_name (i := 5) nd rfl (Or.inl rfl)) pgs_nil)))) (fun _ _ _ _ _ => pts_nil) (fun _ _ _ _ _ => (C8.pe_c c_is_price hr (by decide) rfl (pa_cons (pv 5) (pa_cons (pe_cmpR op_eq (pv 4) (pv 2) (nomark _)) pa_nil))))) pa_nil))))))) (pss_one (ps_ret pe_bl)) pss_nil)))
      (pss_one (ps_ret pe_bl))))), ?_⟩
    intro En hD hN
    cases p with
    | none => exact st_seq (st_if (b := true) (evb_T (evx_isN (evx_var rfl) evx_non rfl)) (fun _ => st_ret evx_bl hD) (fun h => nomatch h))
    | some p =>
      refine st_seq (st_if (b := false) (evb_T (evx_isN (evx_var rfl) evx_non rfl)) (fun h => nomatch h) fun _ => st_next ?_)
      refine st_seq (st_if (b := false) (evb_not (x := true) (evb_B (evx_call (eva_cons (evx_var rfl) (eva_cons (evx_var rfl) eva_nil)) ⟨_, _, rfl, tb_len _ _, rfl⟩))) (fun h => nomatch h) fun _ => st_next ?_)
      refine st_seq (st_for (it_tbE (α := Unit) (it_enumT (eva_cons (evx_var rfl) eva_nil))) (fun _ => True) trivial (fun Hb hs i t hi ht _ => ?_) fun _ => ?_)
      · subst ht
        refine ⟨_, _, tg_tup (tgs_cons tg_name (tgs_cons tg_name tgs_nil)), st_if (b := false) (evb_eq (evb_or (evb_not (x := true) (evb_B (evx_call (eva_cons (evx_var rfl) (eva_cons (evx_var rfl) eva_nil)) ⟨_, _, rfl, tb_len _ _, rfl⟩))) fun _ => evb_not (evb_B (evx_all (bs := tb d fun _ => true) (eva_cons ?_ eva_nil)))) ?_) (fun h => nomatch h) fun _ => st_next (nx_turn ?_ trivial)⟩
        · have e : (tb d fun _ => true).map Mw.D.bl = tb d fun _ => Mw.D.bl true := by simp [tb]
          rw [e]
          refine evx_lcF (it_tbE (α := Unit) (it_enumT (eva_cons (evx_var rfl) eva_nil))) (fun j t hj ht => ?_) (by omega)
          subst ht
          refine .mk (tg_tup (tgs_cons tg_name (tgs_cons tg_name tgs_nil))) (by decide) (evx_call (eva_cons (evx_var rfl) (eva_cons (evx_eqI (b := decide (i = j)) (evx_var rfl) (evx_var rfl) ?_) eva_nil)) ⟨p i j, _, rfl, fun h => ?_, fun h => ?_, rfl⟩)
          · rw [Bool.eq_iff_iff, decide_eq_true_eq, decide_eq_true_eq]
            omega
          · exact (hp i j hi hj).1 (of_decide_eq_true h)
          · exact (hp i j hi hj).2 (of_decide_eq_false h)
        · rw [all_tb]
          rfl
        · repeat (first | exact .nil | refine .cons (.inr rfl) ?_ | refine .cons (.inl rfl) ?_)
      · exact st_ret evx_bl hD
abbrev N_need_prices : List Str := ["deeds", "prices"]
theorem sc_need_prices : FnScope N_need_prices ["deeds", "prices"] (defScope s_need_prices) := C8.fnScope_by (by decide +kernel)

def R_need_prices (ts : List T) (t : T) : Prop := ∃ (d : Nat) (p : Pr), d ≤ 1000 ∧ PrOk d p ∧ ts = [.d (.int (d : Int)), .d (encP d p)] ∧ t = .d .non
theorem cal_need_prices (F : MDef K mg "need_prices" s_need_prices) (g : Glo mg) (c_are_prices : C8.Cal P w K mg base 3 "are_prices" (spX R_are_prices) []) : C8.Cal P w K mg base 4 "need_prices" (spX R_need_prices) [] :=
  cal_pure F sc_need_prices (fun _ _ _ _ _ _ us hl => match us, hl with | [_, _], _ => rfl) (fun ts t ⟨_, _, _, _, e, _⟩ => by rw [e]; rfl) fun f cdv A outer s H E hr ts t ⟨d, p, hd, hp, e1, e2⟩ => by
    subst e1 e2
    have nd := sc_need_prices.nd
    have hu := hu_of hr
    refine ⟨_, (pss_one (ps_if (pt_not (pt_val (C8.pe_c c_are_prices hr (by decide) rfl (pa_cons (pv 0) (pa_cons (pv 1) pa_nil))))) pss_never pss_nil)), ?_⟩
    intro En hD hN
    exact st_if (b := false) (evb_not (x := true) (evb_B (evx_call (eva_cons (evx_var rfl) (eva_cons (evx_var rfl) eva_nil)) ⟨d, p, hd, hp, rfl, rfl⟩))) (fun h => nomatch h) fun _ => st_next fun σ H' s _ => hN rfl σ H' s
abbrev N_cost : List Str := ["prices", "wanted", "given"]
theorem sc_cost : FnScope N_cost ["prices", "wanted", "given"] (defScope s_cost) := C8.fnScope_by (by decide +kernel)

def R_cost (ts : List T) (t : T) : Prop := ∃ (d : Nat) (p : Pr) (wn gn : Nat), wn < d ∧ gn < d ∧ ts = [.d (encP d p), .d (.int (wn : Int)), .d (.int (gn : Int))] ∧ t = .d (encO (costF p wn gn))
theorem cal_cost (F : MDef K mg "cost" s_cost) (g : Glo mg) : C8.Cal P w K mg base 1 "cost" (spX R_cost) [] :=
  cal_pure F sc_cost (fun _ _ _ _ _ _ us hl => match us, hl with | [_, _, _], _ => rfl) (fun ts t ⟨_, _, _, _, _, _, e, _⟩ => by rw [e]; rfl) fun f cdv A outer s H E hr ts t ⟨d, p, wn, gn, h1, h2, e1, e2⟩ => by
    subst e1 e2
    have nd := sc_cost.nd
    have hu := hu_of hr
    refine ⟨_, (pss_cons (ps_if (pt_cmpR op_isN (pv 0) pe_non (nomark _)) (pss_one (ps_ret (pe_ifExp (pt_cmpR op_eq (pv 2) (pv 1) (nomark _)) pe_int pe_int))) pss_nil)
      (pss_one (ps_ret (pe_ix (r := rIxT K) ix_tup (pe_ix (r := rIxT K) ix_tup (pv 0) (pv 1) (fun _ _ => rfl)) (pv 2) (fun _ _ => rfl))))), ?_⟩
    intro En hD hN
    cases p with
    | none =>
      refine st_seq (st_if (b := true) (evb_T (evx_isN (evx_var rfl) evx_non rfl)) (fun _ => st_ret (evx_if (b := decide (gn = wn)) (evb_T (evx_eqI (evx_var rfl) (evx_var rfl) ?_)) (fun h => ?_) fun h => ?_) hD) (fun h => nomatch h))
      · rw [Bool.eq_iff_iff, decide_eq_true_eq, decide_eq_true_eq]
        omega
      · exact evx_eq evx_int (by show _ = T.d (encO (some (if gn = wn then 0 else 1))); rw [if_pos (of_decide_eq_true h)]; rfl)
      · exact evx_eq evx_int (by show _ = T.d (encO (some (if gn = wn then 0 else 1))); rw [if_neg (of_decide_eq_false h)]; rfl)
    | some p =>
      refine st_seq (st_if (b := false) (evb_T (evx_isN (evx_var rfl) evx_non rfl)) (fun h => nomatch h) fun _ => st_next ?_)
      exact st_ret (evx_ixTn (evx_ixTn (evx_var rfl) (evx_var rfl) (tb_get h1)) (evx_var rfl) (tb_get h2)) hD
abbrev N_answers_to : List Str := ["deeds", "wanted", "prices", "given"]
theorem sc_answers_to : FnScope N_answers_to ["deeds", "wanted", "prices"] (defScope s_answers_to) := C8.fnScope_by (by decide +kernel)

def R_answers_to (ts : List T) (t : T) : Prop := ∃ (d : Nat) (p : Pr) (wn : Nat), d ≤ 1000 ∧ wn < d ∧ ts = [.d (.int (d : Int)), .d (.int (wn : Int)), .d (encP d p)] ∧ t = .li (intD (ansF d p wn))
theorem cal_answers_to (F : MDef K mg "answers_to" s_answers_to) (g : Glo mg) (c_cost : C8.Cal P w K mg base 1 "cost" (spX R_cost) []) : C8.Cal P w K mg base 2 "answers_to" (spX R_answers_to) [] :=
  cal_pure F sc_answers_to (fun _ _ _ _ _ _ us hl => match us, hl with | [_, _, _], _ => rfl) (fun ts t ⟨_, _, _, _, _, e, _⟩ => by rw [e]; rfl) fun f cdv A outer s H E hr ts t ⟨d, p, wn, hd, h1, e1, e2⟩ => by
    subst e1 e2
    have nd := sc_answers_to.nd
    have hu := hu_of hr
    refine ⟨_, (pss_one (ps_ret (pe_lc (own := [("given", 3)]) (g := (gName 3)) rfl nd (pi_range1 rfl g.range (pa_cons (pv 0) pa_nil)) (blkOk_by (by show blkC N_answers_to (defScope s_answers_to) _ _ = true; decide +kernel)) (fun _ _ _ _ _ => (pg_name (i := 3) nd rfl (Or.inl rfl))) (fun _ _ _ _ _ => (pts_one (pt_cmpR op_notN (C8.pe_c c_cost hr (by decide) rfl (pa_cons (pv 2) (pa_cons (pv 1) (pa_cons (pv 3) pa_nil)))) pe_non (nomark _)))) (fun _ _ _ _ _ => (pv 3))))), ?_⟩
    intro En hD hN
    refine st_ret (evx_lcR (it_rngN (eva_cons (evx_var rfl) eva_nil) (by omega)) (fun i hi => .tst tg_name (by decide) (evb_T (evx_notN (evx_call (eva_cons (evx_var rfl) (eva_cons (evx_var rfl) (eva_cons (evx_var rfl) eva_nil))) ⟨d, p, wn, i, h1, hi, rfl, rfl⟩) evx_non ?_)) fun _ => evx_var rfl) (by omega)) hD
    rw [encO_isNon, Bool.not_not]
/-- those of the answers that lead to good -/
def keepF (S : Sy) (p : Pr) (gd : Nat → Bool) (r g wn : Nat) : List Nat := (ansF S.d p wn).filter fun x => (S.b r g x).any gd
theorem keepF_lt {S : Sy} {p : Pr} {gd : Nat → Bool} {r g wn x : Nat} (h : x ∈ keepF S p gd r g wn) : x < S.d := ansF_lt (List.mem_filter.mp h).1
def inL (l : List Nat) : Nat → Bool := fun v => decide (v ∈ l)
theorem inO_eq (o : Option Nat) (l : List Nat) : inO o l = o.any (inL l) := by cases o <;> rfl
def goodM (l : List Nat) : List (Int × D) := l.map fun n : Nat => ((n : Int), .bl true)
theorem goodM_in (l : List Nat) (i : Nat) : keyIn (goodM l) (i : Int) = inL l i := by
  unfold keyIn goodM inL
  rw [List.any_map, Bool.eq_iff_iff, List.any_eq_true, decide_eq_true_eq]
  constructor
  · rintro ⟨n, hn, e⟩
    have e := of_decide_eq_true e
    have : n = i := by
      have e : (n : Int) = (i : Int) := e
      omega
    exact this ▸ hn
  · intro h
    exact ⟨i, h, by simp⟩
abbrev N_keepers : List Str := ["saying", "prices", "good", "room", "sign", "wanted", "row", "given"]
theorem sc_keepers : FnScope N_keepers ["saying", "prices", "good", "room", "sign", "wanted"] (defScope s_keepers) := C8.fnScope_by (by decide +kernel)

def R_keepers (ts : List T) (t : T) : Prop := ∃ (S : Sy) (p : Pr) (l : List Nat) (tg : T) (r g wn : Nat), S.d ≤ 1000 ∧ r < S.n ∧ g < S.s ∧ wn < S.d ∧ (tg = .rk (goodM l) ∨ tg = .d (.tup (intD l))) ∧ ts = [.d S.D, .d (encP S.d p), tg, .d (.int (r : Int)), .d (.int (g : Int)), .d (.int (wn : Int))] ∧ t = .li (intD (keepF S p (inL l) r g wn))
theorem cal_keepers (F : MDef K mg "keepers" s_keepers) (g : Glo mg) (c_answers_to : C8.Cal P w K mg base 2 "answers_to" (spX R_answers_to) []) : C8.Cal P w K mg base 3 "keepers" (spX R_keepers) [] :=
  cal_pure F sc_keepers (fun _ _ _ _ _ _ us hl => match us, hl with | [_, _, _, _, _, _], _ => rfl) (fun ts t ⟨_, _, _, _, _, _, _, _, _, _, _, _, e, _⟩ => by rw [e]; rfl) fun f cdv A outer s H E hr ts t ⟨S, p, l, tg, r, gn, wn, hd, h1, h2, h3, ht, e1, e2⟩ => by
    subst e1 e2
    rcases ht with rfl | rfl
    · have nd := sc_keepers.nd
      have hu := hu_of hr
      refine ⟨_, (pss_cons (ps_set (i := 6) nd rfl (Or.inr rfl) (pe_ix (r := rIxT K) ix_tup (pe_ix (r := rIxT K) ix_tup (pe_ix (r := rIxT K) ix_tup (pv 0) pe_int (fun _ _ => rfl)) (pv 3) (fun _ _ => rfl)) (pv 4) (fun _ _ => rfl)))
        (pss_one (ps_ret (pe_lc (own := [("given", 7)]) (g := (gName 7)) rfl nd (pi_listK (K := K) rfl (C8.pe_c c_answers_to hr (by decide) rfl (pa_cons (pe_ix (r := rIxT K) ix_tup (pv 0) pe_int (fun _ _ => rfl)) (pa_cons (pv 5) (pa_cons (pv 1) pa_nil))))) (blkOk_by (by show blkC N_keepers (defScope s_keepers) _ _ = true; decide +kernel)) (fun _ _ _ _ _ => (pg_name (i := 7) nd rfl (Or.inl rfl))) (fun _ _ _ _ _ => (pts_one (pt_cmp (pc_dinN hu (pe_ix (r := rIxT K) ix_tup (pv 6) (pv 7) (fun _ _ => rfl)) (pv 2))))) (fun _ _ _ _ _ => (pv 7)))))), ?_⟩
      intro En hD hN
      refine st_seq (st_asg (evx_ixTn (evx_ixTn (evx_ixTn (i := 2) (evx_var rfl) evx_int rfl) (evx_var rfl) (tb_get h1)) (evx_var rfl) (tb_get h2)) tg_name ?_)
      refine st_ret (evx_lcM (α := Nat) (it_list (evx_call (eva_cons (evx_ixTn (i := 1) (evx_var rfl) evx_int rfl) (eva_cons (evx_var rfl) (eva_cons (evx_var rfl) eva_nil))) ⟨S.d, p, wn, hd, h3, rfl, rfl⟩)) (fun x hx => .tst tg_name (by decide) (evb_B (evx_dinN (evx_ixTn (evx_var rfl) (evx_var rfl) (tb_get (ansF_lt hx))) (evx_var rfl) ?_)) fun _ => evx_var rfl) (by have := ansF_len S.d p wn; omega)) hD
      have e : (fun i : Nat => keyIn (goodM l) (i : Int)) = inL l := funext fun i => goodM_in l i
      rw [e]
    · have nd := sc_keepers.nd
      have hu := hu_of hr
      refine ⟨_, (pss_cons (ps_set (i := 6) nd rfl (Or.inr rfl) (pe_ix (r := rIxT K) ix_tup (pe_ix (r := rIxT K) ix_tup (pe_ix (r := rIxT K) ix_tup (pv 0) pe_int (fun _ _ => rfl)) (pv 3) (fun _ _ => rfl)) (pv 4) (fun _ _ => rfl)))
        (pss_one (ps_ret (pe_lc (own := [("given", 7)]) (g := (gName 7)) rfl nd (pi_listK (K := K) rfl (C8.pe_c c_answers_to hr (by decide) rfl (pa_cons (pe_ix (r := rIxT K) ix_tup (pv 0) pe_int (fun _ _ => rfl)) (pa_cons (pv 5) (pa_cons (pv 1) pa_nil))))) (blkOk_by (by show blkC N_keepers (defScope s_keepers) _ _ = true; decide +kernel)) (fun _ _ _ _ _ => (pg_name (i := 7) nd rfl (Or.inl rfl))) (fun _ _ _ _ _ => (pts_one (pt_cmpR (r := rIn K false) op_in_seq (pe_ix (r := rIxT K) ix_tup (pv 6) (pv 7) (fun _ _ => rfl)) (pv 2) rfl))) (fun _ _ _ _ _ => (pv 7)))))), ?_⟩
      intro En hD hN
      refine st_seq (st_asg (evx_ixTn (evx_ixTn (evx_ixTn (i := 2) (evx_var rfl) evx_int rfl) (evx_var rfl) (tb_get h1)) (evx_var rfl) (tb_get h2)) tg_name ?_)
      exact st_ret (evx_lcM (α := Nat) (it_list (evx_call (eva_cons (evx_ixTn (i := 1) (evx_var rfl) evx_int rfl) (eva_cons (evx_var rfl) (eva_cons (evx_var rfl) eva_nil))) ⟨S.d, p, wn, hd, h3, rfl, rfl⟩)) (fun x hx => .tst tg_name (by decide) (evb_T (evx_inT (evx_ixTn (evx_var rfl) (evx_var rfl) (tb_get (ansF_lt hx))) (evx_var rfl) (inO_eq _ _))) fun _ => evx_var rfl) (by have := ansF_len S.d p wn; omega)) hD
end
end Mw

namespace Mw
open PySem PySem.Spec PyProof.Rows L2
section
variable {G G' G1 G2 : List T} {ta tb' te tl tk tv td ty : TE} {tt : TT} {a : TA} {K : PySem.W.Frag}
theorem MK.mono {H H' : Hp} (e : TupX H H') {kvs : List (Key × V)} {m : List (Int × D)} (h : MK H kvs m) : MK H' kvs m := Paired.mapP h fun p q z => ⟨z.1, Dv.monoT e _ _ z.2⟩
theorem MT.mono {H H' : Hp} (e : TupX H H') {kvs : List (List Key × V)} {m : List (List Int × D)} (h : MT H kvs m) : MT H' kvs m := Paired.mapP h fun p q z => ⟨z.1, Dv.monoT e _ _ z.2⟩
/-- the tuples and lists stay -/
def SeqX (H H' : Hp) : Prop := TupX H H' ∧ ∀ a xs, H a = some (.lst xs) → H' a = some (.lst xs)
theorem SeqX.of {H H' : Hp} (e : Same H H') : SeqX H H' := ⟨TupX.of e, fun a xs h => e a _ h⟩
theorem SeqX.upd {H : Hp} {p : Addr} {u o : HO} (h : H p = some u) (n1 : ∀ xs, u ≠ .tup xs) (n2 : ∀ xs, u ≠ .lst xs) : SeqX H (L2.upd H p o) :=
  ⟨fun a xs e => by
    rw [upd_ne (ne_of e h (fun z => n1 xs z.symm))]
    exact e, fun a xs e => by
    rw [upd_ne (ne_of e h (fun z => n2 xs z.symm))]
    exact e⟩
theorem IsLi.monoS {H H' : Hp} (e : SeqX H H') {ds : List D} {v : V} (h : IsLi H ds v) : IsLi H' ds v := by
  obtain ⟨a, xs, h1, h2, h3⟩ := h
  exact ⟨a, xs, h1, e.2 _ _ h2, DvL.monoT e.1 _ _ h3⟩
theorem ML.mono {H H' : Hp} (e : SeqX H H') {kvs : List (List Key × V)} {m : List (List Int × List D)} (h : ML H kvs m) : ML H' kvs m := Paired.mapP h fun p q z => ⟨z.1, IsLi.monoS e z.2⟩
/-! ### turns in general -/
theorem run_gen {n : Nat} {F : Nat → T → Prop} {g : TG} {vs : List Nat} {r : L2.St → Hp → (Hp → Prop) → Prop} {σ : Slots} {H0 H1 : Hp} {J : It} {Nx : Hp → Prop} (Pv : Nat → Hp → Prop) (w : WalkX J n F H0) (I : EnvOk H0 G σ)
    (mono : ∀ i H H', Same H0 H → Same H H' → Pv i H → Pv i H')
    (ht : ∀ i t, i < n → F i t → ∃ G' js b, TgX (wipeG G vs) g t G' js ∧ (∀ j ∈ js, j ∈ vs) ∧ EvB G' tt b ∧ (b = true → ∀ σ H, EnvOk H G' σ → Same H0 H → Pv i H → r σ H fun H' => Same H0 H' ∧ Pv (i + 1) H') ∧ (b = false → ∀ H, Same H0 H → Pv i H → Pv (i + 1) H))
    (hs : Same H0 H1) (h0 : Pv 0 H1) (q : ∀ H', Same H0 H' → Pv n H' → Nx H') : tRun J g tt vs r σ H1 Nx := by
  refine ⟨fun i m H' => m = n - i ∧ i ≤ n ∧ Same H0 H' ∧ Pv i H', ⟨n, by simp, Nat.zero_le _, hs, h0⟩, ?_⟩
  rintro i m H' ⟨rfl, hi, s', hp⟩
  by_cases hlt : i < n
  · refine .inr ⟨w.1 i H' hlt s', fun H'' => Same H0 H'' ∧ Pv (i + 1) H'', fun H'' z => ⟨n - (i + 1), by omega, rfl, hlt, z⟩, fun x H2 y => ?_⟩
    obtain ⟨s2, t, ft, hv⟩ := w.2.2 i H' x H2 hlt s' y
    obtain ⟨G', js, b, hg, hj, hb, h1, h2⟩ := ht i t hlt ft
    have I2 : EnvOk H2 (wipeG G vs) (wipe σ vs) := (I.mono (s'.trans s2)).wipe vs
    refine hg _ H2 I2 x hv _ fun σ2 J2 hw => ⟨by rw [hw vs hj, wipe_wipe], ?_⟩
    refine hb σ2 H2 J2 _ fun H3 s3 => ?_
    have p3 : Pv i H3 := mono i H' H3 s' (s2.trans s3) hp
    cases b with
    | false => exact iteF ⟨(s'.trans s2).trans s3, h2 rfl H3 ((s'.trans s2).trans s3) p3⟩
    | true => exact iteT (h1 rfl σ2 H3 (J2.mono s3) ((s'.trans s2).trans s3) p3)
  · have e : i = n := by omega
    subst e
    exact .inl ⟨w.2.1 H' s', q H' s' hp⟩
/-! ### dict comprehensions -/
def rPutK (D : Addr) (tk tv : TE) : L2.St → Hp → (Hp → Prop) → Prop := fun σ H Nx => tk σ H fun y H4 => tv σ H4 fun z H5 => ∃ kvs k, y = kV k ∧ H5 D = some (.dK kvs) ∧ kvs.length < sizeLine ∧ Nx (upd H5 D (.dK (putK kvs k z)))
theorem tb_take {α : Type} (f : Nat → α) (n : Nat) : tb (n + 1) f = tb n f ++ [f n] := by simp [tb, List.range_succ]
theorem mk_none {H : Hp} {i : Int} : ∀ {kvs : List (Key × V)} {m : List (Int × D)}, MK H kvs m → keyIn m i = false → valV kvs (.inl i : Key) = none := fun h e => by
  have := valV_mk (i := i) h
  rw [e] at this
  exact Option.isNone_iff_eq_none.mp (by simpa using this)
def keyInT {α : Type} (m : List (List Int × α)) (k : List Int) : Bool := m.any fun p => decide (p.1 = k)
theorem kI_inj {a b : List Int} (h : kI a = kI b) : a = b := by
  induction a generalizing b with
  | nil =>
    cases b with
    | nil => rfl
    | cons y b => cases h
  | cons x a ih =>
    cases b with
    | nil => cases h
    | cons y b =>
      simp only [kI, List.map_cons, List.cons.injEq] at h
      rw [Sum.inl.inj h.1, ih h.2]
theorem valV_pt {α : Type} {R : (List Key × V) → (List Int × α) → Prop} (hR : ∀ p q, R p q → p.1 = kI q.1) {k : List Int} : ∀ {kvs : List (List Key × V)} {m : List (List Int × α)}, Paired R kvs m → (valV kvs (kI k)).isSome = keyInT m k
  | _, _, .nil => rfl
  | _, _, .cons (a := p) (b := q) (l₁ := l) (l₂ := l') r t => by
    have ih := valV_pt hR (k := k) t
    unfold keyInT at *
    rw [List.any_cons]
    by_cases h : q.1 = k
    · have e : p.1 = kI k := by rw [hR _ _ r, h]
      rw [valV_pos e]
      simp [h]
    · have e : ¬ p.1 = kI k := by
        rw [hR _ _ r]
        intro z
        exact h (kI_inj z)
      rw [valV_neg e, ih]
      simp [h]
theorem pt_none {α : Type} {R : (List Key × V) → (List Int × α) → Prop} (hR : ∀ p q, R p q → p.1 = kI q.1) {k : List Int} {kvs : List (List Key × V)} {m : List (List Int × α)} (h : Paired R kvs m) (e : keyInT m k = false) : valV kvs (kI k) = none := by
  have := valV_pt hR (k := k) h
  rw [e] at this
  exact Option.isNone_iff_eq_none.mp (by simpa using this)
theorem keyIn_tb {f : Nat → Int × D} {n : Nat} (hd : ∀ i j, i ≤ n → j ≤ n → (f i).1 = (f j).1 → i = j) : keyIn (tb n f) (f n).1 = false := by
  unfold keyIn
  rw [List.any_eq_false]
  intro p hp e
  obtain ⟨i, hi, rfl⟩ := tb_mem hp
  have := hd i n (by omega) (Nat.le_refl _) (of_decide_eq_true e)
  omega
theorem keyInT_tb {α : Type} {f : Nat → List Int × α} {n : Nat} (hd : ∀ i j, i ≤ n → j ≤ n → (f i).1 = (f j).1 → i = j) : keyInT (tb n f) (f n).1 = false := by
  unfold keyInT
  rw [List.any_eq_false]
  intro p hp e
  obtain ⟨i, hi, rfl⟩ := tb_mem hp
  have := hd i n (by omega) (Nat.le_refl _) (of_decide_eq_true e)
  omega
/-- a datum that is a tuple of ints -/
theorem tup_ints {H : Hp} {k : List Int} {v : V} (h : Dv H (.tup (k.map D.int)) v) : ∃ a, v = .ref a ∧ H a = some (.tup ((kI k).map kV)) := by
  obtain ⟨a, xs, h1, h2, h3⟩ := (show ∃ a xs, v = .ref a ∧ H a = some (.tup xs) ∧ DvL H (k.map D.int) xs from h)
  have e := ints_of h3
  subst e
  refine ⟨a, h1, ?_⟩
  rw [h2]
  simp only [kI, List.map_map]
  rfl
theorem none_of {H H1 : Hp} {a : Addr} (s : Same H H1) (h : H1 a = none) : H a = none := by
  cases e : H a with
  | none => rfl
  | some o =>
    rw [s _ _ e] at h
    cases h
theorem dc_new {wi : TI} {n : Nat} {F : Nat → T → Prop} {g : TG} {vs : List Nat} {f : Nat → Int × D} {σ : Slots} {H : Hp} {Q : VK} (I : EnvOk H G σ) (hi : ItX G wi n F)
    (ht : ∀ i t, i < n → F i t → ∃ G' js, TgX (wipeG G vs) g t G' js ∧ (∀ j ∈ js, j ∈ vs) ∧ EvX G' tk (.d (.int (f i).1)) ∧ EvX G' tv (.d (f i).2)) (hd : ∀ i j, i < n → j < n → (f i).1 = (f j).1 → i = j) (hz : n < 100000) (q : ∀ a kvs H', H a = none → Same H H' → H' a = some (.dK kvs) → MK H' kvs (tb n f) → Q (.ref a) H') : tDc wi g tYes tk tv vs σ H Q := hi σ H I _ fun J H1 s1 w Dl hD => by
  have z : tRun J g tYes vs (rPutK Dl tk tv) σ (upd H1 Dl (.dK [])) fun H' => Q (.ref Dl) H' := by
    refine run_gen (fun i H' => ∃ kvs, H' Dl = some (.dK kvs) ∧ MK H' kvs (tb i f)) w (I.mono s1) (fun i H H' _ s ⟨kvs, h1, h2⟩ => ⟨kvs, s _ _ h1, MK.mono (TupX.of s) h2⟩) (fun i t hi ft => ?_) (same_new hD) ⟨[], upd_same, .nil⟩ fun H' s' ⟨kvs, h1, h2⟩ => q Dl kvs H' (none_of s1 hD) (s1.trans s') h1 h2
    · obtain ⟨G', js, hg, hj, hk, hv⟩ := ht i t hi ft
      refine ⟨G', js, true, hg, hj, evb_yes, fun _ σ H I s ⟨kvs, h1, h2⟩ => hk σ H I _ fun y H4 s4 hy => hv σ H4 (I.mono s4) _ fun z H5 s5 hz5 => ?_, fun h => nomatch h⟩
      obtain rfl : y = .int (f i).1 := hy
      have h5 : H5 Dl = some (.dK kvs) := s5 _ _ (s4 _ _ h1)
      have m5 : MK H5 kvs (tb i f) := MK.mono (TupX.of (s4.trans s5)) h2
      have l5 : kvs.length = i := by
        have := Paired.length m5
        rw [this, tb_len]
      refine ⟨kvs, .inl (f i).1, rfl, h5, len_lt (by omega), fun b o eb => ?_, ?_⟩
      · rw [upd_ne (ne_of_none eb hD)]
        exact s5 _ _ (s4 _ _ (s _ _ eb))
      · have sx : SeqX H5 (upd H5 Dl (.dK (kvs ++ [((.inl (f i).1 : Key), z)]))) := SeqX.upd h5 (fun _ z => nomatch z) (fun _ z => nomatch z)
        rw [putK_new z (mk_none m5 (keyIn_tb fun a b ha hb => hd a b (by omega) (by omega))), tb_take]
        exact ⟨_, upd_same, Paired.snoc (MK.mono sx.1 m5) ⟨rfl, Dv.monoT sx.1 _ _ hz5⟩⟩
  exact z
theorem evx_dc {wi : TI} {n : Nat} {F : Nat → T → Prop} {g : TG} {vs : List Nat} {f : Nat → Int × D} (hi : ItX G wi n F)
    (ht : ∀ i t, i < n → F i t → ∃ G' js, TgX (wipeG G vs) g t G' js ∧ (∀ j ∈ js, j ∈ vs) ∧ EvX G' tk (.d (.int (f i).1)) ∧ EvX G' tv (.d (f i).2)) (hd : ∀ i j, i < n → j < n → (f i).1 = (f j).1 → i = j) (hz : n < 100000) : EvX G (tDc wi g tYes tk tv vs) (.dk (tb n f)) := fun σ H I Q q =>
  dc_new I hi ht hd hz fun a kvs H' _ s h1 h2 => q _ H' s ⟨a, kvs, rfl, h1, h2⟩
theorem evx_dcT {wi : TI} {n : Nat} {F : Nat → T → Prop} {g : TG} {vs : List Nat} {f : Nat → List Int × D} (hi : ItX G wi n F)
    (ht : ∀ i t, i < n → F i t → ∃ G' js, TgX (wipeG G vs) g t G' js ∧ (∀ j ∈ js, j ∈ vs) ∧ EvX G' tk (.d (.tup ((f i).1.map D.int))) ∧ EvX G' tv (.d (f i).2)) (hd : ∀ i j, i < n → j < n → (f i).1 = (f j).1 → i = j) (hz : n < 100000) : EvX G (tDcT wi g tYes tk tv vs) (.dt (tb n f)) := fun σ H I Q q => hi σ H I _ fun J H1 s1 w Dl hD => by
  refine run_gen (fun i H' => ∃ kvs, H' Dl = some (.dT kvs) ∧ MT H' kvs (tb i f)) w (I.mono s1) (fun i H H' _ s ⟨kvs, h1, h2⟩ => ⟨kvs, s _ _ h1, MT.mono (TupX.of s) h2⟩) (fun i t hi ft => ?_) (same_new hD) ⟨[], upd_same, .nil⟩ fun H' s' ⟨kvs, h1, h2⟩ => q _ H' (s1.trans s') ⟨Dl, kvs, rfl, h1, h2⟩
  obtain ⟨G', js, hg, hj, hk, hv⟩ := ht i t hi ft
  refine ⟨G', js, true, hg, hj, evb_yes, fun _ σ H I s ⟨kvs, h1, h2⟩ => hk σ H I _ fun y H4 s4 hy => hv σ H4 (I.mono s4) _ fun z H5 s5 hz5 => ?_, fun h => nomatch h⟩
  obtain ⟨b, rfl, hb⟩ := tup_ints hy
  have h5 : H5 Dl = some (.dT kvs) := s5 _ _ (s4 _ _ h1)
  have m5 : MT H5 kvs (tb i f) := MT.mono (TupX.of (s4.trans s5)) h2
  have l5 : kvs.length = i := by
    have := Paired.length m5
    rw [this, tb_len]
  refine ⟨kvs, kI (f i).1, b, rfl, s5 _ _ hb, h5, len_lt (by omega), fun b o eb => ?_, ?_⟩
  · rw [upd_ne (ne_of_none eb hD)]
    exact s5 _ _ (s4 _ _ (s _ _ eb))
  · have sx : SeqX H5 (upd H5 Dl (.dT (kvs ++ [(kI (f i).1, z)]))) := SeqX.upd h5 (fun _ z => nomatch z) (fun _ z => nomatch z)
    rw [putK_new z (pt_none (fun _ _ r => r.1) m5 (keyInT_tb fun a b ha hb => hd a b (by omega) (by omega))), tb_take]
    exact ⟨_, upd_same, Paired.snoc (MT.mono sx.1 m5) ⟨rfl, Dv.monoT sx.1 _ _ hz5⟩⟩
theorem evx_dcL {wi : TI} {n : Nat} {F : Nat → T → Prop} {g : TG} {vs : List Nat} {f : Nat → List Int × List D} (hi : ItX G wi n F)
    (ht : ∀ i t, i < n → F i t → ∃ G' js, TgX (wipeG G vs) g t G' js ∧ (∀ j ∈ js, j ∈ vs) ∧ EvX G' tk (.d (.tup ((f i).1.map D.int))) ∧ EvX G' tv (.li (f i).2)) (hd : ∀ i j, i < n → j < n → (f i).1 = (f j).1 → i = j) (hz : n < 100000) : EvX G (tDcT wi g tYes tk tv vs) (.dl (tb n f)) := fun σ H I Q q => hi σ H I _ fun J H1 s1 w Dl hD => by
  refine run_gen (fun i H' => ∃ kvs, H' Dl = some (.dT kvs) ∧ ML H' kvs (tb i f)) w (I.mono s1) (fun i H H' _ s ⟨kvs, h1, h2⟩ => ⟨kvs, s _ _ h1, ML.mono (SeqX.of s) h2⟩) (fun i t hi ft => ?_) (same_new hD) ⟨[], upd_same, .nil⟩ fun H' s' ⟨kvs, h1, h2⟩ => q _ H' (s1.trans s') ⟨Dl, kvs, rfl, h1, h2⟩
  obtain ⟨G', js, hg, hj, hk, hv⟩ := ht i t hi ft
  refine ⟨G', js, true, hg, hj, evb_yes, fun _ σ H I s ⟨kvs, h1, h2⟩ => hk σ H I _ fun y H4 s4 hy => hv σ H4 (I.mono s4) _ fun z H5 s5 hz5 => ?_, fun h => nomatch h⟩
  obtain ⟨b, rfl, hb⟩ := tup_ints hy
  have h5 : H5 Dl = some (.dT kvs) := s5 _ _ (s4 _ _ h1)
  have m5 : ML H5 kvs (tb i f) := ML.mono (SeqX.of (s4.trans s5)) h2
  have l5 : kvs.length = i := by
    have := Paired.length m5
    rw [this, tb_len]
  refine ⟨kvs, kI (f i).1, b, rfl, s5 _ _ hb, h5, len_lt (by omega), fun b o eb => ?_, ?_⟩
  · rw [upd_ne (ne_of_none eb hD)]
    exact s5 _ _ (s4 _ _ (s _ _ eb))
  · have sx : SeqX H5 (upd H5 Dl (.dT (kvs ++ [(kI (f i).1, z)]))) := SeqX.upd h5 (fun _ z => nomatch z) (fun _ z => nomatch z)
    rw [putK_new z (pt_none (fun _ _ r => r.1) m5 (keyInT_tb fun a b ha hb => hd a b (by omega) (by omega))), tb_take]
    exact ⟨_, upd_same, Paired.snoc (ML.mono sx m5) ⟨rfl, IsLi.monoS sx hz5⟩⟩

/-! ### looks -/
def lookT {α : Type} (m : List (List Int × α)) (k : List Int) : Option α := (m.find? fun p => decide (p.1 = k)).map (·.2)
def lookK {α : Type} (m : List (Int × α)) (k : Int) : Option α := (m.find? fun p => decide (p.1 = k)).map (·.2)
theorem valV_look {H : Hp} {k : List Int} : ∀ {kvs : List (List Key × V)} {m : List (List Int × D)} {d : D}, MT H kvs m → lookT m k = some d → ∃ v, valV kvs (kI k) = some v ∧ Dv H d v
  | _, _, _, .nil, e => by cases e
  | _, _, d, .cons (a := p) (b := q) r t, e => by
    unfold lookT at e
    rw [List.find?_cons] at e
    by_cases h : q.1 = k
    · rw [valV_pos (by rw [r.1, h])]
      simp only [h, decide_true] at e
      cases e
      exact ⟨_, rfl, r.2⟩
    · rw [valV_neg (by rw [r.1]; intro z; exact h (kI_inj z))]
      simp only [h, decide_false] at e
      exact valV_look t e
theorem valV_lookK {H : Hp} {k : Int} : ∀ {kvs : List (Key × V)} {m : List (Int × D)} {d : D}, MK H kvs m → lookK m k = some d → ∃ v, valV kvs (.inl k : Key) = some v ∧ Dv H d v
  | _, _, _, .nil, e => by cases e
  | _, _, d, .cons (a := p) (b := q) r t, e => by
    unfold lookK at e
    rw [List.find?_cons] at e
    by_cases h : q.1 = k
    · rw [valV_pos (by rw [r.1, h])]
      simp only [h, decide_true] at e
      cases e
      exact ⟨_, rfl, r.2⟩
    · rw [valV_neg (by rw [r.1]; intro z; exact h (Sum.inl.inj z))]
      simp only [h, decide_false] at e
      exact valV_lookK t e
theorem lookT_tb {α : Type} {n i : Nat} {f : Nat → List Int × α} (hi : i < n) (hd : ∀ i j, i < n → j < n → (f i).1 = (f j).1 → i = j) : lookT (tb n f) (f i).1 = some (f i).2 := by
  induction n with
  | zero => omega
  | succ n ih =>
    unfold lookT at *
    rw [tb_take, List.find?_append]
    by_cases h : i < n
    · have := ih h (fun a b ha hb => hd a b (by omega) (by omega))
      cases hf : (tb n f).find? fun p => decide (p.1 = (f i).1) with
      | none => rw [hf] at this; cases this
      | some p => rw [hf] at this; simpa using this
    · obtain rfl : i = n := by omega
      have e : (tb i f).find? (fun p => decide (p.1 = (f i).1)) = none := by
        rw [List.find?_eq_none]
        intro p hp
        obtain ⟨j, hj, rfl⟩ := tb_mem hp
        intro z
        have := hd j i (by omega) (by omega) (of_decide_eq_true z)
        omega
      rw [e]
      simp
theorem lookK_tb {α : Type} {n i : Nat} {f : Nat → Int × α} (hi : i < n) (hd : ∀ i j, i < n → j < n → (f i).1 = (f j).1 → i = j) : lookK (tb n f) (f i).1 = some (f i).2 := by
  induction n with
  | zero => omega
  | succ n ih =>
    unfold lookK at *
    rw [tb_take, List.find?_append]
    by_cases h : i < n
    · have := ih h (fun a b ha hb => hd a b (by omega) (by omega))
      cases hf : (tb n f).find? fun p => decide (p.1 = (f i).1) with
      | none => rw [hf] at this; cases this
      | some p => rw [hf] at this; simpa using this
    · obtain rfl : i = n := by omega
      have e : (tb i f).find? (fun p => decide (p.1 = (f i).1)) = none := by
        rw [List.find?_eq_none]
        intro p hp
        obtain ⟨j, hj, rfl⟩ := tb_mem hp
        intro z
        have := hd j i (by omega) (by omega) (of_decide_eq_true z)
        omega
      rw [e]
      simp
theorem evx_dgetT {m : List (List Int × D)} {k : List Int} {d : D} (hd : EvX G td (.dt m)) (hk : EvX G ty (.d (.tup (k.map D.int)))) (e : lookT m k = some d) : EvX G (tDGet td ty) (.d d) := fun σ H I Q q =>
  hd σ H I _ fun v H1 s1 hv => hk σ H1 (I.mono s1) _ fun u H2 s2 hu => by
    obtain ⟨a, kvs, rfl, h1, h2⟩ := hv
    obtain ⟨b, rfl, hb⟩ := tup_ints hu
    obtain ⟨x, h3, h4⟩ := valV_look (MT.mono (TupX.of s2) h2) e
    refine ⟨a, x, rfl, ?_, q x H2 (s1.trans s2) h4⟩
    rw [← h3]
    exact DGet.t (s2 _ _ h1) hb
theorem evx_dgetK {m : List (Int × D)} {k : Int} {d : D} (hd : EvX G td (.dk m)) (hk : EvX G ty (.d (.int k))) (e : lookK m k = some d) : EvX G (tDGet td ty) (.d d) := fun σ H I Q q =>
  hd σ H I _ fun v H1 s1 hv => hk σ H1 (I.mono s1) _ fun u H2 s2 hu => by
    obtain ⟨a, kvs, rfl, h1, h2⟩ := hv
    obtain rfl : u = .int k := hu
    obtain ⟨x, h3, h4⟩ := valV_lookK (MK.mono (TupX.of s2) h2) e
    refine ⟨a, x, rfl, ?_, q x H2 (s1.trans s2) h4⟩
    rw [← h3]
    exact DGet.k (k := .inl k) (s2 _ _ h1)
theorem evx_ninDT {m : List (List Int × D)} {k : List Int} {b : Bool} (hk : EvX G ty (.d (.tup (k.map D.int)))) (hd : EvX G td (.dt m)) (e : (!keyInT m k) = b) : EvX G (tDNotIn ty td) (.d (.bl b)) := fun σ H I Q q =>
  hk σ H I _ fun v H1 s1 hv => hd σ H1 (I.mono s1) _ fun u H2 s2 hu => by
    obtain ⟨a, kvs, rfl, h1, h2⟩ := hu
    obtain ⟨c, rfl, hb⟩ := tup_ints hv
    refine ⟨a, _, rfl, DGet.t h1 (s2 _ _ hb), ?_⟩
    rw [valV_pt (fun _ _ r => r.1) h2, e]
    exact q _ H2 (s1.trans s2) rfl
/-! ### locked dicts -/
theorem evx_rkF {m : List (Int × D)} (h : EvX G te (.fk m)) : EvX G te (.rk m) := fun σ H I Q q => h σ H I Q fun v H' s hv => q v H' s (by
  obtain ⟨a, kvs, o, h1, h2, h3⟩ := hv
  exact ⟨a, kvs, h1, .inr ⟨o, h2⟩, h3⟩)
theorem it_keysF {m : List (Int × D)} (h : EvX G te (.fk m)) : ItX G (iKeys te) m.length (fun i t => ∃ p, m[i]? = some p ∧ t = .d (.int p.1)) := fun σ H I R q => h σ H I _ fun v H1 s1 hv => by
  obtain ⟨a, kvs, o, rfl, h2, h3⟩ := hv
  have hl := Paired.length h3
  refine ⟨a, o, rfl, .inl ⟨kvs, h2, q _ H1 s1 ⟨fun i H' hi s => ⟨s _ _ h2, by omega⟩, fun H' s => ⟨s _ _ h2, by omega⟩, fun i H' x H'' hi s y => ?_⟩⟩⟩
  obtain ⟨rfl, k, v, hk, rfl⟩ := y
  refine ⟨Same.refl _, _, ⟨m[i], List.getElem?_eq_getElem hi, rfl⟩, ?_⟩
  have key : ∀ {kvs : List (Key × V)} {m : List (Int × D)} {i : Nat} {k v p}, MK H1 kvs m → kvs[i]? = some (k, v) → m[i]? = some p → k = (.inl p.1 : Key) := by
    intro kvs m i k v p h e1 e2
    induction h generalizing i with
    | nil => simp at e1
    | cons r t ih =>
      cases i with
      | zero =>
        simp at e1 e2
        rw [← e2, ← r.1, e1]
      | succ i => exact ih (by simpa using e1) (by simpa using e2)
  rw [key h3 hk (List.getElem?_eq_getElem hi)]
  rfl
theorem it_itemsF {m : List (List Int × List D)} (h : EvX G te (.fl m)) : ItX G (iItemsT te) m.length (fun i t => ∃ p, m[i]? = some p ∧ t = .pl p.1 p.2) := fun σ H I R q => h σ H I _ fun v H1 s1 hv => by
  obtain ⟨a, kvs, o, rfl, h2, h3⟩ := hv
  have hl := Paired.length h3
  refine ⟨a, o, kvs, rfl, h2, q _ H1 s1 ⟨fun i H' hi s => ⟨s _ _ h2, by omega⟩, fun H' s => ⟨s _ _ h2, by omega⟩, fun i H' x H'' hi s y => ?_⟩⟩
  obtain ⟨T', k, v, b, hk, hb, rfl, nT, rfl⟩ := y
  refine ⟨same_new nT, _, ⟨m[i], List.getElem?_eq_getElem hi, rfl⟩, ?_⟩
  have key : ∀ {kvs : List (List Key × V)} {m : List (List Int × List D)} {i : Nat} {k v p}, ML H1 kvs m → kvs[i]? = some (k, v) → m[i]? = some p → k = kI p.1 ∧ IsLi H1 p.2 v := by
    intro kvs m i k v p h e1 e2
    induction h generalizing i with
    | nil => simp at e1
    | cons r t ih =>
      cases i with
      | zero =>
        simp at e1 e2
        subst e1 e2
        exact r
      | succ i => exact ih (by simpa using e1) (by simpa using e2)
  obtain ⟨e1, e2⟩ := key h3 hk (List.getElem?_eq_getElem hi)
  subst e1
  refine ⟨T', b, v, rfl, upd_same, ?_, e2.mono (s.trans (same_new nT))⟩
  rw [upd_ne (ne_of_none hb nT), hb]
  simp only [kI, List.map_map]
  rfl
theorem tg_pl {g1 g2 : TG} {k : List Int} {l : List D} {j1 j2 : List Nat} (h1 : TgX G g1 (.d (.tup (k.map D.int))) G1 j1) (h2 : TgX G1 g2 (.li l) G2 j2) : TgX G (gTup K 2 (gCons g1 (gCons g2 gNil))) (.pl k l) G2 (j1 ++ j2) := fun σ H I v hv Q q => by
  obtain ⟨a, b, u, rfl, e1, e2, e3⟩ := hv
  refine ⟨a, _, rfl, SqT.of e1, rfl, ?_⟩
  have hb : Is H (.d (.tup (k.map D.int))) (.ref b) := ⟨b, _, rfl, e2, by
    clear e2 h1
    induction k with
    | nil => exact DvL.nil
    | cons x k ih => exact DvL.cons rfl ih⟩
  refine ⟨.ref b, [u], rfl, h1 σ H I _ hb _ fun σ1 I1 w1 => ⟨u, [], rfl, h2 σ1 H I1 _ e3 _ fun σ2 I2 w2 => ⟨rfl, q σ2 I2 fun ws hw => ?_⟩⟩⟩
  rw [w2 ws fun j hj => hw j (List.mem_append_right _ hj), w1 ws fun j hj => hw j (List.mem_append_left _ hj)]
/-- all but one slot pure -/
theorem monoT_but {H H' : Hp} (e : TupX H H') {t : T} {o : Option V} (r : SlOk H' t o) : ∀ {G : List T} {σ : Slots} {i : Nat}, (G.set i .u).all PureT = true → EnvOk H G σ → (∀ o', σ[i]? = some o' → o' = o) → EnvOk H' (G.set i t) σ
  | _, _, _, _, .nil, _ => .nil
  | _ :: G, _ :: σ, 0, hp, .cons _ q, h => by
    obtain rfl := h _ rfl
    rw [List.set_cons_zero, List.all_cons, Bool.and_eq_true] at hp
    exact .cons r (EnvOk.monoT e hp.2 q)
  | u :: G, _ :: σ, i + 1, hp, .cons r' q, h => by
    rw [List.set_cons_succ, List.all_cons, Bool.and_eq_true] at hp
    rw [List.set_cons_succ]
    refine .cons ?_ (monoT_but e r hp.2 q fun o' h' => h o' (by simpa using h'))
    cases u with
    | u => trivial
    | v x => exact r'
    | d d =>
      obtain ⟨v, h1, h2⟩ := r'
      exact ⟨v, h1, Dv.monoT e _ _ h2⟩
    | li _ => cases hp.1
    | dk _ => cases hp.1
    | rk _ => cases hp.1
    | dt _ => cases hp.1
    | dl _ => cases hp.1
    | fk _ => cases hp.1
    | fl _ => cases hp.1
    | pl _ _ => cases hp.1
    | la _ _ => cases hp.1
/-- a walk over the items of a dict that stands in slot i, all else data -/
theorem evx_lockL {i : Nat} {m : List (List Int × List D)} {r : List (List Int × D)} (hi : G[i]? = some (.dl m)) (hp : (G.set i .u).all PureT = true) (h : EvX (G.set i (.fl m)) te (.dt r)) : EvX G (tLockE te) (.dt r) := fun σ H I Q q => by
  obtain ⟨o, h1, h2⟩ := I.get hi
  obtain ⟨v, rfl, hv⟩ := (show ∃ v, o = some v ∧ Is H (.dl m) v from h2)
  obtain ⟨a, kvs, rfl, h3, h4⟩ := (show ∃ a kvs, v = .ref a ∧ H a = some (.dT kvs) ∧ ML H kvs m from hv)
  refine ⟨a, .dT kvs, h3, trivial, fun od => ?_⟩
  have sx : SeqX H (upd H a (.frz od (.dT kvs))) := SeqX.upd h3 (fun _ z => nomatch z) (fun _ z => nomatch z)
  refine h σ _ (monoT_but sx.1 (t := .fl m) ⟨.ref a, rfl, a, kvs, od, rfl, upd_same, ML.mono sx h4⟩ hp I fun o' h' => ?_) _ fun w H' s hw => ?_
  · rw [h1] at h'
    exact (Option.some.inj h').symm
  · have ha : H' a = some (.frz od (.dT kvs)) := s _ _ upd_same
    refine ⟨ha, q w _ (fun b u hb => ?_) ?_⟩
    · by_cases hba : b = a
      · subst hba
        rw [h3] at hb
        cases hb
        exact upd_same
      · rw [upd_ne hba]
        exact s _ _ (by rw [upd_ne hba]; exact hb)
    · obtain ⟨b, ks, rfl, k1, k2⟩ := hw
      have sy : SeqX H' (upd H' a (.dT kvs)) := SeqX.upd ha (fun _ z => nomatch z) (fun _ z => nomatch z)
      exact ⟨b, ks, rfl, by rw [upd_ne (ne_of k1 ha (by intro z; cases z))]; exact k1, MT.mono sy.1 k2⟩
theorem EnvOk.getv {H : Hp} {G : List T} {σ : Slots} {i : Nat} {t : T} (I : EnvOk H G σ) (h : G[i]? = some t) (hu : t ≠ .u := by intro z; cases z) : ∃ v, σ[i]? = some (some v) ∧ Is H t v := by
  obtain ⟨o, h1, h2⟩ := I.get h
  cases t <;> first
    | exact absurd rfl hu
    | (obtain ⟨v, rfl, hv⟩ := h2; exact ⟨v, h1, hv⟩)
/-! ### statements, as they are read -/
section
variable {D : Ends} {σ : Slots} {H : Hp} {t1 t2 : TS} {i : Nat} {g : TG} {wi : TI}
theorem rs_seq (h : t1 { D with nx := t2 D } σ H) : tSeq t1 t2 D σ H := h
theorem rs_asg (h : te σ H fun x H1 => g x σ H1 D.nx) : tAsg te g D σ H := h
theorem rs_set (h : te σ H fun x H1 => D.nx (σ.set i (some x)) H1) : tAsg te (gName i) D σ H := h
theorem rs_if (h : tt σ H fun b H1 => if b = true then t1 D σ H1 else t2 D σ H1) : tIfS tt t1 t2 D σ H := h
theorem rs_ret (h : te σ H D.rt) : tRet te D σ H := h
theorem rs_drop (h : te σ H fun _ H1 => D.nx σ H1) : tDrop te D σ H := h
theorem rs_next (h : D.nx σ H) : tNext D σ H := h
theorem rs_while (W : Nat → Slots → Hp → Prop) (h0 : ∃ m, W m σ H) (h : ∀ m σ H, W m σ H →
    tt σ H fun b H1 => if b = true then ∃ N : Slots → Hp → Prop, (∀ σ' H', N σ' H' → ∃ m', m' < m ∧ W m' σ' H') ∧ t1 { D with nx := N, ct := N, bk := D.nx } σ H1 else D.nx σ H1) : tWhile tt t1 D σ H := ⟨W, h0, h⟩
theorem rs_for (h : wi σ H fun J H1 => ∃ W : Nat → Nat → Slots → Hp → Prop, (∃ m, W 0 m σ H1) ∧ ∀ i m σ H, W i m σ H →
    (J.stop i H ∧ D.nx σ H) ∨ (J.go i H ∧ ∃ N : Slots → Hp → Prop, (∀ σ' H', N σ' H' → ∃ m', m' < m ∧ W (i + 1) m' σ' H') ∧ ∀ x H', J.yld i H x H' → g x σ H' fun σ2 H2 => t1 { D with nx := N, ct := N, bk := D.nx } σ2 H2)) : tFor wi g t1 D σ H := h
theorem rs_forI {wd : Addr} {od : Obj} {wk : List (Key × V)} (hv : σ[i]? = some (some (.ref wd))) (hd : H wd = some (.frz od (.dK wk))) (h : ∃ W : Nat → Nat → Slots → Hp → Prop, (∃ m, W 0 m σ H) ∧ ∀ i m σ H, W i m σ H →
    ((H wd = some (.frz od (.dK wk)) ∧ wk.length ≤ i) ∧ D.nx σ H) ∨ ((H wd = some (.frz od (.dK wk)) ∧ i < wk.length) ∧ ∃ N : Slots → Hp → Prop, (∀ σ' H', N σ' H' → ∃ m', m' < m ∧ W (i + 1) m' σ' H') ∧
      ∀ x H', (∃ T k v, wk[i]? = some (k, v) ∧ x = .ref T ∧ H T = none ∧ H' = upd H T (.tup [kV k, v])) → g x σ H' fun σ2 H2 => t1 { D with nx := N, ct := N, bk := D.nx } σ2 H2)) : tFor (iItems (tVar i)) g t1 D σ H := ⟨_, hv, wd, od, wk, rfl, hd, h⟩
theorem rs_lock (d : Addr) (u : HO) (h1 : H d = some u) (h2 : Mut (some u)) (h : ∀ od, t1 ⟨fun σ' H' => H' d = some (.frz od u) ∧ D.nx σ' (upd H' d u), fun v H' => H' d = some (.frz od u) ∧ D.rt v (upd H' d u), fun σ' H' => H' d = some (.frz od u) ∧ D.bk σ' (upd H' d u), fun σ' H' => H' d = some (.frz od u) ∧ D.ct σ' (upd H' d u)⟩ σ (upd H d (.frz od u))) : tLock t1 D σ H := ⟨d, u, h1, h2, h⟩
/-- an assignment to a name -/
theorem rs_ev {t : T} (I : EnvOk H G σ) (h : EvX G te t) (k : ∀ v H1, Same H H1 → Is H1 t v → EnvOk H1 (G.set i t) (σ.set i (some v)) → D.nx (σ.set i (some v)) H1) : tAsg te (gName i) D σ H :=
  h σ H I _ fun v H1 s hv => k v H1 s hv ((I.mono s).setv i hv)
theorem rs_evif {b : Bool} (I : EnvOk H G σ) (h : EvB G tt b) (h1 : b = true → ∀ H1, Same H H1 → EnvOk H1 G σ → t1 D σ H1) (h2 : b = false → ∀ H1, Same H H1 → EnvOk H1 G σ → t2 D σ H1) : tIfS tt t1 t2 D σ H :=
  h σ H I _ fun H1 s => by
    cases b with
    | true => exact iteT (h1 rfl H1 s (I.mono s))
    | false => exact iteF (h2 rfl H1 s (I.mono s))
theorem rs_st {H0 : Hp} (h : StX H0 G t1 D) (s : Same H0 H) (I : EnvOk H G σ) : t1 D σ H := h σ H s I
variable {u : TS}
theorem rss_set (h : te σ H fun x H1 => u D (σ.set i (some x)) H1) : tSeq (tAsg te (gName i)) u D σ H := h
theorem rss_asg (h : te σ H fun x H1 => g x σ H1 (u D)) : tSeq (tAsg te g) u D σ H := h
theorem rss_ev {t : T} (I : EnvOk H G σ) (h : EvX G te t) (k : ∀ v H1, Same H H1 → Is H1 t v → EnvOk H1 (G.set i t) (σ.set i (some v)) → u D (σ.set i (some v)) H1) : tSeq (tAsg te (gName i)) u D σ H :=
  h σ H I _ fun v H1 s hv => k v H1 s hv ((I.mono s).setv i hv)
theorem rss_tg {t : T} {G1 : List T} {js : List Nat} (I : EnvOk H G σ) (h : EvX G te t) (hg : TgX G g t G1 js) (k : ∀ σ1 H1, Same H H1 → EnvOk H1 G1 σ1 → u D σ1 H1) : tSeq (tAsg te g) u D σ H :=
  h σ H I _ fun v H1 s hv => hg σ H1 (I.mono s) v hv _ fun σ1 I1 _ => k σ1 H1 s I1
theorem rss_drop (h : te σ H fun _ H1 => u D σ H1) : tSeq (tDrop te) u D σ H := h
theorem rss_evif {b : Bool} (I : EnvOk H G σ) (h : EvB G tt b) (h1 : b = true → ∀ H1, Same H H1 → EnvOk H1 G σ → t1 { D with nx := u D } σ H1) (h2 : b = false → ∀ H1, Same H H1 → EnvOk H1 G σ → t2 { D with nx := u D } σ H1) : tSeq (tIfS tt t1 t2) u D σ H := rs_evif (D := { D with nx := u D }) I h h1 h2
theorem rss_if0 {b : Bool} (I : EnvOk H G σ) (h : EvB G tt b) (h1 : b = true → ∀ H1, Same H H1 → EnvOk H1 G σ → t1 { D with nx := u D } σ H1) (h2 : b = false → ∀ H1, Same H H1 → EnvOk H1 G σ → u D σ H1) : tSeq (tIfS tt t1 tNext) u D σ H := rs_evif (D := { D with nx := u D }) I h h1 h2
theorem rss_while (W : Nat → Slots → Hp → Prop) (h0 : ∃ m, W m σ H) (h : ∀ m σ H, W m σ H →
    tt σ H fun b H1 => if b = true then ∃ N : Slots → Hp → Prop, (∀ σ' H', N σ' H' → ∃ m', m' < m ∧ W m' σ' H') ∧ t1 { D with nx := N, ct := N, bk := u D } σ H1 else u D σ H1) : tSeq (tWhile tt t1) u D σ H := ⟨W, h0, h⟩
theorem rss_for (h : wi σ H fun J H1 => ∃ W : Nat → Nat → Slots → Hp → Prop, (∃ m, W 0 m σ H1) ∧ ∀ i m σ H, W i m σ H →
    (J.stop i H ∧ u D σ H) ∨ (J.go i H ∧ ∃ N : Slots → Hp → Prop, (∀ σ' H', N σ' H' → ∃ m', m' < m ∧ W (i + 1) m' σ' H') ∧ ∀ x H', J.yld i H x H' → g x σ H' fun σ2 H2 => t1 { D with nx := N, ct := N, bk := u D } σ2 H2)) : tSeq (tFor wi g t1) u D σ H := h
theorem rss_lockset (d : Addr) (o : HO) (h1 : H d = some o) (h2 : Mut (some o)) (h : ∀ od, te σ (upd H d (.frz od o)) fun x H1 => H1 d = some (.frz od o) ∧ u D (σ.set i (some x)) (upd H1 d o)) : tSeq (tLock (tAsg te (gName i))) u D σ H := ⟨d, o, h1, h2, h⟩
theorem rss_aug {ti : TIp} (h : ∃ x, σ[i]? = some (some x) ∧ te σ H fun y H1 => ti x y H1 fun z H2 => u D (σ.set i (some z)) H2) : tSeq (tAug i te ti) u D σ H := h
theorem rss_put (h : tv σ H fun v H1 => td σ H1 fun x H2 => ty σ H2 fun y H3 => ∃ a H4, x = .ref a ∧ DPut H3 a y v H4 ∧ u D σ H4) : tSeq (sDPut td ty tv) u D σ H := h
end
end
end Mw

namespace Mw
open PySem PySem.Spec PyProof.Rows L2
/-! ### what is lost -/
def rowLose (S : Sy) (p : Pr) (gd : Nat → Bool) (r g : Nat) : Option (Nat × Nat) := ((List.range S.d).find? fun w => (keepF S p gd r g w).isEmpty).map fun w => (g, w)
def loseF (S : Sy) (p : Pr) (gd : Nat → Bool) (r : Nat) : Option (Nat × Nat) := (List.range S.s).findSome? (rowLose S p gd r)
@[reducible] def encL : Option (Nat × Nat) → D
  | none => .non
  | some q => .tup [.int (q.1 : Int), .int (q.2 : Int)]
theorem find_range {f : Nat → Bool} {n i : Nat} (hi : i < n) (h : f i = true) (h0 : ∀ j, j < i → f j = false) : (List.range n).find? f = some i := by
  rw [List.find?_range_eq_some]
  exact ⟨h, List.mem_range.mpr hi, fun j hj => by rw [h0 j hj]; rfl⟩
theorem find_range_none {f : Nat → Bool} {n : Nat} (h0 : ∀ j, j < n → f j = false) : (List.range n).find? f = none := by
  rw [List.find?_eq_none]
  intro x hx
  rw [h0 x (List.mem_range.mp hx)]
  exact Bool.false_ne_true
theorem findS_range {α : Type} {f : Nat → Option α} : ∀ {n i : Nat} {y : α}, i < n → f i = some y → (∀ j, j < i → f j = none) → (List.range n).findSome? f = some y
  | 0, i, y, hi, _, _ => by omega
  | n + 1, i, y, hi, h, h0 => by
    rw [List.range_succ, List.findSome?_append]
    by_cases e : i < n
    · rw [findS_range e h h0]
      rfl
    · obtain rfl : i = n := by omega
      have : (List.range i).findSome? f = none := by
        rw [List.findSome?_eq_none_iff]
        intro x hx
        exact h0 x (List.mem_range.mp hx)
      rw [this]
      simp [h]
theorem findS_range_none {α : Type} {f : Nat → Option α} {n : Nat} (h0 : ∀ j, j < n → f j = none) : (List.range n).findSome? f = none := by
  rw [List.findSome?_eq_none_iff]
  intro x hx
  exact h0 x (List.mem_range.mp hx)
section
variable {P : Program} {w : World} {K : PySem.W.Frag} {mg : Str → Option Value} {base : Heap}
abbrev N_losing : List Str := ["saying", "prices", "good", "room", "signs", "deeds", "rooms", "sign", "wanted"]
theorem sc_losing : FnScope N_losing ["saying", "prices", "good", "room"] (defScope s_losing) := C8.fnScope_by (by decide +kernel)

def R_losing (ts : List T) (t : T) : Prop := ∃ (S : Sy) (p : Pr) (l : List Nat) (r : Nat), S.d ≤ 1000 ∧ S.s ≤ 1000 ∧ r < S.n ∧ ts = [.d S.D, .d (encP S.d p), .rk (goodM l), .d (.int (r : Int))] ∧ t = .d (encL (loseF S p (inL l) r))
theorem cal_losing (F : MDef K mg "losing" s_losing) (g : Glo mg) (c_keepers : C8.Cal P w K mg base 3 "keepers" (spX R_keepers) []) : C8.Cal P w K mg base 4 "losing" (spX R_losing) [] :=
  cal_pure F sc_losing (fun _ _ _ _ _ _ us hl => match us, hl with | [_, _, _, _], _ => rfl) (fun ts t ⟨_, _, _, _, _, _, _, e, _⟩ => by rw [e]; rfl) fun f cdv A outer s H E hr ts t ⟨S, p, l, r, h1, h2, h3, e1, e2⟩ => by
    subst e1 e2
    have nd := sc_losing.nd
    have hu := hu_of hr
    refine ⟨_, (pss_cons (ps_asg (pv 0) (pg_tup rfl (pgs_cons (pg_name (i := 4) nd rfl (Or.inl rfl)) (pgs_cons (pg_name (i := 5) nd rfl (Or.inl rfl)) (pgs_cons (pg_name (i := 6) nd rfl (Or.inl rfl)) pgs_nil)))))
      (pss_cons (ps_for PassesOwn.never rfl (pi_range1 rfl g.range (pa_cons (pv 4) pa_nil)) (pg_name (i := 7) nd rfl (Or.inl rfl)) (pss_one (ps_for PassesOwn.never rfl (pi_range1 rfl g.range (pa_cons (pv 5) pa_nil)) (pg_name (i := 8) nd rfl (Or.inl rfl)) (pss_one (ps_if (pt_cmpR (r := rEqD K) (op_eqD hr.units) (C8.pe_c c_keepers hr (by decide) rfl (pa_cons (pv 0) (pa_cons (pv 1) (pa_cons (pv 2) (pa_cons (pv 3) (pa_cons (pv 7) (pa_cons (pv 8) pa_nil))))))) (pe_lst pa_nil) (nomark _)) (pss_one (ps_ret (pe_tup (pa_cons (pv 7) (pa_cons (pv 8) pa_nil))))) pss_nil)))))
      (pss_one (ps_ret pe_non)))), ?_⟩
    intro En hD hN
    refine st_seq (st_asg (evx_var rfl) (tg_tup (tgs_cons tg_name (tgs_cons tg_name (tgs_cons tg_name tgs_nil)))) ?_)
    refine st_seq (st_for (it_rngN (eva_cons (evx_var rfl) eva_nil) (by omega)) (fun i => ∀ j, j < i → rowLose S p (inL l) r j = none) (fun j hj => by omega) (fun Hb hs i t hi ht hp => ?_) fun hp => ?_)
    · subst ht
      refine ⟨_, _, tg_name, st_for (it_rngN (eva_cons (evx_var rfl) eva_nil) (by omega)) (fun j => ∀ k, k < j → (keepF S p (inL l) r i k).isEmpty = false) (fun j hj => by omega) (fun Hb2 hs2 j t hj ht hq => ?_) fun hq => ?_⟩
      · subst ht
        refine ⟨_, _, tg_name, st_if (b := (keepF S p (inL l) r i j).isEmpty) (evb_T (evx_eqLi (m := []) (evx_call (eva_cons (evx_var rfl) (eva_cons (evx_var rfl) (eva_cons (evx_var rfl) (eva_cons (evx_var rfl) (eva_cons (evx_var rfl) (eva_cons (evx_var rfl) eva_nil)))))) ⟨S, p, l, _, r, i, j, h1, h3, hi, hj, .inl rfl, rfl, rfl⟩) (evx_lst eva_nil) ?_)) (fun he => ?_) fun he => ?_⟩
        · cases keepF S p (inL l) r i j <;> simp
        · refine st_ret (evx_tup (ds := [.int (i : Int), .int (j : Int)]) (eva_cons (evx_var rfl) (eva_cons (evx_var rfl) eva_nil))) fun v H' s' hv => hD v H' ((hs.trans hs2).trans s') ?_
          have e : loseF S p (inL l) r = some (i, j) := by
            refine findS_range hi ?_ hp
            unfold rowLose
            rw [find_range hj he hq]
            rfl
          rw [e]
          exact hv
        · refine st_next (nx_turn ?_ fun k hk => ?_)
          · repeat (first | exact .nil | refine .cons (.inr rfl) ?_ | refine .cons (.inl rfl) ?_)
          · by_cases e : k = j
            · rw [e]; exact he
            · exact hq k (by omega)
      · refine st_next (nx_turn ?_ fun k hk => ?_)
        · repeat (first | exact .nil | refine .cons (.inr rfl) ?_ | refine .cons (.inl rfl) ?_)
        · by_cases e : k = i
          · subst e
            unfold rowLose
            rw [find_range_none hq]
            rfl
          · exact hp k (by omega)
    · have e : loseF S p (inL l) r = none := findS_range_none hp
      exact st_ret (evx_eq evx_non (by rw [e])) hD
end
end Mw

namespace Mw
open PySem PySem.Spec PyProof.Rows L2
/-! ### the rooms that are kept -/
def stepK (S : Sy) (p : Pr) (l : List Nat) : List Nat := l.filter fun r => (loseF S p (inL l) r).isNone
def itK (S : Sy) (p : Pr) : Nat → List Nat
  | 0 => List.range S.n
  | k + 1 => stepK S p (itK S p k)
def keptF (S : Sy) (p : Pr) : List Nat := itK S p S.n
theorem itK_nodup (S : Sy) (p : Pr) : ∀ k, (itK S p k).Nodup
  | 0 => List.nodup_range
  | k + 1 => (itK_nodup S p k).filter _
theorem itK_lt {S : Sy} {p : Pr} : ∀ {k r}, r ∈ itK S p k → r < S.n
  | 0, r, h => List.mem_range.mp h
  | k + 1, r, h => itK_lt (List.mem_filter.mp h).1
theorem itK_stable {S : Sy} {p : Pr} {k : Nat} (h : itK S p (k + 1) = itK S p k) : ∀ j, itK S p (k + j) = itK S p k
  | 0 => rfl
  | j + 1 => by
    show stepK S p (itK S p (k + j)) = _
    rw [itK_stable h j]
    exact h
theorem itK_kept {S : Sy} {p : Pr} {k : Nat} (h : itK S p (k + 1) = itK S p k) (hk : k ≤ S.n) : itK S p (k + 1) = keptF S p := by
  have := itK_stable h (S.n - k)
  rw [show k + (S.n - k) = S.n by omega] at this
  rw [h]
  exact this.symm
theorem filter_len_lt {α : Type} {f : α → Bool} {l : List α} {x : α} (hx : x ∈ l) (h : f x = false) : (l.filter f).length < l.length := by
  rcases Nat.lt_or_ge (l.filter f).length l.length with q | q
  · exact q
  · have e : l.filter f = l := List.filter_sublist.eq_of_length (Nat.le_antisymm (List.length_filter_le _ _) q)
    rw [← e] at hx
    rw [(List.mem_filter.mp hx).2] at h
    cases h
theorem keptF_fix (S : Sy) (p : Pr) : stepK S p (keptF S p) = keptF S p := by
  have key : ∀ k, itK S p (k + 1) = itK S p k ∨ (itK S p k).length + k ≤ S.n := by
    intro k
    induction k with
    | zero => exact .inr (by simp [itK])
    | succ k ih =>
      by_cases e : itK S p (k + 1) = itK S p k
      · exact .inl (by show stepK S p (itK S p (k + 1)) = itK S p (k + 1); rw [e]; exact e)
      · rcases ih with q | q
        · exact absurd q e
        · refine .inr ?_
          have h1 : (itK S p (k + 1)).length ≤ (itK S p k).length := List.length_filter_le _ _
          rcases Nat.lt_or_ge (itK S p (k + 1)).length (itK S p k).length with z | z
          · omega
          · exact absurd (List.filter_sublist.eq_of_length (Nat.le_antisymm h1 z)) e
  rcases key S.n with q | q
  · exact q
  · have : itK S p S.n = [] := List.eq_nil_of_length_eq_zero (by omega)
    show stepK S p (itK S p S.n) = itK S p S.n
    rw [this]
    rfl
section
variable {P : Program} {w : World} {K : PySem.W.Frag} {mg : Str → Option Value} {base : Heap} {G : List T} {ta tb' : TE}
theorem evx_catT {ds es : List D} (ha : EvX G ta (.d (.tup ds))) (hb : EvX G tb' (.d (.tup es))) (h1 : ds ≠ []) (h2 : es ≠ []) (hl : ds.length + es.length ≤ 100000) : EvX G (tOp (rCatT K) ta tb') (.d (.tup (ds ++ es))) := evx_op ha hb fun v w H hv hw Q q => by
  obtain ⟨a, xs, rfl, e1, e2⟩ := (show ∃ a xs, v = .ref a ∧ H a = some (.tup xs) ∧ DvL H ds xs from hv)
  obtain ⟨b, ys, rfl, f1, f2⟩ := (show ∃ a xs, w = .ref a ∧ H a = some (.tup xs) ∧ DvL H es xs from hw)
  have l1 := e2.len
  have l2 := f2.len
  refine ⟨a, b, xs, ys, rfl, rfl, SqT.of e1, SqT.of f1, fun z => h1 ?_, len_ok (by omega), fun z => absurd ?_ h2, fun _ p hp => q _ _ (same_new hp) ⟨p, _, rfl, upd_same, (DvL.append e2 f2).mono (same_new hp)⟩⟩
  · subst z
    exact List.eq_nil_of_length_eq_zero l1.symm
  · subst z
    exact List.eq_nil_of_length_eq_zero l2.symm
def loD (S : Sy) (p : Pr) (l : List Nat) (i : Nat) : Int × D := (((l.getD i 0 : Nat) : Int), encL (loseF S p (inL l) (l.getD i 0)))
/-- where the loop stands -/
structure LSt (S : Sy) (p : Pr) (H0 H : Hp) (gd fd : Addr) (L : List Nat) (m : List (Int × D)) : Prop where
  hg : ∃ kvs, H gd = some (.dK kvs) ∧ MK H kvs (goodM L)
  hf : ∃ kvs, H fd = some (.dK kvs) ∧ MK H kvs m
  ne : gd ≠ fd
  g0 : H0 gd = none
  f0 : H0 fd = none
  same : Same H0 H
  nd : L.Nodup
  lt : ∀ r ∈ L, r < S.n
  key : ∀ r, r < S.n → keyIn m (r : Int) = !decide (r ∈ L)
  len : m.length + L.length = S.n
theorem LSt.mono {S : Sy} {p : Pr} {H0 H H' : Hp} {gd fd : Addr} {L : List Nat} {m : List (Int × D)} (h : LSt S p H0 H gd fd L m) (s : Same H H') : LSt S p H0 H' gd fd L m := by
  obtain ⟨kg, g1, g2⟩ := h.hg
  obtain ⟨kf, f1, f2⟩ := h.hf
  exact ⟨⟨kg, s _ _ g1, MK.mono (TupX.of s) g2⟩, ⟨kf, s _ _ f1, MK.mono (TupX.of s) f2⟩, h.ne, h.g0, h.f0, h.same.trans s, h.nd, h.lt, h.key, h.len⟩
def EG (S : Sy) (p : Pr) (gd fd : Addr) (k : Int) (b : Bool) : List T := [.d S.D, .d (encP S.d p), .u, .v (.ref gd), .v (.ref fd), .d (.int k), .d (.bl b), .u, .u]
theorem EG_pure (S : Sy) (p : Pr) (gd fd : Addr) (k : Int) (b : Bool) : (EG S p gd fd k b).all PureT = true := rfl
theorem keyIn_snoc (m : List (Int × D)) (i j : Int) (d : D) : keyIn (m ++ [(i, d)]) j = (keyIn m j || decide (i = j)) := by simp [keyIn]
theorem mk_drop {H : Hp} {r : Nat} : ∀ {kvs : List (Key × V)} {L : List Nat}, MK H kvs (goodM L) → MK H (dropK kvs (.inl (r : Int) : Key)) (goodM (L.filter fun x => decide (x ≠ r)))
  | kvs, [], h => by
    cases h
    exact .nil
  | _, x :: L, .cons (a := q) (l₁ := kvs) h t => by
    have ih := mk_drop (r := r) t
    by_cases e : x = r
    · have e1 : q.1 = (.inl (r : Int) : Key) := by rw [h.1, e]
      rw [dropK_pos e1, List.filter_cons_of_neg (by simp [e])]
      exact ih
    · have e1 : ¬ q.1 = (.inl (r : Int) : Key) := by
        rw [h.1]
        intro z
        have z := Sum.inl.inj z
        have z : (x : Int) = (r : Int) := z
        omega
      rw [dropK_neg e1, List.filter_cons_of_pos (by simp [e])]
      exact .cons h ih
theorem filter_ne_len {L : List Nat} {r : Nat} (nd : L.Nodup) (h : r ∈ L) : (L.filter fun x => decide (x ≠ r)).length + 1 = L.length := by
  have e : (L.filter fun x => decide (x ≠ r)) = L.erase r := by
    rw [nd.erase_eq_filter]
    congr 1
    funext x
    by_cases e : x = r <;> simp [e]
  rw [e, List.length_erase_of_mem h]
  have := List.length_pos_of_mem h
  omega
/-- a room goes -/
theorem LSt.drop {S : Sy} {p : Pr} {H0 H : Hp} {gd fd : Addr} {L : List Nat} {m : List (Int × D)} (h : LSt S p H0 H gd fd L m) {r : Nat} (hr : r ∈ L) {d : D} {z : V} (hz : Dv H d z) {kg kf : List (Key × V)} (g1 : H gd = some (.dK kg)) (f1 : H fd = some (.dK kf)) :
    LSt S p H0 (upd (upd H fd (.dK (putK kf (.inl (r : Int)) z))) gd (.dK (dropK kg (.inl (r : Int) : Key)))) gd fd (L.filter fun x => decide (x ≠ r)) (m ++ [((r : Int), d)]) := by
  obtain ⟨kg', g1', g2⟩ := h.hg
  obtain ⟨kf', f1', f2⟩ := h.hf
  rw [g1] at g1'
  cases g1'
  rw [f1] at f1'
  cases f1'
  have t1 : TupX H (upd H fd (.dK (putK kf (.inl (r : Int)) z))) := (SeqX.upd f1 (fun _ z => nomatch z) (fun _ z => nomatch z)).1
  have g3 : (upd H fd (.dK (putK kf (.inl (r : Int)) z))) gd = some (.dK kg) := by rw [upd_ne h.ne]; exact g1
  have t2 := (SeqX.upd (o := .dK (dropK kg (.inl (r : Int) : Key))) g3 (fun _ z => nomatch z) (fun _ z => nomatch z)).1
  have t3 := t1.trans t2
  have kr : keyIn m (r : Int) = false := by rw [h.key r (h.lt r hr)]; simp [hr]
  refine ⟨⟨_, upd_same, MK.mono t3 (mk_drop g2)⟩, ⟨putK kf (.inl (r : Int)) z, by rw [upd_ne (Ne.symm h.ne)]; exact upd_same, ?_⟩, h.ne, h.g0, h.f0, fun b o eb => ?_, h.nd.filter _, fun x hx => h.lt x (List.mem_filter.mp hx).1, fun x hx => ?_, ?_⟩
  · have pk := putK_new z (mk_none f2 kr)
    rw [pk] at t3 ⊢
    exact Paired.snoc (MK.mono t3 f2) ⟨rfl, Dv.monoT t3 _ _ hz⟩
  · rw [upd_ne (ne_of_none eb h.g0), upd_ne (ne_of_none eb h.f0)]
    exact h.same _ _ eb
  · rw [keyIn_snoc, h.key x hx]
    by_cases e : x = r
    · subst e
      simp
    · have e2 : ¬ (r : Int) = (x : Int) := by omega
      simp [e, e2]
  · have := filter_ne_len h.nd hr
    have := h.len
    rw [List.length_append]
    simp only [List.length_singleton]
    omega
def spLost : Sp := fun vs H Q _ => ∃ (S : Sy) (p : Pr), S.d ≤ 1000 ∧ S.s ≤ 1000 ∧ S.n ≤ 1000 ∧ IsL H [.d S.D, .d (encP S.d p)] vs ∧
  ∀ v H' m, Same H H' → Is H' (.dk m) v → (∀ r : Nat, r < S.n → keyIn m (r : Int) = !decide (r ∈ keptF S p)) → Q v H'
end
end Mw

namespace Mw
open PySem PySem.Spec PyProof.Rows L2
section
variable {P : Program} {w : World} {K : PySem.W.Frag} {mg : Str → Option Value} {base : Heap} {G : List T} {ta tb' : TE}
theorem tb_goodM (n : Nat) : (tb n fun i : Nat => ((i : Int), D.bl true)) = goodM (List.range n) := rfl
theorem goodM_len (l : List Nat) : (goodM l).length = l.length := by simp [goodM]
theorem goodM_at {l : List Nat} {i : Nat} {q : Int × D} (h : (goodM l)[i]? = some q) : i < l.length ∧ q.1 = ((l.getD i 0 : Nat) : Int) := by
  unfold goodM at h
  rw [List.getElem?_map] at h
  cases hx : l[i]? with
  | none => rw [hx] at h; cases h
  | some x =>
    rw [hx] at h
    cases h
    refine ⟨(List.getElem?_eq_some_iff.mp hx).1, ?_⟩
    rw [List.getD_eq_getElem?_getD, hx]
    rfl
theorem mk_at {H : Hp} : ∀ {kvs : List (Key × V)} {m : List (Int × D)} {i : Nat} {k v p}, MK H kvs m → kvs[i]? = some (k, v) → m[i]? = some p → k = (.inl p.1 : Key) ∧ Dv H p.2 v := by
  intro kvs m i k v p h e1 e2
  induction h generalizing i with
  | nil => simp at e1
  | cons r t ih =>
    cases i with
    | zero =>
      simp at e1 e2
      subst e1 e2
      exact r
    | succ i => exact ih (by simpa using e1) (by simpa using e2)
/-- rooms not seen, or not lost -/
def Lf (S : Sy) (p : Pr) (l : List Nat) (i : Nat) : List Nat := l.filter fun r => !(decide (r ∈ l.take i) && (loseF S p (inL l) r).isSome)
theorem Lf_zero (S : Sy) (p : Pr) (l : List Nat) : Lf S p l 0 = l := by
  unfold Lf
  rw [List.take_zero]
  simp
theorem Lf_all (S : Sy) (p : Pr) (l : List Nat) : Lf S p l l.length = stepK S p l := by
  unfold Lf stepK
  rw [List.take_length]
  refine List.filter_congr fun r hr => ?_
  cases loseF S p (inL l) r <;> simp [hr]
theorem take_mem {l : List Nat} {i r : Nat} (hi : i < l.length) : r ∈ l.take (i + 1) ↔ r ∈ l.take i ∨ r = l[i] := by
  rw [List.take_add_one, List.getElem?_eq_getElem hi]
  simp only [List.mem_append, Option.toList, List.mem_singleton]
theorem take_memB {l : List Nat} {i r : Nat} (hi : i < l.length) : decide (r ∈ l.take (i + 1)) = (decide (r ∈ l.take i) || decide (r = l[i])) := by
  rw [Bool.eq_iff_iff]
  simp only [decide_eq_true_eq, Bool.or_eq_true]
  exact take_mem hi
theorem Lf_some {S : Sy} {p : Pr} {l : List Nat} {i : Nat} (hi : i < l.length) (nd : l.Nodup) (h : (loseF S p (inL l) l[i]).isSome = true) : (Lf S p l i).filter (fun x => decide (x ≠ l[i])) = Lf S p l (i + 1) ∧ l[i] ∈ Lf S p l i := by
  unfold Lf
  constructor
  · rw [List.filter_filter]
    refine List.filter_congr fun r hr => ?_
    rw [take_memB (r := r) hi]
    by_cases e : r = l[i]
    · have h' : (loseF S p (inL l) r).isSome = true := by rw [e]; exact h
      simp [e, h]
    · simp [e]
  · rw [List.mem_filter]
    refine ⟨List.getElem_mem hi, ?_⟩
    have : l[i] ∉ l.take i := by
      intro z
      obtain ⟨j, hj, e⟩ := List.mem_iff_getElem.mp z
      rw [List.getElem_take] at e
      rw [List.length_take] at hj
      exact List.pairwise_iff_getElem.mp nd j i (by omega) hi (by omega) e
    simp [this]
theorem Lf_none {S : Sy} {p : Pr} {l : List Nat} {i : Nat} (hi : i < l.length) (h : (loseF S p (inL l) l[i]).isSome = false) : Lf S p l (i + 1) = Lf S p l i := by
  unfold Lf
  refine List.filter_congr fun r hr => ?_
  rw [take_memB (r := r) hi]
  by_cases e : r = l[i]
  · have h' : (loseF S p (inL l) r).isSome = false := by rw [e]; exact h
    simp [h']
  · simp [e]
theorem Lf_sub {S : Sy} {p : Pr} {l : List Nat} {i r : Nat} (h : r ∈ Lf S p l i) : r ∈ l := (List.mem_filter.mp h).1
theorem encL_isNon (o : Option (Nat × Nat)) : (encL o).isNon = !o.isSome := by cases o <;> rfl
theorem lookK_goodM {L : List Nat} {r : Nat} (h : r ∈ L) : lookK (goodM L) (r : Int) = some (.bl true) := by
  unfold lookK goodM
  cases e : (L.map fun n : Nat => ((n : Int), D.bl true)).find? (fun p => decide (p.1 = (r : Int))) with
  | none =>
    rw [List.find?_eq_none] at e
    exact absurd (decide_eq_true rfl) (e ((r : Int), .bl true) (List.mem_map.mpr ⟨r, h, rfl⟩))
  | some p =>
    obtain ⟨n, _, rfl⟩ := List.mem_map.mp (List.mem_of_find?_eq_some e)
    rfl
abbrev N_lost_in : List Str := ["saying", "prices", "room", "good", "found", "rank", "falling", "whys", "why"]
theorem sc_lost_in : FnScope N_lost_in ["saying", "prices"] (defScope s_lost_in) := C8.fnScope_by (by decide +kernel)

theorem cal_lost_in (F : MDef K mg "lost_in" s_lost_in) (g : Glo mg) (c_losing : C8.Cal P w K mg base 4 "losing" (spX R_losing) []) : C8.Cal P w K mg base 5 "lost_in" spLost [] :=
  cal_of F sc_lost_in (fun _ _ _ _ _ _ us hl => match us, hl with | [_, _], _ => rfl) (fun vs H Q E ⟨_, _, _, _, _, h, _⟩ => h.length.symm) fun f cdv A outer s H vs Q E hr ⟨S, p, b1, b2, b3, hv, hQ⟩ => by
    have nd := sc_lost_in.nd
    have hu := hu_of hr
    refine ⟨_, (pss_cons (ps_set (i := 3) nd rfl (Or.inr rfl) (pe_dc (own := [("room", 2)]) (g := (gName 2)) (tt := tYes) rfl nd (pi_range1 rfl g.range (pa_cons (pe_callB (r := rLenK K) call_len_seq (by rfl) g.len PySem.boot_len (pa_cons (pe_ix (r := rIxT K) ix_tup (pv 0) pe_int (fun _ _ => rfl)) pa_nil)) pa_nil)) (blkOk_by (by show blkC N_lost_in (defScope s_lost_in) _ _ = true; decide +kernel)) (fun _ _ _ _ _ => (pg_name (i := 2) nd rfl (Or.inl rfl))) (fun _ _ _ _ _ => pts_nil) (fun _ _ _ _ _ => (pv 2)) (fun _ _ _ _ _ => pe_bl)))
      (pss_cons (ps_set (i := 4) nd rfl (Or.inl rfl) pe_dnewK)
      (pss_cons (ps_set (i := 5) nd rfl (Or.inl rfl) pe_int)
      (pss_cons (ps_set (i := 6) nd rfl (Or.inl rfl) pe_bl)
      (pss_cons (ps_while PassesOwn.never (pt_val (pv 6)) (pss_cons (ps_aug (i := 5) nd rfl (Or.inl rfl) pe_int iop_add)
      (pss_cons (ps_lock (ps_setDc (i := 7) (own := [("room", 2)]) (g := (gName 2)) (tt := tYes) (by rfl) nd rfl rfl (swD_true rfl rfl rfl (by decide +kernel)) (pi_keys (pv 3)) (blkOk_by (by show blkC N_lost_in (defScope s_lost_in) _ _ = true; decide +kernel)) (fun _ _ _ _ _ => (pg_name (i := 2) nd rfl (Or.inl rfl))) (fun _ _ _ _ _ => pts_nil) (fun _ _ _ _ _ => (pv 2)) (fun _ _ _ _ _ => (C8.pe_c c_losing hr (by decide) rfl (pa_cons (pv 0) (pa_cons (pv 1) (pa_cons (pv 3) (pa_cons (pv 2) pa_nil))))))))
      (pss_cons (ps_set (i := 6) nd rfl (Or.inl rfl) pe_bl)
      (pss_one (ps_lock (ps_for PassesOwn.never rfl (pi_items (pv 7)) (pg_tup rfl (pgs_cons (pg_name (i := 2) nd rfl (Or.inl rfl)) (pgs_cons (pg_name (i := 8) nd rfl (Or.inl rfl)) pgs_nil))) (pss_one (ps_if (pt_cmpR op_notN (pv 8) pe_non (nomark _)) (pss_cons (ps_dput hu (pv 4) (pv 2) (pe_op op_catT (pe_tup (pa_cons (pv 5) pa_nil)) (pv 8)) rfl)
      (pss_cons (ps_expr (pe_dpop1 (pv 3) (pv 2) ⟨rfl, rfl, rfl, rfl⟩))
      (pss_one (ps_set (i := 6) nd rfl (Or.inl rfl) pe_bl)))) pss_nil)))))))))
      (pss_one (ps_ret (pv 4)))))))), ?_⟩
    have I0 : EnvOk H ([T.d S.D, .d (encP S.d p)] ++ List.replicate 7 .u) (start N_lost_in vs) := EnvOk.start (N := N_lost_in) hv
    generalize start N_lost_in vs = σ0 at I0
    refine rss_set (dc_new (f := fun i : Nat => ((i : Int), .bl true)) I0 (it_rngN (n := S.n) (eva_cons (evx_eq (evx_lenT (ds := tb S.n fun r => S.room r) (eva_cons (evx_ixTn (i := 2) (evx_var rfl) evx_int rfl) eva_nil)) (by rw [tb_len])) eva_nil) (by omega)) (fun i t hi ht => by
      subst ht
      exact ⟨_, _, tg_name, by decide, evx_var rfl, evx_bl⟩) (fun i j _ _ h => by
      have h : (i : Int) = (j : Int) := h
      omega) (by omega) fun gd kg H1 ng s1 hg1 hg2 => ?_)
    -- found
    refine rss_set fun fd nf => ?_
    refine rss_set (rss_set ?_)
    have s2 : Same H1 (upd H1 fd (.dK [])) := same_new nf
    have I2 : EnvOk (upd H1 fd (.dK [])) (EG S p gd fd 0 true) (σ0.set 3 (some (.ref gd)) |>.set 4 (some (.ref fd)) |>.set 5 (some (.int 0)) |>.set 6 (some (.bl true))) :=
      (((((I0.mono s1).mono s2).setv (t := .v (.ref gd)) 3 rfl).setv (t := .v (.ref fd)) 4 rfl).setv (t := .d (.int 0)) 5 rfl).setv (t := .d (.bl true)) 6 rfl
    have L2 : LSt S p H (upd H1 fd (.dK [])) gd fd (itK S p 0) [] := by
      have nfg : gd ≠ fd := ne_of_none hg1 nf
      refine ⟨⟨kg, by rw [upd_ne nfg]; exact hg1, MK.mono (TupX.of s2) hg2⟩, ⟨[], upd_same, .nil⟩, nfg, ng, none_of s1 nf, s1.trans s2, itK_nodup S p 0, fun r hr => itK_lt (k := 0) hr, fun r hr => ?_, ?_⟩
      · have : r ∈ itK S p 0 := List.mem_range.mpr hr
        simp [this, keyIn]
      · simp [itK]
    show tSeq _ _ _ (((((σ0.set 3 (some (.ref gd))).set 4 (some (.ref fd))).set 5 (some (.int 0))).set 6 (some (.bl true)))) _
    generalize (σ0.set 3 (some (.ref gd)) |>.set 4 (some (.ref fd)) |>.set 5 (some (.int 0)) |>.set 6 (some (.bl true))) = σ2 at I2
    generalize upd H1 fd (.dK []) = H2 at I2 L2 s2
    refine rss_while (fun m σ H' => ∃ (k : Nat) (b : Bool) (M : List (Int × D)), EnvOk H' (EG S p gd fd k b) σ ∧ LSt S p H H' gd fd (itK S p k) M ∧ (b = true → k + (itK S p k).length ≤ S.n ∧ m = (itK S p k).length + 1) ∧ (b = false → itK S p k = keptF S p ∧ m = 0)) ⟨_, 0, true, [], I2, L2, fun _ => ⟨by simp [itK], rfl⟩, fun h => nomatch h⟩ ?_
    clear I2 L2 s2 hg1 hg2 ng s1 nf
    rintro m σ H' ⟨k, b, M, I, L, hb1, hb2⟩
    refine (evb_B (evx_var (G := EG S p gd fd k b) (i := 6) (t := .d (.bl b)) rfl)) σ H' I _ fun H3 s3 => ?_
    have I := I.mono s3
    have L := L.mono s3
    cases b with
    | false =>
      refine iteF ?_
      obtain ⟨e, _⟩ := hb2 rfl
      rw [e] at L
      refine (evx_var (G := EG S p gd fd k false) (i := 4) (t := .v (.ref fd)) rfl) σ H3 I _ fun v H4 s4 hv4 => ?_
      obtain rfl : v = .ref fd := hv4
      have L := L.mono s4
      obtain ⟨kf, f1, f2⟩ := L.hf
      exact hQ _ H4 M L.same ⟨fd, kf, rfl, f1, f2⟩ L.key
    | true =>
      obtain ⟨hk, rfl⟩ := hb1 rfl
      refine iteT ⟨fun σ' H' => ∃ m', m' < (itK S p k).length + 1 ∧ ∃ (k : Nat) (b : Bool) (M : List (Int × D)), EnvOk H' (EG S p gd fd k b) σ' ∧ LSt S p H H' gd fd (itK S p k) M ∧ (b = true → k + (itK S p k).length ≤ S.n ∧ m' = (itK S p k).length + 1) ∧ (b = false → itK S p k = keptF S p ∧ m' = 0), fun σ' H' z => z, ?_⟩
      -- rank += 1
      obtain ⟨v5, e5, z5⟩ := I.getv (i := 5) (t := .d (.int (k : Int))) rfl
      obtain rfl : v5 = .int (k : Int) := z5
      refine rss_aug ⟨_, e5, (k : Int), 1, rfl, rfl, ?_⟩
      have I : EnvOk H3 (EG S p gd fd ((k + 1 : Nat) : Int) true) (σ.set 5 (some (.int ((k : Int) + 1)))) := I.setv (t := .d (.int ((k + 1 : Nat) : Int))) (v := .int ((k : Int) + 1)) 5 rfl
      show tSeq _ _ _ (σ.set 5 (some (.int ((k : Int) + 1)))) H3
      generalize σ.set 5 (some (.int ((k : Int) + 1))) = σ3 at I
      -- whys
      obtain ⟨kg, g1, g2⟩ := L.hg
      have hl : (itK S p k).length ≤ S.n := by omega
      refine rss_lockset gd (.dK kg) g1 trivial fun od => ?_
      have tx : TupX H3 (upd H3 gd (.frz od (.dK kg))) := (SeqX.upd g1 (fun _ z => nomatch z) (fun _ z => nomatch z)).1
      have IL : EnvOk (upd H3 gd (.frz od (.dK kg))) ((EG S p gd fd ((k + 1 : Nat) : Int) true).set 3 (.fk (goodM (itK S p k)))) σ3 := by
        obtain ⟨v3, e3, z3⟩ := I.getv (i := 3) (t := .v (.ref gd)) rfl
        obtain rfl : v3 = .ref gd := z3
        refine monoT_but tx (t := .fk (goodM (itK S p k))) (o := some (.ref gd)) ⟨.ref gd, rfl, gd, kg, od, rfl, upd_same, MK.mono tx g2⟩ rfl I fun o' h' => ?_
        rw [e3] at h'
        exact (Option.some.inj h').symm
      refine dc_new (G := (EG S p gd fd ((k + 1 : Nat) : Int) true).set 3 (.fk (goodM (itK S p k)))) (f := loD S p (itK S p k)) IL (it_keysF (m := goodM (itK S p k)) (evx_var rfl)) (fun i t hi ⟨q, hq, ht⟩ => by
        subst ht
        obtain ⟨q1, q2⟩ := goodM_at hq
        refine ⟨_, _, tg_name, by decide, ?_, ?_⟩
        · exact evx_eq (evx_var rfl) (by rw [q2]; rfl)
        refine evx_call (eva_cons (evx_var rfl) (eva_cons (evx_var rfl) (eva_cons (evx_rkF (evx_var rfl)) (eva_cons (evx_eq (evx_var rfl) (by rw [q2])) eva_nil)))) ⟨S, p, itK S p k, _, b1, b2, ?_, rfl, rfl⟩
        have : (itK S p k).getD i 0 ∈ itK S p k := by
          rw [List.getD_eq_getElem?_getD, List.getElem?_eq_getElem q1]
          exact List.getElem_mem q1
        exact itK_lt this) (fun i j hi hj h => ?_) (by rw [goodM_len]; omega) fun wd wk H4 nw s4 hw1 hw2 => ?_
      · rw [goodM_len] at hi hj
        have h : (((itK S p k).getD i 0 : Nat) : Int) = (((itK S p k).getD j 0 : Nat) : Int) := h
        rw [List.getD_eq_getElem?_getD, List.getD_eq_getElem?_getD, List.getElem?_eq_getElem hi, List.getElem?_eq_getElem hj] at h
        have h : (itK S p k)[i] = (itK S p k)[j] := by
          have h : (((itK S p k)[i] : Nat) : Int) = (((itK S p k)[j] : Nat) : Int) := h
          omega
        have nd := itK_nodup S p k
        rcases Nat.lt_trichotomy i j with z | z | z
        · exact absurd h (List.pairwise_iff_getElem.mp nd i j hi hj z)
        · exact z
        · exact absurd h.symm (List.pairwise_iff_getElem.mp nd j i hj hi z)
      have hgf : H4 gd = some (.frz od (.dK kg)) := s4 _ _ upd_same
      refine ⟨hgf, ?_⟩
      have hwg : wd ≠ gd := ne_of hw1 hgf (by intro z; cases z)
      have hwf : wd ≠ fd := fun z => by
        obtain ⟨kf, f1, _⟩ := L.hf
        rw [z, upd_ne (Ne.symm L.ne), f1] at nw
        cases nw
      have hw0 : H3 wd = none := by
        rw [upd_ne hwg] at nw
        exact nw
      have s5 : Same H3 (upd H4 gd (.dK kg)) := fun b o eb => by
        by_cases hbg : b = gd
        · subst hbg
          rw [g1] at eb
          cases eb
          exact upd_same
        · rw [upd_ne hbg]
          exact s4 _ _ (by rw [upd_ne hbg]; exact eb)
      have L5 := L.mono s5
      have I5 : EnvOk (upd H4 gd (.dK kg)) _ _ := (I.mono s5).setv (t := .v (.ref wd)) (v := .ref wd) 7 rfl
      have hw5 : (upd H4 gd (.dK kg)) wd = some (.dK wk) := by rw [upd_ne hwg]; exact hw1
      have hm5 : MK (upd H4 gd (.dK kg)) wk (tb (itK S p k).length (loD S p (itK S p k))) := by
        rw [goodM_len] at hw2
        exact MK.mono (SeqX.upd hgf (fun _ z => nomatch z) (fun _ z => nomatch z)).1 hw2
      have hw6 : H wd = none := none_of L.same hw0
      clear hw2 hw1 nw s4 IL tx hgf
      generalize upd H4 gd (.dK kg) = H5 at L5 I5 hw5 hm5 s5
      -- falling = False
      refine rss_set ?_
      have I6 := I5.setv (t := .d (.bl false)) (v := .bl false) 6 rfl
      show tLock _ _ ((σ3.set 7 (some (.ref wd))).set 6 (some (.bl false))) H5
      generalize ((σ3.set 7 (some (.ref wd))).set 6 (some (.bl false))) = σ6 at I6
      have e7 : σ6[7]? = some (some (.ref wd)) := by
        obtain ⟨v7, e7, z7⟩ := I6.getv (i := 7) (t := .v (.ref wd)) rfl
        obtain rfl : v7 = .ref wd := z7
        exact e7
      refine rs_lock wd (.dK wk) hw5 trivial fun od2 => rs_forI e7 upd_same ?_
      -- as it stands with the lock taken off
      refine ⟨fun i m σ' H' => m = (itK S p k).length - i ∧ i ≤ (itK S p k).length ∧ ∃ (bi : Bool) (M : List (Int × D)), H' wd = some (.frz od2 (.dK wk)) ∧
        EnvOk H' [.d S.D, .d (encP S.d p), .u, .v (.ref gd), .v (.ref fd), .d (.int ((k + 1 : Nat) : Int)), .d (.bl bi), .v (.ref wd), .u] σ' ∧
        LSt S p H (upd H' wd (.dK wk)) gd fd (Lf S p (itK S p k) i) M ∧ MK H' wk (tb (itK S p k).length (loD S p (itK S p k))) ∧ (bi = true → (Lf S p (itK S p k) i).length < (itK S p k).length) ∧ (bi = false → Lf S p (itK S p k) i = itK S p k), ⟨_, rfl, Nat.zero_le _, ?_⟩, ?_⟩
      · refine ⟨false, M, upd_same, ?_, ?_, ?_, (fun h => nomatch h), fun _ => Lf_zero S p _⟩
        · have I7 := EnvOk.monoT (SeqX.upd (o := .frz od2 (.dK wk)) hw5 (fun _ z => nomatch z) (fun _ z => nomatch z)).1 rfl I6
          exact EnvOk.le (.cons (.inr rfl) (.cons (.inr rfl) (.cons (.inl rfl) (.cons (.inr rfl) (.cons (.inr rfl) (.cons (.inr rfl) (.cons (.inr rfl) (.cons (.inr rfl) (.cons (.inl rfl) .nil))))))))) I7
        · rw [Lf_zero]
          have e : upd (upd H5 wd (.frz od2 (.dK wk))) wd (.dK wk) = H5 := by
            funext b
            by_cases hb : b = wd
            · subst hb
              rw [upd_same, hw5]
            · rw [upd_ne hb, upd_ne hb]
          rw [e]
          exact L5
        · exact MK.mono (SeqX.upd (o := .frz od2 (.dK wk)) hw5 (fun _ z => nomatch z) (fun _ z => nomatch z)).1 hm5
      · rintro i m σ' H' ⟨rfl, hi, bi, M', hwf', I7, L7, hm7, hbi1, hbi2⟩
        have wl : wk.length = (itK S p k).length := by rw [Paired.length hm7, tb_len]
        by_cases hlt : i < (itK S p k).length
        · refine .inr ⟨⟨hwf', by omega⟩, _, fun σ2 H2 z => ⟨(itK S p k).length - (i + 1), by omega, rfl, hlt, z⟩, fun x H8 ⟨T8, kk, vv, hat, hx, hn8, hh8⟩ => ?_⟩
          subst hx hh8
          have hgi : (itK S p k)[i]? = some (itK S p k)[i] := List.getElem?_eq_getElem hlt
          obtain ⟨hk1, hk2⟩ := mk_at hm7 hat (tb_get hlt)
          have hlo : loD S p (itK S p k) i = ((((itK S p k)[i] : Nat) : Int), encL (loseF S p (inL (itK S p k)) (itK S p k)[i])) := by
            unfold loD
            rw [List.getD_eq_getElem?_getD, hgi]
            rfl
          rw [hlo] at hk1 hk2
          subst hk1
          have sT := same_new (o := .tup [kV (.inl (((itK S p k)[i] : Nat) : Int)), vv]) hn8
          have hTw : T8 ≠ wd := fun z => by
            rw [z, hwf'] at hn8
            cases hn8
          have hs8 : Same (upd H' wd (.dK wk)) (upd (upd H' T8 (.tup [kV (.inl (((itK S p k)[i] : Nat) : Int)), vv])) wd (.dK wk)) := fun b o eb => by
            by_cases hbw : b = wd
            · rw [hbw, upd_same] at eb ⊢
              exact eb
            · rw [upd_ne hbw] at eb ⊢
              exact sT _ _ eb
          have L8 := L7.mono hs8
          have hw8 : (upd H' T8 (.tup [kV (.inl (((itK S p k)[i] : Nat) : Int)), vv])) wd = some (.frz od2 (.dK wk)) := sT _ _ hwf'
          have hm8 := MK.mono (TupX.of sT) hm7
          refine (tg_tup (ds := [.int (((itK S p k)[i] : Nat) : Int), encL (loseF S p (inL (itK S p k)) (itK S p k)[i])]) (tgs_cons tg_name (tgs_cons tg_name tgs_nil))) σ' _ (I7.mono sT) (.ref T8) ⟨T8, _, rfl, upd_same, DvL.cons rfl (DvL.cons (Dv.monoT (TupX.of sT) _ _ hk2) DvL.nil)⟩ _ fun σ9 I9 _ => ?_
          generalize upd H' T8 (.tup [kV (.inl (((itK S p k)[i] : Nat) : Int)), vv]) = H8 at L8 hw8 hm8 I9
          refine rs_evif I9 (b := (loseF S p (inL (itK S p k)) (itK S p k)[i]).isSome) (evb_T (evx_notN (evx_var (i := 8) rfl) evx_non (by rw [encL_isNon, Bool.not_not]))) (fun hb H9 s9 I9 => ?_) fun hb H9 s9 I9 => ?_
          · obtain ⟨hf1, hf2⟩ := Lf_some hlt (itK_nodup S p k) hb
            have L9 : LSt S p H (upd H9 wd (.dK wk)) gd fd (Lf S p (itK S p k) i) M' := L8.mono fun b o eb => by
              by_cases hbw : b = wd
              · rw [hbw, upd_same] at eb ⊢
                exact eb
              · rw [upd_ne hbw] at eb ⊢
                exact s9 _ _ eb
            have hw9 := s9 _ _ hw8
            have hm9 := MK.mono (TupX.of s9) hm8
            obtain ⟨q, hq⟩ := Option.isSome_iff_exists.mp hb
            rw [hq] at I9
            refine rss_put ((evx_catT (ds := [.int ((k + 1 : Nat) : Int)]) (es := [.int (q.1 : Int), .int (q.2 : Int)]) (evx_tup (eva_cons (evx_var (i := 5) rfl) eva_nil)) (evx_var (i := 8) rfl) (by simp) (by simp) (by simp)) σ9 H9 I9 _ fun v10 H10 s10 hv10 => ?_)
            have I10 := I9.mono s10
            have L10 : LSt S p H (upd H10 wd (.dK wk)) gd fd (Lf S p (itK S p k) i) M' := L9.mono fun b o eb => by
              by_cases hbw : b = wd
              · rw [hbw, upd_same] at eb ⊢
                exact eb
              · rw [upd_ne hbw] at eb ⊢
                exact s10 _ _ eb
            have hw10 := s10 _ _ hw9
            have hm10 := MK.mono (TupX.of s10) hm9
            obtain ⟨v2, e2, z2⟩ := I10.getv (i := 2) (t := .d (.int (((itK S p k)[i] : Nat) : Int))) rfl
            obtain rfl : v2 = .int (((itK S p k)[i] : Nat) : Int) := z2
            obtain ⟨v3, e3, z3⟩ := I10.getv (i := 3) (t := .v (.ref gd)) rfl
            obtain rfl : v3 = .ref gd := z3
            obtain ⟨v4, e4, z4⟩ := I10.getv (i := 4) (t := .v (.ref fd)) rfl
            obtain rfl : v4 = .ref fd := z4
            obtain ⟨kg, g1, g2⟩ := L10.hg
            obtain ⟨kf, f1, f2⟩ := L10.hf
            have g1' : H10 gd = some (.dK kg) := by
              rw [upd_ne (Ne.symm hwg)] at g1
              exact g1
            have f1' : H10 fd = some (.dK kf) := by
              rw [upd_ne (Ne.symm hwf)] at f1
              exact f1
            have kfl : kf.length ≤ S.n := by
              have h1 := Paired.length f2
              have h2 := L10.len
              omega
            obtain ⟨zz, hz1, hz2⟩ := valV_lookK g2 (lookK_goodM hf2)
            refine ⟨_, e4, _, e2, fd, _, rfl, DPut.k (k := .inl (((itK S p k)[i] : Nat) : Int)) f1' (len_lt (by omega)), ?_⟩
            have g1p : (upd H10 fd (.dK (putK kf (.inl (((itK S p k)[i] : Nat) : Int)) v10))) gd = some (.dK kg) := by
              rw [upd_ne L10.ne]
              exact g1'
            refine rss_drop ⟨_, e3, gd, rfl, .inl ⟨kg, .inl g1p⟩, _, e2, kg, .inl (((itK S p k)[i] : Nat) : Int), zz, g1p, rfl, hz1, ?_⟩
            refine rs_set ?_
            have t1 := (SeqX.upd (o := .dK (putK kf (.inl (((itK S p k)[i] : Nat) : Int)) v10)) f1' (fun _ z => nomatch z) (fun _ z => nomatch z)).1
            have t2 := (SeqX.upd (o := .dK (dropK kg (.inl (((itK S p k)[i] : Nat) : Int)))) g1p (fun _ z => nomatch z) (fun _ z => nomatch z)).1
            have t3 := t1.trans t2
            have LD := L10.drop hf2 (d := .tup [.int ((k + 1 : Nat) : Int), .int (q.1 : Int), .int (q.2 : Int)]) (z := v10) (Dv.monoT (SeqX.upd (o := .dK wk) hw10 (fun _ z => nomatch z) (fun _ z => nomatch z)).1 _ _ hv10) g1 f1
            rw [hf1] at LD
            have ec : upd (upd (upd H10 wd (.dK wk)) fd (.dK (putK kf (.inl (((itK S p k)[i] : Nat) : Int)) v10))) gd (.dK (dropK kg (.inl (((itK S p k)[i] : Nat) : Int)))) = upd (upd (upd H10 fd (.dK (putK kf (.inl (((itK S p k)[i] : Nat) : Int)) v10))) gd (.dK (dropK kg (.inl (((itK S p k)[i] : Nat) : Int))))) wd (.dK wk) := by
              funext b
              by_cases h1 : b = wd
              · rw [h1, upd_same, upd_ne hwg, upd_ne hwf, upd_same]
              · rw [upd_ne h1]
                by_cases h2 : b = gd
                · rw [h2, upd_same, upd_same]
                · rw [upd_ne h2, upd_ne h2]
                  by_cases h3 : b = fd
                  · rw [h3, upd_same, upd_same]
                  · rw [upd_ne h3, upd_ne h3, upd_ne h1]
            rw [ec] at LD
            refine ⟨true, _, by rw [upd_ne hwg, upd_ne hwf]; exact hw10, ?_, LD, MK.mono t3 hm10, fun _ => ?_, fun h => nomatch h⟩
            · have I11 := (EnvOk.monoT t3 rfl I10).setv (t := .d (.bl true)) (v := .bl true) 6 rfl
              exact EnvOk.le (.cons (.inr rfl) (.cons (.inr rfl) (.cons (.inl rfl) (.cons (.inr rfl) (.cons (.inr rfl) (.cons (.inr rfl) (.cons (.inr rfl) (.cons (.inr rfl) (.cons (.inl rfl) .nil))))))))) I11
            · have h1 := filter_ne_len L10.nd hf2
              rw [hf1] at h1
              have h2 : (Lf S p (itK S p k) i).length ≤ (itK S p k).length := List.length_filter_le _ _
              omega
          · have ef := Lf_none hlt hb
            have L9 : LSt S p H (upd H9 wd (.dK wk)) gd fd (Lf S p (itK S p k) i) M' := L8.mono fun b o eb => by
              by_cases hbw : b = wd
              · rw [hbw, upd_same] at eb ⊢
                exact eb
              · rw [upd_ne hbw] at eb ⊢
                exact s9 _ _ eb
            refine rs_next ⟨bi, M', s9 _ _ hw8, ?_, by rw [ef]; exact L9, MK.mono (TupX.of s9) hm8, by rw [ef]; exact hbi1, by rw [ef]; exact hbi2⟩
            exact EnvOk.le (.cons (.inr rfl) (.cons (.inr rfl) (.cons (.inl rfl) (.cons (.inr rfl) (.cons (.inr rfl) (.cons (.inr rfl) (.cons (.inr rfl) (.cons (.inr rfl) (.cons (.inl rfl) .nil))))))))) I9
        · obtain rfl : i = (itK S p k).length := by omega
          refine .inl ⟨⟨hwf', by omega⟩, hwf', ?_⟩
          rw [Lf_all] at L7 hbi1 hbi2
          refine ⟨if bi then (itK S p (k + 1)).length + 1 else 0, ?_, k + 1, bi, M', ?_, L7, fun h => ?_, fun h => ?_⟩
          · cases bi with
            | true => have := hbi1 rfl; show (stepK S p (itK S p k)).length + 1 < _; omega
            | false => show 0 < _; omega
          · have I8 := EnvOk.monoT (SeqX.upd (o := .dK wk) hwf' (fun _ z => nomatch z) (fun _ z => nomatch z)).1 rfl I7
            exact EnvOk.le (.cons (.inr rfl) (.cons (.inr rfl) (.cons (.inl rfl) (.cons (.inr rfl) (.cons (.inr rfl) (.cons (.inr rfl) (.cons (.inr rfl) (.cons (.inl rfl) (.cons (.inl rfl) .nil))))))))) I8
          · subst h
            have := hbi1 rfl
            exact ⟨by show k + 1 + (stepK S p (itK S p k)).length ≤ S.n; omega, rfl⟩
          · subst h
            have e := hbi2 rfl
            exact ⟨itK_kept e (by omega), rfl⟩
end
end Mw

namespace Mw
open PySem PySem.Spec PyProof.Rows L2
section
variable {P : Program} {w : World} {K : PySem.W.Frag} {mg : Str → Option Value} {base : Heap} {G : List T} {ta tb' : TE}
theorem keptF_nodup (S : Sy) (p : Pr) : (keptF S p).Nodup := itK_nodup S p _
theorem keptF_lt {S : Sy} {p : Pr} {r : Nat} (h : r ∈ keptF S p) : r < S.n := itK_lt h
theorem itK_filter (S : Sy) (p : Pr) : ∀ k, ∃ f : Nat → Bool, itK S p k = (List.range S.n).filter f
  | 0 => ⟨fun _ => true, (List.filter_eq_self.mpr fun _ _ => rfl).symm⟩
  | k + 1 => by
    obtain ⟨f, hf⟩ := itK_filter S p k
    refine ⟨fun r => (loseF S p (inL (itK S p k)) r).isNone && f r, ?_⟩
    show (itK S p k).filter _ = _
    conv => lhs; rw [hf]
    rw [List.filter_filter, ← hf]
theorem keptF_range (S : Sy) (p : Pr) : (List.range S.n).filter (inL (keptF S p)) = keptF S p := by
  obtain ⟨f, hf⟩ := itK_filter S p S.n
  have hf : keptF S p = (List.range S.n).filter f := hf
  have e : ∀ r ∈ List.range S.n, inL (keptF S p) r = f r := fun r hr => by
    unfold inL
    rw [hf, Bool.eq_iff_iff, decide_eq_true_eq, List.mem_filter]
    exact ⟨fun h => h.2, fun h => ⟨hr, h⟩⟩
  rw [List.filter_congr e]
  exact hf.symm
abbrev N_kept_in : List Str := ["saying", "prices", "lost", "room"]
theorem sc_kept_in : FnScope N_kept_in ["saying", "prices"] (defScope s_kept_in) := C8.fnScope_by (by decide +kernel)

def R_kept_in (ts : List T) (t : T) : Prop := ∃ (S : Sy) (p : Pr), S.d ≤ 1000 ∧ S.s ≤ 1000 ∧ S.n ≤ 1000 ∧ ts = [.d S.D, .d (encP S.d p)] ∧ t = .d (.tup (intD (keptF S p)))
theorem cal_kept_in (F : MDef K mg "kept_in" s_kept_in) (g : Glo mg) (c_lost_in : C8.Cal P w K mg base 5 "lost_in" spLost []) : C8.Cal P w K mg base 6 "kept_in" (spX R_kept_in) [] :=
  cal_pure F sc_kept_in (fun _ _ _ _ _ _ us hl => match us, hl with | [_, _], _ => rfl) (fun ts t ⟨_, _, _, _, _, e, _⟩ => by rw [e]; rfl) fun f cdv A outer s H E hr ts t ⟨S, p, b1, b2, b3, e1, e2⟩ => by
    subst e1 e2
    have nd := sc_kept_in.nd
    have hu := hu_of hr
    refine ⟨_, (pss_cons (ps_set (i := 2) nd rfl (Or.inr rfl) (C8.pe_c c_lost_in hr (by decide) rfl (pa_cons (pv 0) (pa_cons (pv 1) pa_nil))))
      (pss_one (ps_ret (pe_callTy (r := rTupK K) call_tuple_of (by rfl) g.tuple (by decide +kernel) (pa_cons (pe_lc (own := [("room", 3)]) (g := (gName 3)) rfl nd (pi_range1 rfl g.range (pa_cons (pe_callB (r := rLenK K) call_len_seq (by rfl) g.len PySem.boot_len (pa_cons (pe_ix (r := rIxT K) ix_tup (pv 0) pe_int (fun _ _ => rfl)) pa_nil)) pa_nil)) (blkOk_by (by show blkC N_kept_in (defScope s_kept_in) _ _ = true; decide +kernel)) (fun _ _ _ _ _ => (pg_name (i := 3) nd rfl (Or.inl rfl))) (fun _ _ _ _ _ => (pts_one (pt_cmp (pc_dnotin hu (pv 3) (pv 2))))) (fun _ _ _ _ _ => (pv 3))) pa_nil))))), ?_⟩
    intro En hD hN σ H1 s1 I1
    refine rss_set ((eva_cons (evx_var (i := 0) (t := .d S.D) rfl) (eva_cons (evx_var (i := 1) (t := .d (encP S.d p)) rfl) eva_nil)) σ H1 I1 _ fun vs H2 s2 hvs => ?_)
    rw [List.append_nil]
    refine ⟨S, p, b1, b2, b3, hvs, fun v H3 m s3 hv hm => ?_⟩
    refine rs_st (G := ([T.d S.D, T.d (encP S.d p)] ++ List.replicate 2 T.u).set 2 (.dk m)) (H0 := H) ?_ ((s1.trans s2).trans s3) (((I1.mono s2).mono s3).setv 2 hv)
    refine st_ret (evx_tuple (ds := intD (keptF S p)) (eva_cons (evx_eq (evx_lcR (p := inL (keptF S p)) (h := fun n : Nat => .int (n : Int)) (it_rngN (n := S.n) (eva_cons (evx_eq (evx_lenT (eva_cons (evx_ixTn (i := 2) (evx_var rfl) evx_int rfl) eva_nil)) (by rw [tb_len])) eva_nil) (by omega)) (fun r hr' => .tst tg_name (by decide) (evb_B (evx_dnin (evx_var rfl) (evx_var rfl) ?_)) fun _ => evx_var rfl) (by omega)) ?_) eva_nil)) hD
    · rw [hm r hr', Bool.not_not]
      rfl
    · rw [keptF_range]
abbrev N_need_both : List Str := ["saying", "prices"]
theorem sc_need_both : FnScope N_need_both ["saying", "prices"] (defScope s_need_both) := C8.fnScope_by (by decide +kernel)

def R_need_both (ts : List T) (t : T) : Prop := ∃ (S : Sy) (p : Pr), S.Valid ∧ PrOk S.d p ∧ ts = [.d S.D, .d (encP S.d p)] ∧ t = .d .non
theorem cal_need_both (F : MDef K mg "need_both" s_need_both) (g : Glo mg) (c_need_saying : C8.Cal P w K mg base 5 "need_saying" (spX R_need_saying) []) (c_need_prices : C8.Cal P w K mg base 4 "need_prices" (spX R_need_prices) []) : C8.Cal P w K mg base 6 "need_both" (spX R_need_both) [] :=
  cal_pure F sc_need_both (fun _ _ _ _ _ _ us hl => match us, hl with | [_, _], _ => rfl) (fun ts t ⟨_, _, _, _, e, _⟩ => by rw [e]; rfl) fun f cdv A outer s H E hr ts t ⟨S, p, b1, b2, e1, e2⟩ => by
    subst e1 e2
    have nd := sc_need_both.nd
    have hu := hu_of hr
    refine ⟨_, (pss_cons (ps_expr (C8.pe_c c_need_saying hr (by decide) rfl (pa_cons (pv 0) pa_nil)))
      (pss_one (ps_expr (C8.pe_c c_need_prices hr (by decide) rfl (pa_cons (pe_ix (r := rIxT K) ix_tup (pv 0) pe_int (fun _ _ => rfl)) (pa_cons (pv 1) pa_nil)))))), ?_⟩
    intro En hD hN
    have hd : S.d ≤ 1000 := by have := b1.2.1.2; omega
    refine st_seq (st_drop (evx_call (eva_cons (evx_var rfl) eva_nil) ⟨S, b1, rfl, rfl⟩) ?_)
    exact st_drop (evx_call (eva_cons (evx_ixTn (i := 1) (evx_var rfl) evx_int rfl) (eva_cons (evx_var rfl) eva_nil)) ⟨S.d, p, hd, b2, rfl, rfl⟩) fun σ H' s _ => hN rfl σ H' s
abbrev N_need_kept : List Str := ["saying", "prices", "kept"]
theorem sc_need_kept : FnScope N_need_kept ["saying", "prices"] (defScope s_need_kept) := C8.fnScope_by (by decide +kernel)

def R_need_kept (ts : List T) (t : T) : Prop := ∃ (S : Sy) (p : Pr), S.d ≤ 1000 ∧ S.s ≤ 1000 ∧ S.n ≤ 1000 ∧ 0 ∈ keptF S p ∧ ts = [.d S.D, .d (encP S.d p)] ∧ t = .d (.tup (intD (keptF S p)))
theorem cal_need_kept (F : MDef K mg "need_kept" s_need_kept) (g : Glo mg) (c_kept_in : C8.Cal P w K mg base 6 "kept_in" (spX R_kept_in) []) : C8.Cal P w K mg base 7 "need_kept" (spX R_need_kept) [] :=
  cal_pure F sc_need_kept (fun _ _ _ _ _ _ us hl => match us, hl with | [_, _], _ => rfl) (fun ts t ⟨_, _, _, _, _, _, e, _⟩ => by rw [e]; rfl) fun f cdv A outer s H E hr ts t ⟨S, p, b1, b2, b3, h0, e1, e2⟩ => by
    subst e1 e2
    have nd := sc_need_kept.nd
    have hu := hu_of hr
    refine ⟨_, (pss_cons (ps_set (i := 2) nd rfl (Or.inl rfl) (C8.pe_c c_kept_in hr (by decide) rfl (pa_cons (pv 0) (pa_cons (pv 1) pa_nil))))
      (pss_cons (ps_if (pt_cmpR (r := rIn K true) op_notIn_seq pe_int (pv 2) rfl) pss_never pss_nil)
      (pss_one (ps_ret (pv 2))))), ?_⟩
    intro En hD hN
    refine st_seq (st_asg (evx_call (eva_cons (evx_var rfl) (eva_cons (evx_var rfl) eva_nil)) ⟨S, p, b1, b2, b3, rfl, rfl⟩) tg_name ?_)
    refine st_seq (st_if (b := false) (evb_T (evx_ninT (o := some 0) (l := keptF S p) evx_int (evx_var rfl) (by simp [inO, h0]))) (fun h => nomatch h) fun _ => st_next ?_)
    exact st_ret (evx_var rfl) hD
end
end Mw

namespace Mw
open PySem PySem.Spec PyProof.Rows L2
def Wa.Valid (W : Wa) : Prop := (1 ≤ W.s ∧ W.s ≤ 9) ∧ (1 ≤ W.d ∧ W.d ≤ 9) ∧ (1 ≤ W.n ∧ W.n ≤ 100) ∧ ∀ q g x, q < W.n → g < W.s → x < W.d → W.g q g x < W.d ∧ W.t q g x < W.n
section
variable {P : Program} {w : World} {K : PySem.W.Frag} {mg : Str → Option Value} {base : Heap} {G : List T} {ta tb' : TE}
theorem below_true {i n : Nat} (h : i < n) : (decide ((0 : Int) ≤ (i : Int)) && decide ((i : Int) < (n : Int))) = true := by
  rw [Bool.and_eq_true, decide_eq_true_eq, decide_eq_true_eq]
  omega
abbrev N_is_cell : List Str := ["thing", "deeds", "many"]
theorem sc_is_cell : FnScope N_is_cell ["thing", "deeds", "many"] (defScope s_is_cell) := C8.fnScope_by (by decide +kernel)

def R_is_cell (ts : List T) (t : T) : Prop := ∃ (a b d n : Nat), a < d ∧ b < n ∧ ts = [.d (.tup [.int (a : Int), .int (b : Int)]), .d (.int (d : Int)), .d (.int (n : Int))] ∧ t = .d (.bl true)
theorem cal_is_cell (F : MDef K mg "is_cell" s_is_cell) (g : Glo mg) (c_is_row : C8.Cal P w K mg base 1 "is_row" (spX R_is_row) []) (c_is_below : C8.Cal P w K mg base 2 "is_below" (spX R_is_below) []) : C8.Cal P w K mg base 3 "is_cell" (spX R_is_cell) [] :=
  cal_pure F sc_is_cell (fun _ _ _ _ _ _ us hl => match us, hl with | [_, _, _], _ => rfl) (fun ts t ⟨_, _, _, _, _, _, e, _⟩ => by rw [e]; rfl) fun f cdv A outer s H E hr ts t ⟨a, b, d, n, h1, h2, e1, e2⟩ => by
    subst e1 e2
    have nd := sc_is_cell.nd
    have hu := hu_of hr
    refine ⟨_, (pss_one (ps_ret (pe_and (C8.pe_c c_is_row hr (by decide) rfl (pa_cons (pv 0) (pa_cons pe_int pa_nil))) (pe_and (C8.pe_c c_is_below hr (by decide) rfl (pa_cons (pe_ix (r := rIxT K) ix_tup (pv 0) pe_int (fun _ _ => rfl)) (pa_cons (pv 1) pa_nil))) (pe_one (C8.pe_c c_is_below hr (by decide) rfl (pa_cons (pe_ix (r := rIxT K) ix_tup (pv 0) pe_int (fun _ _ => rfl)) (pa_cons (pv 2) pa_nil)))))))), ?_⟩
    intro En hD hN
    refine st_ret (evx_eq (evx_andV (evx_call (eva_cons (evx_var rfl) (eva_cons evx_int eva_nil)) ⟨_, 2, rfl, rfl, rfl⟩) fun _ => evx_andV (evx_call (eva_cons (evx_ixTn (i := 0) (evx_var rfl) evx_int rfl) (eva_cons (evx_var rfl) eva_nil)) ⟨_, _, rfl, rfl⟩) fun _ => evx_call (eva_cons (evx_ixTn (i := 1) (evx_var rfl) evx_int rfl) (eva_cons (evx_var rfl) eva_nil)) ⟨_, _, rfl, rfl⟩) ?_) hD
    rw [below_true h1, below_true h2]
    rfl
abbrev N_is_state : List Str := ["thing", "signs", "deeds", "many", "row", "cell"]
theorem sc_is_state : FnScope N_is_state ["thing", "signs", "deeds", "many"] (defScope s_is_state) := C8.fnScope_by (by decide +kernel)

def R_is_state (ts : List T) (t : T) : Prop := ∃ (W : Wa) (q : Nat), W.Valid ∧ q < W.n ∧ ts = [.d (W.state q), .d (.int (W.s : Int)), .d (.int (W.d : Int)), .d (.int (W.n : Int))] ∧ t = .d (.bl true)
theorem cal_is_state (F : MDef K mg "is_state" s_is_state) (g : Glo mg) (c_is_row : C8.Cal P w K mg base 1 "is_row" (spX R_is_row) []) (c_is_cell : C8.Cal P w K mg base 3 "is_cell" (spX R_is_cell) []) : C8.Cal P w K mg base 4 "is_state" (spX R_is_state) [] :=
  cal_pure F sc_is_state (fun _ _ _ _ _ _ us hl => match us, hl with | [_, _, _, _], _ => rfl) (fun ts t ⟨_, _, _, _, e, _⟩ => by rw [e]; rfl) fun f cdv A outer s H E hr ts t ⟨W, q, hW, hq, e1, e2⟩ => by
    subst e1 e2
    have nd := sc_is_state.nd
    have hu := hu_of hr
    refine ⟨_, (pss_cons (ps_if (pt_not (pt_val (C8.pe_c c_is_row hr (by decide) rfl (pa_cons (pv 0) (pa_cons (pv 1) pa_nil))))) (pss_one (ps_ret pe_bl)) pss_nil)
      (pss_cons (ps_for PassesOwn.never rfl (pi_tupK (K := K) rfl (pv 0)) (pg_name (i := 4) nd rfl (Or.inl rfl)) (pss_one (ps_if (PW.pt (pw_or (pt_not (pt_val (C8.pe_c c_is_row hr (by decide) rfl (pa_cons (pv 4) (pa_cons (pv 2) pa_nil))))) (pw_or1 (pt_not (pt_val (pe_callB (r := rAll K) (cr_all rfl) (by rfl) g.all (by decide +kernel) (pa_cons (pe_lc (own := [("cell", 5)]) (g := (gName 5)) (tt := tYes) rfl nd (pi_tupK (K := K) rfl (pv 4)) (blkOk_by (by show blkC N_is_state (defScope s_is_state) _ _ = true; decide +kernel)) (fun _ _ _ _ _ => (pg_name (i := 5) nd rfl (Or.inl rfl))) (fun _ _ _ _ _ => pts_nil) (fun _ _ _ _ _ => (C8.pe_c c_is_cell hr (by decide) rfl (pa_cons (pv 5) (pa_cons (pv 2) (pa_cons (pv 3) pa_nil)))))) pa_nil))))))) (pss_one (ps_ret pe_bl)) pss_nil)))
      (pss_one (ps_ret pe_bl)))), ?_⟩
    intro En hD hN
    have hd : W.d ≤ 9 := hW.2.1.2
    refine st_seq (st_if (b := false) (evb_not (x := true) (evb_B (evx_call (eva_cons (evx_var rfl) (eva_cons (evx_var rfl) eva_nil)) ⟨_, _, rfl, tb_len _ _, rfl⟩))) (fun h => nomatch h) fun _ => st_next ?_)
    refine st_seq (st_for (it_tb (α := Unit) (it_tup (evx_var rfl))) (fun _ => True) trivial (fun Hb hs i t hi ht _ => ?_) fun _ => ?_)
    · subst ht
      refine ⟨_, _, tg_name, st_if (b := false) (evb_eq (evb_or (evb_not (x := true) (evb_B (evx_call (eva_cons (evx_var rfl) (eva_cons (evx_var rfl) eva_nil)) ⟨_, _, rfl, tb_len _ _, rfl⟩))) fun _ => evb_not (evb_B (evx_all (bs := tb W.d fun _ => true) (eva_cons ?_ eva_nil)))) ?_) (fun h => nomatch h) fun _ => st_next (nx_turn ?_ trivial)⟩
      · have e : (tb W.d fun _ => true).map Mw.D.bl = tb W.d fun _ => Mw.D.bl true := by simp [tb]
        rw [e]
        refine evx_lcF (it_tb (α := Unit) (it_tup (evx_var rfl))) (fun j t hj ht => ?_) (by omega)
        subst ht
        obtain ⟨z1, z2⟩ := hW.2.2.2 q i j hq hi hj
        exact .mk tg_name (by decide) (evx_call (eva_cons (evx_var rfl) (eva_cons (evx_var rfl) (eva_cons (evx_var rfl) eva_nil))) ⟨_, _, _, _, z1, z2, rfl, rfl⟩)
      · rw [all_tb]
        rfl
      · repeat (first | exact .nil | refine .cons (.inr rfl) ?_ | refine .cons (.inl rfl) ?_)
    · exact st_ret evx_bl hD
abbrev N_is_watcher : List Str := ["thing", "signs", "deeds", "states", "state"]
theorem sc_is_watcher : FnScope N_is_watcher ["thing"] (defScope s_is_watcher) := C8.fnScope_by (by decide +kernel)

def R_is_watcher (ts : List T) (t : T) : Prop := ∃ W : Wa, W.Valid ∧ ts = [.d W.D] ∧ t = .d (.bl true)
theorem cal_is_watcher (F : MDef K mg "is_watcher" s_is_watcher) (g : Glo mg) (c_is_row : C8.Cal P w K mg base 1 "is_row" (spX R_is_row) []) (c_is_count : C8.Cal P w K mg base 2 "is_count" (spX R_is_count) []) (c_is_state : C8.Cal P w K mg base 4 "is_state" (spX R_is_state) []) : C8.Cal P w K mg base 5 "is_watcher" (spX R_is_watcher) [] :=
  cal_pure F sc_is_watcher (fun _ _ _ _ _ _ us hl => match us, hl with | [_], _ => rfl) (fun ts t ⟨_, _, e, _⟩ => by rw [e]; rfl) fun f cdv A outer s H E hr ts t ⟨W, hW, e1, e2⟩ => by
    subst e1 e2
    have nd := sc_is_watcher.nd
    have hu := hu_of hr
    refine ⟨_, (pss_cons (ps_if (pt_not (pt_val (C8.pe_c c_is_row hr (by decide) rfl (pa_cons (pv 0) (pa_cons pe_int pa_nil))))) (pss_one (ps_ret pe_bl)) pss_nil)
      (pss_cons (ps_asg (pv 0) (pg_tup rfl (pgs_cons (pg_name (i := 1) nd rfl (Or.inr rfl)) (pgs_cons (pg_name (i := 2) nd rfl (Or.inr rfl)) (pgs_cons (pg_name (i := 3) nd rfl (Or.inr rfl)) pgs_nil)))))
      (pss_cons (ps_if (PW.pt (pw_or (pt_not (pt_val (C8.pe_c c_is_count hr (by decide) rfl (pa_cons (pv 1) pa_nil)))) (pw_or (pt_not (pt_val (C8.pe_c c_is_count hr (by decide) rfl (pa_cons (pv 2) pa_nil)))) (pw_or1 (pt_not (pt_val (pe_callB (r := rIsi K) call_isi (by rfl) g.isinstance (by decide +kernel) (pa_cons (pv 3) (pa_cons (pe_bltn (v := .ty "tuple") (u := .type "tuple") (by rfl) g.tuple (by decide +kernel) rfl) pa_nil))))))))) (pss_one (ps_ret pe_bl)) pss_nil)
      (pss_one (ps_ret (pe_and (pe_chain op_le op_le pe_int (pe_callB (r := rLenK K) call_len_seq (by rfl) g.len PySem.boot_len (pa_cons (pv 3) pa_nil)) (pe_glob (v := .int 100) rfl g.MOST.choose_spec ⟨_, rfl⟩)) (pe_one (pe_callB (r := rAll K) (cr_all rfl) (by rfl) g.all (by decide +kernel) (pa_cons (pe_lc (own := [("state", 4)]) (g := (gName 4)) (tt := tYes) rfl nd (pi_tupK (K := K) rfl (pv 3)) (blkOk_by (by show blkC N_is_watcher (defScope s_is_watcher) _ _ = true; decide +kernel)) (fun _ _ _ _ _ => (pg_name (i := 4) nd rfl (Or.inl rfl))) (fun _ _ _ _ _ => pts_nil) (fun _ _ _ _ _ => (C8.pe_c c_is_state hr (by decide) rfl (pa_cons (pv 4) (pa_cons (pv 1) (pa_cons (pv 2) (pa_cons (pe_callB (r := rLenK K) call_len_seq (by rfl) g.len PySem.boot_len (pa_cons (pv 3) pa_nil)) pa_nil))))))) pa_nil))))))))), ?_⟩
    intro En hD hN
    have hW' := hW
    obtain ⟨⟨a1, a2⟩, ⟨b1, b2⟩, ⟨c1, c2⟩, _⟩ := hW'
    refine st_seq (st_if (b := false) (evb_not (x := true) (evb_B (evx_call (eva_cons (evx_var rfl) (eva_cons evx_int eva_nil)) ⟨_, 3, rfl, rfl, rfl⟩))) (fun h => nomatch h) fun _ => st_next ?_)
    refine st_seq (st_asg (evx_var rfl) (tg_tup (tgs_cons tg_name (tgs_cons tg_name (tgs_cons tg_name tgs_nil)))) ?_)
    refine st_seq (st_if (b := false) (evb_eq (evb_or (evb_not (evb_B (evx_call (eva_cons (evx_var rfl) eva_nil) ⟨_, rfl, rfl⟩))) fun _ => evb_or (evb_not (evb_B (evx_call (eva_cons (evx_var rfl) eva_nil) ⟨_, rfl, rfl⟩))) fun _ => evb_not (evb_B (evx_isi (eva_cons (evx_var rfl) (eva_cons evx_cv eva_nil)) (kit_tuple _)))) ?_) (fun h => nomatch h) fun _ => st_next ?_)
    · have h1 : decide ((1 : Int) ≤ (W.s : Int)) = true := by simp; omega
      have h2 : decide ((W.s : Int) ≤ 9) = true := by simp; omega
      have h3 : decide ((1 : Int) ≤ (W.d : Int)) = true := by simp; omega
      have h4 : decide ((W.d : Int) ≤ 9) = true := by simp; omega
      rw [h1, h2, h3, h4]
      rfl
    refine st_ret (evx_eq (evx_andV (evx_chain evx_int (evx_lenT (eva_cons (evx_var rfl) eva_nil)) evx_cv) fun _ => evx_all (bs := tb W.n fun _ => true) (eva_cons ?_ eva_nil)) ?_) hD
    · have e : (tb W.n fun _ => true).map D.bl = tb W.n fun _ => D.bl true := by simp [tb]
      rw [e]
      refine evx_lcF (it_tb (α := Unit) (it_tup (evx_var rfl))) (fun i t hi ht => ?_) (by omega)
      subst ht
      refine .mk tg_name (by decide) (evx_call (eva_cons (evx_var rfl) (eva_cons (evx_var rfl) (eva_cons (evx_var rfl) (eva_cons (evx_lenT (eva_cons (evx_var rfl) eva_nil)) eva_nil)))) ⟨W, i, hW, hi, ?_, rfl⟩)
      rw [tb_len]
    · rw [all_tb, tb_len]
      have h1 : decide ((1 : Int) ≤ (W.n : Int)) = true := by simp; omega
      have h2 : decide ((W.n : Int) ≤ 100) = true := by simp; omega
      rw [h1, h2]
      rfl
abbrev N_need_watcher : List Str := ["thing"]
theorem sc_need_watcher : FnScope N_need_watcher ["thing"] (defScope s_need_watcher) := C8.fnScope_by (by decide +kernel)

def R_need_watcher (ts : List T) (t : T) : Prop := ∃ W : Wa, W.Valid ∧ ts = [.d W.D] ∧ t = .d .non
theorem cal_need_watcher (F : MDef K mg "need_watcher" s_need_watcher) (g : Glo mg) (c_is_watcher : C8.Cal P w K mg base 5 "is_watcher" (spX R_is_watcher) []) : C8.Cal P w K mg base 6 "need_watcher" (spX R_need_watcher) [] :=
  cal_pure F sc_need_watcher (fun _ _ _ _ _ _ us hl => match us, hl with | [_], _ => rfl) (fun ts t ⟨_, _, e, _⟩ => by rw [e]; rfl) fun f cdv A outer s H E hr ts t ⟨W, hW, e1, e2⟩ => by
    subst e1 e2
    have nd := sc_need_watcher.nd
    have hu := hu_of hr
    refine ⟨_, (pss_one (ps_if (pt_not (pt_val (C8.pe_c c_is_watcher hr (by decide) rfl (pa_cons (pv 0) pa_nil)))) pss_never pss_nil)), ?_⟩
    intro En hD hN
    exact st_if (b := false) (evb_not (x := true) (evb_B (evx_call (eva_cons (evx_var rfl) eva_nil) ⟨W, hW, rfl, rfl⟩))) (fun h => nomatch h) fun _ => st_next fun σ H' s _ => hN rfl σ H' s
/-! ### the choices -/
def spotsL (S : Sy) (L : List Nat) : List (Nat × Nat × Nat) := L.flatMap fun r => (List.range S.s).flatMap fun g => (List.range S.d).map fun x => (r, g, x)
@[reducible] def key3 (q : Nat × Nat × Nat) : List Int := [(q.1 : Int), (q.2.1 : Int), (q.2.2 : Int)]
theorem spotsL_mem {S : Sy} {L : List Nat} {q : Nat × Nat × Nat} : q ∈ spotsL S L ↔ q.1 ∈ L ∧ q.2.1 < S.s ∧ q.2.2 < S.d := by
  obtain ⟨a, b, c⟩ := q
  simp only [spotsL, List.mem_flatMap, List.mem_map, List.mem_range, Prod.mk.injEq]
  constructor
  · rintro ⟨r, hr, g, hg, x, hx, rfl, rfl, rfl⟩
    exact ⟨hr, hg, hx⟩
  · rintro ⟨h1, h2, h3⟩
    exact ⟨a, h1, b, h2, c, h3, rfl, rfl, rfl⟩
theorem nodup_flatMap {α β : Type} {l : List α} {f : α → List β} (h1 : l.Nodup) (h2 : ∀ a ∈ l, (f a).Nodup) (h3 : ∀ a ∈ l, ∀ b ∈ l, a ≠ b → ∀ x ∈ f a, x ∉ f b) : (l.flatMap f).Nodup := by
  induction l with
  | nil => exact List.nodup_nil
  | cons a l ih =>
    rw [List.flatMap_cons, List.nodup_append]
    rw [List.nodup_cons] at h1
    refine ⟨h2 a List.mem_cons_self, ih h1.2 (fun b hb => h2 b (List.mem_cons_of_mem _ hb)) fun b hb c hc => h3 b (List.mem_cons_of_mem _ hb) c (List.mem_cons_of_mem _ hc), fun x hx y hy => ?_⟩
    obtain ⟨b, hb, hy⟩ := List.mem_flatMap.mp hy
    rintro rfl
    exact h3 a List.mem_cons_self b (List.mem_cons_of_mem _ hb) (fun e => h1.1 (e ▸ hb)) x hx hy
theorem spotsL_nodup {S : Sy} {L : List Nat} (h : L.Nodup) : (spotsL S L).Nodup := by
  refine nodup_flatMap h (fun r _ => nodup_flatMap List.nodup_range (fun g _ => ?_) fun g _ g' _ hn x hx hx' => ?_) fun r _ r' _ hn x hx hx' => ?_
  · rw [List.Nodup, List.pairwise_map]
    exact List.Pairwise.imp (fun hab e => hab (congrArg (fun q : Nat × Nat × Nat => q.2.2) e)) List.nodup_range
  · obtain ⟨a, _, rfl⟩ := List.mem_map.mp hx
    obtain ⟨b, _, e⟩ := List.mem_map.mp hx'
    exact hn (congrArg (fun q : Nat × Nat × Nat => q.2.1) e).symm
  · obtain ⟨a, _, hx⟩ := List.mem_flatMap.mp hx
    obtain ⟨b, _, hx'⟩ := List.mem_flatMap.mp hx'
    obtain ⟨c, _, rfl⟩ := List.mem_map.mp hx
    obtain ⟨e, _, e'⟩ := List.mem_map.mp hx'
    exact hn (congrArg (fun q : Nat × Nat × Nat => q.1) e').symm
theorem flatMap_len {α β : Type} {f : α → List β} {n : Nat} : ∀ {l : List α}, (∀ a ∈ l, (f a).length = n) → (l.flatMap f).length = l.length * n
  | [], _ => by simp
  | a :: l, h => by
    rw [List.flatMap_cons, List.length_append, h a List.mem_cons_self, flatMap_len fun b hb => h b (List.mem_cons_of_mem _ hb), List.length_cons, Nat.succ_mul]
    omega
theorem spotsL_len (S : Sy) (L : List Nat) : (spotsL S L).length = L.length * (S.s * S.d) := by
  refine flatMap_len fun r _ => ?_
  rw [flatMap_len (n := S.d) fun g _ => by simp, List.length_range]
theorem range_getD {α β : Type} (l : List α) (d : α) (h : α → List β) : (List.range l.length).flatMap (fun i => h (l.getD i d)) = l.flatMap h := by
  rw [show l.flatMap h = (l.map h).flatten from rfl, show (List.range l.length).flatMap (fun i => h (l.getD i d)) = ((List.range l.length).map fun i => h (l.getD i d)).flatten from rfl]
  congr 1
  refine List.ext_getElem (by simp) fun i h1 h2 => ?_
  have hi : i < l.length := by simpa using h2
  simp [List.getElem?_eq_getElem hi]
theorem tb_getD {α β : Type} (l : List α) (d : α) (h : α → β) : tb l.length (fun i => h (l.getD i d)) = l.map h := by
  unfold tb
  refine List.ext_getElem (by simp) fun i h1 h2 => ?_
  have hi : i < l.length := by simpa using h2
  simp [List.getElem?_eq_getElem hi]
end
end Mw

namespace Mw
open PySem PySem.Spec PyProof.Rows L2
section
variable {P : Program} {w : World} {K : PySem.W.Frag} {mg : Str → Option Value} {base : Heap} {G : List T} {ta tb' : TE} {a : TA}
@[reducible] def spotD (q : Nat × Nat × Nat) : D := .tup ((key3 q).map D.int)
def chM (S : Sy) (p : Pr) (L : List Nat) : List (List Int × List D) := (spotsL S L).map fun q => (key3 q, intD (keepF S p (inL L) q.1 q.2.1 q.2.2))
theorem key3_inj {a b : Nat × Nat × Nat} (h : key3 a = key3 b) : a = b := by
  obtain ⟨a1, a2, a3⟩ := a
  obtain ⟨b1, b2, b3⟩ := b
  simp only [key3, List.cons.injEq] at h
  obtain ⟨h1, h2, h3, _⟩ := h
  have h1 : a1 = b1 := by omega
  have h2 : a2 = b2 := by omega
  have h3 : a3 = b3 := by omega
  rw [h1, h2, h3]
theorem nodup_getD {α : Type} {l : List α} (nd : l.Nodup) (d : α) {i j : Nat} (hi : i < l.length) (hj : j < l.length) (h : l.getD i d = l.getD j d) : i = j := by
  rw [List.getD_eq_getElem?_getD, List.getD_eq_getElem?_getD, List.getElem?_eq_getElem hi, List.getElem?_eq_getElem hj] at h
  have h : l[i] = l[j] := h
  rcases Nat.lt_trichotomy i j with z | z | z
  · exact absurd h (List.pairwise_iff_getElem.mp nd i j hi hj z)
  · exact z
  · exact absurd h.symm (List.pairwise_iff_getElem.mp nd j i hj hi z)
theorem getD_mem {α : Type} {l : List α} {d : α} {i : Nat} (hi : i < l.length) : l.getD i d ∈ l := by
  rw [List.getD_eq_getElem?_getD, List.getElem?_eq_getElem hi]
  exact List.getElem_mem hi
theorem map_at {α β : Type} {l : List α} {f : α → β} {i : Nat} {d : α} {y : β} (h : (l.map f)[i]? = some y) : i < l.length ∧ y = f (l.getD i d) := by
  rw [List.getElem?_map] at h
  cases hx : l[i]? with
  | none => rw [hx] at h; cases h
  | some x =>
    rw [hx] at h
    cases h
    refine ⟨(List.getElem?_eq_some_iff.mp hx).1, ?_⟩
    rw [List.getD_eq_getElem?_getD, hx]
    rfl
abbrev N_choices_of : List Str := ["saying", "prices", "rooms", "signs", "deeds", "table", "room", "sign", "deed", "spots", "spot"]
theorem sc_choices_of : FnScope N_choices_of ["saying", "prices", "rooms"] (defScope s_choices_of) := C8.fnScope_by (by decide +kernel)

def R_choices_of (ts : List T) (t : T) : Prop := ∃ (S : Sy) (p : Pr) (L : List Nat), S.d ≤ 9 ∧ S.s ≤ 9 ∧ L.length ≤ 100 ∧ L.Nodup ∧ (∀ r ∈ L, r < S.n) ∧ ts = [.d S.D, .d (encP S.d p), .d (.tup (intD L))] ∧ t = .dl (chM S p L)
theorem cal_choices_of (F : MDef K mg "choices_of" s_choices_of) (g : Glo mg) (c_keepers : C8.Cal P w K mg base 3 "keepers" (spX R_keepers) []) : C8.Cal P w K mg base 4 "choices_of" (spX R_choices_of) [] :=
  cal_pure F sc_choices_of (fun _ _ _ _ _ _ us hl => match us, hl with | [_, _, _], _ => rfl) (fun ts t ⟨_, _, _, _, _, _, _, _, e, _⟩ => by rw [e]; rfl) fun f cdv A outer s H E hr ts t ⟨S, p, L, b1, b2, b3, nd', hlt, e1, e2⟩ => by
    subst e1 e2
    have nd := sc_choices_of.nd
    have hu := hu_of hr
    refine ⟨_, (pss_cons (ps_asg (pv 0) (pg_tup rfl (pgs_cons (pg_name (i := 3) nd rfl (Or.inr rfl)) (pgs_cons (pg_name (i := 4) nd rfl (Or.inr rfl)) (pgs_cons (pg_name (i := 5) nd rfl (Or.inl rfl)) pgs_nil)))))
      (pss_cons (ps_setLc3 (i := 9) (own := [("room", 6), ("sign", 7), ("deed", 8)]) (g := (gName 6)) (g1 := (gName 7)) (g2 := (gName 8)) (tt := tYes) (tt1 := tYes) (tt2 := tYes) (vs1 := [7, 8]) (vs2 := [8]) (by rfl) nd rfl rfl (sw_true rfl rfl rfl (by decide +kernel)) (pi_tupK (K := K) rfl (pv 2)) (blkOk_by (by show blkC N_choices_of (defScope s_choices_of) _ _ = true; decide +kernel)) (by decide) (by decide) (fun _ _ _ _ _ => (pg_name (i := 6) nd rfl (Or.inl rfl))) (fun _ _ _ _ _ => pts_nil) (fun _ _ _ _ _ => (pi_range1 rfl g.range (pa_cons (pv 3) pa_nil))) (fun _ _ _ _ _ => (pg_name (i := 7) nd rfl (Or.inl rfl))) (fun _ _ _ _ _ => pts_nil) (fun _ _ _ _ _ => (pi_range1 rfl g.range (pa_cons (pv 4) pa_nil))) (fun _ _ _ _ _ => (pg_name (i := 8) nd rfl (Or.inl rfl))) (fun _ _ _ _ _ => pts_nil) (fun _ _ _ _ _ => (pe_tup (pa_cons (pv 6) (pa_cons (pv 7) (pa_cons (pv 8) pa_nil))))))
      (pss_one (ps_ret (pe_dcT (own := [("spot", 10)]) (g := (gName 10)) (tt := tYes) hu rfl nd (pi_listK (K := K) rfl (pv 9)) (blkOk_by (by show blkC N_choices_of (defScope s_choices_of) _ _ = true; decide +kernel)) (fun _ _ _ _ _ => (pg_name (i := 10) nd rfl (Or.inl rfl))) (fun _ _ _ _ _ => pts_nil) (fun _ _ _ _ _ => (pv 10)) (fun _ _ _ _ _ => (C8.pe_c c_keepers hr (by decide) rfl (pa_cons (pv 0) (pa_cons (pv 1) (pa_cons (pv 2) (pa_cons (pe_ix (r := rIxT K) ix_tup (pv 10) pe_int (fun _ _ => rfl)) (pa_cons (pe_ix (r := rIxT K) ix_tup (pv 10) pe_int (fun _ _ => rfl)) (pa_cons (pe_ix (r := rIxT K) ix_tup (pv 10) pe_int (fun _ _ => rfl)) pa_nil))))))))))))), ?_⟩
    intro En hD hN
    have hlen : (spotsL S L).length ≤ 100 * 81 := by
      rw [spotsL_len]
      exact Nat.mul_le_mul b3 (Nat.mul_le_mul b2 b1)
    have key : (List.range (intD L).length).flatMap (fun i => (List.range S.s).flatMap fun gn => (List.range S.d).flatMap fun x => [spotD (L.getD i 0, gn, x)]) = (spotsL S L).map spotD := by
      have e1 : (intD L).length = L.length := by simp
      rw [e1, range_getD L 0 (fun r => (List.range S.s).flatMap fun gn => (List.range S.d).flatMap fun x => [spotD (r, gn, x)])]
      unfold spotsL
      rw [List.map_flatMap]
      congr 1
      funext r
      rw [List.map_flatMap]
      congr 1
      funext gn
      rw [List.map_map]
      induction List.range S.d with
      | nil => rfl
      | cons x l ih => rw [List.flatMap_cons, ih]; rfl
    refine st_seq (st_asg (evx_var rfl) (tg_tup (tgs_cons tg_name (tgs_cons tg_name (tgs_cons tg_name tgs_nil)))) ?_)
    refine st_seq (st_asg (t := .li ((spotsL S L).map spotD)) (evx_eq (evx_lc3 (fun i => (List.range S.s).flatMap fun gn => (List.range S.d).flatMap fun x => [spotD (L.getD i 0, gn, x)]) (itT_tup (ds := intD L) (evx_var rfl)) rfl (fun Dl i t hi hq => ?_) (by rw [key, List.length_map]; omega)) (by rw [key])) tg_name ?_)
    · obtain ⟨d, hd, ht⟩ := hq
      subst ht
      obtain ⟨q1, rfl⟩ := map_at (d := 0) hd
      refine ⟨[_, _, _, _, _, _, _, _, _, _, _], _, true, tg_name, by decide, rfl, evb_yes, fun _ => ap_lv _ (itT_rngN (eva_cons (evx_var rfl) eva_nil) (by omega)) rfl fun j t hj ht => ?_, fun h => nomatch h⟩
      subst ht
      refine ⟨[_, _, _, _, _, _, _, _, _, _, _], _, true, tg_name, by decide, rfl, evb_yes, fun _ => ap_lv _ (itT_rngN (eva_cons (evx_var rfl) eva_nil) (by omega)) rfl fun k t hk ht => ?_, fun h => nomatch h⟩
      subst ht
      exact ⟨[_, _, _, _, _, _, _, _, _, _, _], _, true, tg_name, by decide, rfl, evb_yes, fun _ => ap_app (evx_tup (ds := [_, _, _]) (eva_cons (evx_var rfl) (eva_cons (evx_var rfl) (eva_cons (evx_var rfl) eva_nil)))), fun h => nomatch h⟩
    refine st_ret (evx_eq (evx_dcL (f := fun i => (key3 ((spotsL S L).getD i (0, 0, 0)), intD (keepF S p (inL L) ((spotsL S L).getD i (0, 0, 0)).1 ((spotsL S L).getD i (0, 0, 0)).2.1 ((spotsL S L).getD i (0, 0, 0)).2.2))) (it_list (ds := (spotsL S L).map spotD) (evx_var rfl)) (fun i t hi hq => ?_) (fun i j hi hj h => ?_) (by rw [List.length_map]; omega)) ?_) hD
    · obtain ⟨d, hd, ht⟩ := hq
      subst ht
      obtain ⟨q1, rfl⟩ := map_at (d := (0, 0, 0)) hd
      obtain ⟨z1, z2, z3⟩ := spotsL_mem.mp (getD_mem (d := (0, 0, 0)) q1)
      generalize (spotsL S L).getD i (0, 0, 0) = q at z1 z2 z3 ⊢
      refine ⟨_, _, tg_name, by decide, evx_var rfl, evx_call (eva_cons (evx_var rfl) (eva_cons (evx_var rfl) (eva_cons (evx_var rfl) (eva_cons (evx_ixTn (i := 0) (evx_var rfl) evx_int rfl) (eva_cons (evx_ixTn (i := 1) (evx_var rfl) evx_int rfl) (eva_cons (evx_ixTn (i := 2) (evx_var rfl) evx_int rfl) eva_nil)))))) ⟨S, p, L, _, _, _, _, by omega, hlt _ z1, z2, z3, .inr rfl, rfl, rfl⟩⟩
    · rw [List.length_map] at hi hj
      exact nodup_getD (spotsL_nodup nd') _ hi hj (key3_inj h)
    · rw [List.length_map, tb_getD (spotsL S L) (0, 0, 0) (fun q => (key3 q, intD (keepF S p (inL L) q.1 q.2.1 q.2.2)))]
      rfl
end
end Mw

namespace Mw
open PySem PySem.Spec PyProof.Rows L2
/-! ### lists that change -/
def Sm (A : List Addr) (H H' : Hp) : Prop := ∀ b o, b ∉ A → H b = some o → H' b = some o
def MutL (A : List Addr) (H : Hp) : Prop := ∀ a ∈ A, ∃ xs, H a = some (.lst xs)
theorem Sm.refl (A : List Addr) (H : Hp) : Sm A H H := fun _ _ _ h => h
theorem Sm.trans {A : List Addr} {H H1 H2 : Hp} (a : Sm A H H1) (b : Sm A H1 H2) : Sm A H H2 := fun c o n h => b c o n (a c o n h)
theorem Sm.of {A : List Addr} {H H' : Hp} (e : Same H H') : Sm A H H' := fun b o _ h => e b o h
theorem Sm.sub {A B : List Addr} {H H' : Hp} (h : ∀ a ∈ A, a ∈ B) (e : Sm A H H') : Sm B H H' := fun b o n q => e b o (fun z => n (h b z)) q
theorem Sm.upd {A : List Addr} {H : Hp} {p : Addr} {o : HO} (h : p ∈ A) : Sm A H (upd H p o) := fun b u n e => by
  rw [upd_ne (show b ≠ p from fun z => n (by rw [z]; exact h))]
  exact e
/-- a new one that is changed is none of theirs -/
theorem Sm.drop {A : List Addr} {H H' : Hp} {p : Addr} (hp : H p = none) (e : Sm (p :: A) H H') : Sm A H H' := fun b o n q => e b o (fun z => by
  rcases List.mem_cons.mp z with z | z
  · rw [z, hp] at q
    cases q
  · exact n z) q
theorem Sm.tup {A : List Addr} {H H' : Hp} (e : Sm A H H') (m : MutL A H) : TupX H H' := fun a xs h => e a _ (fun z => by
  obtain ⟨ys, hy⟩ := m a z
  rw [h] at hy
  cases hy) h
theorem MutL.same {A : List Addr} {H H' : Hp} (m : MutL A H) (e : Same H H') : MutL A H' := fun a ha => let ⟨xs, h⟩ := m a ha; ⟨xs, e _ _ h⟩
theorem MutL.upd {A : List Addr} {H : Hp} (m : MutL A H) {p : Addr} {xs : List V} : MutL A (upd H p (.lst xs)) := fun a ha => by
  by_cases h : a = p
  · rw [h]
    exact ⟨xs, upd_same⟩
  · rw [upd_ne h]
    exact m a ha
def OkB (A : List Addr) : T → Prop
  | .li _ => False
  | .dl _ => False
  | .fl _ => False
  | .pl _ _ => False
  | .la a _ => a ∉ A
  | _ => True
theorem Is.monoB {A : List Addr} {H H' : Hp} (e : Sm A H H') (m : MutL A H) {t : T} {v : V} (hb : OkB A t) (h : Is H t v) : Is H' t v := by
  have tx := e.tup m
  have nd : ∀ (a : Addr) (kvs : List (Key × V)), H a = some (.dK kvs) → a ∉ A := fun a kvs h z => by
    obtain ⟨ys, hy⟩ := m a z
    rw [h] at hy
    cases hy
  have nt : ∀ (a : Addr) (kvs : List (List Key × V)), H a = some (.dT kvs) → a ∉ A := fun a kvs h z => by
    obtain ⟨ys, hy⟩ := m a z
    rw [h] at hy
    cases hy
  have nf : ∀ (a : Addr) (o : Obj) (u : HO), H a = some (.frz o u) → a ∉ A := fun a o u h z => by
    obtain ⟨ys, hy⟩ := m a z
    rw [h] at hy
    cases hy
  cases t with
  | u => trivial
  | v x => exact h
  | d d => exact Dv.monoT tx d v h
  | li ds => exact hb.elim
  | dk m' =>
    obtain ⟨a, kvs, h1, h2, h3⟩ := h
    exact ⟨a, kvs, h1, e _ _ (nd a kvs h2) h2, MK.mono tx h3⟩
  | rk m' =>
    obtain ⟨a, kvs, h1, h2, h3⟩ := h
    refine ⟨a, kvs, h1, ?_, MK.mono tx h3⟩
    rcases h2 with h2 | ⟨o, h2⟩
    · exact .inl (e _ _ (nd a kvs h2) h2)
    · exact .inr ⟨o, e _ _ (nf a o _ h2) h2⟩
  | dt m' =>
    obtain ⟨a, kvs, h1, h2, h3⟩ := h
    exact ⟨a, kvs, h1, e _ _ (nt a kvs h2) h2, MT.mono tx h3⟩
  | dl _ => exact hb.elim
  | fk m' =>
    obtain ⟨a, kvs, o, h1, h2, h3⟩ := h
    exact ⟨a, kvs, o, h1, e _ _ (nf a o _ h2) h2, MK.mono tx h3⟩
  | fl _ => exact hb.elim
  | pl _ _ => exact hb.elim
  | la a ds =>
    obtain ⟨h1, xs, h2, h3⟩ := h
    exact ⟨h1, xs, e _ _ hb h2, DvL.monoT tx _ _ h3⟩
def AllB (A : List Addr) : List T → Prop
  | [] => True
  | t :: ts => OkB A t ∧ AllB A ts
theorem AllB.set {A : List Addr} {t : T} (ht : OkB A t) : ∀ {G : List T} {i : Nat}, AllB A G → AllB A (G.set i t)
  | [], _, _ => trivial
  | _ :: _, 0, h => ⟨ht, h.2⟩
  | _ :: _, _ + 1, h => ⟨h.1, AllB.set ht h.2⟩
theorem AllB.wipe {A : List Addr} {G : List T} (h : AllB A G) : ∀ vs : List Nat, AllB A (wipeG G vs)
  | [] => h
  | v :: vs => AllB.set (t := .u) trivial (AllB.wipe h vs)
theorem EnvOk.monoB {A : List Addr} {H H' : Hp} (e : Sm A H H') (m : MutL A H) : ∀ {G : List T} {σ : Slots}, AllB A G → EnvOk H G σ → EnvOk H' G σ
  | _, _, _, .nil => .nil
  | t :: ts, o :: os, hb, .cons r q => .cons (by
      cases t <;> first
        | trivial
        | (obtain ⟨v, h1, h2⟩ := r; exact ⟨v, h1, Is.monoB e m hb.1 h2⟩)) (EnvOk.monoB e m hb.2 q)
theorem IsL.monoB {A : List Addr} {H H' : Hp} (e : Sm A H H') (m : MutL A H) : ∀ {ts : List T} {vs : List V}, AllB A ts → IsL H ts vs → IsL H' ts vs
  | _, _, _, .nil => .nil
  | _ :: _, _ :: _, hb, .cons r q => .cons (Is.monoB e m hb.1 r) (IsL.monoB e m hb.2 q)
section
variable {G G' G1 : List T} {ta tb' te tl tk tv td ty : TE} {tt : TT} {a : TA} {K : PySem.W.Frag} {A : List Addr}
theorem evx_liA {b : Addr} {ds : List D} (h : EvX G te (.la b ds)) : EvX G te (.li ds) := fun σ H I Q q => h σ H I Q fun v H' s hv => q v H' s (by
  obtain ⟨h1, xs, h2, h3⟩ := hv
  exact ⟨b, xs, h1, h2, h3⟩)
/-! walks -/
def WalkB (A : List Addr) (J : It) (n : Nat) (F : Nat → T → Prop) (H0 : Hp) : Prop := (∀ i H, i < n → Sm A H0 H → J.go i H) ∧ (∀ H, Sm A H0 H → J.stop n H) ∧
  ∀ i H x H', i < n → Sm A H0 H → J.yld i H x H' → Same H H' ∧ ∃ t, F i t ∧ Is H' t x
def ItB (A : List Addr) (G : List T) (wi : TI) (n : Nat) (F : Nat → T → Prop) : Prop := ∀ σ H, EnvOk H G σ → MutL A H → ∀ R : It → Hp → Prop, (∀ J H', Same H H' → WalkB A J n F H' → R J H') → wi σ H R
theorem ItT.b {wi : TI} {n : Nat} {F : Nat → T → Prop} (h : ItT G wi n F) : ItB A G wi n F := fun σ H I m R q => h σ H I R fun J H' s w => q J H' s
  ⟨fun i H hi e => w.1 i H hi (e.tup (m.same s)), fun H e => w.2.1 H (e.tup (m.same s)), fun i H x H'' hi e y => w.2.2 i H x H'' hi (e.tup (m.same s)) y⟩
theorem itb_list {b : Addr} {ds : List D} (h : EvX G tl (.la b ds)) (hb : b ∉ A) : ItB A G (iList K tl) ds.length (FD ds) := fun σ H I m R q => h σ H I _ fun v H1 s1 hv => by
  obtain ⟨rfl, xs, e1, e2⟩ := hv
  have m1 := m.same s1
  refine ⟨b, rfl, ⟨xs, SqL.of e1⟩, q _ H1 s1 ⟨fun i H' hi s => ?_, fun H' s => ⟨xs, SqL.of (s _ _ hb e1), by rw [e2.len]; exact Nat.le_refl _⟩, fun i H' x H'' hi s y => ?_⟩⟩
  · obtain ⟨w, hw, _⟩ := e2.get (List.getElem?_eq_getElem hi)
    exact ⟨xs, w, SqL.of (s _ _ hb e1), hw⟩
  · obtain ⟨rfl, y2⟩ := y
    obtain ⟨w, hw, hd⟩ := e2.get (List.getElem?_eq_getElem hi)
    have := y2 xs (SqL.of (s _ _ hb e1))
    rw [hw] at this
    cases this
    exact ⟨Same.refl _, _, ⟨_, List.getElem?_eq_getElem hi, rfl⟩, Dv.monoT (s.tup m1) _ _ hd⟩
theorem itb_tb {wi : TI} {n : Nat} {f : Nat → D} (h : ItB A G wi (tb n f).length (FD (tb n f))) : ItB A G wi n (fun i t => t = .d (f i)) := by
  rw [tb_len] at h
  intro σ H I m R q
  refine h σ H I m R fun J H' s w => q J H' s ⟨w.1, w.2.1, fun i H x H' hi hs y => ?_⟩
  obtain ⟨s2, t, ⟨d, e, rfl⟩, hv⟩ := w.2.2 i H x H' hi hs y
  rw [tb_get hi] at e
  cases e
  exact ⟨s2, _, rfl, hv⟩
theorem itb_tbE {wi : TI} {n : Nat} {f : Nat → D} (h : ItB A G wi (tb n f).length (FE (tb n f))) : ItB A G wi n (fun i t => t = .d (.tup [.int (i : Int), f i])) := by
  rw [tb_len] at h
  intro σ H I m R q
  refine h σ H I m R fun J H' s w => q J H' s ⟨w.1, w.2.1, fun i H x H' hi hs y => ?_⟩
  obtain ⟨s2, t, ⟨d, e, rfl⟩, hv⟩ := w.2.2 i H x H' hi hs y
  rw [tb_get hi] at e
  cases e
  exact ⟨s2, _, rfl, hv⟩
/-- a for of any kind -/
theorem rs_forB {wi : TI} {n : Nat} {F : Nat → T → Prop} {g : TG} {t1 : TS} {D : Ends} {σ : Slots} {H : Hp} (I : EnvOk H G σ) (hM : MutL A H) (hi : ItB A G wi n F)
    (k : ∀ H1, Same H H1 → ∃ Pv : Nat → Slots → Hp → Prop, Pv 0 σ H1 ∧ (∀ i σ' H', Pv i σ' H' → Sm A H1 H') ∧
      (∀ i t σ' H' H2 x, i < n → F i t → Pv i σ' H' → Same H' H2 → Is H2 t x → g x σ' H2 fun σ3 H3 => t1 { D with nx := Pv (i + 1), ct := Pv (i + 1), bk := D.nx } σ3 H3) ∧ ∀ σ' H', Pv n σ' H' → D.nx σ' H') : tFor wi g t1 D σ H :=
  hi σ H I hM _ fun J H1 s1 w => by
    obtain ⟨Pv, h0, hP, hs, hd⟩ := k H1 s1
    refine ⟨fun i m σ' H' => m = n - i ∧ i ≤ n ∧ Pv i σ' H', ⟨n, by simp, Nat.zero_le _, h0⟩, ?_⟩
    rintro i m σ' H' ⟨rfl, hi', p⟩
    have sm := hP i σ' H' p
    by_cases hlt : i < n
    · refine .inr ⟨w.1 i H' hlt sm, Pv (i + 1), fun σ2 H2 z => ⟨n - (i + 1), by omega, rfl, hlt, z⟩, fun x H2 y => ?_⟩
      obtain ⟨s2, t, ft, hv⟩ := w.2.2 i H' x H2 hlt sm y
      exact hs i t σ' H' H2 x hlt ft p s2 hv
    · have e : i = n := by omega
      subst e
      exact .inl ⟨w.2.1 H' sm, hd σ' H' p⟩
theorem rss_forB {wi : TI} {n : Nat} {F : Nat → T → Prop} {g : TG} {t1 u : TS} {D : Ends} {σ : Slots} {H : Hp} (I : EnvOk H G σ) (hM : MutL A H) (hi : ItB A G wi n F)
    (k : ∀ H1, Same H H1 → ∃ Pv : Nat → Slots → Hp → Prop, Pv 0 σ H1 ∧ (∀ i σ' H', Pv i σ' H' → Sm A H1 H') ∧
      (∀ i t σ' H' H2 x, i < n → F i t → Pv i σ' H' → Same H' H2 → Is H2 t x → g x σ' H2 fun σ3 H3 => t1 { D with nx := Pv (i + 1), ct := Pv (i + 1), bk := u D } σ3 H3) ∧ ∀ σ' H', Pv n σ' H' → u D σ' H') : tSeq (tFor wi g t1) u D σ H := rs_forB (D := { D with nx := u D }) I hM hi k
/-- a pure loop that carries data along -/
theorem st_forG {H0 : Hp} {D : Ends} {wi : TI} {n : Nat} {F : Nat → T → Prop} {g : TG} {t1 : TS} (Gf : Nat → List T) (hi : ItX (Gf 0) wi n F)
    (hs : ∀ Hb, Same H0 Hb → ∀ i t, i < n → F i t → ∃ G' js, TgX (Gf i) g t G' js ∧ StX Hb G' t1 { nx := TurnTo Hb (Gf (i + 1)) True, rt := D.rt, bk := D.nx, ct := TurnTo Hb (Gf (i + 1)) True }) (hd : NxX H0 (Gf n) D.nx) : StX H0 (Gf 0) (tFor wi g t1) D := fun σ H s I =>
  hi σ H I _ fun J H1 s1 w => by
    refine ⟨fun i m σ' H' => m = n - i ∧ i ≤ n ∧ Same H1 H' ∧ EnvOk H' (Gf i) σ', ⟨n, by simp, Nat.zero_le _, Same.refl _, I.mono s1⟩, ?_⟩
    rintro i m σ' H' ⟨rfl, hi, s', I'⟩
    by_cases hlt : i < n
    · refine .inr ⟨w.1 i H' hlt s', fun σ2 H2 => Same H1 H2 ∧ EnvOk H2 (Gf (i + 1)) σ2, fun σ2 H2 z => ⟨n - (i + 1), by omega, rfl, hlt, z⟩, fun x H2 y => ?_⟩
      obtain ⟨s2, t, ft, hv⟩ := w.2.2 i H' x H2 hlt s' y
      obtain ⟨G', js, hg, hb⟩ := hs H1 (s.trans s1) i t hlt ft
      refine hg σ' H2 (I'.mono s2) x hv _ fun σ2 I2 _ => ?_
      have := hb σ2 H2 (s'.trans s2) I2
      have e : (fun σ H => Same H1 H ∧ EnvOk H (Gf (i + 1)) σ) = TurnTo H1 (Gf (i + 1)) True := by
        funext σ H
        simp [TurnTo]
      rw [e]
      exact this
    · have e : i = n := by omega
      subst e
      exact .inl ⟨w.2.1 H' s', hd σ' H' ((s.trans s1).trans s') I'⟩
theorem LeG.refl : ∀ G : List T, LeG G G
  | [] => .nil
  | _ :: G => .cons (.inr rfl) (LeG.refl G)
/-! append -/
theorem dr_app {j : Nat} {la : Addr} {σ : Slots} {H : Hp} {Q : VK} (hj : σ[j]? = some (some (.ref la))) (hl : ∃ xs, H la = some (.lst xs)) (he : te σ H fun v H1 => ∃ xs, H1 la = some (.lst xs) ∧ xs.length < sizeLine ∧ Q .non (upd H1 la (.lst (xs ++ [v])))) :
    tBM K "list" rAppend (tVar j) (tCons te tNil) σ H Q := by
  obtain ⟨xs, hx⟩ := hl
  refine ⟨_, hj, .inl ⟨rfl, xs, SqL.of hx⟩, ?_⟩
  show te σ H fun v H1 => rAppend (.ref la) [v] H1 Q
  have e : (fun (v : V) (H1 : Hp) => rAppend (.ref la) [v] H1 Q) = fun v H1 => ∃ xs, H1 la = some (.lst xs) ∧ xs.length < sizeLine ∧ Q .non (upd H1 la (.lst (xs ++ [v]))) := by
    funext v H1
    refine propext ⟨fun ⟨l, ys, y, e1, e2, e3, e4, e5⟩ => ?_, fun ⟨ys, e3, e4, e5⟩ => ⟨la, ys, v, rfl, rfl, e3, e4, e5⟩⟩
    cases e1
    cases e2
    exact ⟨ys, e3, e4, e5⟩
  rw [e]
  exact he
/-- behind an append -/
theorem EnvOk.app {j : Nat} {la : Addr} {ds : List D} {d : D} {v : V} {σ : Slots} {H : Hp} (I : EnvOk H G σ) (hj : G[j]? = some (.la la ds)) (hb : AllB [la] (G.set j .u)) (hv : Dv H d v) :
    ∃ xs, H la = some (.lst xs) ∧ xs.length = ds.length ∧ EnvOk (upd H la (.lst (xs ++ [v]))) (G.set j (.la la (ds ++ [d]))) σ := by
  obtain ⟨w, e1, rfl, xs, e2, e3⟩ := I.getv hj
  have m : MutL [la] H := fun a ha => by
    obtain rfl : a = la := by simpa using ha
    exact ⟨xs, e2⟩
  have sm : Sm [la] H (upd H la (.lst (xs ++ [v]))) := Sm.upd (by simp)
  refine ⟨xs, e2, e3.len, ?_⟩
  have r : SlOk (upd H la (.lst (xs ++ [v]))) (.la la (ds ++ [d])) (some (.ref la)) := ⟨_, rfl, rfl, _, upd_same, DvL.monoT (sm.tup m) _ _ (e3.snoc hv)⟩
  clear e3 hv
  have key : ∀ {G : List T} {σ : Slots} {j : Nat}, EnvOk H G σ → AllB [la] (G.set j .u) → σ[j]? = some (some (.ref la)) → EnvOk (upd H la (.lst (xs ++ [v]))) (G.set j (.la la (ds ++ [d]))) σ := by
    intro G σ j I
    induction I generalizing j with
    | nil => intro _ _; exact .nil
    | cons q t ih =>
      intro hb hj
      cases j with
      | zero =>
        simp at hj
        subst hj
        exact .cons r (EnvOk.monoB sm m hb.2 t)
      | succ j =>
        refine .cons ?_ (ih hb.2 (by simpa using hj))
        rename_i t0 o0 _ _
        have hb0 : OkB [la] t0 := hb.1
        cases t0 <;> first
          | trivial
          | (obtain ⟨v, h1, h2⟩ := q; exact ⟨v, h1, Is.monoB sm m hb0 h2⟩)
  exact key I hb e1
/-- append of a datum, by value -/
theorem rss_app {j : Nat} {la : Addr} {ds : List D} {d : D} {σ : Slots} {H : Hp} {De : Ends} {u : TS} (I : EnvOk H G σ) (he : EvX G te (.d d)) (hle : LeG G1 G) (hj : G1[j]? = some (.la la ds)) (hb : AllB [la] (G1.set j .u)) (hl : ds.length < 100000)
    (k : ∀ H1, Sm [la] H H1 → EnvOk H1 (G1.set j (.la la (ds ++ [d]))) σ → u De σ H1) : tSeq (tDrop (tBM K "list" rAppend (tVar j) (tCons te tNil))) u De σ H := by
  obtain ⟨w, e1, rfl, xs, e2, e3⟩ := (EnvOk.le hle I).getv hj
  refine rss_drop (dr_app e1 ⟨xs, e2⟩ (he σ H I _ fun v H1 s1 hv => ?_))
  obtain ⟨ys, f1, f2, f3⟩ := (EnvOk.le hle (I.mono s1)).app hj hb hv
  exact ⟨ys, f1, len_lt (by omega), k _ ((Sm.of s1).trans (Sm.upd (by simp))) f3⟩
theorem rs_app {j : Nat} {la : Addr} {ds : List D} {d : D} {σ : Slots} {H : Hp} {De : Ends} (I : EnvOk H G σ) (he : EvX G te (.d d)) (hle : LeG G1 G) (hj : G1[j]? = some (.la la ds)) (hb : AllB [la] (G1.set j .u)) (hl : ds.length < 100000)
    (k : ∀ H1, Sm [la] H H1 → EnvOk H1 (G1.set j (.la la (ds ++ [d]))) σ → De.nx σ H1) : tDrop (tBM K "list" rAppend (tVar j) (tCons te tNil)) De σ H := by
  obtain ⟨w, e1, rfl, xs, e2, e3⟩ := (EnvOk.le hle I).getv hj
  refine rs_drop (dr_app e1 ⟨xs, e2⟩ (he σ H I _ fun v H1 s1 hv => ?_))
  obtain ⟨ys, f1, f2, f3⟩ := (EnvOk.le hle (I.mono s1)).app hj hb hv
  exact ⟨ys, f1, len_lt (by omega), k _ ((Sm.of s1).trans (Sm.upd (by simp))) f3⟩
/-- a new empty list -/
theorem rss_nil {i : Nat} {σ : Slots} {H : Hp} {De : Ends} {u : TS} (I : EnvOk H G σ) (k : ∀ la H1, H la = none → Same H H1 → EnvOk H1 (G.set i (.la la [])) (σ.set i (some (.ref la))) → u De (σ.set i (some (.ref la))) H1) : tSeq (tAsg (tLst tNil) (gName i)) u De σ H := by
  refine rss_set ?_
  show ([] : List V).length ≤ sizeLine ∧ ∀ p, H p = none → _
  refine ⟨Nat.zero_le _, fun p hp => k p _ hp (same_new hp) ((I.mono (same_new hp)).setv i ⟨rfl, [], upd_same, DvL.nil⟩)⟩
end
end Mw

namespace Mw
open PySem PySem.Spec PyProof.Rows L2
section
variable {P : Program} {w : World} {K : PySem.W.Frag} {mg : Str → Option Value} {base : Heap} {G : List T} {ta tb' : TE} {a : TA}
/-- the watcher on L with the choices lst -/
def milW (S : Sy) (L : List Nat) (lst : Nat × Nat × Nat → Nat) : Wa where
  s := S.s
  d := S.d
  n := L.length
  g := fun q sg x => lst (L.getD q 0, sg, x)
  t := fun q sg x => L.idxOf ((S.b (L.getD q 0) sg (lst (L.getD q 0, sg, x))).getD 0)
def chosenM (S : Sy) (L : List Nat) (lst : Nat × Nat × Nat → Nat) : List (List Int × D) := (spotsL S L).map fun q => (key3 q, .int (lst q : Int))
theorem lookT_map {β : Type} {l : List (Nat × Nat × Nat)} (f : Nat × Nat × Nat → β) (nd : l.Nodup) {q : Nat × Nat × Nat} (h : q ∈ l) : lookT (l.map fun q => (key3 q, f q)) (key3 q) = some (f q) := by
  obtain ⟨i, hi, rfl⟩ := List.mem_iff_getElem.mp h
  rw [← tb_getD l (0, 0, 0) (fun q => (key3 q, f q))]
  have e : l[i] = l.getD i (0, 0, 0) := by rw [List.getD_eq_getElem?_getD, List.getElem?_eq_getElem hi]; rfl
  rw [e]
  exact lookT_tb (f := fun i => (key3 (l.getD i (0, 0, 0)), f (l.getD i (0, 0, 0)))) hi fun a b ha hb z => nodup_getD nd _ ha hb (key3_inj z)
def placeM (L : List Nat) : Nat → Int × D := fun i => (((L.getD i 0 : Nat) : Int), .int (i : Int))
theorem look_place {L : List Nat} (nd : L.Nodup) {v : Nat} (h : v ∈ L) : lookK (tb L.length (placeM L)) (v : Int) = some (.int (L.idxOf v : Int)) := by
  have hi := List.idxOf_lt_length_of_mem h
  have e : v = L.getD (L.idxOf v) 0 := by
    rw [List.getD_eq_getElem?_getD, List.getElem?_eq_getElem hi]
    exact (List.getElem_idxOf hi).symm
  have z := lookK_tb (f := placeM L) hi fun a b ha hb z => nodup_getD nd 0 ha hb (by
    have z : ((L.getD a 0 : Nat) : Int) = ((L.getD b 0 : Nat) : Int) := z
    omega)
  have e2 : (placeM L (L.idxOf v)).1 = (v : Int) := by
    show ((L.getD (L.idxOf v) 0 : Nat) : Int) = _
    rw [← e]
  rw [e2] at z
  exact z
abbrev N_on_rooms : List Str := ["saying", "rooms", "chosen", "signs", "deeds", "table", "place", "room", "places", "states", "rows", "sign", "behind", "deed", "some", "given"]
theorem sc_on_rooms : FnScope N_on_rooms ["saying", "rooms", "chosen"] (defScope s_on_rooms) := C8.fnScope_by (by decide +kernel)

def R_on_rooms (ts : List T) (t : T) : Prop := ∃ (S : Sy) (L : List Nat) (lst : Nat × Nat × Nat → Nat), S.d ≤ 9 ∧ S.s ≤ 9 ∧ L.length ≤ 100 ∧ L.Nodup ∧ (∀ r ∈ L, r < S.n) ∧ (∀ q ∈ spotsL S L, lst q < S.d ∧ ∃ v ∈ L, S.b q.1 q.2.1 (lst q) = some v) ∧
  ts = [.d S.D, .d (.tup (intD L)), .dt (chosenM S L lst)] ∧ t = .d (milW S L lst).D
def OG (S : Sy) (L : List Nat) (lst : Nat × Nat × Nat → Nat) (sa : Addr) (i : Nat) : List T :=
  [.d S.D, .d (.tup (intD L)), .dt (chosenM S L lst), .d (.int (S.s : Int)), .d (.int (S.d : Int)), .d S.rooms, .u, .u, .dk (tb L.length (placeM L)), .la sa (tb i fun q => (milW S L lst).state q), .u, .u, .u, .u, .u, .u]
def OG2 (S : Sy) (L : List Nat) (lst : Nat × Nat × Nat → Nat) (sa ra : Addr) (i j : Nat) : List T :=
  [.d S.D, .d (.tup (intD L)), .dt (chosenM S L lst), .d (.int (S.s : Int)), .d (.int (S.d : Int)), .d S.rooms, .u, .d (.int ((L.getD i 0 : Nat) : Int)), .dk (tb L.length (placeM L)), .la sa (tb i fun q => (milW S L lst).state q), .la ra (tb j fun sg => (milW S L lst).row i sg), .u, .u, .u, .u, .u]
theorem cal_on_rooms (F : MDef K mg "on_rooms" s_on_rooms) (g : Glo mg) : C8.Cal P w K mg base 1 "on_rooms" (spX R_on_rooms) [] :=
  cal_pure F sc_on_rooms (fun _ _ _ _ _ _ us hl => match us, hl with | [_, _, _], _ => rfl) (fun ts t ⟨_, _, _, _, _, _, _, _, _, e, _⟩ => by rw [e]; rfl) fun f cdv A outer s H E hr ts t ⟨S, L, lst, b1, b2, b3, nd', hlt, hl, e1, e2⟩ => by
    subst e1 e2
    have nd := sc_on_rooms.nd
    have hu := hu_of hr
    refine ⟨_, (pss_cons (ps_asg (pv 0) (pg_tup rfl (pgs_cons (pg_name (i := 3) nd rfl (Or.inl rfl)) (pgs_cons (pg_name (i := 4) nd rfl (Or.inl rfl)) (pgs_cons (pg_name (i := 5) nd rfl (Or.inl rfl)) pgs_nil)))))
      (pss_cons (ps_set (i := 8) nd rfl (Or.inr rfl) (pe_dc (own := [("place", 6), ("room", 7)]) (g := (gTup K 2 (gCons (gName 6) (gCons (gName 7) gNil)))) (tt := tYes) rfl nd (pi_enumTK (K := K) rfl rfl g.enumerate (pa_cons (pv 1) pa_nil)) (blkOk_by (by show blkC N_on_rooms (defScope s_on_rooms) _ _ = true; decide +kernel)) (fun _ _ _ _ _ => (pg_tup rfl (pgs_cons (pg_name (i := 6) nd rfl (Or.inl rfl)) (pgs_cons (pg_name (i := 7) nd rfl (Or.inl rfl)) pgs_nil)))) (fun _ _ _ _ _ => pts_nil) (fun _ _ _ _ _ => (pv 7)) (fun _ _ _ _ _ => (pv 6))))
      (pss_cons (ps_set (i := 9) nd rfl (Or.inl rfl) (pe_lst pa_nil))
      (pss_cons (ps_for PassesOwn.never rfl (pi_tupK (K := K) rfl (pv 1)) (pg_name (i := 7) nd rfl (Or.inr rfl)) (pss_cons (ps_set (i := 10) nd rfl (Or.inl rfl) (pe_lst pa_nil))
      (pss_cons (ps_for PassesOwn.never rfl (pi_enumTK (K := K) rfl rfl g.enumerate (pa_cons (pe_ix (r := rIxT K) ix_tup (pv 5) (pv 7) (fun _ _ => rfl)) pa_nil)) (pg_tup rfl (pgs_cons (pg_name (i := 11) nd rfl (Or.inr rfl)) (pgs_cons (pg_name (i := 12) nd rfl (Or.inr rfl)) pgs_nil))) (pss_cons (ps_setLc (i := 14) (own := [("deed", 13)]) (g := (gName 13)) (tt := tYes) (by rfl) nd rfl rfl (sw_true rfl rfl rfl (by decide +kernel)) (pi_range1 rfl g.range (pa_cons (pv 4) pa_nil)) (blkOk_by (by show blkC N_on_rooms (defScope s_on_rooms) _ _ = true; decide +kernel)) (fun _ _ _ _ _ => (pg_name (i := 13) nd rfl (Or.inl rfl))) (fun _ _ _ _ _ => pts_nil) (fun _ _ _ _ _ => (pe_dget hu (pv 2) (pe_tup (pa_cons (pv 7) (pa_cons (pv 11) (pa_cons (pv 13) pa_nil)))) (fun _ _ => rfl))))
      (pss_one (ps_expr (pe_bm PySem.F.plainAttrs_list PySem.F.slot_list_append PySem.F.type_list_append mt_append (pv 10) (pa_cons (pe_callTy (r := rTupK K) call_tuple_of (by rfl) g.tuple (by decide +kernel) (pa_cons (pe_lc (own := [("given", 15)]) (g := (gName 15)) (tt := tYes) rfl nd (pi_listK (K := K) rfl (pv 14)) (blkOk_by (by show blkC N_on_rooms (defScope s_on_rooms) _ _ = true; decide +kernel)) (fun _ _ _ _ _ => (pg_name (i := 15) nd rfl (Or.inl rfl))) (fun _ _ _ _ _ => pts_nil) (fun _ _ _ _ _ => (pe_tup (pa_cons (pv 15) (pa_cons (pe_dget hu (pv 8) (pe_ix (r := rIxT K) ix_tup (pv 12) (pv 15) (fun _ _ => rfl)) (fun _ _ => rfl)) pa_nil))))) pa_nil)) pa_nil))))))
      (pss_one (ps_expr (pe_bm PySem.F.plainAttrs_list PySem.F.slot_list_append PySem.F.type_list_append mt_append (pv 9) (pa_cons (pe_callTy (r := rTupK K) call_tuple_of (by rfl) g.tuple (by decide +kernel) (pa_cons (pv 10) pa_nil)) pa_nil)))))))
      (pss_one (ps_ret (pe_tup (pa_cons (pv 3) (pa_cons (pv 4) (pa_cons (pe_callTy (r := rTupK K) call_tuple_of (by rfl) g.tuple (by decide +kernel) (pa_cons (pv 9) pa_nil)) pa_nil)))))))))), ?_⟩
    intro En hD hN
    refine st_seq (st_asg (evx_var rfl) (tg_tup (tgs_cons tg_name (tgs_cons tg_name (tgs_cons tg_name tgs_nil)))) ?_)
    refine st_seq (st_asg (t := .dk (tb L.length (placeM L))) (evx_eq (evx_dc (f := placeM L) (it_enumT (ds := intD L) (eva_cons (evx_var rfl) eva_nil)) (fun i t hi hq => ?_) (fun i j hi hj h => ?_) (by rw [List.length_map]; omega)) (by rw [List.length_map])) tg_name ?_)
    · obtain ⟨d, hd, ht⟩ := hq
      subst ht
      obtain ⟨q1, rfl⟩ := map_at (d := 0) hd
      exact ⟨_, _, tg_tup (tgs_cons tg_name (tgs_cons tg_name tgs_nil)), by decide, evx_var rfl, evx_var rfl⟩
    · rw [List.length_map] at hi hj
      have h : ((L.getD i 0 : Nat) : Int) = ((L.getD j 0 : Nat) : Int) := h
      exact nodup_getD nd' 0 hi hj (by omega)
    intro σ H1 s1 I1
    refine rss_nil I1 fun sa H2 n2 s2 I2 => ?_
    have I2 : EnvOk H2 (OG S L lst sa 0) _ := I2
    generalize σ.set 9 (some (.ref sa)) = σ2 at I2
    have m2 : MutL [sa] H2 := fun a ha => by
      obtain rfl : a = sa := by simpa using ha
      obtain ⟨_, _, _, xs, e, _⟩ := I2.getv (i := 9) (t := .la a []) rfl
      exact ⟨xs, e⟩
    refine rss_forB I2 m2 (itT_tup (ds := intD L) (evx_var (i := 1) rfl)).b fun H3 s3 => ⟨fun i σ' H' => EnvOk H' (OG S L lst sa i) σ' ∧ Sm [sa] H3 H', ⟨I2.mono s3, Sm.refl _ _⟩, fun i σ' H' p => p.2, ?_, ?_⟩
    · rintro i t σ' H' H4 x hi ⟨d, hd, rfl⟩ ⟨I', sm'⟩ s4 hx
      obtain ⟨q1, rfl⟩ := map_at (d := 0) hd
      have hrL : L.getD i 0 ∈ L := getD_mem q1
      refine tg_name σ' H4 (I'.mono s4) x hx _ fun σ5 I5 _ => ?_
      refine rss_nil I5 fun ra H6 n6 s6 I6 => ?_
      have I6 : EnvOk H6 (OG2 S L lst sa ra i 0) _ := I6
      generalize σ5.set 10 (some (.ref ra)) = σ6 at I6
      have hsr : sa ≠ ra := fun z => by
        obtain ⟨_, _, _, xs, e, _⟩ := I5.getv (i := 9) (t := .la sa (tb i fun q => (milW S L lst).state q)) rfl
        rw [z, n6] at e
        cases e
      have m6 : MutL [ra] H6 := fun a ha => by
        obtain rfl : a = ra := by simpa using ha
        obtain ⟨_, _, _, xs, e, _⟩ := I6.getv (i := 10) (t := .la a []) rfl
        exact ⟨xs, e⟩
      refine rss_forB I6 m6 (itb_tbE (itT_enum (ds := tb S.s fun gn => S.row (L.getD i 0) gn) (eva_cons (evx_ixTn (i := L.getD i 0) (evx_var (i := 5) rfl) (evx_var (i := 7) rfl) (tb_get (hlt _ hrL))) eva_nil)).b) fun H7 s7 => ⟨fun j σ' H' => EnvOk H' (OG2 S L lst sa ra i j) σ' ∧ Sm [ra] H7 H', ⟨I6.mono s7, Sm.refl _ _⟩, fun j σ' H' p => p.2, ?_, ?_⟩
      · rintro j t σ7 H8 H9 x hj rfl ⟨I8, sm8⟩ s9 hx
        refine (tg_tup (tgs_cons tg_name (tgs_cons tg_name tgs_nil)) rfl) σ7 H9 (I8.mono s9) x hx _ fun σ9 I9 _ => ?_
        refine rss_ev (t := .li (tb S.d fun x => .int (lst (L.getD i 0, j, x) : Int))) I9 (evx_lcT (it_rngN (n := S.d) (eva_cons (evx_var (i := 4) rfl) eva_nil) (by omega)) (fun x hx => .mk tg_name (by decide) (evx_dgetT (k := key3 (L.getD i 0, j, x)) (evx_var (i := 2) rfl) (evx_tup (ds := [_, _, _]) (eva_cons (evx_var (i := 7) rfl) (eva_cons (evx_var (i := 11) rfl) (eva_cons (evx_var (i := 13) rfl) eva_nil)))) (lookT_map (q := (L.getD i 0, j, x)) (fun q => D.int (lst q : Int)) (spotsL_nodup nd') (spotsL_mem.mpr ⟨hrL, hj, hx⟩)))) (by omega)) fun v10 H10 s10 hv10 I10 => ?_
        refine rs_app (la := ra) (j := 10) (G1 := OG2 S L lst sa ra i j) (ds := tb j fun sg => (milW S L lst).row i sg) (d := (milW S L lst).row i j) I10 ?_ ?_ rfl ?_ (by rw [tb_len]; omega) fun H11 s11 I11 => ?_
        · refine evx_tuple (ds := tb S.d fun x => (milW S L lst).cell i j x) (eva_cons (evx_lcF (it_tb (α := Unit) (it_list (ds := tb S.d fun x => .int (lst (L.getD i 0, j, x) : Int)) (evx_var (i := 14) rfl))) (fun x t hx ht => ?_) (by omega)) eva_nil)
          subst ht
          obtain ⟨z1, v, z2, z3⟩ := hl (L.getD i 0, j, x) (spotsL_mem.mpr ⟨hrL, hj, hx⟩)
          refine .mk tg_name (by decide) (evx_tup (ds := [_, _]) (eva_cons (evx_var (i := 15) rfl) (eva_cons (evx_dgetK (k := (v : Int)) (evx_var (i := 8) rfl) (evx_eq (evx_ixTn (evx_var (i := 12) rfl) (evx_var (i := 15) rfl) (tb_get z1)) (by rw [z3])) ?_) eva_nil)))
          rw [look_place nd' z2]
          have z3 : S.b (L.getD i 0) j (lst (L.getD i 0, j, x)) = some v := z3
          show some (D.int _) = some (D.int ((L.idxOf ((S.b (L.getD i 0) j (lst (L.getD i 0, j, x))).getD 0) : Nat) : Int))
          rw [z3]
          rfl
        · repeat (first | exact .nil | refine .cons (.inr rfl) ?_ | refine .cons (.inl rfl) ?_)
        · exact ⟨trivial, trivial, trivial, trivial, trivial, trivial, trivial, trivial, trivial, by simpa [OkB] using hsr, trivial, trivial, trivial, trivial, trivial, trivial, trivial⟩
        · refine ⟨?_, ((sm8.trans (Sm.of (s9.trans s10))).trans s11)⟩
          rw [← tb_take] at I11
          exact I11
      · rintro σ7 H8 ⟨I8, sm8⟩
        refine rs_app (la := sa) (j := 9) (G1 := OG S L lst sa i) (ds := tb i fun q => (milW S L lst).state q) (d := (milW S L lst).state i) I8 ?_ ?_ rfl ?_ (by rw [tb_len]; simp at hi; omega) fun H11 s11 I11 => ?_
        · exact evx_tuple (eva_cons (evx_liA (evx_var (i := 10) rfl)) eva_nil)
        · repeat (first | exact .nil | refine .cons (.inr rfl) ?_ | refine .cons (.inl rfl) ?_)
        · exact ⟨trivial, trivial, trivial, trivial, trivial, trivial, trivial, trivial, trivial, trivial, trivial, trivial, trivial, trivial, trivial, trivial, trivial⟩
        · refine ⟨?_, sm'.trans ((Sm.of s4).trans ?_)⟩
          · rw [← tb_take] at I11
            exact I11
          · refine Sm.drop n6 (Sm.trans (Sm.of (s6.trans s7)) (Sm.trans (Sm.sub (by simp) sm8) (Sm.sub (by simp) s11)))
    · rintro σ' H' ⟨I', sm'⟩
      have ss : Same H H' := s1.trans fun b o eb => Sm.drop n2 (Sm.trans (Sm.of (s2.trans s3)) sm') b o (by simp) eb
      have lL : (intD L).length = L.length := by simp
      rw [lL] at I'
      exact rs_st (st_ret (evx_tup (ds := [_, _, _]) (eva_cons (evx_var (i := 3) rfl) (eva_cons (evx_var (i := 4) rfl) (eva_cons (evx_tuple (eva_cons (evx_liA (evx_var (i := 9) rfl)) eva_nil)) eva_nil)))) hD) ss I'
end
end Mw

namespace Mw
open PySem PySem.Spec PyProof.Rows L2
/-! ### the least of pairs -/
def ltP2 (a b : Nat × Nat) : Bool := decide (a.1 < b.1) || (decide (a.1 = b.1) && decide (a.2 < b.2))
def minN (q : Nat × Nat) (l : List (Nat × Nat)) : Nat × Nat := l.foldl (fun a y => if ltP2 y a then y else a) q
@[reducible] def pairD (q : Nat × Nat) : D := .tup [.int (q.1 : Int), .int (q.2 : Int)]
theorem lt_pairD (a b : Nat × Nat) : PySem.W.dataLt (pairD a).py (pairD b).py = ltP2 a b := by
  show PySem.W.dataLt (.tuple [.int (a.1 : Int), .int (a.2 : Int)]) (.tuple [.int (b.1 : Int), .int (b.2 : Int)]) = _
  rw [PySem.W.dataLt_pair rfl rfl, PySem.W.dataLt_int, PySem.W.dataLt_int]
  show (if ((a.1 : Int) == (b.1 : Int)) = true then (if ((a.2 : Int) == (b.2 : Int)) = true then false else _) else _) = _
  unfold ltP2
  by_cases h1 : a.1 = b.1
  · have e : ((a.1 : Int) == (b.1 : Int)) = true := by rw [h1]; simp
    rw [if_pos e]
    by_cases h2 : a.2 = b.2
    · have e : ((a.2 : Int) == (b.2 : Int)) = true := by rw [h2]; simp
      rw [if_pos e]
      simp [h1, h2]
    · have e : ¬ ((a.2 : Int) == (b.2 : Int)) = true := by
        intro z
        have z := eq_of_beq z
        omega
      rw [if_neg e]
      simp [h1]
  · have e : ¬ ((a.1 : Int) == (b.1 : Int)) = true := by
      intro z
      have z := eq_of_beq z
      omega
    rw [if_neg e]
    simp [h1]
theorem minD_pairs (l : List (Nat × Nat)) : ∀ q : Nat × Nat, PySem.W.minD (pairD q).py (D.pyL (l.map pairD)) = (pairD (minN q l)).py := by
  induction l with
  | nil => intro q; rfl
  | cons y l ih =>
    intro q
    show PySem.W.minD (if PySem.W.dataLt (pairD y).py (pairD q).py then (pairD y).py else (pairD q).py) (D.pyL (l.map pairD)) = (pairD (minN (if ltP2 y q then y else q) l)).py
    rw [lt_pairD]
    cases ltP2 y q with
    | true => exact ih y
    | false => exact ih q
theorem minN_mem (l : List (Nat × Nat)) : ∀ q, minN q l ∈ q :: l := by
  induction l with
  | nil => intro q; exact List.mem_cons_self
  | cons y l ih =>
    intro q
    show minN (if ltP2 y q then y else q) l ∈ q :: y :: l
    rcases List.mem_cons.mp (ih (if ltP2 y q then y else q)) with h | h
    · rw [h]
      split <;> simp
    · exact List.mem_cons_of_mem _ (List.mem_cons_of_mem _ h)
theorem minN_le (l : List (Nat × Nat)) : ∀ q x, x ∈ q :: l → (minN q l).1 ≤ x.1 := by
  induction l with
  | nil =>
    intro q x h
    rcases List.mem_cons.mp h with h | h
    · rw [h]; exact Nat.le_refl _
    · cases h
  | cons y l ih =>
    intro q x h
    show (minN (if ltP2 y q then y else q) l).1 ≤ x.1
    have key : (if ltP2 y q then y else q).1 ≤ q.1 ∧ (if ltP2 y q then y else q).1 ≤ y.1 := by
      unfold ltP2
      split
      · rename_i h
        simp only [Bool.or_eq_true, Bool.and_eq_true, decide_eq_true_eq] at h
        omega
      · rename_i h
        simp only [Bool.or_eq_true, Bool.and_eq_true, decide_eq_true_eq] at h
        omega
    have h0 := ih (if ltP2 y q then y else q) _ List.mem_cons_self
    rcases List.mem_cons.mp h with h | h
    · rw [h]
      omega
    · rcases List.mem_cons.mp h with h | h
      · rw [h]
        omega
      · exact ih _ x (List.mem_cons_of_mem _ h)
theorem py_inj_pair {a b : Nat × Nat} (h : (pairD a).py = (pairD b).py) : a = b := by
  have h : PyData.tuple [.int (a.1 : Int), .int (a.2 : Int)] = PyData.tuple [.int (b.1 : Int), .int (b.2 : Int)] := h
  injection h with h
  injection h with h1 h
  injection h1 with h1
  injection h with h2 h
  injection h2 with h2
  exact Prod.ext (by omega) (by omega)
def costL (p : Pr) (x : Nat) (l : List Nat) : List (Nat × Nat) := l.map fun g => ((costF p x g).getD 0, g)
def leastF (p : Pr) (x : Nat) (l : List Nat) : Nat := match costL p x l with
  | [] => 0
  | q :: r => (minN q r).2
theorem alike_pairs (l : List (Nat × Nat)) : PySem.W.AlikeAll (D.pyL (l.map pairD)) := by
  rw [D.pyL_map, List.map_map]
  refine ⟨fun x hx y hy => ?_, fun x hx => ?_⟩
  · obtain ⟨a, _, rfl⟩ := List.mem_map.mp hx
    obtain ⟨b, _, rfl⟩ := List.mem_map.mp hy
    rfl
  · obtain ⟨a, _, rfl⟩ := List.mem_map.mp hx
    intro z
    cases z
theorem depth_pairs (l : List (Nat × Nat)) : PyData.depthAll (D.pyL (l.map pairD)) ≤ 60 := by
  have : PyData.depthAll (D.pyL (l.map pairD)) ≤ 1 := by
    induction l with
    | nil => exact Nat.zero_le _
    | cons q l ih =>
      show max 1 (PyData.depthAll (D.pyL (l.map pairD))) ≤ 1
      omega
  omega
section
variable {P : Program} {w : World} {K : PySem.W.Frag} {mg : Str → Option Value} {base : Heap} {G : List T} {ta tb' : TE} {a : TA}
theorem evx_minP {q : Nat × Nat} {l : List (Nat × Nat)} (h : EvA G a [.li ((q :: l).map pairD)]) : EvX G (tCB (rMinD K) a) (.d (pairD (minN q l))) := fun σ H I Q k => h σ H I _ fun vs H1 s1 hvs => by
  cases hvs with
  | cons r t =>
    cases t
    obtain ⟨p, xs, rfl, h1, h2⟩ := r
    refine ⟨p, xs, (pairD q).py, D.pyL (l.map pairD), rfl, SqL.of h1, DvL.dp _ _ h2, alike_pairs (q :: l), depth_pairs (q :: l), fun i y hy hm => k y H1 s1 ?_⟩
    obtain ⟨d, e1, e2⟩ := h2.getV hy
    rw [minD_pairs] at hm
    have hm : (D.pyL ((q :: l).map pairD))[i]? = some (pairD (minN q l)).py := hm
    rw [D.pyL_map, List.getElem?_map, e1] at hm
    obtain ⟨_, rfl⟩ := map_at (d := (0, 0)) e1
    have e := py_inj_pair (Option.some.inj hm)
    rw [← e]
    exact e2
abbrev N_least_of : List Str := ["prices", "deed", "some", "given", "price"]
theorem sc_least_of : FnScope N_least_of ["prices", "deed", "some"] (defScope s_least_of) := C8.fnScope_by (by decide +kernel)

def R_least_of (ts : List T) (t : T) : Prop := ∃ (d : Nat) (p : Pr) (x : Nat) (l : List Nat), d ≤ 1000 ∧ x < d ∧ l ≠ [] ∧ l.length ≤ 1000 ∧ (∀ gn ∈ l, gn < d ∧ (costF p x gn).isSome = true) ∧ ts = [.d (encP d p), .d (.int (x : Int)), .li (intD l)] ∧ t = .d (.int (leastF p x l : Int))
theorem cal_least_of (F : MDef K mg "least_of" s_least_of) (g : Glo mg) (c_cost : C8.Cal P w K mg base 1 "cost" (spX R_cost) []) : C8.Cal P w K mg base 2 "least_of" (spX R_least_of) [] :=
  cal_pure F sc_least_of (fun _ _ _ _ _ _ us hl => match us, hl with | [_, _, _], _ => rfl) (fun ts t ⟨_, _, _, _, _, _, _, _, _, e, _⟩ => by rw [e]; rfl) fun f cdv A outer s H E hr ts t ⟨d, p, x, l, b1, hx, hne, hl, ha, e1, e2⟩ => by
    subst e1 e2
    have nd := sc_least_of.nd
    have hu := hu_of hr
    refine ⟨_, (pss_cons (ps_asg (pe_callB (r := rMinD K) (cr_minD rfl hr.units) (by rfl) g.min (by decide +kernel) (pa_cons (pe_lc (own := [("given", 3)]) (g := (gName 3)) (tt := tYes) rfl nd (pi_listK (K := K) rfl (pv 2)) (blkOk_by (by show blkC N_least_of (defScope s_least_of) _ _ = true; decide +kernel)) (fun _ _ _ _ _ => (pg_name (i := 3) nd rfl (Or.inl rfl))) (fun _ _ _ _ _ => pts_nil) (fun _ _ _ _ _ => (pe_tup (pa_cons (C8.pe_c c_cost hr (by decide) rfl (pa_cons (pv 0) (pa_cons (pv 1) (pa_cons (pv 3) pa_nil)))) (pa_cons (pv 3) pa_nil))))) pa_nil)) (pg_tup rfl (pgs_cons (pg_name (i := 4) nd rfl (Or.inl rfl)) (pgs_cons (pg_name (i := 3) nd rfl (Or.inl rfl)) pgs_nil))))
      (pss_one (ps_ret (pv 3)))), ?_⟩
    intro En hD hN
    obtain ⟨gn, l', rfl⟩ := List.exists_cons_of_ne_nil hne
    refine st_seq (st_asg (t := .d (pairD (minN ((costF p x gn).getD 0, gn) (costL p x l')))) (evx_minP (eva_cons (t := .li ((((costF p x gn).getD 0, gn) :: costL p x l').map pairD)) (evx_eq (evx_lcM (α := Nat) (p := fun _ => true) (h := fun y => pairD ((costF p x y).getD 0, y)) (it_list (evx_var rfl)) (fun y hy => ?_) (by omega)) ?_) eva_nil)) (tg_tup (tgs_cons tg_name (tgs_cons tg_name tgs_nil))) ?_)
    · obtain ⟨z1, z2⟩ := ha y hy
      obtain ⟨c, hc⟩ := Option.isSome_iff_exists.mp z2
      refine .mk tg_name (by decide) (evx_tup (ds := [_, _]) (eva_cons (evx_eq (evx_call (eva_cons (evx_var rfl) (eva_cons (evx_var rfl) (eva_cons (evx_var rfl) eva_nil))) ⟨d, p, x, y, hx, z1, rfl, rfl⟩) ?_) (eva_cons (evx_var rfl) eva_nil)))
      rw [hc]
      rfl
    · rw [List.filter_eq_self.mpr fun _ _ => rfl]
      congr 1
      show _ = pairD _ :: (costL p x l').map pairD
      unfold costL
      rw [List.map_map]
      rfl
    · exact st_ret (evx_var rfl) hD
def lstF (S : Sy) (p : Pr) (L : List Nat) (q : Nat × Nat × Nat) : Nat := leastF p q.2.2 (keepF S p (inL L) q.1 q.2.1 q.2.2)
theorem leastF_mem {p : Pr} {x : Nat} {l : List Nat} (h : l ≠ []) : leastF p x l ∈ l := by
  obtain ⟨gn, l', rfl⟩ := List.exists_cons_of_ne_nil h
  show (minN ((costF p x gn).getD 0, gn) (costL p x l')).2 ∈ gn :: l'
  rcases List.mem_cons.mp (minN_mem (costL p x l') ((costF p x gn).getD 0, gn)) with h | h
  · rw [h]
    exact List.mem_cons_self
  · obtain ⟨y, hy, e⟩ := List.mem_map.mp h
    rw [← e]
    exact List.mem_cons_of_mem _ hy
theorem leastF_le {p : Pr} {x : Nat} {l : List Nat} {y : Nat} (h : y ∈ l) : (costF p x (leastF p x l)).getD 0 ≤ (costF p x y).getD 0 := by
  obtain ⟨gn, l', rfl⟩ := List.exists_cons_of_ne_nil (List.ne_nil_of_mem h)
  show (costF p x (minN ((costF p x gn).getD 0, gn) (costL p x l')).2).getD 0 ≤ _
  have h1 : ((costF p x y).getD 0, y) ∈ ((costF p x gn).getD 0, gn) :: costL p x l' := by
    have : ((costF p x y).getD 0, y) ∈ costL p x (gn :: l') := List.mem_map.mpr ⟨y, h, rfl⟩
    exact this
  have h2 := minN_le (costL p x l') ((costF p x gn).getD 0, gn) _ h1
  have h3 := minN_mem (costL p x l') ((costF p x gn).getD 0, gn)
  have h4 : minN ((costF p x gn).getD 0, gn) (costL p x l') ∈ costL p x (gn :: l') := h3
  obtain ⟨z, _, e⟩ := List.mem_map.mp h4
  rw [← e] at h2 ⊢
  exact h2
theorem keepF_ans {S : Sy} {p : Pr} {gd : Nat → Bool} {r g x y : Nat} (h : y ∈ keepF S p gd r g x) : y < S.d ∧ (costF p x y).isSome = true ∧ (S.b r g y).any gd = true := by
  simp only [keepF, ansF, List.mem_filter, List.mem_range] at h
  exact ⟨h.1.1, h.1.2, h.2⟩
theorem keepF_len (S : Sy) (p : Pr) (gd : Nat → Bool) (r g x : Nat) : (keepF S p gd r g x).length ≤ S.d := Nat.le_trans (List.length_filter_le _ _) (ansF_len S.d p x)
abbrev N_mildest_on : List Str := ["saying", "prices", "rooms", "choices", "spot", "some"]
theorem sc_mildest_on : FnScope N_mildest_on ["saying", "prices", "rooms"] (defScope s_mildest_on) := C8.fnScope_by (by decide +kernel)

def R_mildest_on (ts : List T) (t : T) : Prop := ∃ (S : Sy) (p : Pr) (L : List Nat), S.d ≤ 9 ∧ S.s ≤ 9 ∧ L.length ≤ 100 ∧ L.Nodup ∧ (∀ r ∈ L, r < S.n) ∧ (∀ q ∈ spotsL S L, keepF S p (inL L) q.1 q.2.1 q.2.2 ≠ []) ∧ ts = [.d S.D, .d (encP S.d p), .d (.tup (intD L))] ∧ t = .d (milW S L (lstF S p L)).D
theorem cal_mildest_on (F : MDef K mg "mildest_on" s_mildest_on) (g : Glo mg) (c_choices_of : C8.Cal P w K mg base 4 "choices_of" (spX R_choices_of) []) (c_on_rooms : C8.Cal P w K mg base 1 "on_rooms" (spX R_on_rooms) []) (c_least_of : C8.Cal P w K mg base 2 "least_of" (spX R_least_of) []) : C8.Cal P w K mg base 5 "mildest_on" (spX R_mildest_on) [] :=
  cal_pure F sc_mildest_on (fun _ _ _ _ _ _ us hl => match us, hl with | [_, _, _], _ => rfl) (fun ts t ⟨_, _, _, _, _, _, _, _, _, e, _⟩ => by rw [e]; rfl) fun f cdv A outer s H E hr ts t ⟨S, p, L, b1, b2, b3, nd', hlt, hk, e1, e2⟩ => by
    subst e1 e2
    have nd := sc_mildest_on.nd
    have hu := hu_of hr
    refine ⟨_, (pss_cons (ps_set (i := 3) nd rfl (Or.inl rfl) (C8.pe_c c_choices_of hr (by decide) rfl (pa_cons (pv 0) (pa_cons (pv 1) (pa_cons (pv 2) pa_nil)))))
      (pss_one (ps_ret (C8.pe_c c_on_rooms hr (by decide) rfl (pa_cons (pv 0) (pa_cons (pv 2) (pa_cons (pe_lock (pe_dcT (own := [("spot", 4), ("some", 5)]) (g := (gTup K 2 (gCons (gName 4) (gCons (gName 5) gNil)))) (tt := tYes) hu rfl nd (pi_itemsT (pv 3)) (blkOk_by (by show blkC N_mildest_on (defScope s_mildest_on) _ _ = true; decide +kernel)) (fun _ _ _ _ _ => (pg_tup rfl (pgs_cons (pg_name (i := 4) nd rfl (Or.inl rfl)) (pgs_cons (pg_name (i := 5) nd rfl (Or.inl rfl)) pgs_nil)))) (fun _ _ _ _ _ => pts_nil) (fun _ _ _ _ _ => (pv 4)) (fun _ _ _ _ _ => (C8.pe_c c_least_of hr (by decide) rfl (pa_cons (pv 1) (pa_cons (pe_ix (r := rIxT K) ix_tup (pv 4) pe_int (fun _ _ => rfl)) (pa_cons (pv 5) pa_nil))))))) pa_nil))))))), ?_⟩
    intro En hD hN
    refine st_seq (st_asg (evx_call (eva_cons (evx_var rfl) (eva_cons (evx_var rfl) (eva_cons (evx_var rfl) eva_nil))) ⟨S, p, L, b1, b2, b3, nd', hlt, rfl, rfl⟩) tg_name ?_)
    refine st_ret (evx_call (eva_cons (evx_var (i := 0) rfl) (eva_cons (evx_var (i := 2) rfl) (eva_cons (t := .dt (chosenM S L (lstF S p L))) (evx_lockL (i := 3) (m := chM S p L) rfl rfl (evx_eq (evx_dcT (f := fun i => (key3 ((spotsL S L).getD i (0, 0, 0)), .int (lstF S p L ((spotsL S L).getD i (0, 0, 0)) : Int))) (it_itemsF (m := chM S p L) (evx_var (i := 3) rfl)) (fun i t hi hq => ?_) (fun i j hi hj h => ?_) ?_) ?_)) eva_nil))) ⟨S, L, lstF S p L, b1, b2, b3, nd', hlt, fun q hq => ?_, rfl, rfl⟩) hD
    · obtain ⟨m, hm, ht⟩ := hq
      subst ht
      obtain ⟨q1, rfl⟩ := map_at (d := (0, 0, 0)) hm
      have hq := getD_mem (d := (0, 0, 0)) q1
      obtain ⟨z1, z2, z3⟩ := spotsL_mem.mp hq
      have hk' := hk _ hq
      generalize (spotsL S L).getD i (0, 0, 0) = q at z1 z2 z3 hk' hq ⊢
      refine ⟨[_, _, _, _, _, _], _, tg_pl tg_name tg_name, by decide, evx_var (i := 4) rfl, evx_call (eva_cons (evx_var (i := 1) rfl) (eva_cons (evx_ixTn (i := 2) (evx_var (i := 4) rfl) evx_int rfl) (eva_cons (evx_var (i := 5) rfl) eva_nil))) ⟨S.d, p, q.2.2, keepF S p (inL L) q.1 q.2.1 q.2.2, by omega, z3, hk', ?_, fun y hy => ?_, rfl, rfl⟩⟩
      · have := keepF_len S p (inL L) q.1 q.2.1 q.2.2
        omega
      · obtain ⟨y1, y2, _⟩ := keepF_ans hy
        exact ⟨y1, y2⟩
    · have e : (chM S p L).length = (spotsL S L).length := by simp [chM]
      rw [e] at hi hj
      exact nodup_getD (spotsL_nodup nd') _ hi hj (key3_inj h)
    · have e : (chM S p L).length = (spotsL S L).length := by simp [chM]
      rw [e, spotsL_len]
      have : L.length * (S.s * S.d) ≤ 100 * (9 * 9) := Nat.mul_le_mul b3 (Nat.mul_le_mul b2 b1)
      omega
    · have e : (chM S p L).length = (spotsL S L).length := by simp [chM]
      rw [e, tb_getD (spotsL S L) (0, 0, 0) (fun q => (key3 q, D.int (lstF S p L q : Int)))]
      rfl
    · obtain ⟨y1, y2, y3⟩ := keepF_ans (leastF_mem (hk q hq) (p := p) (x := q.2.2))
      obtain ⟨v, hv, hb⟩ := Option.any_eq_true _ _ |>.mp y3
      exact ⟨y1, v, of_decide_eq_true hb, hv⟩
end
end Mw

namespace Mw
open PySem PySem.Spec PyProof.Rows L2
/-! ### what is kept can be kept -/
theorem rowLose_none {S : Sy} {p : Pr} {gd : Nat → Bool} {r g x : Nat} (h : rowLose S p gd r g = none) (hx : x < S.d) : keepF S p gd r g x ≠ [] := by
  unfold rowLose at h
  rw [Option.map_eq_none_iff, List.find?_eq_none] at h
  have := h x (List.mem_range.mpr hx)
  intro e
  rw [e] at this
  exact this rfl
theorem loseF_none {S : Sy} {p : Pr} {gd : Nat → Bool} {r g x : Nat} (h : loseF S p gd r = none) (hg : g < S.s) (hx : x < S.d) : keepF S p gd r g x ≠ [] := by
  unfold loseF at h
  rw [List.findSome?_eq_none_iff] at h
  exact rowLose_none (h g (List.mem_range.mpr hg)) hx
theorem kept_keep {S : Sy} {p : Pr} {r g x : Nat} (hr : r ∈ keptF S p) (hg : g < S.s) (hx : x < S.d) : keepF S p (inL (keptF S p)) r g x ≠ [] := by
  have h := keptF_fix S p
  have h2 : r ∈ stepK S p (keptF S p) := by rw [h]; exact hr
  have h3 := (List.mem_filter.mp h2).2
  exact loseF_none (Option.isNone_iff_eq_none.mp h3) hg hx
theorem keptF_len (S : Sy) (p : Pr) : (keptF S p).length ≤ S.n := by
  rw [← keptF_range]
  exact Nat.le_trans (List.length_filter_le _ _) (by simp)
def MDefK (K : PySem.W.Frag) (mg : Str → Option Value) (x : Str) (st : Stmt) (kws : List (Str × V)) : Prop := ∃ (f : Addr) (fd : FuncData), FunD K x x (defArgs st) (defBody st) (defScope st) [] kws f fd ∧ mg x = some (.ref f)
/-- what a call of mildest by its name, prices by keyword, needs -/
def CalK (P : Program) (w : World) (K : PySem.W.Frag) (mg : Str → Option Value) (base : Heap) (k : Nat) (x : Str) (ks : List Str) (sp : Sp) : Prop :=
  ∃ (f : Addr) (fd : FuncData) (ps : List Str), FnOk P w K mg base CX0 k f fd ps sp ∧ mg x = some (.ref f) ∧ PySem.W.keepIn K (.ref f) = true ∧ KBn K fd ps 1 ks (fun us ws => us ++ ws) (fun vs zs => vs ++ zs)
section
variable {P : Program} {w : World} {K : PySem.W.Frag} {mg : Str → Option Value} {base : Heap} {G : List T} {ta tb' te : TE} {a ta' : TA}
theorem pe_ck {X : Cx} {k j : Nat} {x : Str} {ks : List Str} {sp : Sp} {e : Expr} {es : List Expr} {kws : List Keyword} {p pos : Pos} {t tk : TA} (c : CalK X.prog X.w X.K X.mg X.base k x ks sp) (hr : Room j X.A) (hk : k ≤ j) (hg : Gl X x) (ha : PA X (e :: es) t) (hkw : PK X kws tk)
    (hall : (backToKw pos (keywordEach kws X.env)).all (·.1.isSome) = true := by rfl) (hks : (backToKw pos (keywordEach kws X.env)).filterMap (·.1) = ks := by rfl)
    (hdb : (x == ("__debug__" : Str)) = false := by decide) (he : starEach (e :: es) X.env = (false, eval e X.env) :: starEach es X.env := by rfl)
    (hpl : ((backTo pos (starEach (e :: es) X.env)).any (·.1) || (backToKw pos (keywordEach kws X.env)).any (·.1.isNone)) = false := by rfl) :
    PE X (.Call (.Name x p) (e :: es) kws pos) (tCallN 1 ks.length sp (fun vs zs => vs ++ zs) E0 t tk) := by
  obtain ⟨f, fd, ps, F, hm, kp, b⟩ := c
  exact pe_callN F (hr.mono hk) hg hm kp b pass0 ha hkw hall hks hdb he hpl
theorem evx_callN {R : List T → T → Prop} {E : XK} {t1 t2 t : T} (h1 : EvA G a [t1]) (h2 : EvA G ta' [t2]) (hR : R [t1, t2] t) : EvX G (tCallN 1 1 (spX R) (fun vs zs => vs ++ zs) E a ta') t := fun σ H I Q q =>
  h1 σ H I _ fun vs H1 s1 hvs => h2 σ H1 (I.mono s1) _ fun zs H2 s2 hzs => by
    cases hvs with
    | cons r t =>
      cases t
      cases hzs with
      | cons r2 t =>
        cases t
        exact ⟨rfl, rfl, [t1, t2], _, hR, .cons (r.mono s2) (.cons r2 .nil), fun v H3 s3 hv => q v H3 ((s1.trans s2).trans s3) hv⟩
abbrev N_mildest : List Str := ["saying", "prices"]
theorem sc_mildest : FnScope N_mildest ["saying", "prices"] (defScope s_mildest) := C8.fnScope_by (by decide +kernel)

def R_mildest (ts : List T) (t : T) : Prop := ∃ (S : Sy) (p : Pr), S.Valid ∧ PrOk S.d p ∧ 0 ∈ keptF S p ∧ ts = [.d S.D, .d (encP S.d p)] ∧ t = .d (milW S (keptF S p) (lstF S p (keptF S p))).D
theorem cal_mildest (F : MDefK K mg "mildest" s_mildest [("prices", .non)]) (g : Glo mg) (c_need_both : C8.Cal P w K mg base 6 "need_both" (spX R_need_both) []) (c_need_kept : C8.Cal P w K mg base 7 "need_kept" (spX R_need_kept) []) (c_mildest_on : C8.Cal P w K mg base 5 "mildest_on" (spX R_mildest_on) []) : CalK P w K mg base 8 "mildest" ["prices"] (spX R_mildest) := by
  obtain ⟨f, fd, F, hm⟩ := F
  refine ⟨f, fd, ["saying", "prices"], F.ok sc_mildest (fun vs H Q E ⟨ts, t, ⟨_, _, _, _, _, e, _⟩, hv, _⟩ => ?_) fun cdv A outer s H vs Q E hr ⟨ts, t, ⟨S, p, hS, hp, h0, e1, e2⟩, hv, hQ⟩ => ?_, hm, F.kp, ?_⟩
  · subst e
    exact hv.length.symm
  · subst e1 e2
    have hS' := hS
    obtain ⟨⟨a1, a2⟩, ⟨b1, b2⟩, ⟨c1, c2⟩, _⟩ := hS'
    have main : ∃ t, PSs (cxOf CX0 P w K mg base N_mildest "mildest" (defScope s_mildest) f cdv A outer s H E).nox (defBody s_mildest) t ∧ ∀ (En : Ends), (∀ v H', Same H H' → Is H' (.d (milW S (keptF S p) (lstF S p (keptF S p))).D) v → En.rt v H') → StX H ([T.d S.D, T.d (encP S.d p)] ++ List.replicate 0 T.u) t En := by
      have nd := sc_mildest.nd
      have hu := hu_of hr
      refine ⟨_, (pss_cons (ps_expr (C8.pe_c c_need_both hr (by decide) rfl (pa_cons (pv 0) (pa_cons (pv 1) pa_nil))))
        (pss_one (ps_ret (C8.pe_c c_mildest_on hr (by decide) rfl (pa_cons (pv 0) (pa_cons (pv 1) (pa_cons (C8.pe_c c_need_kept hr (by decide) rfl (pa_cons (pv 0) (pa_cons (pv 1) pa_nil))) pa_nil))))))), ?_⟩
      intro En hD
      refine st_seq (st_drop (evx_call (eva_cons (evx_var rfl) (eva_cons (evx_var rfl) eva_nil)) ⟨S, p, hS, hp, rfl, rfl⟩) ?_)
      refine st_ret (evx_call (eva_cons (evx_var rfl) (eva_cons (evx_var rfl) (eva_cons (evx_call (eva_cons (evx_var rfl) (eva_cons (evx_var rfl) eva_nil)) ⟨S, p, by omega, by omega, by omega, h0, rfl, rfl⟩) eva_nil))) ⟨S, p, keptF S p, b2, a2, ?_, keptF_nodup S p, fun r hr => keptF_lt hr, fun q hq => ?_, rfl, rfl⟩) hD
      · have := keptF_len S p
        omega
      · obtain ⟨z1, z2, z3⟩ := spotsL_mem.mp hq
        exact kept_keep z1 z2 z3
    obtain ⟨tt, h1, h2⟩ := main
    exact ⟨tt, PSs.nox h1, h2 _ hQ (start N_mildest vs) H (Same.refl H) (EnvOk.start (N := N_mildest) hv)⟩
  · obtain ⟨oc, od, dV, kV, doc, pm, an, cdv, ct, osl, rfl, lk, hcd, hD, hK⟩ := F.ex
    rcases hD with ⟨_, rfl⟩ | ⟨e, _⟩
    · exact ⟨fun s us ws _ l1 l2 => BindsTo.of_eq (match us, ws, l1, l2 with | [_], [_], _, _ => rfl), fun r1 r2 => by
        induction r1 with
        | nil => exact r2
        | cons r _ ih => exact .cons r ih⟩
    · exact absurd rfl e
end
end Mw

namespace Mw
open PySem PySem.Spec PyProof.Rows L2
section
variable {G G' G1 : List T} {ta tb' te tl tk tv td ty : TE} {tt : TT} {a : TA} {K : PySem.W.Frag} {A : List Addr}
theorem EnvOk.know {H : Hp} {t : T} {v : V} (hv : Is H t v) : ∀ {G : List T} {σ : Slots} {i : Nat}, EnvOk H G σ → σ[i]? = some (some v) → EnvOk H (G.set i t) σ
  | _, _, _, .nil, _ => .nil
  | _ :: G, _ :: σ, 0, .cons _ q, h => by
    have h : (some (some v)) = _ := h.symm
    simp at h
    subst h
    exact .cons (SlOk.mk hv) q
  | u :: G, _ :: σ, i + 1, .cons r q, h => .cons r (EnvOk.know hv q (by simpa using h))
def SeqT : T → Bool
  | .u => true
  | .v _ => true
  | .d _ => true
  | .li _ => true
  | .la _ _ => true
  | _ => false
theorem EnvOk.monoS {H H' : Hp} (e : SeqX H H') : ∀ {G : List T} {σ : Slots}, G.all SeqT = true → EnvOk H G σ → EnvOk H' G σ
  | _, _, _, .nil => .nil
  | t :: ts, _, hp, .cons r q => by
    rw [List.all_cons, Bool.and_eq_true] at hp
    refine .cons ?_ (EnvOk.monoS e hp.2 q)
    cases t with
    | u => trivial
    | v x => exact r
    | d d =>
      obtain ⟨v, h1, h2⟩ := r
      exact ⟨v, h1, Dv.monoT e.1 _ _ h2⟩
    | li ds =>
      obtain ⟨v, h1, h2⟩ := r
      exact ⟨v, h1, IsLi.monoS e h2⟩
    | la a ds =>
      obtain ⟨v, h1, h2, xs, h3, h4⟩ := r
      exact ⟨v, h1, h2, xs, e.2 _ _ h3, DvL.monoT e.1 _ _ h4⟩
    | dk _ => cases hp.1
    | rk _ => cases hp.1
    | dt _ => cases hp.1
    | dl _ => cases hp.1
    | fk _ => cases hp.1
    | fl _ => cases hp.1
    | pl _ _ => cases hp.1
/-! ### new lists -/
/-- a def that returns a new list -/
def spNew (R : List T → List D → Prop) : Sp := fun vs H Q _ => ∃ ts ds, R ts ds ∧ IsL H ts vs ∧ ∀ a H', H a = none → Same H H' → Is H' (.la a ds) (.ref a) → Q (.ref a) H'
/-- an expression that gives a new list -/
def EvN (G : List T) (te : TE) (ds : List D) : Prop := ∀ σ H, EnvOk H G σ → ∀ Q : VK, (∀ a H', H a = none → Same H H' → Is H' (.la a ds) (.ref a) → Q (.ref a) H') → te σ H Q
theorem EvN.x {ds : List D} (h : EvN G te ds) : EvX G te (.li ds) := fun σ H I Q q => h σ H I Q fun a H' _ s ⟨_, xs, h1, h2⟩ => q _ H' s ⟨a, xs, rfl, h1, h2⟩
theorem EvN.eq {ds es : List D} (h : EvN G te ds) (e : ds = es) : EvN G te es := e ▸ h
theorem evn_call {R : List T → List D → Prop} {E : XK} {ts : List T} {ds : List D} (h : EvA G a ts) (hR : R ts ds) : EvN G (tCall (spNew R) [] E a) ds := fun σ H I Q q =>
  h σ H I _ fun vs H1 s1 hvs => by
    rw [List.append_nil]
    exact ⟨ts, ds, hR, hvs, fun b H2 n2 s2 hv => q b H2 (none_of s1 n2) (s1.trans s2) hv⟩
theorem evn_lc {wi : TI} {n : Nat} {F : Nat → T → Prop} {g : TG} {vs : List Nat} (f : Nat → Option D) (hi : ItX G wi n F) (ht : ∀ i t, i < n → F i t → LcTurn (wipeG G vs) g tt te vs t (f i)) (hz : n < 100000) :
    EvN G (tLc wi g tt te vs) ((List.range n).filterMap f) := fun σ H I Q q => hi σ H I _ fun J H1 s1 w Dl hD =>
  run_lc w (I.mono s1) hD ht (same_new hD) ⟨[], upd_same, DvL.nil⟩ (by simpa using hz) fun H' s' ⟨xs, hx, hd⟩ => q Dl H' (none_of s1 hD) (s1.trans s') ⟨rfl, xs, hx, by simpa using hd⟩
theorem evn_lcM {α : Type} {wi : TI} {l : List α} {en h : α → D} {p : α → Bool} {g : TG} {vs : List Nat} (hi : ItX G wi (l.map en).length (FD (l.map en)))
    (ht : ∀ a, a ∈ l → LcTurn (wipeG G vs) g tt te vs (.d (en a)) (if p a then some (h a) else none)) (hz : l.length < 100000) : EvN G (tLc wi g tt te vs) ((l.filter p).map h) := by
  rw [← filterMap_if l p h, ← fm_list _ l]
  have e : l.length = (l.map en).length := by simp
  rw [e]
  refine evn_lc _ hi (fun i t hi ⟨d, e, et⟩ => ?_) (by rw [← e]; exact hz)
  subst et
  rw [List.getElem?_map] at e
  cases hx : l[i]? with
  | none =>
    rw [hx] at e
    cases e
  | some x =>
    rw [hx] at e
    cases e
    exact ht x (List.mem_of_getElem? hx)
theorem evn_lc2 {wi wi1 : TI} {n : Nat} {F : Nat → T → Prop} {g g1 : TG} {tt1 : TT} {vs vs1 : List Nat} (f : Nat → List D) (hi : ItT G wi n F) (hG : G.all PureT = true) (ht : ∀ Dl i t, i < n → F i t → ApTurn G Dl g tt vs (tLv wi1 g1 tt1 vs1 (rApp Dl te)) t (f i)) (hz : ((List.range n).flatMap f).length < 100000) :
    EvN G (tLc2 wi g tt wi1 g1 tt1 te vs vs1) ((List.range n).flatMap f) := fun σ H I Q q => hi σ H I _ fun J H1 s1 w Dl hD => by
  have w' : WalkT J n F (upd H1 Dl (.lst [])) := by
    have tx : TupX H1 (upd H1 Dl (.lst [])) := TupX.of (same_new hD)
    exact ⟨fun i H hi s => w.1 i H hi (tx.trans s), fun H s => w.2.1 H (tx.trans s), fun i H x H' hi s y => w.2.2 i H x H' hi (tx.trans s) y⟩
  have z := run_ap w' ((I.mono s1).mono (same_new hD)) hG (ht Dl) upd_same (by simpa using hz) (Nx := fun H' => Q (.ref Dl) H') fun H' s' ⟨ys, hx, hd⟩ => q Dl _ (none_of s1 hD) (s1.trans fun b o eb => s' b o (ne_of_none eb hD) (by rw [upd_ne (ne_of_none eb hD)]; exact eb)) ⟨rfl, ys, by simpa using hx, hd⟩
  exact z
theorem evn_lst {ds : List D} (h : EvA G a (ds.map T.d)) (hl : ds.length ≤ 100000 := by first | decide | simp) : EvN G (tLst a) ds := fun σ H I Q q =>
  h σ H I _ fun vs H1 s1 hvs => by
    have hv := isL_d hvs
    refine ⟨by rw [hv.len]; exact len_ok hl, fun p hp => q p _ (none_of s1 hp) (s1.trans (same_new hp)) ?_⟩
    exact ⟨rfl, vs, upd_same, hv.mono (same_new hp)⟩
/-- the promise of a def that returns a new list -/
theorem cal_new {P : Program} {w : World} {mg : Str → Option Value} {base : Heap} {x : Str} {st : Stmt} {N ps : List Str} {k : Nat} {R : List T → List D → Prop} (F : MDef K mg x st) (S : FnScope N ps (defScope st))
    (hb : ∀ (kV doc pm : Value) (an : Option Addr) (cdv ct : Value) (us : List Value), us.length = ps.length → bindArgs (PySem.W.fnOf x x (defArgs st) (defBody st) (defScope st) .none kV doc pm an cdv ct) ⟨us, []⟩ = pure (ps.zip us))
    (len : ∀ ts ds, R ts ds → ts.length = ps.length)
    (hbody : ∀ (f : Addr) (cdv : Value) (A : Around) (outer : List Env) (s : Shared) (H : Hp) (E : XK), Room k (A.deeper (envOfC x (defScope st) s.heap.objs.size f cdv)) → ∀ ts ds, R ts ds →
      ∃ tt, PSs (cxOf CX0 P w K mg base N x (defScope st) f cdv A outer s H E).nox (defBody st) tt ∧ ∀ (D : Ends) σ, EnvOk H (ts ++ List.replicate (N.length - ts.length) .u) σ → (∀ a H', H a = none → Same H H' → Is H' (.la a ds) (.ref a) → D.rt (.ref a) H') → tt D σ H) : C8.Cal P w K mg base (k + 1) x (spNew R) [] := by
  refine cal_of F S hb (fun vs H Q E ⟨ts, t, hR, hv, _⟩ => hv.length.symm.trans (len ts t hR)) fun f cdv A outer s H vs Q E hr ⟨ts, t, hR, hv, hQ⟩ => ?_
  obtain ⟨tt, h1, h2⟩ := hbody f cdv A outer s H E hr ts t hR
  exact ⟨tt, h1, h2 _ (start N vs) (EnvOk.start hv) hQ⟩
/-- over a list that is held, while all else may change -/
theorem wk_list {ds : List D} {g : TG} {t1 : TS} {D : Ends} {σ : Slots} {H1 : Hp} {la : Addr} {xs : List V} (e1 : H1 la = some (.lst xs)) (e2 : DvL H1 ds xs)
    (h : ∃ Pv : Nat → Slots → Hp → Prop, Pv 0 σ H1 ∧ (∀ i σ' H', Pv i σ' H' → H' la = some (.lst xs) ∧ TupX H1 H') ∧
      (∀ i d x σ' H', ds[i]? = some d → Pv i σ' H' → Dv H' d x → g x σ' H' fun σ3 H3 => t1 { D with nx := Pv (i + 1), ct := Pv (i + 1), bk := D.nx } σ3 H3) ∧ ∀ σ' H', Pv ds.length σ' H' → D.nx σ' H') :
    ∃ a, V.ref la = .ref a ∧ (∃ xs, SqL K H1 a xs) ∧ ∃ W : Nat → Nat → Slots → Hp → Prop, (∃ m, W 0 m σ H1) ∧ ∀ i m σ H, W i m σ H →
      ((Itl K a).stop i H ∧ D.nx σ H) ∨ ((Itl K a).go i H ∧ ∃ N : Slots → Hp → Prop, (∀ σ' H', N σ' H' → ∃ m', m' < m ∧ W (i + 1) m' σ' H') ∧ ∀ x H', (Itl K a).yld i H x H' → g x σ H' fun σ2 H2 => t1 { D with nx := N, ct := N, bk := D.nx } σ2 H2) := by
  obtain ⟨Pv, h0, hP, hs, hd⟩ := h
  refine ⟨la, rfl, ⟨xs, SqL.of e1⟩, fun i m σ' H' => m = ds.length - i ∧ i ≤ ds.length ∧ Pv i σ' H', ⟨ds.length, by simp, Nat.zero_le _, h0⟩, ?_⟩
  rintro i m σ' H' ⟨rfl, hi', p⟩
  obtain ⟨el, tx⟩ := hP i σ' H' p
  have ll := e2.len
  by_cases hlt : i < ds.length
  · obtain ⟨w, hw, hdv⟩ := e2.get (List.getElem?_eq_getElem hlt)
    refine .inr ⟨⟨xs, w, SqL.of el, hw⟩, Pv (i + 1), fun σ2 H2 z => ⟨ds.length - (i + 1), by omega, rfl, hlt, z⟩, fun x H2 y => ?_⟩
    obtain ⟨rfl, y2⟩ := y
    have := y2 xs (SqL.of el)
    rw [hw] at this
    cases this
    exact hs i _ _ σ' H2 (List.getElem?_eq_getElem hlt) p (Dv.monoT tx _ _ hdv)
  · have e : i = ds.length := by omega
    subst e
    exact .inl ⟨⟨xs, SqL.of el, by rw [ll]; exact Nat.le_refl _⟩, hd σ' H' p⟩
theorem rs_forN {ds : List D} {g : TG} {t1 : TS} {D : Ends} {σ : Slots} {H : Hp} (I : EnvOk H G σ) (h : EvN G tl ds)
    (k : ∀ la xs H1, H la = none → Same H H1 → H1 la = some (.lst xs) → DvL H1 ds xs → ∃ Pv : Nat → Slots → Hp → Prop, Pv 0 σ H1 ∧ (∀ i σ' H', Pv i σ' H' → H' la = some (.lst xs) ∧ TupX H1 H') ∧
      (∀ i d x σ' H', ds[i]? = some d → Pv i σ' H' → Dv H' d x → g x σ' H' fun σ3 H3 => t1 { D with nx := Pv (i + 1), ct := Pv (i + 1), bk := D.nx } σ3 H3) ∧ ∀ σ' H', Pv ds.length σ' H' → D.nx σ' H') : tFor (iList K tl) g t1 D σ H :=
  h σ H I _ fun la H1 n s ⟨_, xs, e1, e2⟩ => wk_list e1 e2 (k la xs H1 n s e1 e2)
theorem rss_forN {ds : List D} {g : TG} {t1 u : TS} {D : Ends} {σ : Slots} {H : Hp} (I : EnvOk H G σ) (h : EvN G tl ds)
    (k : ∀ la xs H1, H la = none → Same H H1 → H1 la = some (.lst xs) → DvL H1 ds xs → ∃ Pv : Nat → Slots → Hp → Prop, Pv 0 σ H1 ∧ (∀ i σ' H', Pv i σ' H' → H' la = some (.lst xs) ∧ TupX H1 H') ∧
      (∀ i d x σ' H', ds[i]? = some d → Pv i σ' H' → Dv H' d x → g x σ' H' fun σ3 H3 => t1 { D with nx := Pv (i + 1), ct := Pv (i + 1), bk := u D } σ3 H3) ∧ ∀ σ' H', Pv ds.length σ' H' → u D σ' H') : tSeq (tFor (iList K tl) g t1) u D σ H := rs_forN (D := { D with nx := u D }) I h k
theorem rss_forA {ds : List D} {g : TG} {t1 u : TS} {D : Ends} {σ : Slots} {H : Hp} {la : Addr} (I : EnvOk H G σ) (h : EvX G tl (.la la ds))
    (k : ∀ xs H1, Same H H1 → H1 la = some (.lst xs) → DvL H1 ds xs → ∃ Pv : Nat → Slots → Hp → Prop, Pv 0 σ H1 ∧ (∀ i σ' H', Pv i σ' H' → H' la = some (.lst xs) ∧ TupX H1 H') ∧
      (∀ i d x σ' H', ds[i]? = some d → Pv i σ' H' → Dv H' d x → g x σ' H' fun σ3 H3 => t1 { D with nx := Pv (i + 1), ct := Pv (i + 1), bk := u D } σ3 H3) ∧ ∀ σ' H', Pv ds.length σ' H' → u D σ' H') : tSeq (tFor (iList K tl) g t1) u D σ H :=
  h σ H I _ fun v H1 s ⟨e, xs, e1, e2⟩ => by
    subst e
    exact wk_list (D := { D with nx := u D }) e1 e2 (k xs H1 s e1 e2)
theorem itt_tbE {wi : TI} {n : Nat} {f : Nat → D} (h : ItT G wi (tb n f).length (FE (tb n f))) : ItT G wi n (fun i t => t = .d (.tup [.int (i : Int), f i])) := by
  rw [tb_len] at h
  intro σ H I R q
  refine h σ H I R fun J H' s w => q J H' s ⟨w.1, w.2.1, fun i H x H' hi hs y => ?_⟩
  obtain ⟨s2, t, ⟨d, e, rfl⟩, hv⟩ := w.2.2 i H x H' hi hs y
  rw [tb_get hi] at e
  cases e
  exact ⟨s2, _, rfl, hv⟩
end
end Mw

namespace Mw
open PySem PySem.Spec PyProof.Rows L2
/-- what W lets by in q -/
def letL (W : Wa) (q : Nat) : List ((Nat × Nat) × Nat) := (List.range W.s).flatMap fun g => (List.range W.d).flatMap fun x => if W.g q g x = x then [((g, x), W.t q g x)] else []
@[reducible] def letD (y : (Nat × Nat) × Nat) : D := .tup [pairD y.1, .int (y.2 : Int)]
theorem letL_mem {W : Wa} {q : Nat} {y : (Nat × Nat) × Nat} : y ∈ letL W q ↔ y.1.1 < W.s ∧ y.1.2 < W.d ∧ W.g q y.1.1 y.1.2 = y.1.2 ∧ y.2 = W.t q y.1.1 y.1.2 := by
  obtain ⟨⟨a, b⟩, c⟩ := y
  simp only [letL, List.mem_flatMap, List.mem_range]
  constructor
  · rintro ⟨g, hg, x, hx, h⟩
    split at h
    · rename_i e
      simp only [List.mem_singleton, Prod.mk.injEq] at h
      obtain ⟨⟨rfl, rfl⟩, rfl⟩ := h
      exact ⟨hg, hx, e, rfl⟩
    · cases h
  · rintro ⟨h1, h2, h3, rfl⟩
    exact ⟨a, h1, b, h2, by rw [if_pos h3]; exact List.mem_cons_self⟩
theorem flatMap_le {α β : Type} {f : α → List β} {n : Nat} : ∀ {l : List α}, (∀ a ∈ l, (f a).length ≤ n) → (l.flatMap f).length ≤ l.length * n
  | [], _ => by simp
  | a :: l, h => by
    rw [List.flatMap_cons, List.length_append, List.length_cons, Nat.succ_mul]
    have h1 := h a List.mem_cons_self
    have h2 := flatMap_le fun b hb => h b (List.mem_cons_of_mem _ hb)
    omega
theorem map_flat2 (n m : Nat) (f : Nat → Nat → List ((Nat × Nat) × Nat)) : ((List.range n).flatMap fun g => (List.range m).flatMap fun x => f g x).map letD = (List.range n).flatMap fun g => (List.range m).flatMap fun x => (f g x).map letD := by
  rw [List.map_flatMap]
  congr 1
  funext g
  rw [List.map_flatMap]
section
variable {P : Program} {w : World} {K : PySem.W.Frag} {mg : Str → Option Value} {base : Heap} {G : List T} {ta tb' te : TE} {a ta' : TA}
abbrev N_let_wholly : List Str := ["watcher", "state", "rows", "sign", "row", "deed", "given", "behind"]
theorem sc_let_wholly : FnScope N_let_wholly ["watcher", "state"] (defScope s_let_wholly) := C8.fnScope_by (by decide +kernel)

def R_let_wholly (ts : List T) (ds : List D) : Prop := ∃ (W : Wa) (q : Nat), W.s ≤ 9 ∧ W.d ≤ 9 ∧ q < W.n ∧ ts = [.d W.D, .d (.int (q : Int))] ∧ ds = (letL W q).map letD
theorem cal_let_wholly (F : MDef K mg "let_wholly" s_let_wholly) (g : Glo mg) : C8.Cal P w K mg base 1 "let_wholly" (spNew R_let_wholly) [] :=
  cal_new F sc_let_wholly (fun _ _ _ _ _ _ us hl => match us, hl with | [_, _], _ => rfl) (fun ts t ⟨_, _, _, _, _, e, _⟩ => by rw [e]; rfl) fun f cdv A outer s H E hr ts t ⟨W, q, b1, b2, hq, e1, e2⟩ => by
    subst e1 e2
    have nd := sc_let_wholly.nd
    have hu := hu_of hr
    refine ⟨_, (pss_cons (ps_set (i := 2) nd rfl (Or.inl rfl) (pe_ix (r := rIxT K) ix_tup (pe_ix (r := rIxT K) ix_tup (pv 0) pe_int (fun _ _ => rfl)) (pv 1) (fun _ _ => rfl)))
      (pss_one (ps_ret (pe_lc2 (own := [("sign", 3), ("row", 4), ("deed", 5), ("given", 6), ("behind", 7)]) (g := (gTup K 2 (gCons (gName 3) (gCons (gName 4) gNil)))) (g1 := (gTup K 2 (gCons (gName 5) (gCons (gTup K 2 (gCons (gName 6) (gCons (gName 7) gNil))) gNil)))) (tt := tYes) (vs1 := [5, 6, 7]) rfl nd (pi_enumTK (K := K) rfl rfl g.enumerate (pa_cons (pv 2) pa_nil)) (blkOk_by (by show blkC N_let_wholly (defScope s_let_wholly) _ _ = true; decide +kernel)) (by decide) (fun _ _ _ _ _ => (pg_tup rfl (pgs_cons (pg_name (i := 3) nd rfl (Or.inl rfl)) (pgs_cons (pg_name (i := 4) nd rfl (Or.inl rfl)) pgs_nil)))) (fun _ _ _ _ _ => pts_nil) (fun _ _ _ _ _ => (pi_enumTK (K := K) rfl rfl g.enumerate (pa_cons (pv 4) pa_nil))) (fun _ _ _ _ _ => (pg_tup rfl (pgs_cons (pg_name (i := 5) nd rfl (Or.inl rfl)) (pgs_cons (pg_tup rfl (pgs_cons (pg_name (i := 6) nd rfl (Or.inl rfl)) (pgs_cons (pg_name (i := 7) nd rfl (Or.inl rfl)) pgs_nil))) pgs_nil)))) (fun _ _ _ _ _ => (pts_one (pt_cmpR op_eq (pv 6) (pv 5) (nomark _)))) (fun _ _ _ _ _ => (pe_tup (pa_cons (pe_tup (pa_cons (pv 3) (pa_cons (pv 5) pa_nil))) (pa_cons (pv 7) pa_nil)))))))), ?_⟩
    intro En σ I hD
    refine rss_ev I (evx_ixTn (evx_ixTn (i := 2) (evx_var (i := 0) rfl) evx_int rfl) (evx_var (i := 1) rfl) (tb_get hq)) fun v H1 s1 hv I1 => ?_
    refine rs_ret (EvN.eq (evn_lc2 (G := [_, _, _, _, _, _, _, _]) (fun g => (List.range W.d).flatMap fun x => (if W.g q g x = x then [((g, x), W.t q g x)] else []).map letD) (by
      have h := itT_enum (K := K) (G := [T.d W.D, .d (.int (q : Int)), .d (W.state q), .u, .u, .u, .u, .u]) (ds := tb W.s fun g => W.row q g) (eva_cons (evx_var (i := 2) rfl) eva_nil)
      exact itt_tbE h) rfl (fun Dl g t hg ht => ?_) ?_) ?_ _ _ I1 _ fun a H' n s h => hD a H' (none_of s1 n) (s1.trans s) h)
    · subst ht
      refine ⟨[_, _, _, _, _, _, _, _], _, true, tg_tup (tgs_cons tg_name (tgs_cons tg_name tgs_nil)), by decide, rfl, evb_yes, fun _ => ap_lv _ (itt_tbE (itT_enum (ds := tb W.d fun x => W.cell q g x) (eva_cons (evx_var (i := 4) rfl) eva_nil))) rfl fun x t hx ht => ?_, fun h => nomatch h⟩
      subst ht
      refine ⟨[_, _, _, _, _, _, _, _], _, decide (W.g q g x = x), tg_tup (tgs_cons tg_name (tgs_cons (tg_tup (tgs_cons tg_name (tgs_cons tg_name tgs_nil))) tgs_nil)), by decide, rfl, evb_T (evx_eqI (evx_var (i := 6) rfl) (evx_var (i := 5) rfl) ?_), fun h => ?_, fun h => ?_⟩
      · rw [decide_eq_decide]
        omega
      · rw [if_pos (of_decide_eq_true h)]
        exact ap_app (evx_tup (ds := [_, _]) (eva_cons (evx_tup (ds := [_, _]) (eva_cons (evx_var (i := 3) rfl) (eva_cons (evx_var (i := 5) rfl) eva_nil))) (eva_cons (evx_var (i := 7) rfl) eva_nil)))
      · rw [if_neg (of_decide_eq_false h)]
        rfl
    · have h1 : ((List.range W.s).flatMap fun g => (List.range W.d).flatMap fun x => (if W.g q g x = x then [((g, x), W.t q g x)] else []).map letD).length ≤ (List.range W.s).length * (W.d * 1) := flatMap_le fun g _ => by
        have := flatMap_le (l := List.range W.d) (f := fun x => (if W.g q g x = x then [((g, x), W.t q g x)] else []).map letD) (n := 1) fun x _ => by
          split <;> simp
        simpa using this
      rw [List.length_range] at h1
      have h2 : W.s * (W.d * 1) ≤ 9 * 9 := Nat.mul_le_mul b1 (by omega)
      omega
    · unfold letL
      rw [map_flat2]
end
end Mw

namespace Mw
open PySem PySem.Spec PyProof.Rows L2
/-! ### sorted pairs -/
def kf (H : Hp) : V → Int × Int
  | .ref t => match H t with
    | some (.tup [.int i, .int j]) => (i, j)
    | _ => (0, 0)
  | _ => (0, 0)
theorem kf_pair {H : Hp} {q : Nat × Nat} {v : V} (h : Dv H (pairD q) v) : ∃ t, v = .ref t ∧ H t = some (.tup [.int (q.1 : Int), .int (q.2 : Int)]) ∧ kf H v = ((q.1 : Int), (q.2 : Int)) := by
  obtain ⟨t, xs, rfl, h2, v1, r1, rfl, e1, v2, r2, rfl, e2, rfl⟩ := h
  obtain rfl : v1 = .int (q.1 : Int) := e1
  obtain rfl : v2 = .int (q.2 : Int) := e2
  refine ⟨t, rfl, h2, ?_⟩
  show (match H t with | some (.tup [.int i, .int j]) => (i, j) | _ => (0, 0)) = _
  rw [h2]
def kN (H : Hp) (v : V) : Nat × Nat := ((kf H v).1.toNat, (kf H v).2.toNat)
theorem kN_pair {H : Hp} {q : Nat × Nat} {v : V} (h : Dv H (pairD q) v) : kN H v = q := by
  obtain ⟨t, _, _, e⟩ := kf_pair h
  unfold kN
  rw [e]
  rfl
theorem kN_all {H : Hp} : ∀ {ps : List (Nat × Nat)} {xs : List V}, DvL H (ps.map pairD) xs → xs.map (kN H) = ps ∧ ∀ x ∈ xs, Dv H (pairD (kN H x)) x
  | [], xs, h => by
    obtain rfl : xs = [] := h
    exact ⟨rfl, fun _ h => by cases h⟩
  | q :: ps, xs, h => by
    obtain ⟨v, vs, rfl, h2, h3⟩ := (show ∃ v vs, xs = v :: vs ∧ Dv H (pairD q) v ∧ DvL H (ps.map pairD) vs from h)
    obtain ⟨e1, e2⟩ := kN_all h3
    refine ⟨by rw [List.map_cons, kN_pair h2, e1], fun x hx => ?_⟩
    rcases List.mem_cons.mp hx with rfl | hx
    · rw [kN_pair h2]
      exact h2
    · exact e2 x hx
theorem dvl_of {H : Hp} : ∀ {ys : List V}, (∀ y ∈ ys, Dv H (pairD (kN H y)) y) → DvL H ((ys.map (kN H)).map pairD) ys
  | [], _ => DvL.nil
  | y :: ys, h => DvL.cons (h y List.mem_cons_self) (dvl_of fun z hz => h z (List.mem_cons_of_mem _ hz))
section
variable {P : Program} {w : World} {K : PySem.W.Frag} {mg : Str → Option Value} {base : Heap} {G : List T} {ta tb' te : TE} {a ta' : TA}
theorem sorted_pairs {ps : List (Nat × Nat)} (nd : ps.Nodup) (h : EvA G a [.li (ps.map pairD)]) {σ : Slots} {H : Hp} {Q : VK} (I : EnvOk H G σ)
    (k : ∀ (qs : List (Nat × Nat)) v H', Same H H' → Is H' (.li (qs.map pairD)) v → qs.Perm ps → qs.Pairwise (fun a b => ltP2 a b = true) → Q v H') : tCB (rSortedPO K) a σ H Q := h σ H I _ fun vs H1 s1 hvs => by
  cases hvs with
  | cons r t =>
    cases t
    obtain ⟨p, xs, rfl, h1, h2⟩ := r
    obtain ⟨e1, e2⟩ := kN_all h2
    refine ⟨p, xs, kf H1, rfl, SqL.of h1, fun x hx => ?_, fun ys l hs hp hl => ?_⟩
    · obtain ⟨t, z1, z2, z3⟩ := kf_pair (e2 x hx)
      exact ⟨t, z1, by rw [z3]; exact z2⟩
    · have ey : ∀ y ∈ ys, Dv H1 (pairD (kN H1 y)) y := fun y hy => e2 y (hp.perm.mem_iff.mp hy)
      refine k (ys.map (kN H1)) _ _ (s1.trans (same_new hl)) ⟨l, ys, rfl, upd_same, (dvl_of ey).mono (same_new hl)⟩ (by rw [← e1]; exact hp.perm.map _) ?_
      have hn : (ys.map (kN H1)).Nodup := by
        rw [(hp.perm.map (kN H1)).nodup_iff, e1]
        exact nd
      rw [List.pairwise_map]
      rw [List.Nodup, List.pairwise_map] at hn
      refine List.Pairwise.imp₂ (fun a b q1 q2 => ?_) (List.Pairwise.and_mem.mp hs) hn
      obtain ⟨ha, hb, q1⟩ := q1
      obtain ⟨_, _, _, ka⟩ := kf_pair (ey a ha)
      obtain ⟨_, _, _, kb⟩ := kf_pair (ey b hb)
      have q1 := SrtO.lexB_no.mp q1
      rw [ka, kb] at q1
      unfold ltP2
      simp only [Bool.or_eq_true, Bool.and_eq_true, decide_eq_true_eq]
      have : ¬ ((kN H1 a).1 = (kN H1 b).1 ∧ (kN H1 a).2 = (kN H1 b).2) := fun z => q2 (Prod.ext z.1 z.2)
      simp only at q1
      omega
/-! ### pairs of states -/
def ClAt (W1 W2 : Wa) (ps : List (Nat × Nat)) (q : Nat × Nat) : Prop := ∀ g x, g < W1.s → x < W1.d → W2.g q.2 g x = x → W1.g q.1 g x = x ∧ (W1.t q.1 g x, W2.t q.2 g x) ∈ ps
def spMilder : Sp := fun vs H Q _ => ∃ (W1 W2 : Wa) (Z : Nat → Nat → Prop), W1.Valid ∧ W2.Valid ∧ W1.s = W2.s ∧ W1.d = W2.d ∧ Z 0 0 ∧ (∀ a b, Z a b → a < W1.n ∧ b < W2.n) ∧
  (∀ a b g x, Z a b → g < W1.s → x < W1.d → W2.g b g x = x → W1.g a g x = x ∧ Z (W1.t a g x) (W2.t b g x)) ∧ IsL H [.d W1.D, .d W2.D] vs ∧
  ∀ v H' (ps : List (Nat × Nat)), Same H H' → Dv H' (.tup [.str "milder", .tup (ps.map pairD)]) v → ps.Pairwise (fun a b => ltP2 a b = true) → (0, 0) ∈ ps → (∀ q ∈ ps, q.1 < W1.n ∧ q.2 < W2.n) → (∀ q ∈ ps, ClAt W1 W2 ps q) → ps.length ≤ 10000 → Q v H'
structure MS (W1 W2 : Wa) (Z : Nat → Nat → Prop) (H0 : Hp) (ca pa : Addr) (ps : List (Nat × Nat)) (H : Hp) : Prop where
  hc : ∃ kvs m, H ca = some (.dT kvs) ∧ MT H kvs m ∧ m.length = ps.length ∧ ∀ a b : Nat, keyInT m [(a : Int), (b : Int)] = decide ((a, b) ∈ ps)
  c0 : H0 ca = none
  p0 : H0 pa = none
  same : Same H0 H
  nd : ps.Nodup
  z0 : (0, 0) ∈ ps
  hz : ∀ q ∈ ps, Z q.1 q.2
theorem MS.mono {W1 W2 : Wa} {Z : Nat → Nat → Prop} {H0 H H' : Hp} {ca pa : Addr} {ps : List (Nat × Nat)} (h : MS W1 W2 Z H0 ca pa ps H) (s : Same H H') : MS W1 W2 Z H0 ca pa ps H' := by
  obtain ⟨kvs, m, h1, h2, h3, h4⟩ := h.hc
  exact ⟨⟨kvs, m, s _ _ h1, MT.mono (TupX.of s) h2, h3, h4⟩, h.c0, h.p0, h.same.trans s, h.nd, h.z0, h.hz⟩
def MG (W1 W2 : Wa) (ca pa : Addr) (ps : List (Nat × Nat)) (k : Nat) : List T := [.d W1.D, .d W2.D, .v (.ref ca), .la pa (ps.map pairD), .d (.int (k : Int)), .u, .u, .u, .u, .u, .u, .u]
def MG2 (W1 W2 : Wa) (ca pa : Addr) (ps : List (Nat × Nat)) (k a b : Nat) : List T := [.d W1.D, .d W2.D, .v (.ref ca), .la pa (ps.map pairD), .d (.int (k : Int)), .d (.int (a : Int)), .d (.int (b : Int)), .u, .u, .u, .u, .u]
theorem nodup_len {α : Type} [DecidableEq α] : ∀ {l m : List α}, l.Nodup → (∀ x ∈ l, x ∈ m) → l.length ≤ m.length
  | [], _, _, _ => Nat.zero_le _
  | a :: l, m, nd, h => by
    have ha := h a List.mem_cons_self
    rw [List.nodup_cons] at nd
    have := nodup_len (l := l) (m := m.erase a) nd.2 fun x hx => (List.mem_erase_of_ne (show x ≠ a from fun e => nd.1 (by rw [← e]; exact hx))).mpr (h x (List.mem_cons_of_mem _ hx))
    rw [List.length_erase_of_mem ha] at this
    have := List.length_pos_of_mem ha
    rw [List.length_cons]
    omega
theorem pairs_le {ps : List (Nat × Nat)} {n m : Nat} (nd : ps.Nodup) (h : ∀ q ∈ ps, q.1 < n ∧ q.2 < m) : ps.length ≤ n * m := by
  have hs : ∀ q ∈ ps, q ∈ (List.range n).flatMap fun a => (List.range m).map fun b => (a, b) := fun q hq => by
    obtain ⟨h1, h2⟩ := h q hq
    simp only [List.mem_flatMap, List.mem_map, List.mem_range]
    exact ⟨q.1, h1, q.2, h2, rfl⟩
  have h1 := nodup_len nd hs
  have h2 : ((List.range n).flatMap fun a => (List.range m).map fun b => (a, b)).length = n * m := by
    rw [flatMap_len (n := m) fun a _ => by simp, List.length_range]
  omega
end
end Mw

namespace Mw
open PySem PySem.Spec PyProof.Rows L2
section
variable {P : Program} {w : World} {K : PySem.W.Frag} {mg : Str → Option Value} {base : Heap} {G : List T} {ta tb' te : TE} {a ta' : TA}
theorem ClAt.app {W1 W2 : Wa} {ps more : List (Nat × Nat)} {q : Nat × Nat} (h : ClAt W1 W2 ps q) : ClAt W1 W2 (ps ++ more) q := fun g x hg hx e => ⟨(h g x hg hx e).1, List.mem_append_left _ (h g x hg hx e).2⟩
abbrev N_milder : List Str := ["one", "other", "came", "pairs", "at", "state", "beside", "sign", "deed", "far", "given", "behind"]
theorem sc_milder : FnScope N_milder ["one", "other"] (defScope s_milder) := C8.fnScope_by (by decide +kernel)

theorem cal_milder (F : MDef K mg "milder" s_milder) (g : Glo mg) (c_need_watcher : C8.Cal P w K mg base 6 "need_watcher" (spX R_need_watcher) []) (c_need_alike : C8.Cal P w K mg base 1 "need_alike" (spX R_need_alike) []) (c_let_wholly : C8.Cal P w K mg base 1 "let_wholly" (spNew R_let_wholly) []) : C8.Cal P w K mg base 7 "milder" spMilder [] :=
  cal_of F sc_milder (fun _ _ _ _ _ _ us hl => match us, hl with | [_, _], _ => rfl) (fun vs H Q E ⟨_, _, _, _, _, _, _, _, _, _, h, _⟩ => h.length.symm) fun f cdv A outer s H vs Q E hr ⟨W1, W2, Z, v1, v2, hs, hd, z00, zb, zc, hv, hQ⟩ => by
    have nd := sc_milder.nd
    have hu := hu_of hr
    refine ⟨_, (pss_cons (ps_expr (C8.pe_c c_need_watcher hr (by decide) rfl (pa_cons (pv 0) pa_nil)))
      (pss_cons (ps_expr (C8.pe_c c_need_watcher hr (by decide) rfl (pa_cons (pv 1) pa_nil)))
      (pss_cons (ps_expr (C8.pe_c c_need_alike hr (by decide) rfl (pa_cons (pv 0) (pa_cons (pv 1) pa_nil))))
      (pss_cons (ps_set (i := 2) nd rfl (Or.inl rfl) (pe_dispT hu (pe_tup (pa_cons pe_int (pa_cons pe_int pa_nil))) pe_non))
      (pss_cons (ps_set (i := 3) nd rfl (Or.inl rfl) (pe_lst (pa_cons (pe_tup (pa_cons pe_int (pa_cons pe_int pa_nil))) pa_nil)))
      (pss_cons (ps_set (i := 4) nd rfl (Or.inl rfl) pe_int)
      (pss_cons (ps_while PassesOwn.never (pt_cmpR op_lt (pv 4) (pe_callB (r := rLenK K) call_len_seq (by rfl) g.len PySem.boot_len (pa_cons (pv 3) pa_nil)) (nomark _)) (pss_cons (ps_asg (pe_ix (r := rIxL K) ix_list (pv 3) (pv 4) (fun _ _ => rfl)) (pg_tup rfl (pgs_cons (pg_name (i := 5) nd rfl (Or.inl rfl)) (pgs_cons (pg_name (i := 6) nd rfl (Or.inl rfl)) pgs_nil))))
      (pss_cons (ps_for PassesOwn.never rfl (pi_listK (K := K) rfl (C8.pe_c c_let_wholly hr (by decide) rfl (pa_cons (pv 1) (pa_cons (pv 6) pa_nil)))) (pg_tup rfl (pgs_cons (pg_tup rfl (pgs_cons (pg_name (i := 7) nd rfl (Or.inl rfl)) (pgs_cons (pg_name (i := 8) nd rfl (Or.inl rfl)) pgs_nil))) (pgs_cons (pg_name (i := 9) nd rfl (Or.inl rfl)) pgs_nil))) (pss_cons (ps_asg (pe_ix (r := rIxT K) ix_tup (pe_ix (r := rIxT K) ix_tup (pe_ix (r := rIxT K) ix_tup (pe_ix (r := rIxT K) ix_tup (pv 0) pe_int (fun _ _ => rfl)) (pv 5) (fun _ _ => rfl)) (pv 7) (fun _ _ => rfl)) (pv 8) (fun _ _ => rfl)) (pg_tup rfl (pgs_cons (pg_name (i := 10) nd rfl (Or.inl rfl)) (pgs_cons (pg_name (i := 11) nd rfl (Or.inl rfl)) pgs_nil))))
      (pss_cons (ps_if (pt_cmpR op_ne (pv 10) (pv 8) (nomark _)) pss_never pss_nil)
      (pss_one (ps_if (pt_cmp (pc_dnotin hu (pe_tup (pa_cons (pv 11) (pa_cons (pv 9) pa_nil))) (pv 2))) (pss_cons (ps_dput hu (pv 2) (pe_tup (pa_cons (pv 11) (pa_cons (pv 9) pa_nil))) (pe_tup (pa_cons (pe_tup (pa_cons (pv 5) (pa_cons (pv 6) pa_nil))) (pa_cons (pe_tup (pa_cons (pv 7) (pa_cons (pv 8) pa_nil))) pa_nil))) rfl)
      (pss_one (ps_expr (pe_bm PySem.F.plainAttrs_list PySem.F.slot_list_append PySem.F.type_list_append mt_append (pv 3) (pa_cons (pe_tup (pa_cons (pv 11) (pa_cons (pv 9) pa_nil))) pa_nil))))) pss_nil)))))
      (pss_one (ps_aug (i := 4) nd rfl (Or.inl rfl) pe_int iop_add)))))
      (pss_one (ps_ret (pe_tup (pa_cons (pe_glob (v := .str "milder") rfl g.MILDER.choose_spec ⟨_, rfl⟩) (pa_cons (pe_callTy (r := rTupK K) call_tuple_of (by rfl) g.tuple (by decide +kernel) (pa_cons (pe_callB (r := rSortedPO K) cr_sortedPO (by rfl) g.sorted (by decide +kernel) (pa_cons (pv 3) pa_nil)) pa_nil)) pa_nil)))))))))))), ?_⟩
    have I0 : EnvOk H ([T.d W1.D, .d W2.D] ++ List.replicate 10 T.u) (start N_milder vs) := EnvOk.start (N := N_milder) hv
    generalize start N_milder vs = σ0 at I0
    have v1' := v1
    have v2' := v2
    obtain ⟨⟨a1, a2⟩, ⟨a3, a4⟩, ⟨a5, a6⟩, _⟩ := v1'
    obtain ⟨⟨b1, b2⟩, ⟨b3, b4⟩, ⟨b5, b6⟩, _⟩ := v2'
    refine rss_drop ((evx_call (eva_cons (evx_var (i := 0) (t := .d W1.D) rfl) eva_nil) ⟨W1, v1, rfl, rfl⟩) σ0 H I0 _ fun _ H1 s1 _ => ?_)
    have I1 := I0.mono s1
    refine rss_drop ((evx_call (eva_cons (evx_var (i := 1) (t := .d W2.D) rfl) eva_nil) ⟨W2, v2, rfl, rfl⟩) σ0 H1 I1 _ fun _ H2 s2 _ => ?_)
    have I2 := I1.mono s2
    refine rss_drop ((evx_call (eva_cons (evx_var (i := 0) (t := .d W1.D) rfl) (eva_cons (evx_var (i := 1) (t := .d W2.D) rfl) eva_nil)) ⟨W1.s, W1.d, W1.states, W2.states, by show [T.d (.tup [.int (W1.s : Int), .int (W1.d : Int), W1.states]), T.d (.tup [.int (W2.s : Int), .int (W2.d : Int), W2.states])] = _; rw [hs, hd], rfl⟩) σ0 H2 I2 _ fun _ H3 s3 _ => ?_)
    have I3 := I2.mono s3
    have s03 := (s1.trans s2).trans s3
    clear I0 I1 I2 s1 s2 s3
    -- came
    refine rss_set fun ca nc => ?_
    have sc := same_new (o := .dT []) nc
    refine (evx_tup (ds := [.int 0, .int 0]) (eva_cons evx_int (eva_cons evx_int eva_nil))) σ0 _ (I3.mono sc) _ fun vk H4 s4 hvk => ?_
    obtain ⟨kb, rfl, hkb⟩ := tup_ints (k := [0, 0]) hvk
    have hc4 : H4 ca = some (.dT []) := s4 _ _ upd_same
    refine ⟨hc4, kI [0, 0], kb, rfl, hkb, ?_⟩
    have s05 : Same H (upd H4 ca (.dT [(kI [0, 0], .non)])) := fun b o eb => by
      have h3 := s03 _ _ eb
      have hb : b ≠ ca := ne_of_none h3 nc
      rw [upd_ne hb]
      exact s4 _ _ (sc _ _ h3)
    have x5 : SeqX H4 (upd H4 ca (.dT [(kI [0, 0], .non)])) := SeqX.upd hc4 (fun _ z => nomatch z) (fun _ z => nomatch z)
    have I5 : EnvOk (upd H4 ca (.dT [(kI [0, 0], .non)])) (([T.d W1.D, .d W2.D] ++ List.replicate 10 T.u).set 2 (.v (.ref ca))) (σ0.set 2 (some (.ref ca))) := (EnvOk.monoS x5 rfl ((I3.mono sc).mono s4)).setv (t := .v (.ref ca)) (v := .ref ca) 2 rfl
    have hc5 : (upd H4 ca (.dT [(kI [0, 0], .non)])) ca = some (.dT [(kI [0, 0], .non)]) := upd_same
    show tSeq _ _ _ (σ0.set 2 (some (.ref ca))) _
    have n0c : H ca = none := none_of s03 nc
    generalize upd H4 ca (.dT [(kI [0, 0], .non)]) = H5 at s05 I5 hc5 x5
    generalize σ0.set 2 (some (.ref ca)) = σ5 at I5
    clear x5 hc4 hkb s4 sc hvk
    -- pairs
    refine rss_set ((evn_lst (ds := [pairD (0, 0)]) (eva_cons (evx_tup (ds := [.int 0, .int 0]) (eva_cons evx_int (eva_cons evx_int eva_nil))) eva_nil)) σ5 H5 I5 _ fun pa H6 np s6 hp6 => ?_)
    have I6 := (I5.mono s6).setv (t := .la pa [pairD (0, 0)]) (v := .ref pa) 3 hp6
    refine rss_set ?_
    have I7 : EnvOk H6 (MG W1 W2 ca pa [(0, 0)] 0) ((σ5.set 3 (some (.ref pa))).set 4 (some (.int 0))) := I6.setv (t := .d (.int ((0 : Nat) : Int))) (v := .int 0) 4 rfl
    have M7 : MS W1 W2 Z H ca pa [(0, 0)] H6 := by
      refine ⟨⟨_, [([0, 0], .non)], s6 _ _ hc5, .cons ⟨rfl, rfl⟩ .nil, rfl, fun a b => ?_⟩, n0c, none_of s05 np, s05.trans s6, by simp, by simp, fun q hq => ?_⟩
      · unfold keyInT
        rw [Bool.eq_iff_iff]
        simp
        omega
      · obtain rfl : q = (0, 0) := by simpa using hq
        exact z00
    show tSeq _ _ _ ((σ5.set 3 (some (.ref pa))).set 4 (some (.int 0))) H6
    generalize (σ5.set 3 (some (.ref pa))).set 4 (some (.int 0)) = σ7 at I7
    clear I6 I5 hc5 s05 hp6 s6
    have hle : ∀ ps : List (Nat × Nat), ps.Nodup → (∀ q ∈ ps, Z q.1 q.2) → ps.length ≤ 10000 := fun ps nd hz => by
      have h1 := pairs_le nd (n := W1.n) (m := W2.n) fun q hq => zb _ _ (hz q hq)
      have h2 : W1.n * W2.n ≤ 100 * 100 := Nat.mul_le_mul a6 b6
      omega
    refine rss_while (fun m σ H' => ∃ (k : Nat) (ps : List (Nat × Nat)), m = 10001 - k ∧ k ≤ ps.length ∧ EnvOk H' (MG W1 W2 ca pa ps k) σ ∧ MS W1 W2 Z H ca pa ps H' ∧ ∀ i q, i < k → ps[i]? = some q → ClAt W1 W2 ps q) ⟨_, 0, [(0, 0)], rfl, by simp, I7, M7, fun i q hi => by omega⟩ ?_
    clear I7 M7
    rintro m σ H' ⟨k, ps, rfl, hk, I, M, hcl⟩
    have hps := hle ps M.nd M.hz
    have elen : (ps.map pairD).length = ps.length := by simp
    refine (evb_T (b := decide (k < ps.length)) (evx_I0b (evx_var (G := MG W1 W2 ca pa ps k) (i := 4) (t := .d (.int (k : Int))) rfl) (evx_lenL (ds := ps.map pairD) (eva_cons (evx_liA (evx_var (i := 3) rfl)) eva_nil)) (by rw [elen, decide_eq_decide]; omega))) σ H' I _ fun H8 s8 => ?_
    have I := I.mono s8
    have M := M.mono s8
    by_cases hkl : k < ps.length
    · rw [decide_eq_true hkl]
      refine iteT ⟨fun σ' H' => ∃ m', m' < 10001 - k ∧ ∃ (k : Nat) (ps : List (Nat × Nat)), m' = 10001 - k ∧ k ≤ ps.length ∧ EnvOk H' (MG W1 W2 ca pa ps k) σ' ∧ MS W1 W2 Z H ca pa ps H' ∧ ∀ i q, i < k → ps[i]? = some q → ClAt W1 W2 ps q, fun σ' H' z => z, ?_⟩
      -- state, beside = pairs[at]
      have hz := M.hz _ (List.getElem_mem hkl)
      obtain ⟨hza, hzb⟩ := zb _ _ hz
      refine rss_tg I (evx_ixLn (d := pairD ps[k]) (evx_liA (evx_var (i := 3) rfl)) (evx_var (i := 4) rfl) (by rw [List.getElem?_map, List.getElem?_eq_getElem hkl]; rfl)) (tg_tup (tgs_cons tg_name (tgs_cons tg_name tgs_nil)) rfl) fun σ9 H9 s9 I9 => ?_
      have I9 : EnvOk H9 (MG2 W1 W2 ca pa ps k ps[k].1 ps[k].2) σ9 := I9
      have M9 := M.mono s9
      generalize hqa : ps[k].1 = qa at I9 hz hza hzb
      generalize hqb : ps[k].2 = qb at I9 hz hza hzb
      have hqk : ps[k] = (qa, qb) := by rw [← hqa, ← hqb]
      -- what the other lets by
      refine rss_forN I9 (evn_call (eva_cons (evx_var (i := 1) rfl) (eva_cons (evx_var (i := 6) rfl) eva_nil)) ⟨W2, qb, b2, b4, hzb, rfl, rfl⟩) fun la xs H10 nla s10 hla hxs => ?_
      have hlc : la ≠ ca := fun z => by
        obtain ⟨_, _, h1, _⟩ := M9.hc
        rw [z, h1] at nla
        cases nla
      have hlp : la ≠ pa := fun z => by
        obtain ⟨_, _, _, ys, h1, _⟩ := I9.getv (i := 3) (t := .la pa (ps.map pairD)) rfl
        rw [z, h1] at nla
        cases nla
      have elen2 : ((letL W2 qb).map letD).length = (letL W2 qb).length := by simp
      refine ⟨fun i σ' H' => ∃ more : List (Nat × Nat), EnvOk H' (MG2 W1 W2 ca pa (ps ++ more) k qa qb) σ' ∧ MS W1 W2 Z H ca pa (ps ++ more) H' ∧ H' la = some (.lst xs) ∧ TupX H10 H' ∧ ∀ j y, j < i → (letL W2 qb)[j]? = some y → (W1.t qa y.1.1 y.1.2, y.2) ∈ ps ++ more,
        ⟨[], by rw [List.append_nil]; exact I9.mono s10, by rw [List.append_nil]; exact M9.mono s10, hla, fun _ _ h => h, fun j y hj => by omega⟩, fun i σ' H' p => ⟨p.choose_spec.2.2.1, p.choose_spec.2.2.2.1⟩, ?_, ?_⟩
      · rintro i d x σ' H' hd' ⟨more, I11, M11, hl11, t11, hin⟩ hx
        obtain ⟨hi, rfl⟩ := map_at (d := ((0, 0), 0)) hd'
        have hy := getD_mem (d := ((0, 0), 0)) hi
        have hyi : (letL W2 qb)[i]? = some ((letL W2 qb).getD i ((0, 0), 0)) := by
          rw [List.getD_eq_getElem?_getD, List.getElem?_eq_getElem hi]
          rfl
        generalize (letL W2 qb).getD i ((0, 0), 0) = y at hy hx hyi
        obtain ⟨y1, y2, y3, y4⟩ := letL_mem.mp hy
        obtain ⟨z1, z2⟩ := zc qa qb y.1.1 y.1.2 hz (by omega) (by omega) y3
        rw [← y4] at z2
        refine (tg_tup (tgs_cons (tg_tup (tgs_cons tg_name (tgs_cons tg_name tgs_nil)) rfl) (tgs_cons tg_name tgs_nil)) rfl) σ' H' I11 x hx _ fun σ12 I12 _ => ?_
        refine rss_tg (G := [_, _, _, _, _, _, _, _, _, _, _, _]) I12 (evx_ixTn (evx_ixTn (evx_ixTn (evx_ixTn (i := 2) (evx_var (i := 0) rfl) evx_int rfl) (evx_var (i := 5) rfl) (tb_get hza)) (evx_var (i := 7) rfl) (tb_get (by omega))) (evx_var (i := 8) rfl) (tb_get (by omega))) (tg_tup (tgs_cons tg_name (tgs_cons tg_name tgs_nil)) rfl) fun σ13 H13 s13 I13 => ?_
        have I13 : EnvOk H13 [.d W1.D, .d W2.D, .v (.ref ca), .la pa ((ps ++ more).map pairD), .d (.int (k : Int)), .d (.int (qa : Int)), .d (.int (qb : Int)), .d (.int (y.1.1 : Int)), .d (.int (y.1.2 : Int)), .d (.int (y.2 : Int)), .d (.int (W1.g qa y.1.1 y.1.2 : Int)), .d (.int (W1.t qa y.1.1 y.1.2 : Int))] σ13 := I13
        have M13 := M11.mono s13
        have hl13 := s13 _ _ hl11
        have t13 := t11.trans (TupX.of s13)
        clear I12
        refine rss_if0 I13 (b := false) (evb_T (evx_neI (evx_var (i := 10) rfl) (evx_var (i := 8) rfl) (by rw [z1]; simp))) (fun h => nomatch h) fun _ H14 s14 I14 => ?_
        have M14 := M13.mono s14
        have hl14 := s14 _ _ hl13
        have t14 := t13.trans (TupX.of s14)
        clear I13
        obtain ⟨v2', e2, z2'⟩ := I14.getv (i := 2) (t := .v (.ref ca)) rfl
        obtain rfl : v2' = .ref ca := z2'
        obtain ⟨kvs, m, hc1, hc2, hc3, hc4⟩ := M14.hc
        have I15 := EnvOk.know (t := .dt m) ⟨ca, kvs, rfl, hc1, hc2⟩ I14 e2
        refine rs_evif I15 (b := !decide ((W1.t qa y.1.1 y.1.2, y.2) ∈ ps ++ more)) (evb_B (evx_ninDT (k := [(W1.t qa y.1.1 y.1.2 : Int), (y.2 : Int)]) (m := m) (evx_tup (ds := [_, _]) (eva_cons (evx_var (i := 11) rfl) (eva_cons (evx_var (i := 9) rfl) eva_nil))) (evx_var (i := 2) rfl) (by rw [hc4]))) (fun hb H16 s16 I16 => ?_) fun hb H16 s16 I16 => ?_
        · have hnew : (W1.t qa y.1.1 y.1.2, y.2) ∉ ps ++ more := by simpa using hb
          have M16 := M14.mono s16
          have I16 := I14.mono s16
          have hl16 := s16 _ _ hl14
          have t16 := t14.trans (TupX.of s16)
          refine rss_put ((evx_tup (ds := [.tup [_, _], .tup [_, _]]) (eva_cons (evx_tup (ds := [_, _]) (eva_cons (evx_var (i := 5) rfl) (eva_cons (evx_var (i := 6) rfl) eva_nil))) (eva_cons (evx_tup (ds := [_, _]) (eva_cons (evx_var (i := 7) rfl) (eva_cons (evx_var (i := 8) rfl) eva_nil))) eva_nil))) σ13 H16 I16 _ fun v17 H17 s17 hv17 => ⟨.ref ca, e2, ?_⟩)
          have I17 := I16.mono s17
          refine (evx_tup (ds := [_, _]) (eva_cons (evx_var (i := 11) rfl) (eva_cons (evx_var (i := 9) rfl) eva_nil))) σ13 H17 I17 _ fun v18 H18 s18 hv18 => ?_
          obtain ⟨kb, rfl, hkb⟩ := tup_ints (k := [(W1.t qa y.1.1 y.1.2 : Int), (y.2 : Int)]) hv18
          have I18 := I17.mono s18
          have M18 := M16.mono (s17.trans s18)
          have hl18 := s18 _ _ (s17 _ _ hl16)
          have t18 := t16.trans (TupX.of (s17.trans s18))
          have hv18' := hv17.mono s18
          obtain ⟨kvs, m, hc1, hc2, hc3, hc4⟩ := M18.hc
          have hpl := hle _ M18.nd M18.hz
          have kl : kvs.length = (ps ++ more).length := by rw [Paired.length hc2, hc3]
          refine ⟨ca, _, rfl, DPut.t hc1 hkb (len_lt (by omega)), ?_⟩
          have kn : keyInT m [(W1.t qa y.1.1 y.1.2 : Int), (y.2 : Int)] = false := by
            rw [hc4]
            simpa using hnew
          have pk : putK kvs (kI [(W1.t qa y.1.1 y.1.2 : Int), (y.2 : Int)]) v17 = kvs ++ [(kI [(W1.t qa y.1.1 y.1.2 : Int), (y.2 : Int)], v17)] := putK_new v17 (pt_none (fun _ _ r => r.1) hc2 kn)
          rw [pk]
          have x19 : SeqX H18 (upd H18 ca (.dT (kvs ++ [(kI [(W1.t qa y.1.1 y.1.2 : Int), (y.2 : Int)], v17)]))) := SeqX.upd hc1 (fun _ z => nomatch z) (fun _ z => nomatch z)
          have I19 := EnvOk.monoS x19 rfl I18
          have hc19 : (upd H18 ca (.dT (kvs ++ [(kI [(W1.t qa y.1.1 y.1.2 : Int), (y.2 : Int)], v17)]))) ca = _ := upd_same
          have m19 : MT (upd H18 ca (.dT (kvs ++ [(kI [(W1.t qa y.1.1 y.1.2 : Int), (y.2 : Int)], v17)]))) (kvs ++ [(kI [(W1.t qa y.1.1 y.1.2 : Int), (y.2 : Int)], v17)]) (m ++ [([(W1.t qa y.1.1 y.1.2 : Int), (y.2 : Int)], D.tup [.tup [.int (qa : Int), .int (qb : Int)], .tup [.int (y.1.1 : Int), .int (y.1.2 : Int)]])]) :=
            Paired.snoc (a := (kI [(W1.t qa y.1.1 y.1.2 : Int), (y.2 : Int)], v17)) (b := ([(W1.t qa y.1.1 y.1.2 : Int), (y.2 : Int)], D.tup [.tup [.int (qa : Int), .int (qb : Int)], .tup [.int (y.1.1 : Int), .int (y.1.2 : Int)]])) (MT.mono x19.1 hc2) ⟨rfl, Dv.monoT x19.1 _ _ hv18'⟩
          have hl19 := x19.2 _ _ hl18
          have t19 := t18.trans x19.1
          have sm19 : ∀ b o, b ≠ ca → H18 b = some o → (upd H18 ca (.dT (kvs ++ [(kI [(W1.t qa y.1.1 y.1.2 : Int), (y.2 : Int)], v17)]))) b = some o := fun b o hb eb => by
            rw [upd_ne hb]
            exact eb
          generalize upd H18 ca (.dT (kvs ++ [(kI [(W1.t qa y.1.1 y.1.2 : Int), (y.2 : Int)], v17)])) = H19 at I19 hc19 m19 hl19 t19 sm19
          refine rs_app (la := pa) (j := 3) (ds := (ps ++ more).map pairD) (d := pairD (W1.t qa y.1.1 y.1.2, y.2)) I19 (evx_tup (ds := [_, _]) (eva_cons (evx_var (i := 11) rfl) (eva_cons (evx_var (i := 9) rfl) eva_nil))) (LeG.refl _) rfl ⟨trivial, trivial, trivial, trivial, trivial, trivial, trivial, trivial, trivial, trivial, trivial, trivial, trivial⟩ (by rw [List.length_map]; omega) fun H20 s20 I20 => ?_
          have hpc : ca ≠ pa := fun z => by
            obtain ⟨_, _, _, ys, h1, _⟩ := I19.getv (i := 3) (t := .la pa ((ps ++ more).map pairD)) rfl
            rw [← z, hc19] at h1
            cases h1
          have mp : MutL [pa] H19 := fun b hb => by
            obtain rfl : b = pa := by simpa using hb
            obtain ⟨_, _, _, ys, h1, _⟩ := I19.getv (i := 3) (t := .la b ((ps ++ more).map pairD)) rfl
            exact ⟨ys, h1⟩
          have tx20 := s20.tup mp
          refine ⟨more ++ [(W1.t qa y.1.1 y.1.2, y.2)], ?_, ⟨⟨_, _, s20 _ _ (by simpa using hpc) hc19, MT.mono tx20 m19, ?_, fun a b => ?_⟩, M18.c0, M18.p0, fun b o eb => ?_, ?_, ?_, fun q hq => ?_⟩, s20 _ _ (by simpa using hlp) hl19, t19.trans tx20, fun j y' hj hy' => ?_⟩
          · rw [← List.append_assoc]
            have e : (ps ++ more).map pairD ++ [pairD (W1.t qa y.1.1 y.1.2, y.2)] = (ps ++ more ++ [(W1.t qa y.1.1 y.1.2, y.2)]).map pairD := by simp
            rw [e] at I20
            refine EnvOk.le ?_ I20
            repeat (first | exact .nil | refine .cons (.inr rfl) ?_ | refine .cons (.inl rfl) ?_)
          · rw [List.length_append, hc3]
            simp
            omega
          · show keyInT (m ++ [_]) _ = _
            unfold keyInT at hc4 ⊢
            rw [List.any_append, hc4]
            rw [Bool.eq_iff_iff]
            simp only [Bool.or_eq_true, decide_eq_true_eq, List.any_cons, List.any_nil, Bool.or_false, List.mem_append, List.mem_singleton, Prod.mk.injEq, List.cons.injEq, and_true]
            constructor
            · rintro (h | ⟨h1, h2⟩)
              · rcases h with h | h
                · exact .inl h
                · exact .inr (.inl h)
              · exact .inr (.inr ⟨by omega, by omega⟩)
            · rintro (h | h | ⟨h1, h2⟩)
              · exact .inl (.inl h)
              · exact .inl (.inr h)
              · exact .inr ⟨by omega, by omega⟩
          · refine s20 _ _ ?_ (sm19 _ _ (ne_of_none eb M18.c0) (M18.same _ _ eb))
            simpa using ne_of_none eb M18.p0
          · rw [← List.append_assoc, List.nodup_append]
            refine ⟨M18.nd, by simp, fun q hq q' hq' => ?_⟩
            obtain rfl := List.mem_singleton.mp hq'
            rintro rfl
            exact hnew hq
          · rw [← List.append_assoc]
            exact List.mem_append_left _ M18.z0
          · rw [← List.append_assoc] at hq
            rcases List.mem_append.mp hq with hq | hq
            · exact M18.hz q hq
            · obtain rfl := List.mem_singleton.mp hq
              exact z2
          · rw [← List.append_assoc]
            by_cases e : j = i
            · subst e
              rw [hyi] at hy'
              cases hy'
              exact List.mem_append_right _ (List.mem_singleton.mpr rfl)
            · exact List.mem_append_left _ (hin j y' (by omega) hy')
        · have hold : (W1.t qa y.1.1 y.1.2, y.2) ∈ ps ++ more := by
            cases hd : decide ((W1.t qa y.1.1 y.1.2, y.2) ∈ ps ++ more) with
            | true => exact of_decide_eq_true hd
            | false => rw [hd] at hb; cases hb
          refine rs_next ⟨more, ?_, M14.mono s16, s16 _ _ hl14, t14.trans (TupX.of s16), fun j y' hj hy' => ?_⟩
          · refine EnvOk.le ?_ (I14.mono s16)
            repeat (first | exact .nil | refine .cons (.inr rfl) ?_ | refine .cons (.inl rfl) ?_)
          · by_cases e : j = i
            · subst e
              rw [hyi] at hy'
              cases hy'
              exact hold
            · exact hin j y' (by omega) hy'
      · rintro σ' H' ⟨more, I11, M11, hl11, t11, hin⟩
        rw [elen2] at hin
        obtain ⟨v4, e4, z4⟩ := I11.getv (i := 4) (t := .d (.int (k : Int))) rfl
        obtain rfl : v4 = .int (k : Int) := z4
        refine ⟨_, e4, (k : Int), 1, rfl, rfl, 10001 - (k + 1), by omega, k + 1, ps ++ more, rfl, by rw [List.length_append]; omega, ?_, M11, fun i q hi hq => ?_⟩
        · have I12 := I11.setv (t := .d (.int ((k + 1 : Nat) : Int))) (v := .int ((k : Int) + 1)) 4 (show V.int ((k : Int) + 1) = V.int ((k + 1 : Nat) : Int) from rfl)
          refine EnvOk.le ?_ I12
          repeat (first | exact .nil | refine .cons (.inr rfl) ?_ | refine .cons (.inl rfl) ?_)
        · have hlt : i < ps.length := by omega
          rw [List.getElem?_append_left hlt] at hq
          by_cases e : i = k
          · subst e
            rw [List.getElem?_eq_getElem hlt, hqk] at hq
            cases hq
            intro gn x hg hx' hlet
            obtain ⟨q1, q2⟩ := zc qa qb gn x hz hg hx' hlet
            refine ⟨q1, ?_⟩
            have hm : ((gn, x), W2.t qb gn x) ∈ letL W2 qb := letL_mem.mpr ⟨by show gn < W2.s; omega, by show x < W2.d; omega, hlet, rfl⟩
            obtain ⟨j, hj, ej⟩ := List.mem_iff_getElem.mp hm
            exact hin j _ hj (by rw [List.getElem?_eq_getElem hj, ej])
          · exact (hcl i q (by omega) hq).app
    · rw [decide_eq_false hkl]
      refine iteF ?_
      obtain rfl : k = ps.length := by omega
      refine rs_ret ?_
      show tCB (rSortedPO K) (tCons (tVar 3) tNil) σ H8 (fun v1 H1 => rTupK K [v1] H1 fun v2 H2 => [V.str "milder", v2].length ≤ sizeLine ∧ ∀ p, H2 p = none → Q (.ref p) (upd H2 p (.tup [.str "milder", v2])))
      refine sorted_pairs M.nd (eva_cons (evx_liA (evx_var (i := 3) rfl)) eva_nil) I fun qs v H9 s9 hv hp hpw => ?_
      obtain ⟨l, ys, rfl, e1, e2⟩ := hv
      refine ⟨l, ys, rfl, .inl ⟨SqL.of e1, fun t ht => ⟨by show 2 ≤ sizeLine; exact len_ok (by decide), fun p hp' => ?_⟩⟩⟩
      have st := same_new (o := .tup ys) ht
      have sp := same_new (o := .tup [.str "milder", .ref t]) hp'
      refine hQ _ _ qs (M.same.trans ((s9.trans st).trans sp)) ⟨p, _, rfl, upd_same, DvL.cons rfl (DvL.cons ⟨t, ys, rfl, sp _ _ upd_same, e2.mono (st.trans sp)⟩ DvL.nil)⟩ hpw (hp.mem_iff.mpr M.z0) (fun q hq => zb _ _ (M.hz q (hp.mem_iff.mp hq))) (fun q hq gn x hg hx hl => ?_) (by rw [hp.length_eq]; exact hps)
      obtain ⟨i, hi, ei⟩ := List.mem_iff_getElem.mp (hp.mem_iff.mp hq)
      obtain ⟨r1, r2⟩ := hcl i q hi (by rw [List.getElem?_eq_getElem hi, ei]) gn x hg hx hl
      exact ⟨r1, hp.mem_iff.mpr r2⟩
end
end Mw

namespace Mw
open PySem PySem.Spec PyProof.Rows L2
theorem costF_own {d : Nat} {p : Pr} (h : PrOk d p) {x : Nat} (hx : x < d) : costF p x x = some 0 := by
  cases p with
  | none => simp [costF]
  | some p => exact (h x x hx hx).1 rfl
theorem loseF_held {S : Sy} {p : Pr} {gd : Nat → Bool} {r : Nat} : (loseF S p gd r).isNone = true ↔ ∀ g x, g < S.s → x < S.d → keepF S p gd r g x ≠ [] := by
  constructor
  · intro h g x hg hx
    exact loseF_none (Option.isNone_iff_eq_none.mp h) hg hx
  · intro h
    rw [Option.isNone_iff_eq_none]
    refine findS_range_none fun g hg => ?_
    unfold rowLose
    rw [find_range_none fun x hx => ?_]
    · rfl
    · have := h g x hg hx
      cases hk : keepF S p gd r g x with
      | nil => exact absurd hk this
      | cons _ _ => rfl
section
variable {P : Program} {w : World} {K : PySem.W.Frag} {mg : Str → Option Value} {base : Heap} {G : List T} {ta tb' te : TE} {a ta' : TA}
theorem dvl_ints (H : Hp) : ∀ l : List Nat, DvL H (intD l) (l.map fun i : Nat => V.int (i : Int))
  | [] => DvL.nil
  | x :: l => DvL.cons rfl (dvl_ints H l)
theorem evn_listRg {n : Nat} (h : EvX G te (.d (.int (n : Int)))) (hn : n ≤ 1000000) : EvN G (tLstRg (tRg1 te)) (intD (List.range n)) := fun σ H I Q q => h σ H I _ fun v H1 s1 hv => by
  obtain rfl : v = .int (n : Int) := hv
  refine ⟨(n : Int), rfl, RgOk.of_le (by omega) (by omega) (by omega) (by omega), fun l hl => q l _ (none_of s1 hl) (s1.trans (same_new hl)) ⟨rfl, _, upd_same, ?_⟩⟩
  have e : rgV 0 (n : Int) = (List.range n).map fun i : Nat => V.int (i : Int) := by
    unfold rgV
    have e1 : ((n : Int) - 0).toNat = n := by omega
    rw [e1]
    refine List.map_congr_left fun i _ => ?_
    rw [Int.zero_add]
  rw [e]
  exact dvl_ints _ _
abbrev N__law_cost : List Str := ["fees", "wanted", "given"]
theorem sc__law_cost : FnScope N__law_cost ["fees", "wanted", "given"] (defScope s__law_cost) := C8.fnScope_by (by decide +kernel)

def R__law_cost (ts : List T) (t : T) : Prop := ∃ (d : Nat) (p : Pr) (wn gn : Nat), PrOk d p ∧ wn < d ∧ gn < d ∧ ts = [.d (encP d p), .d (.int (wn : Int)), .d (.int (gn : Int))] ∧ t = .d (encO (costF p wn gn))
theorem cal__law_cost (F : MDef K mg "_law_cost" s__law_cost) (g : Glo mg) : C8.Cal P w K mg base 1 "_law_cost" (spX R__law_cost) [] :=
  cal_pure F sc__law_cost (fun _ _ _ _ _ _ us hl => match us, hl with | [_, _, _], _ => rfl) (fun ts t ⟨_, _, _, _, _, _, _, e, _⟩ => by rw [e]; rfl) fun f cdv A outer s H E hr ts t ⟨d, p, wn, gn, hp, h1, h2, e1, e2⟩ => by
    subst e1 e2
    have nd := sc__law_cost.nd
    have hu := hu_of hr
    refine ⟨_, (pss_cons (ps_if (pt_cmpR op_eq (pv 1) (pv 2) (nomark _)) (pss_one (ps_ret pe_int)) pss_nil)
      (pss_cons (ps_if (pt_cmpR op_isN (pv 0) pe_non (nomark _)) (pss_one (ps_ret pe_int)) pss_nil)
      (pss_one (ps_ret (pe_ix (r := rIxT K) ix_tup (pe_ix (r := rIxT K) ix_tup (pv 0) (pv 1) (fun _ _ => rfl)) (pv 2) (fun _ _ => rfl)))))), ?_⟩
    intro En hD hN
    refine st_seq (st_if (b := decide (wn = gn)) (evb_T (evx_eqI (evx_var rfl) (evx_var rfl) (by rw [decide_eq_decide]; omega))) (fun h => ?_) fun h => st_next ?_)
    · obtain rfl := of_decide_eq_true h
      refine st_ret (evx_eq evx_int ?_) hD
      rw [costF_own hp h1]
      rfl
    · have hne := of_decide_eq_false h
      cases p with
      | none =>
        refine st_seq (st_if (b := true) (evb_T (evx_isN (evx_var rfl) evx_non rfl)) (fun _ => st_ret (evx_eq evx_int ?_) hD) (fun h => nomatch h))
        show _ = T.d (encO (some (if gn = wn then 0 else 1)))
        rw [if_neg (fun z => hne z.symm)]
        rfl
      | some p =>
        refine st_seq (st_if (b := false) (evb_T (evx_isN (evx_var rfl) evx_non rfl)) (fun h => nomatch h) fun _ => st_next ?_)
        exact st_ret (evx_ixTn (evx_ixTn (evx_var rfl) (evx_var rfl) (tb_get h1)) (evx_var rfl) (tb_get h2)) hD
abbrev N__law_answers : List Str := ["fees", "deeds", "wanted", "given"]
theorem sc__law_answers : FnScope N__law_answers ["fees", "deeds", "wanted"] (defScope s__law_answers) := C8.fnScope_by (by decide +kernel)

def R__law_answers (ts : List T) (t : T) : Prop := ∃ (d : Nat) (p : Pr) (wn : Nat), PrOk d p ∧ d ≤ 1000 ∧ wn < d ∧ ts = [.d (encP d p), .d (.int (d : Int)), .d (.int (wn : Int))] ∧ t = .li (intD (ansF d p wn))
theorem cal__law_answers (F : MDef K mg "_law_answers" s__law_answers) (g : Glo mg) (c__law_cost : C8.Cal P w K mg base 1 "_law_cost" (spX R__law_cost) []) : C8.Cal P w K mg base 2 "_law_answers" (spX R__law_answers) [] :=
  cal_pure F sc__law_answers (fun _ _ _ _ _ _ us hl => match us, hl with | [_, _, _], _ => rfl) (fun ts t ⟨_, _, _, _, _, _, e, _⟩ => by rw [e]; rfl) fun f cdv A outer s H E hr ts t ⟨d, p, wn, hp, hd, h1, e1, e2⟩ => by
    subst e1 e2
    have nd := sc__law_answers.nd
    have hu := hu_of hr
    refine ⟨_, (pss_one (ps_ret (pe_lc (own := [("given", 3)]) (g := (gName 3)) rfl nd (pi_range1 rfl g.range (pa_cons (pv 1) pa_nil)) (blkOk_by (by show blkC N__law_answers (defScope s__law_answers) _ _ = true; decide +kernel)) (fun _ _ _ _ _ => (pg_name (i := 3) nd rfl (Or.inl rfl))) (fun _ _ _ _ _ => (pts_one (pt_cmpR op_notN (C8.pe_c c__law_cost hr (by decide) rfl (pa_cons (pv 0) (pa_cons (pv 2) (pa_cons (pv 3) pa_nil)))) pe_non (nomark _)))) (fun _ _ _ _ _ => (pv 3))))), ?_⟩
    intro En hD hN
    refine st_ret (evx_lcR (it_rngN (eva_cons (evx_var rfl) eva_nil) (by omega)) (fun i hi => .tst tg_name (by decide) (evb_T (evx_notN (evx_call (eva_cons (evx_var rfl) (eva_cons (evx_var rfl) (eva_cons (evx_var rfl) eva_nil))) ⟨d, p, wn, i, hp, h1, hi, rfl, rfl⟩) evx_non ?_)) fun _ => evx_var rfl) (by omega)) hD
    rw [encO_isNon, Bool.not_not]
abbrev N__law_held : List Str := ["saying", "fees", "rooms", "room", "signs", "deeds", "table", "sign", "wanted", "given"]
theorem sc__law_held : FnScope N__law_held ["saying", "fees", "rooms", "room"] (defScope s__law_held) := C8.fnScope_by (by decide +kernel)

def R__law_held (ts : List T) (t : T) : Prop := ∃ (S : Sy) (p : Pr) (l : List Nat) (r : Nat), PrOk S.d p ∧ S.d ≤ 1000 ∧ S.s ≤ 1000 ∧ r < S.n ∧ ts = [.d S.D, .d (encP S.d p), .li (intD l), .d (.int (r : Int))] ∧ t = .d (.bl (loseF S p (inL l) r).isNone)
theorem cal__law_held (F : MDef K mg "_law_held" s__law_held) (g : Glo mg) (c__law_answers : C8.Cal P w K mg base 2 "_law_answers" (spX R__law_answers) []) : C8.Cal P w K mg base 3 "_law_held" (spX R__law_held) [] :=
  cal_pure F sc__law_held (fun _ _ _ _ _ _ us hl => match us, hl with | [_, _, _, _], _ => rfl) (fun ts t ⟨_, _, _, _, _, _, _, _, e, _⟩ => by rw [e]; rfl) fun f cdv A outer s H E hr ts t ⟨S, p, l, r, hp, h1, h2, h3, e1, e2⟩ => by
    subst e1 e2
    have nd := sc__law_held.nd
    have hu := hu_of hr
    refine ⟨_, (pss_cons (ps_asg (pv 0) (pg_tup rfl (pgs_cons (pg_name (i := 4) nd rfl (Or.inl rfl)) (pgs_cons (pg_name (i := 5) nd rfl (Or.inl rfl)) (pgs_cons (pg_name (i := 6) nd rfl (Or.inr rfl)) pgs_nil)))))
      (pss_cons (ps_for PassesOwn.never rfl (pi_range1 rfl g.range (pa_cons (pv 4) pa_nil)) (pg_name (i := 7) nd rfl (Or.inr rfl)) (pss_one (ps_for PassesOwn.never rfl (pi_range1 rfl g.range (pa_cons (pv 5) pa_nil)) (pg_name (i := 8) nd rfl (Or.inl rfl)) (pss_one (ps_if (pt_not (pt_val (pe_callB (r := rAny K) (cr_any rfl) (by rfl) g.any (by decide +kernel) (pa_cons (pe_lc (own := [("given", 9)]) (g := (gName 9)) (tt := tYes) rfl nd (pi_listK (K := K) rfl (C8.pe_c c__law_answers hr (by decide) rfl (pa_cons (pv 1) (pa_cons (pv 5) (pa_cons (pv 8) pa_nil))))) (blkOk_by (by show blkC N__law_held (defScope s__law_held) _ _ = true; decide +kernel)) (fun _ _ _ _ _ => (pg_name (i := 9) nd rfl (Or.inl rfl))) (fun _ _ _ _ _ => pts_nil) (fun _ _ _ _ _ => (pe_cmpR (r := rIn K false) op_in_seq (pe_ix (r := rIxT K) ix_tup (pe_ix (r := rIxT K) ix_tup (pe_ix (r := rIxT K) ix_tup (pv 6) (pv 3) (fun _ _ => rfl)) (pv 7) (fun _ _ => rfl)) (pv 9) (fun _ _ => rfl)) (pv 2) rfl))) pa_nil)))) (pss_one (ps_ret pe_bl)) pss_nil)))))
      (pss_one (ps_ret pe_bl)))), ?_⟩
    intro En hD hN
    refine st_seq (st_asg (evx_var rfl) (tg_tup (tgs_cons tg_name (tgs_cons tg_name (tgs_cons tg_name tgs_nil)))) ?_)
    refine st_seq (st_for (it_rngN (eva_cons (evx_var rfl) eva_nil) (by omega)) (fun i => ∀ j x, j < i → x < S.d → keepF S p (inL l) r j x ≠ []) (fun j x hj => by omega) (fun Hb hs i t hi ht hp' => ?_) fun hp' => ?_)
    · subst ht
      refine ⟨[_, _, _, _, _, _, _, _, _, _], _, tg_name, st_for (it_rngN (eva_cons (evx_var (i := 5) rfl) eva_nil) (by omega)) (fun j => ∀ x, x < j → keepF S p (inL l) r i x ≠ []) (fun x hx => by omega) (fun Hb2 hs2 j t hj ht hq => ?_) fun hq => ?_⟩
      · subst ht
        refine ⟨[_, _, _, _, _, _, _, _, _, _], _, tg_name, st_if (b := !(keepF S p (inL l) r i j).isEmpty.not) (evb_not (evb_B (evx_eq (evx_any (bs := (ansF S.d p j).map fun y => (S.b r i y).any (inL l)) (eva_cons (evx_eq (evx_lcM (α := Nat) (p := fun _ => true) (h := fun y => D.bl ((S.b r i y).any (inL l))) (it_list (evx_call (eva_cons (evx_var (i := 1) rfl) (eva_cons (evx_var (i := 5) rfl) (eva_cons (evx_var (i := 8) rfl) eva_nil))) ⟨S.d, p, j, hp, h1, hj, rfl, rfl⟩)) (fun y hy => .mk tg_name (by decide) (evx_inL (evx_ixTn (evx_ixTn (evx_ixTn (evx_var (i := 6) rfl) (evx_var (i := 3) rfl) (tb_get h3)) (evx_var (i := 7) rfl) (tb_get hi)) (evx_var (i := 9) rfl) (tb_get (ansF_lt hy))) (evx_var (i := 2) rfl) (inO_eq _ _))) (by have := ansF_len S.d p j; omega)) ?_) eva_nil)) ?_))) (fun he => ?_) fun he => ?_⟩
        · rw [List.filter_eq_self.mpr fun _ _ => rfl, List.map_map]
          rfl
        · unfold keepF
          congr 2
          induction ansF S.d p j with
          | nil => rfl
          | cons y ys ih =>
            rw [List.map_cons, List.any_cons, ih, List.filter_cons]
            cases (S.b r i y).any (inL l) <;> rfl
        · refine st_ret evx_bl fun v H' s' hv => hD v H' ((hs.trans hs2).trans s') ?_
          have e : (loseF S p (inL l) r).isNone = false := by
            cases hc : (loseF S p (inL l) r).isNone with
            | false => rfl
            | true =>
              have := loseF_held.mp hc i j hi hj
              cases hk : keepF S p (inL l) r i j with
              | nil => exact absurd hk this
              | cons _ _ => rw [hk] at he; cases he
          rw [e]
          exact hv
        · refine st_next (nx_turn ?_ fun x hx => ?_)
          · repeat (first | exact .nil | refine .cons (.inr rfl) ?_ | refine .cons (.inl rfl) ?_)
          · by_cases e : x = j
            · subst e
              intro z
              rw [z] at he
              cases he
            · exact hq x (by omega)
      · refine st_next (nx_turn ?_ fun j x hj hx => ?_)
        · repeat (first | exact .nil | refine .cons (.inr rfl) ?_ | refine .cons (.inl rfl) ?_)
        · by_cases e : j = i
          · subst e
            exact hq x hx
          · exact hp' j x (by omega) hx
    · have e : (loseF S p (inL l) r).isNone = true := loseF_held.mpr fun g x hg hx => hp' g x hg hx
      exact st_ret (evx_eq evx_bl (by rw [e])) hD
abbrev N__law_kept : List Str := ["saying", "fees", "rooms", "turn", "room", "left"]
theorem sc__law_kept : FnScope N__law_kept ["saying", "fees"] (defScope s__law_kept) := C8.fnScope_by (by decide +kernel)

def R__law_kept (ts : List T) (ds : List D) : Prop := ∃ (S : Sy) (p : Pr), PrOk S.d p ∧ S.d ≤ 1000 ∧ S.s ≤ 1000 ∧ S.n ≤ 1000 ∧ ts = [.d S.D, .d (encP S.d p)] ∧ ds = intD (keptF S p)
theorem itK_len (S : Sy) (p : Pr) : ∀ k, (itK S p k).length ≤ S.n
  | 0 => by simp [itK]
  | k + 1 => Nat.le_trans (List.length_filter_le _ _) (itK_len S p k)
theorem cal__law_kept (F : MDef K mg "_law_kept" s__law_kept) (g : Glo mg) (c__law_held : C8.Cal P w K mg base 3 "_law_held" (spX R__law_held) []) : C8.Cal P w K mg base 4 "_law_kept" (spNew R__law_kept) [] :=
  cal_new F sc__law_kept (fun _ _ _ _ _ _ us hl => match us, hl with | [_, _], _ => rfl) (fun ts t ⟨_, _, _, _, _, _, e, _⟩ => by rw [e]; rfl) fun f cdv A outer s H E hr ts t ⟨S, p, hp, b1, b2, b3, e1, e2⟩ => by
    subst e1 e2
    have nd := sc__law_kept.nd
    have hu := hu_of hr
    refine ⟨_, (pss_cons (ps_set (i := 2) nd rfl (Or.inr rfl) (pe_listRg rfl (by rfl) g.list (prg_1 (by rfl) g.range (pe_callB (r := rLenK K) call_len_seq (by rfl) g.len PySem.boot_len (pa_cons (pe_ix (r := rIxT K) ix_tup (pv 0) pe_int (fun _ _ => rfl)) pa_nil)))))
      (pss_cons (ps_for PassesOwn.never rfl (pi_range1 rfl g.range (pa_cons (pe_callB (r := rLenK K) call_len_seq (by rfl) g.len PySem.boot_len (pa_cons (pe_ix (r := rIxT K) ix_tup (pv 0) pe_int (fun _ _ => rfl)) pa_nil)) pa_nil)) (pg_name (i := 3) nd rfl (Or.inl rfl)) (pss_cons (ps_setLc (i := 5) (own := [("room", 4)]) (g := (gName 4)) (by rfl) nd rfl rfl (sw_true rfl rfl rfl (by decide +kernel)) (pi_listK (K := K) rfl (pv 2)) (blkOk_by (by show blkC N__law_kept (defScope s__law_kept) _ _ = true; decide +kernel)) (fun _ _ _ _ _ => (pg_name (i := 4) nd rfl (Or.inl rfl))) (fun _ _ _ _ _ => (pts_one (pt_val (C8.pe_c c__law_held hr (by decide) rfl (pa_cons (pv 0) (pa_cons (pv 1) (pa_cons (pv 2) (pa_cons (pv 4) pa_nil)))))))) (fun _ _ _ _ _ => (pv 4)))
      (pss_cons (ps_if (pt_cmpR (r := rEqD K) (op_eqD hr.units) (pv 5) (pv 2) (nomark _)) (pss_one (ps_ret (pv 2))) pss_nil)
      (pss_one (ps_set (i := 2) nd rfl (Or.inr rfl) (pv 5))))))
      (pss_one (ps_ret (pv 2))))), ?_⟩
    intro En σ I hD
    refine rss_set ((evn_listRg (n := S.n) (evx_eq (evx_lenT (ds := tb S.n fun r => S.room r) (eva_cons (evx_ixTn (i := 2) (evx_var (i := 0) rfl) evx_int rfl) eva_nil)) (by rw [tb_len])) (by omega)) σ H I _ fun ra H1 n1 s1 h1 => ?_)
    have I1 : EnvOk H1 [.d S.D, .d (encP S.d p), .la ra (intD (itK S p 0)), .u, .u, .u] _ := (I.mono s1).setv 2 h1
    refine rss_forB (A := []) I1 (fun a ha => by cases ha) (itT_rngN (n := S.n) (eva_cons (evx_eq (evx_lenT (ds := tb S.n fun r => S.room r) (eva_cons (evx_ixTn (i := 2) (evx_var (i := 0) rfl) evx_int rfl) eva_nil)) (by rw [tb_len])) eva_nil) (by omega)).b fun H2 s2 => ⟨fun i σ' H' => ∃ ra, H ra = none ∧ EnvOk H' [.d S.D, .d (encP S.d p), .la ra (intD (itK S p i)), .u, .u, .u] σ' ∧ Same H2 H', ⟨ra, n1, I1.mono s2, Same.refl _⟩, fun i σ' H' ⟨_, _, _, h⟩ => Sm.of h, ?_, ?_⟩
    · rintro i t σ' H' H3 x hi rfl ⟨rb, nb, I', s'⟩ s3 hx
      refine tg_name σ' H3 (I'.mono s3) x hx _ fun σ4 I4 _ => ?_
      refine rss_set ((evn_lcM (l := itK S p i) (en := fun n : Nat => .int (n : Int)) (p := fun r => (loseF S p (inL (itK S p i)) r).isNone) (h := fun n : Nat => .int (n : Int)) (it_list (evx_liA (evx_var (i := 2) rfl))) (fun r hr' => .tst tg_name (by decide) (evb_B (evx_call (eva_cons (evx_var (i := 0) rfl) (eva_cons (evx_var (i := 1) rfl) (eva_cons (evx_liA (evx_var (i := 2) rfl)) (eva_cons (evx_var (i := 4) rfl) eva_nil)))) ⟨S, p, itK S p i, r, hp, b1, b2, itK_lt hr', rfl, rfl⟩)) fun _ => evx_var (i := 4) rfl) (by have := itK_len S p i; omega)) σ4 H3 I4 _ fun rc H5 n5 s5 h5 => ?_)
      have I5 : EnvOk H5 [.d S.D, .d (encP S.d p), .la rb (intD (itK S p i)), _, _, .la rc (intD (itK S p (i + 1)))] (σ4.set 5 (some (.ref rc))) := (I4.mono s5).setv (t := .la rc (intD (itK S p (i + 1)))) 5 h5
      have nc : H rc = none := none_of (((s1.trans s2).trans s').trans s3) n5
      refine rss_if0 I5 (b := decide (itK S p (i + 1) = itK S p i)) (evb_T (evx_eqLi (evx_liA (evx_var (i := 5) rfl)) (evx_liA (evx_var (i := 2) rfl)) rfl)) (fun he H6 s6 I6 => ?_) fun he H6 s6 I6 => ?_
      · have e := itK_kept (of_decide_eq_true he) (by omega)
        rw [of_decide_eq_true he] at e
        obtain ⟨v, e2, z2⟩ := I6.getv (i := 2) (t := .la rb (intD (itK S p i))) rfl
        have z2' := z2
        obtain ⟨rfl, _⟩ := z2
        refine rs_ret ⟨_, e2, hD rb H6 nb (((((s1.trans s2).trans s').trans s3).trans s5).trans s6) ?_⟩
        rw [← e]
        exact z2'
      · obtain ⟨v, e5, z5⟩ := I6.getv (i := 5) (t := .la rc (intD (itK S p (i + 1)))) rfl
        have z5' := z5
        obtain ⟨rfl, _⟩ := z5
        refine rs_set ⟨_, e5, rc, nc, ?_, ((s'.trans s3).trans s5).trans s6⟩
        have I7 := I6.setv (t := .la rc (intD (itK S p (i + 1)))) 2 z5'
        refine EnvOk.le ?_ I7
        repeat (first | exact .nil | refine .cons (.inr rfl) ?_ | refine .cons (.inl rfl) ?_)
    · rintro σ' H' ⟨rb, nb, I', s'⟩
      obtain ⟨v, e2, z2⟩ := I'.getv (i := 2) (t := .la rb (intD (itK S p S.n))) rfl
      have z2' := z2
      obtain ⟨rfl, _⟩ := z2
      exact rs_ret ⟨_, e2, hD rb H' nb ((s1.trans s2).trans s') z2'⟩
abbrev N__law_some : List Str := ["saying", "fees", "kept", "room", "sign", "wanted", "row", "given"]
theorem sc__law_some : FnScope N__law_some ["saying", "fees", "kept", "room", "sign", "wanted"] (defScope s__law_some) := C8.fnScope_by (by decide +kernel)

def R__law_some (ts : List T) (ds : List D) : Prop := ∃ (S : Sy) (p : Pr) (l : List Nat) (r g wn : Nat), PrOk S.d p ∧ S.d ≤ 1000 ∧ r < S.n ∧ g < S.s ∧ wn < S.d ∧ ts = [.d S.D, .d (encP S.d p), .li (intD l), .d (.int (r : Int)), .d (.int (g : Int)), .d (.int (wn : Int))] ∧ ds = intD (keepF S p (inL l) r g wn)
theorem cal__law_some (F : MDef K mg "_law_some" s__law_some) (g : Glo mg) (c__law_answers : C8.Cal P w K mg base 2 "_law_answers" (spX R__law_answers) []) : C8.Cal P w K mg base 3 "_law_some" (spNew R__law_some) [] :=
  cal_new F sc__law_some (fun _ _ _ _ _ _ us hl => match us, hl with | [_, _, _, _, _, _], _ => rfl) (fun ts t ⟨_, _, _, _, _, _, _, _, _, _, _, e, _⟩ => by rw [e]; rfl) fun f cdv A outer s H E hr ts t ⟨S, p, l, r, gn, wn, hp, hd, h1, h2, h3, e1, e2⟩ => by
    subst e1 e2
    have nd := sc__law_some.nd
    have hu := hu_of hr
    refine ⟨_, (pss_cons (ps_set (i := 6) nd rfl (Or.inr rfl) (pe_ix (r := rIxT K) ix_tup (pe_ix (r := rIxT K) ix_tup (pe_ix (r := rIxT K) ix_tup (pv 0) pe_int (fun _ _ => rfl)) (pv 3) (fun _ _ => rfl)) (pv 4) (fun _ _ => rfl)))
      (pss_one (ps_ret (pe_lc (own := [("given", 7)]) (g := (gName 7)) rfl nd (pi_listK (K := K) rfl (C8.pe_c c__law_answers hr (by decide) rfl (pa_cons (pv 1) (pa_cons (pe_ix (r := rIxT K) ix_tup (pv 0) pe_int (fun _ _ => rfl)) (pa_cons (pv 5) pa_nil))))) (blkOk_by (by show blkC N__law_some (defScope s__law_some) _ _ = true; decide +kernel)) (fun _ _ _ _ _ => (pg_name (i := 7) nd rfl (Or.inl rfl))) (fun _ _ _ _ _ => (pts_one (pt_cmpR (r := rIn K false) op_in_seq (pe_ix (r := rIxT K) ix_tup (pv 6) (pv 7) (fun _ _ => rfl)) (pv 2) rfl))) (fun _ _ _ _ _ => (pv 7)))))), ?_⟩
    intro En σ I hD
    refine rss_ev I (evx_ixTn (evx_ixTn (evx_ixTn (i := 2) (evx_var (i := 0) rfl) evx_int rfl) (evx_var (i := 3) rfl) (tb_get h1)) (evx_var (i := 4) rfl) (tb_get h2)) fun v H1 s1 hv I1 => ?_
    exact rs_ret ((evn_lcM (l := ansF S.d p wn) (en := fun n : Nat => .int (n : Int)) (p := fun y => (S.b r gn y).any (inL l)) (h := fun n : Nat => .int (n : Int)) (it_list (evx_call (eva_cons (evx_var (i := 1) rfl) (eva_cons (evx_ixTn (i := 1) (evx_var (i := 0) rfl) evx_int rfl) (eva_cons (evx_var (i := 5) rfl) eva_nil))) ⟨S.d, p, wn, hp, hd, h3, rfl, rfl⟩)) (fun x hx => .tst tg_name (by decide) (evb_T (evx_inL (evx_ixTn (evx_var (i := 6) rfl) (evx_var (i := 7) rfl) (tb_get (ansF_lt hx))) (evx_var (i := 2) rfl) (inO_eq _ _))) fun _ => evx_var (i := 7) rfl) (by have := ansF_len S.d p wn; omega)) _ _ I1 _ fun a H' n s h => hD a H' (none_of s1 n) (s1.trans s) h)
end
end Mw

namespace Mw
open PySem PySem.Spec PyProof.Rows L2
theorem units1 {k : Nat} {A : Around} (hr : Room (k + 1) A) : A.units + 65 < cLine := by
  have h1 := hr.un
  have h2 : A.units + 64 < cLine := hr.units
  have h3 := hr.mono (Nat.zero_le _)
  have h4 := h3.un
  first | omega | (simp only at h1 h4; omega)
section
variable {P : Program} {w : World} {K : PySem.W.Frag} {mg : Str → Option Value} {base : Heap} {G : List T} {ta tb' te : TE} {a ta' : TA}
theorem evx_tail {d : D} {ds : List D} (h : EvX G te (.d (.tup (d :: ds)))) : EvX G (tSl (rSlT K) te (tPart (tC (.int 1))) tNoPart) (.d (.tup ds)) := fun σ H I Q q => h σ H I _ fun v H1 s1 hv => by
  obtain ⟨a, xs, rfl, h1, h2⟩ := (show ∃ a xs, v = .ref a ∧ H1 a = some (.tup xs) ∧ DvL H1 (d :: ds) xs from hv)
  obtain ⟨x, xs, rfl, h3, h4⟩ := (show ∃ v vs, xs = v :: vs ∧ Dv H1 d v ∧ DvL H1 ds vs from h2)
  refine ⟨1, rfl, a, _, rfl, SqT.of h1, fun z => ?_, fun p hp => q _ _ (s1.trans (same_new hp)) ⟨p, _, rfl, upd_same, ?_⟩⟩
  · have z1 := z.1
    rw [show (1 : Int) = ((1 : Nat) : Int) from rfl, HT.sIx_nat, List.length_cons] at z1
    omega
  · have e : cutV (x :: xs) (some 1) none = xs := by
      unfold cutV
      rw [show (1 : Int) = ((1 : Nat) : Int) from rfl, HT.sIx_nat, HT.sIx_none, List.length_cons]
      have : min 1 (xs.length + 1) = 1 := by omega
      rw [this]
      simp
    rw [e]
    exact h4.mono (same_new hp)
theorem evx_gePair {x y : Nat × Nat} {b : Bool} (ha : EvX G ta (.d (pairD x))) (hb : EvX G tb' (.d (pairD y))) (e : (!ltP2 x y) = b) : EvX G (tOp (rGeD K) ta tb') (.d (.bl b)) := evx_op ha hb fun v w H hv hw Q q => by
  refine ⟨(pairD x).py, (pairD y).py, Dv.dp _ _ hv, Dv.dp _ _ hw, rfl, (fun z => by cases z), (by show min 1 1 ≤ 60; decide), ?_⟩
  rw [lt_pairD, e]
  exact q _ H (Same.refl H) rfl
theorem sh_pairs : ∀ l : List (Nat × Nat), PyData.canLayAll0 (D.pyL (l.map pairD)) = true
  | [] => rfl
  | q :: l => by
    show (PyData.canLay0 (pairD q).py && PyData.canLayAll0 (D.pyL (l.map pairD))) = true
    rw [sh_pairs l]
    rfl
theorem depth_pairs1 (l : List (Nat × Nat)) : PyData.depthAll (D.pyL (l.map pairD)) ≤ 1 := by
  induction l with
  | nil => exact Nat.zero_le _
  | cons q l ih =>
    show max 1 (PyData.depthAll (D.pyL (l.map pairD))) ≤ 1
    omega
theorem evx_ninPairs {x : Nat × Nat} {l : List (Nat × Nat)} (ha : EvX G ta (.d (pairD x))) (hb : EvX G tb' (.d (.tup (l.map pairD)))) (h : x ∈ l) : EvX G (tOp (rInTD K true) ta tb') (.d (.bl false)) := evx_op ha hb fun v w H hv hw Q q => by
  refine ⟨(pairD x).py, D.pyL (l.map pairD), Dv.dp _ _ hv, Dv.dp (.tup (l.map pairD)) _ hw, rfl, ?_, ?_⟩
  · have h2 := depth_pairs1 l
    show (PyData.canLayAll0 (D.pyL (l.map pairD)) && decide (PyData.depthAll (D.pyL (l.map pairD)) + 1 ≤ 64)) = true
    rw [sh_pairs l, decide_eq_true (by omega)]
    rfl
  · have e : ((D.pyL (l.map pairD)).any fun z => PyData.eqv z (pairD x).py) = true := by
      rw [List.any_eq_true]
      refine ⟨(pairD x).py, ?_, ?_⟩
      · rw [D.pyL_map]
        exact List.mem_map.mpr ⟨pairD x, List.mem_map.mpr ⟨x, h, rfl⟩, rfl⟩
      · show ((((x.1 : Int) == (x.1 : Int)) && (((x.2 : Int) == (x.2 : Int)) && true))) = true
        simp
    rw [if_pos rfl, e]
    exact q _ H (Same.refl H) rfl
/-! dict of pairs -/
@[reducible] def key2 (q : Nat × Nat) : List Int := [(q.1 : Int), (q.2 : Int)]
theorem key2_inj {a b : Nat × Nat} (h : key2 a = key2 b) : a = b := by
  simp only [key2, List.cons.injEq] at h
  exact Prod.ext (by omega) (by omega)
theorem mergeT_new : ∀ {more kvs : List (List Key × V)}, ((kvs ++ more).map (·.1)).Nodup → mergeT kvs more = kvs ++ more
  | [], kvs, _ => by rw [List.append_nil]; rfl
  | p :: more, kvs, h => by
    have hp : valV kvs p.1 = none := by
      cases hv : valV kvs p.1 with
      | none => rfl
      | some v =>
        rw [List.map_append, List.nodup_append] at h
        exact absurd rfl (h.2.2 p.1 (valV_in hv) p.1 (by simp))
    show mergeT (putK kvs p.1 p.2) more = _
    rw [putK_new p.2 hp, mergeT_new (by simpa using h)]
    simp
theorem pairsK {H : Hp} : ∀ {ps : List (Nat × Nat)} {xs : List V}, DvL H (ps.map fun q => D.tup [pairD q, .bl true]) xs →
    ∃ (as : List Addr) (ks : List (Addr × List Key × V)), xs = as.map V.ref ∧ PairT K H as ks ∧ ks.map (·.2) = ps.map fun q => (kI (key2 q), .bl true)
  | [], xs, h => by
    obtain rfl : xs = [] := h
    exact ⟨[], [], rfl, .nil, rfl⟩
  | q :: ps, xs, h => by
    obtain ⟨v, vs, rfl, h2, h3⟩ := (show ∃ v vs, xs = v :: vs ∧ Dv H (.tup [pairD q, .bl true]) v ∧ DvL H (ps.map fun q => D.tup [pairD q, .bl true]) vs from h)
    obtain ⟨as, ks, rfl, e1, e2⟩ := pairsK h3
    obtain ⟨t, ys, rfl, z1, y1, r1, rfl, w1, y2, r2, rfl, w2, rfl⟩ := h2
    obtain rfl : y2 = .bl true := w2
    obtain ⟨b, rfl, hb⟩ := tup_ints (k := key2 q) w1
    exact ⟨t :: as, (b, kI (key2 q), .bl true) :: ks, rfl, .cons ⟨z1, hb⟩ e1, by rw [List.map_cons, e2]; rfl⟩
theorem mt_pairs (H : Hp) : ∀ ps : List (Nat × Nat), MT H (ps.map fun q => (kI (key2 q), V.bl true)) (ps.map fun q => (key2 q, D.bl true))
  | [] => .nil
  | q :: ps => .cons ⟨rfl, rfl⟩ (mt_pairs H ps)
theorem evx_dictP {ps : List (Nat × Nat)} (nd : ps.Nodup) (h : EvA G a [.li (ps.map fun q => D.tup [pairD q, .bl true])]) : EvX G (tCB (rDictT K) a) (.dt (ps.map fun q => (key2 q, .bl true))) := fun σ H I Q k => h σ H I _ fun vs H1 s1 hvs => by
  cases hvs with
  | cons r t =>
    cases t
    obtain ⟨p, xs, rfl, h1, h2⟩ := r
    obtain ⟨as, ks, rfl, e1, e2⟩ := pairsK (K := K) h2
    refine ⟨p, as, ks, rfl, SqL.of h1, e1, fun l hl => k _ _ (s1.trans (same_new hl)) ⟨l, _, rfl, upd_same, ?_⟩⟩
    have nk : ((ps.map fun q => (kI (key2 q), V.bl true)).map (·.1)).Nodup := by
      rw [List.map_map, List.Nodup, List.pairwise_map]
      exact List.Pairwise.imp (fun hab e => hab (key2_inj (kI_inj e))) nd
    rw [e2, mergeT_new (by simpa using nk), List.nil_append]
    exact mt_pairs _ _
theorem keyInT_pairs {ps : List (Nat × Nat)} (a b : Nat) : keyInT (ps.map fun q => (key2 q, D.bl true)) [(a : Int), (b : Int)] = decide ((a, b) ∈ ps) := by
  unfold keyInT
  rw [List.any_map, Bool.eq_iff_iff, List.any_eq_true, decide_eq_true_eq]
  constructor
  · rintro ⟨q, hq, e⟩
    have e : key2 q = key2 (a, b) := of_decide_eq_true e
    rw [← key2_inj e]
    exact hq
  · intro h
    exact ⟨(a, b), h, decide_eq_true rfl⟩
abbrev N__law_whole : List Str := ["found"]
theorem sc__law_whole : FnScope N__law_whole ["found"] (defScope s__law_whole) := C8.fnScope_by (by decide +kernel)

theorem cal__law_whole (F : MDef K mg "_law_whole" s__law_whole) (g : Glo mg) : C8.Cal P w K mg base 1 "_law_whole" (spX R_is_whole) [] :=
  cal_pure F sc__law_whole (fun _ _ _ _ _ _ us hl => match us, hl with | [_], _ => rfl) (fun ts t ⟨_, e, _⟩ => by rw [e]; rfl) fun f cdv A outer s H E hr ts t ⟨d, e1, e2⟩ => by
    subst e1 e2
    have nd := sc__law_whole.nd
    have hu := hu_of hr
    refine ⟨_, (pss_one (ps_ret (pe_and (pe_callB (r := rIsi K) call_isi (by rfl) g.isinstance (by decide +kernel) (pa_cons (pv 0) (pa_cons (pe_bltn (v := .ty "int") (u := .type "int") (by rfl) g.int (by decide +kernel) rfl) pa_nil))) (pe_one (pe_not (pe_callB (r := rIsi K) call_isi (by rfl) g.isinstance (by decide +kernel) (pa_cons (pv 0) (pa_cons (pe_bltn (v := .ty "bool") (u := .type "bool") (by rfl) g.bool (by decide +kernel) rfl) pa_nil)))))))), ?_⟩
    intro En hD hN
    refine st_ret (evx_eq (evx_andV (evx_isi (eva_cons (evx_var rfl) (eva_cons evx_cv eva_nil)) (kit_int d)) fun _ => evx_notV (evx_isi (eva_cons (evx_var rfl) (eva_cons evx_cv eva_nil)) (kit_bool d))) ?_) hD
    cases d <;> rfl
abbrev N__law_is_pair : List Str := ["thing", "one", "other"]
theorem sc__law_is_pair : FnScope N__law_is_pair ["thing", "one", "other"] (defScope s__law_is_pair) := C8.fnScope_by (by decide +kernel)

def R__law_is_pair (ts : List T) (t : T) : Prop := ∃ (W1 W2 : Wa) (q : Nat × Nat), q.1 < W1.n ∧ q.2 < W2.n ∧ ts = [.d (pairD q), .d W1.D, .d W2.D] ∧ t = .d (.bl true)
theorem cal__law_is_pair (F : MDef K mg "_law_is_pair" s__law_is_pair) (g : Glo mg) (c__law_whole : C8.Cal P w K mg base 1 "_law_whole" (spX R_is_whole) []) : C8.Cal P w K mg base 2 "_law_is_pair" (spX R__law_is_pair) [] :=
  cal_pure F sc__law_is_pair (fun _ _ _ _ _ _ us hl => match us, hl with | [_, _, _], _ => rfl) (fun ts t ⟨_, _, _, _, _, e, _⟩ => by rw [e]; rfl) fun f cdv A outer s H E hr ts t ⟨W1, W2, q, h1, h2, e1, e2⟩ => by
    subst e1 e2
    have nd := sc__law_is_pair.nd
    have hu := hu_of hr
    refine ⟨_, (pss_cons (ps_if (PW.pt (pw_or (pt_not (pt_val (pe_callB (r := rIsi K) call_isi (by rfl) g.isinstance (by decide +kernel) (pa_cons (pv 0) (pa_cons (pe_bltn (v := .ty "tuple") (u := .type "tuple") (by rfl) g.tuple (by decide +kernel) rfl) pa_nil))))) (pw_or (pt_cmpR op_ne (pe_callB (r := rLenK K) call_len_seq (by rfl) g.len PySem.boot_len (pa_cons (pv 0) pa_nil)) pe_int (nomark _)) (pw_or (pt_not (pt_val (C8.pe_c c__law_whole hr (by decide) rfl (pa_cons (pe_ix (r := rIxT K) ix_tup (pv 0) pe_int (fun _ _ => rfl)) pa_nil)))) (pw_or1 (pt_not (pt_val (C8.pe_c c__law_whole hr (by decide) rfl (pa_cons (pe_ix (r := rIxT K) ix_tup (pv 0) pe_int (fun _ _ => rfl)) pa_nil))))))))) (pss_one (ps_ret pe_bl)) pss_nil)
      (pss_one (ps_ret (pe_and (pe_chain op_le op_lt pe_int (pe_ix (r := rIxT K) ix_tup (pv 0) pe_int (fun _ _ => rfl)) (pe_callB (r := rLenK K) call_len_seq (by rfl) g.len PySem.boot_len (pa_cons (pe_ix (r := rIxT K) ix_tup (pv 1) pe_int (fun _ _ => rfl)) pa_nil))) (pe_one (pe_chain op_le op_lt pe_int (pe_ix (r := rIxT K) ix_tup (pv 0) pe_int (fun _ _ => rfl)) (pe_callB (r := rLenK K) call_len_seq (by rfl) g.len PySem.boot_len (pa_cons (pe_ix (r := rIxT K) ix_tup (pv 2) pe_int (fun _ _ => rfl)) pa_nil)))))))), ?_⟩
    intro En hD hN
    refine st_seq (st_if (b := false) (evb_or (x := false) (y := false) (evb_not (x := true) (evb_B (evx_isi (eva_cons (evx_var rfl) (eva_cons evx_cv eva_nil)) (kit_tuple _)))) fun _ => evb_or (x := false) (y := false) (evb_T (evx_neI (evx_lenT (eva_cons (evx_var rfl) eva_nil)) evx_int rfl)) fun _ => evb_or (x := false) (y := false) (evb_not (x := true) (evb_B (evx_call (eva_cons (evx_ixTn (i := 0) (evx_var rfl) evx_int rfl) eva_nil) ⟨_, rfl, rfl⟩))) fun _ => evb_not (x := true) (evb_B (evx_call (eva_cons (evx_ixTn (i := 1) (evx_var rfl) evx_int rfl) eva_nil) ⟨_, rfl, rfl⟩))) (fun h => nomatch h) fun _ => st_next ?_)
    refine st_ret (evx_eq (evx_andV (evx_chain evx_int (evx_ixTn (i := 0) (evx_var rfl) evx_int rfl) (evx_lenT (eva_cons (evx_ixTn (i := 2) (evx_var (i := 1) rfl) evx_int rfl) eva_nil))) fun _ => evx_chain evx_int (evx_ixTn (i := 1) (evx_var rfl) evx_int rfl) (evx_lenT (eva_cons (evx_ixTn (i := 2) (evx_var (i := 2) rfl) evx_int rfl) eva_nil))) ?_) hD
    rw [tb_len, tb_len]
    have e1 := below_true h1
    have e2 := below_true h2
    rw [e1, e2]
    rfl
abbrev N__law_pairs_right : List Str := ["one", "other", "pairs", "pair", "low", "high", "among", "state", "next_to", "sign", "deed", "given", "onto", "let", "far"]
theorem sc__law_pairs_right : FnScope N__law_pairs_right ["one", "other", "pairs"] (defScope s__law_pairs_right) := C8.fnScope_by (by decide +kernel)

def R__law_pairs_right (ts : List T) (t : T) : Prop := ∃ (W1 W2 : Wa) (ps : List (Nat × Nat)), W1.Valid ∧ W2.Valid ∧ W1.s = W2.s ∧ W1.d = W2.d ∧ ps.Pairwise (fun a b => ltP2 a b = true) ∧ (0, 0) ∈ ps ∧ (∀ q ∈ ps, q.1 < W1.n ∧ q.2 < W2.n) ∧ (∀ q ∈ ps, ClAt W1 W2 ps q) ∧ ps.length ≤ 10000 ∧ ts = [.d W1.D, .d W2.D, .d (.tup (ps.map pairD))] ∧ t = .d (.bl true)
theorem cal__law_pairs_right (F : MDef K mg "_law_pairs_right" s__law_pairs_right) (g : Glo mg) (c__law_is_pair : C8.Cal P w K mg base 2 "_law_is_pair" (spX R__law_is_pair) []) : C8.Cal P w K mg base 3 "_law_pairs_right" (spX R__law_pairs_right) [] :=
  cal_pure F sc__law_pairs_right (fun _ _ _ _ _ _ us hl => match us, hl with | [_, _, _], _ => rfl) (fun ts t ⟨_, _, _, _, _, _, _, _, _, _, _, _, e, _⟩ => by rw [e]; rfl) fun f cdv A outer s H E hr ts t ⟨W1, W2, ps, v1, v2, hs, hd, hpw, h0, hb, hcl, hlen, e1, e2⟩ => by
    subst e1 e2
    have nd := sc__law_pairs_right.nd
    have hu := hu_of hr
    refine ⟨_, (pss_cons (ps_if (PW.pt (pw_or (pt_not (pt_val (pe_callB (r := rIsi K) call_isi (by rfl) g.isinstance (by decide +kernel) (pa_cons (pv 2) (pa_cons (pe_bltn (v := .ty "tuple") (u := .type "tuple") (by rfl) g.tuple (by decide +kernel) rfl) pa_nil))))) (pw_or1 (pt_not (pt_val (pe_callB (r := rAll K) (cr_all rfl) (by rfl) g.all (by decide +kernel) (pa_cons (pe_lc (own := [("pair", 3)]) (g := (gName 3)) (tt := tYes) rfl nd (pi_tupK (K := K) rfl (pv 2)) (blkOk_by (by show blkC N__law_pairs_right (defScope s__law_pairs_right) _ _ = true; decide +kernel)) (fun _ _ _ _ _ => (pg_name (i := 3) nd rfl (Or.inl rfl))) (fun _ _ _ _ _ => pts_nil) (fun _ _ _ _ _ => (C8.pe_c c__law_is_pair hr (by decide) rfl (pa_cons (pv 3) (pa_cons (pv 0) (pa_cons (pv 1) pa_nil)))))) pa_nil))))))) (pss_one (ps_ret pe_bl)) pss_nil)
      (pss_cons (ps_if (pt_cmpR (r := rInTD K true) (op_notInTD (units1 hr)) (pe_tup (pa_cons pe_int (pa_cons pe_int pa_nil))) (pv 2) rfl) (pss_one (ps_ret pe_bl)) pss_nil)
      (pss_cons (ps_if (pt_cmpR (r := rNeD K) (op_neD hr.units) (pe_lc (own := [("low", 4), ("high", 5)]) (g := (gTup K 2 (gCons (gName 4) (gCons (gName 5) gNil)))) rfl nd (pi_zipAK (K := K) rfl rfl g.zip (pa_cons (pv 2) (pa_cons (pe_slice (r := rSlT K) sl_tup (pv 2) (po_some pe_int) po_none) pa_nil))) (blkOk_by (by show blkC N__law_pairs_right (defScope s__law_pairs_right) _ _ = true; decide +kernel)) (fun _ _ _ _ _ => (pg_tup rfl (pgs_cons (pg_name (i := 4) nd rfl (Or.inl rfl)) (pgs_cons (pg_name (i := 5) nd rfl (Or.inl rfl)) pgs_nil)))) (fun _ _ _ _ _ => (pts_one (pt_cmpR (r := rGeD K) (op_geD hr.units) (pv 4) (pv 5) (nomark _)))) (fun _ _ _ _ _ => pe_int)) (pe_lst pa_nil) (nomark _)) (pss_one (ps_ret pe_bl)) pss_nil)
      (pss_cons (ps_set (i := 6) nd rfl (Or.inl rfl) (pe_callTy (call_dictT rfl hr.units) (by rfl) g.dict (by decide +kernel) (pa_cons (pe_lc (own := [("pair", 3)]) (g := (gName 3)) (tt := tYes) rfl nd (pi_tupK (K := K) rfl (pv 2)) (blkOk_by (by show blkC N__law_pairs_right (defScope s__law_pairs_right) _ _ = true; decide +kernel)) (fun _ _ _ _ _ => (pg_name (i := 3) nd rfl (Or.inl rfl))) (fun _ _ _ _ _ => pts_nil) (fun _ _ _ _ _ => (pe_tup (pa_cons (pv 3) (pa_cons pe_bl pa_nil))))) pa_nil)))
      (pss_cons (ps_for PassesOwn.never rfl (pi_tupK (K := K) rfl (pv 2)) (pg_tup rfl (pgs_cons (pg_name (i := 7) nd rfl (Or.inl rfl)) (pgs_cons (pg_name (i := 8) nd rfl (Or.inl rfl)) pgs_nil))) (pss_one (ps_for PassesOwn.never rfl (pi_range1 rfl g.range (pa_cons (pe_ix (r := rIxT K) ix_tup (pv 0) pe_int (fun _ _ => rfl)) pa_nil)) (pg_name (i := 9) nd rfl (Or.inl rfl)) (pss_one (ps_for PassesOwn.never rfl (pi_range1 rfl g.range (pa_cons (pe_ix (r := rIxT K) ix_tup (pv 0) pe_int (fun _ _ => rfl)) pa_nil)) (pg_name (i := 10) nd rfl (Or.inl rfl)) (pss_cons (ps_asg (pe_ix (r := rIxT K) ix_tup (pe_ix (r := rIxT K) ix_tup (pe_ix (r := rIxT K) ix_tup (pe_ix (r := rIxT K) ix_tup (pv 0) pe_int (fun _ _ => rfl)) (pv 7) (fun _ _ => rfl)) (pv 9) (fun _ _ => rfl)) (pv 10) (fun _ _ => rfl)) (pg_tup rfl (pgs_cons (pg_name (i := 11) nd rfl (Or.inl rfl)) (pgs_cons (pg_name (i := 12) nd rfl (Or.inl rfl)) pgs_nil))))
      (pss_cons (ps_asg (pe_ix (r := rIxT K) ix_tup (pe_ix (r := rIxT K) ix_tup (pe_ix (r := rIxT K) ix_tup (pe_ix (r := rIxT K) ix_tup (pv 1) pe_int (fun _ _ => rfl)) (pv 8) (fun _ _ => rfl)) (pv 9) (fun _ _ => rfl)) (pv 10) (fun _ _ => rfl)) (pg_tup rfl (pgs_cons (pg_name (i := 13) nd rfl (Or.inl rfl)) (pgs_cons (pg_name (i := 14) nd rfl (Or.inl rfl)) pgs_nil))))
      (pss_one (ps_if (PW.pt (pw_and (pt_cmpR op_eq (pv 13) (pv 10) (nomark _)) (pw_and1 (PW.pt (pw_or (pt_cmpR op_ne (pv 11) (pv 10) (nomark _)) (pw_or1 (pt_cmp (pc_dnotin hu (pe_tup (pa_cons (pv 12) (pa_cons (pv 14) pa_nil))) (pv 6))))))))) (pss_one (ps_ret pe_bl)) pss_nil)))))))))
      (pss_one (ps_ret pe_bl))))))), ?_⟩
    intro En hD hN
    have nd' : ps.Nodup := List.Pairwise.imp (fun {a b} h e => by
      rw [e] at h
      simp [ltP2] at h) hpw
    obtain ⟨q0, ps', hps⟩ := List.exists_cons_of_ne_nil (List.ne_nil_of_mem h0)
    have elen : (ps.map pairD).length = ps.length := by simp
    refine st_seq (st_if (b := false) (evb_or (x := false) (y := false) (evb_not (x := true) (evb_B (evx_isi (eva_cons (evx_var rfl) (eva_cons evx_cv eva_nil)) (kit_tuple _)))) fun _ => evb_not (x := true) (evb_B (evx_eq (evx_all (bs := ps.map fun _ => true) (eva_cons (evx_eq (evx_lcM (α := Nat × Nat) (l := ps) (en := pairD) (p := fun _ => true) (h := fun _ => Mw.D.bl true) (it_tup (evx_var (i := 2) rfl)) (fun q hq => .mk tg_name (by decide) (evx_call (eva_cons (evx_var (i := 3) rfl) (eva_cons (evx_var (i := 0) rfl) (eva_cons (evx_var (i := 1) rfl) eva_nil))) ⟨W1, W2, q, (hb q hq).1, (hb q hq).2, rfl, rfl⟩)) (by omega)) ?_) eva_nil)) ?_))) (fun h => nomatch h) fun _ => st_next ?_)
    · rw [List.filter_eq_self.mpr fun _ _ => rfl, List.map_map]
      rfl
    · have : (ps.map fun _ => true).all id = true := by simp
      rw [this]
    refine st_seq (st_if (b := false) (evb_T (evx_ninPairs (x := (0, 0)) (evx_tup (ds := [.int 0, .int 0]) (eva_cons evx_int (eva_cons evx_int eva_nil))) (evx_var (i := 2) rfl) h0)) (fun h => nomatch h) fun _ => st_next ?_)
    refine st_seq (st_if (b := false) (evb_T (evx_neLi (l := []) (m := []) (evx_eq (evx_lc (fun _ => none) (it_zipT (ds := ps.map pairD) (es := ps'.map pairD) (eva_cons (evx_var (i := 2) rfl) (eva_cons (evx_tail (d := pairD q0) (evx_eq (evx_var (i := 2) rfl) (by rw [hps]; rfl))) eva_nil))) (fun i t hi hq => ?_) (by rw [elen]; omega)) ?_) (evx_lst eva_nil) rfl)) (fun h => nomatch h) fun _ => st_next ?_)
    · obtain ⟨d, e, hd', he', ht⟩ := hq
      subst ht
      obtain ⟨i1, rfl⟩ := map_at (d := (0, 0)) hd'
      obtain ⟨i2, rfl⟩ := map_at (d := (0, 0)) he'
      have hlt : ltP2 (ps.getD i (0, 0)) (ps'.getD i (0, 0)) = true := by
        have i3 : i + 1 < ps.length := by rw [hps, List.length_cons]; omega
        have := List.pairwise_iff_getElem.mp hpw i (i + 1) i1 i3 (by omega)
        have e1 : ps.getD i (0, 0) = ps[i] := by rw [List.getD_eq_getElem?_getD, List.getElem?_eq_getElem i1]; rfl
        have e2 : ps'.getD i (0, 0) = ps[i + 1] := by
          rw [List.getD_eq_getElem?_getD, List.getElem?_eq_getElem i2]
          simp [hps]
        rw [e1, e2]
        exact this
      exact LcTurn.tst (b := false) (d := .int 1) (tg_tup (tgs_cons tg_name (tgs_cons tg_name tgs_nil))) (by decide) (evb_T (evx_gePair (evx_var (i := 4) rfl) (evx_var (i := 5) rfl) (by rw [hlt]; rfl))) (fun h => nomatch h)
    · congr 1
      exact List.filterMap_eq_nil_iff.mpr fun _ _ => rfl
    refine st_seq (st_asg (evx_dictP nd' (eva_cons (evx_eq (evx_lcM (α := Nat × Nat) (l := ps) (en := pairD) (p := fun _ => true) (h := fun q => Mw.D.tup [pairD q, .bl true]) (it_tup (evx_var (i := 2) rfl)) (fun q hq => .mk tg_name (by decide) (evx_tup (ds := [_, _]) (eva_cons (evx_var (i := 3) rfl) (eva_cons evx_bl eva_nil)))) (by omega)) ?_) eva_nil)) tg_name ?_)
    · rw [List.filter_eq_self.mpr fun _ _ => rfl]
    refine st_seq (st_for (it_tup (ds := ps.map pairD) (evx_var (i := 2) rfl)) (fun _ => True) trivial (fun Hb hs' i t hi hq _ => ?_) fun _ => ?_)
    · obtain ⟨d, hd', ht⟩ := hq
      subst ht
      obtain ⟨i1, rfl⟩ := map_at (d := (0, 0)) hd'
      have hq := getD_mem (d := (0, 0)) i1
      generalize ps.getD i (0, 0) = q at hq
      obtain ⟨hb1, hb2⟩ := hb q hq
      refine ⟨[_, _, _, _, _, _, _, _, _, _, _, _, _, _, _], _, tg_tup (tgs_cons tg_name (tgs_cons tg_name tgs_nil)), st_for (it_rngN (n := W1.s) (eva_cons (evx_ixTn (i := 0) (evx_var (i := 0) rfl) evx_int rfl) eva_nil) (by have := v1.1.2; omega)) (fun _ => True) trivial (fun Hb2 hs2 gn t hg ht _ => ?_) fun _ => st_next (nx_turn ?_ trivial)⟩
      · subst ht
        refine ⟨[_, _, _, _, _, _, _, _, _, _, _, _, _, _, _], _, tg_name, st_for (it_rngN (n := W1.d) (eva_cons (evx_ixTn (i := 1) (evx_var (i := 0) rfl) evx_int rfl) eva_nil) (by have := v1.2.1.2; omega)) (fun _ => True) trivial (fun Hb3 hs3 x t hx ht _ => ?_) fun _ => st_next (nx_turn ?_ trivial)⟩
        · subst ht
          refine ⟨[_, _, _, _, _, _, _, _, _, _, _, _, _, _, _], _, tg_name, ?_⟩
          refine st_seq (st_asg (G' := [_, _, _, _, _, _, _, _, _, _, _, _, _, _, _]) (evx_ixTn (evx_ixTn (evx_ixTn (evx_ixTn (i := 2) (evx_var (i := 0) rfl) evx_int rfl) (evx_var (i := 7) rfl) (tb_get hb1)) (evx_var (i := 9) rfl) (tb_get hg)) (evx_var (i := 10) rfl) (tb_get hx)) (tg_tup (tgs_cons tg_name (tgs_cons tg_name tgs_nil))) ?_)
          refine st_seq (st_asg (G' := [_, _, _, _, _, _, _, _, _, _, _, _, _, _, _]) (evx_ixTn (evx_ixTn (evx_ixTn (evx_ixTn (i := 2) (evx_var (i := 1) rfl) evx_int rfl) (evx_var (i := 8) rfl) (tb_get hb2)) (evx_var (i := 9) rfl) (tb_get (by omega))) (evx_var (i := 10) rfl) (tb_get (by omega))) (tg_tup (tgs_cons tg_name (tgs_cons tg_name tgs_nil))) ?_)
          refine st_if (b := false) (evb_eq (evb_and (x := decide (W2.g q.2 gn x = x)) (y := false) (evb_T (evx_eqI (evx_var (i := 13) rfl) (evx_var (i := 10) rfl) (by rw [decide_eq_decide]; omega))) fun h => ?_) ?_) (fun h => nomatch h) fun _ => st_next (nx_turn ?_ trivial)
          · obtain ⟨z1, z2⟩ := hcl q hq gn x hg hx (of_decide_eq_true h)
            exact evb_or (x := false) (y := false) (evb_T (evx_neI (evx_var (i := 11) rfl) (evx_var (i := 10) rfl) (by rw [z1]; simp))) fun _ => evb_B (evx_ninDT (k := [(W1.t q.1 gn x : Int), (W2.t q.2 gn x : Int)]) (evx_tup (ds := [_, _]) (eva_cons (evx_var (i := 12) rfl) (eva_cons (evx_var (i := 14) rfl) eva_nil))) (evx_var (i := 6) rfl) (by rw [keyInT_pairs]; simp [z2]))
          · simp
          · repeat (first | exact .nil | refine .cons (.inr rfl) ?_ | refine .cons (.inl rfl) ?_)
        · repeat (first | exact .nil | refine .cons (.inr rfl) ?_ | refine .cons (.inl rfl) ?_)
      · repeat (first | exact .nil | refine .cons (.inr rfl) ?_ | refine .cons (.inl rfl) ?_)
    · exact st_ret evx_bl hD
abbrev N__law_right : List Str := ["one", "other", "thing"]
theorem sc__law_right : FnScope N__law_right ["one", "other", "thing"] (defScope s__law_right) := C8.fnScope_by (by decide +kernel)

def R__law_right (ts : List T) (t : T) : Prop := ∃ (W1 W2 : Wa) (ps : List (Nat × Nat)), W1.Valid ∧ W2.Valid ∧ W1.s = W2.s ∧ W1.d = W2.d ∧ ps.Pairwise (fun a b => ltP2 a b = true) ∧ (0, 0) ∈ ps ∧ (∀ q ∈ ps, q.1 < W1.n ∧ q.2 < W2.n) ∧ (∀ q ∈ ps, ClAt W1 W2 ps q) ∧ ps.length ≤ 10000 ∧ ts = [.d W1.D, .d W2.D, .d (.tup [.str "milder", .tup (ps.map pairD)])] ∧ t = .d (.bl true)
theorem cal__law_right (F : MDef K mg "_law_right" s__law_right) (g : Glo mg) (c__law_pairs_right : C8.Cal P w K mg base 3 "_law_pairs_right" (spX R__law_pairs_right) []) : C8.Cal P w K mg base 4 "_law_right" (spX R__law_right) [] :=
  cal_pure F sc__law_right (fun _ _ _ _ _ _ us hl => match us, hl with | [_, _, _], _ => rfl) (fun ts t ⟨_, _, _, _, _, _, _, _, _, _, _, _, e, _⟩ => by rw [e]; rfl) fun f cdv A outer s H E hr ts t ⟨W1, W2, ps, v1, v2, hs, hd, hpw, h0, hb, hcl, hlen, e1, e2⟩ => by
    subst e1 e2
    have nd := sc__law_right.nd
    have hu := hu_of hr
    refine ⟨_, (pss_cons (ps_if (PW.pt (pw_or (pt_not (pt_val (pe_callB (r := rIsi K) call_isi (by rfl) g.isinstance (by decide +kernel) (pa_cons (pv 2) (pa_cons (pe_bltn (v := .ty "tuple") (u := .type "tuple") (by rfl) g.tuple (by decide +kernel) rfl) pa_nil))))) (pw_or (pt_cmpR op_ne (pe_callB (r := rLenK K) call_len_seq (by rfl) g.len PySem.boot_len (pa_cons (pv 2) pa_nil)) pe_int (nomark _)) (pw_or1 (pt_not (pt_val (pe_callB (r := rIsi K) call_isi (by rfl) g.isinstance (by decide +kernel) (pa_cons (pe_ix (r := rIxT K) ix_tup (pv 2) pe_int (fun _ _ => rfl)) (pa_cons (pe_bltn (v := .ty "str") (u := .type "str") (by rfl) g.str (by decide +kernel) rfl) pa_nil))))))))) (pss_one (ps_ret pe_bl)) pss_nil)
      (pss_cons (ps_if (pt_cmpR op_eq (pe_ix (r := rIxT K) ix_tup (pv 2) pe_int (fun _ _ => rfl)) pe_str (nomark _)) (pss_one (ps_ret (C8.pe_c c__law_pairs_right hr (by decide) rfl (pa_cons (pv 0) (pa_cons (pv 1) (pa_cons (pe_ix (r := rIxT K) ix_tup (pv 2) pe_int (fun _ _ => rfl)) pa_nil)))))) pss_nil)
      pss_never)), ?_⟩
    intro En hD hN
    refine st_seq (st_if (b := false) (evb_or (x := false) (y := false) (evb_not (x := true) (evb_B (evx_isi (eva_cons (evx_var rfl) (eva_cons evx_cv eva_nil)) (kit_tuple _)))) fun _ => evb_or (x := false) (y := false) (evb_T (evx_neI (evx_lenT (eva_cons (evx_var rfl) eva_nil)) evx_int rfl)) fun _ => evb_not (x := true) (evb_B (evx_isi (eva_cons (evx_ixTn (i := 0) (evx_var (i := 2) rfl) evx_int rfl) (eva_cons evx_cv eva_nil)) (kit_str _)))) (fun h => nomatch h) fun _ => st_next ?_)
    refine st_seq (st_if (b := true) (evb_T (evx_eqS (evx_ixTn (i := 0) (evx_var (i := 2) rfl) evx_int rfl) evx_str (decide_eq_true rfl))) (fun _ => st_ret (evx_call (eva_cons (evx_var (i := 0) rfl) (eva_cons (evx_var (i := 1) rfl) (eva_cons (evx_ixTn (i := 1) (evx_var (i := 2) rfl) evx_int rfl) eva_nil))) ⟨W1, W2, ps, v1, v2, hs, hd, hpw, h0, hb, hcl, hlen, rfl, rfl⟩) hD) (fun h => nomatch h))
end
end Mw

namespace Mw
open PySem PySem.Spec PyProof.Rows L2
/-! ### the mildest watcher -/
theorem costF_zero {d : Nat} {p : Pr} (hp : PrOk d p) {x y : Nat} (hx : x < d) (hy : y < d) (h : costF p x y = some 0) : y = x := by
  cases p with
  | none =>
    by_cases e : y = x
    · exact e
    · simp [costF, e] at h
  | some p =>
    by_cases e : y = x
    · exact e
    · have := (hp x y hx hy).2 (fun z => e z.symm) 0 h
      omega
/-- who wants what may be kept gets it -/
theorem least_own {S : Sy} {p : Pr} {gd : Nat → Bool} (hp : PrOk S.d p) {r g x : Nat} (h : x ∈ keepF S p gd r g x) : leastF p x (keepF S p gd r g x) = x := by
  have hx := (keepF_ans h).1
  have h0 := leastF_mem (p := p) (x := x) (List.ne_nil_of_mem h)
  obtain ⟨h1, h2, _⟩ := keepF_ans h0
  have h3 := leastF_le (p := p) (x := x) h
  obtain ⟨c, hc⟩ := Option.isSome_iff_exists.mp h2
  rw [hc, costF_own hp hx] at h3
  have : c = 0 := by simpa using h3
  rw [this] at hc
  exact costF_zero hp hx h1 hc
theorem keepF_own {S : Sy} {p : Pr} {gd : Nat → Bool} (hp : PrOk S.d p) {r g x : Nat} (hx : x < S.d) (h : (S.b r g x).any gd = true) : x ∈ keepF S p gd r g x := by
  simp only [keepF, ansF, List.mem_filter, List.mem_range]
  exact ⟨⟨hx, by rw [costF_own hp hx]; rfl⟩, h⟩
/-- the mildest of the kept rooms -/
abbrev milS (S : Sy) (p : Pr) : Wa := milW S (keptF S p) (lstF S p (keptF S p))
theorem mil_step {S : Sy} {p : Pr} {q g x : Nat} (hq : q < (keptF S p).length) (hg : g < S.s) (hx : x < S.d) :
    (milS S p).g q g x ∈ keepF S p (inL (keptF S p)) ((keptF S p).getD q 0) g x ∧ ∃ v, v ∈ keptF S p ∧ S.b ((keptF S p).getD q 0) g ((milS S p).g q g x) = some v ∧ (milS S p).t q g x = (keptF S p).idxOf v := by
  have hr : (keptF S p).getD q 0 ∈ keptF S p := getD_mem hq
  have h1 : (milS S p).g q g x ∈ keepF S p (inL (keptF S p)) ((keptF S p).getD q 0) g x := leastF_mem (kept_keep hr hg hx)
  obtain ⟨_, _, h4⟩ := keepF_ans h1
  obtain ⟨v, hv, hb⟩ := Option.any_eq_true _ _ |>.mp h4
  refine ⟨h1, v, of_decide_eq_true hb, hv, ?_⟩
  show (keptF S p).idxOf ((S.b ((keptF S p).getD q 0) g ((milS S p).g q g x)).getD 0) = _
  rw [hv]
  rfl
theorem idx_get {l : List Nat} {v : Nat} (h : v ∈ l) : l.getD (l.idxOf v) 0 = v := by
  have hi := List.idxOf_lt_length_of_mem h
  rw [List.getD_eq_getElem?_getD, List.getElem?_eq_getElem hi]
  exact List.getElem_idxOf hi
theorem kept_zero {S : Sy} {p : Pr} (h : 0 ∈ keptF S p) : (keptF S p).getD 0 0 = 0 := by
  have hn := keptF_lt h
  have e := keptF_range S p
  obtain ⟨n, hn⟩ : ∃ n, S.n = n + 1 := ⟨S.n - 1, by omega⟩
  rw [hn, List.range_succ_eq_map, List.filter_cons_of_pos (by simp [inL, h])] at e
  rw [← e]
  rfl
theorem mil_valid {S : Sy} {p : Pr} (hS : S.Valid) (h0 : 0 ∈ keptF S p) : (milS S p).Valid := by
  refine ⟨hS.1, hS.2.1, ⟨List.length_pos_of_mem h0, Nat.le_trans (keptF_len S p) hS.2.2.1.2⟩, fun q g x hq hg hx => ?_⟩
  obtain ⟨h1, v, h2, h3, h4⟩ := mil_step hq hg hx
  exact ⟨(keepF_ans h1).1, by rw [h4]; exact List.idxOf_lt_length_of_mem h2⟩
/-- the states of a run -/
def stA (W : Wa) (run : List (Nat × Nat)) : Nat → Nat
  | 0 => 0
  | i + 1 => W.t (stA W run i) (run.getD i (0, 0)).1 (run.getD i (0, 0)).2
def RunOk (s d : Nat) (run : List (Nat × Nat)) : Prop := ∀ q ∈ run, q.1 < s ∧ q.2 < d
theorem stA_lt {W : Wa} (hW : W.Valid) {run : List (Nat × Nat)} (hr : RunOk W.s W.d run) : ∀ {i}, i ≤ run.length → stA W run i < W.n
  | 0, _ => hW.2.2.1.1
  | i + 1, h => by
    obtain ⟨h1, h2⟩ := hr _ (getD_mem (d := (0, 0)) (show i < run.length by omega))
    exact (hW.2.2.2 _ _ _ (stA_lt hW hr (by omega)) h1 h2).2
section
variable {P : Program} {w : World} {K : PySem.W.Frag} {mg : Str → Option Value} {base : Heap} {G : List T} {ta tb' te : TE} {a ta' : TA}
abbrev N__law_mended_right : List Str := ["saying", "fees", "kept", "least", "run", "room", "state", "sign", "wanted", "given", "fine"]
theorem sc__law_mended_right : FnScope N__law_mended_right ["saying", "fees", "kept", "least", "run"] (defScope s__law_mended_right) := C8.fnScope_by (by decide +kernel)

def R__law_mended_right (ts : List T) (t : T) : Prop := ∃ (S : Sy) (p : Pr) (run : List (Nat × Nat)), S.Valid ∧ PrOk S.d p ∧ 0 ∈ keptF S p ∧ RunOk S.s S.d run ∧ run.length ≤ 1000 ∧ ts = [.d S.D, .d (encP S.d p), .li (intD (keptF S p)), .d (milS S p).D, .d (.tup (run.map pairD))] ∧ t = .d (.bl true)
def MR (S : Sy) (p : Pr) (run : List (Nat × Nat)) (i : Nat) : List T := [.d S.D, .d (encP S.d p), .li (intD (keptF S p)), .d (milS S p).D, .d (.tup (run.map pairD)), .d (.int (((keptF S p).getD (stA (milS S p) run i) 0 : Nat) : Int)), .d (.int (stA (milS S p) run i : Int)), .u, .u, .u, .u]
theorem cal__law_mended_right (F : MDef K mg "_law_mended_right" s__law_mended_right) (g : Glo mg) (c__law_cost : C8.Cal P w K mg base 1 "_law_cost" (spX R__law_cost) []) : C8.Cal P w K mg base 2 "_law_mended_right" (spX R__law_mended_right) [] :=
  cal_pure F sc__law_mended_right (fun _ _ _ _ _ _ us hl => match us, hl with | [_, _, _, _, _], _ => rfl) (fun ts t ⟨_, _, _, _, _, _, _, _, e, _⟩ => by rw [e]; rfl) fun f cdv A outer s H E hr ts t ⟨S, p, run, hS, hp, h0, hrun, hlen, e1, e2⟩ => by
    subst e1 e2
    have nd := sc__law_mended_right.nd
    have hu := hu_of hr
    refine ⟨_, (pss_cons (ps_set (i := 5) nd rfl (Or.inl rfl) pe_int)
      (pss_cons (ps_set (i := 6) nd rfl (Or.inl rfl) pe_int)
      (pss_cons (ps_for PassesOwn.never rfl (pi_tupK (K := K) rfl (pv 4)) (pg_tup rfl (pgs_cons (pg_name (i := 7) nd rfl (Or.inl rfl)) (pgs_cons (pg_name (i := 8) nd rfl (Or.inl rfl)) pgs_nil))) (pss_cons (ps_asg (pe_ix (r := rIxT K) ix_tup (pe_ix (r := rIxT K) ix_tup (pe_ix (r := rIxT K) ix_tup (pe_ix (r := rIxT K) ix_tup (pv 3) pe_int (fun _ _ => rfl)) (pv 6) (fun _ _ => rfl)) (pv 7) (fun _ _ => rfl)) (pv 8) (fun _ _ => rfl)) (pg_tup rfl (pgs_cons (pg_name (i := 9) nd rfl (Or.inl rfl)) (pgs_cons (pg_name (i := 6) nd rfl (Or.inl rfl)) pgs_nil))))
      (pss_cons (ps_set (i := 10) nd rfl (Or.inl rfl) (pe_cmpR (r := rIn K false) op_in_seq (pe_ix (r := rIxT K) ix_tup (pe_ix (r := rIxT K) ix_tup (pe_ix (r := rIxT K) ix_tup (pe_ix (r := rIxT K) ix_tup (pv 0) pe_int (fun _ _ => rfl)) (pv 5) (fun _ _ => rfl)) (pv 7) (fun _ _ => rfl)) (pv 8) (fun _ _ => rfl)) (pv 2) rfl))
      (pss_cons (ps_if (PW.pt (pw_or (pt_cmpR op_ne (pv 10) (pe_cmpR op_eq (pv 9) (pv 8) (nomark _)) (nomark _)) (pw_or1 (pt_cmpR op_isN (C8.pe_c c__law_cost hr (by decide) rfl (pa_cons (pv 1) (pa_cons (pv 8) (pa_cons (pv 9) pa_nil)))) pe_non (nomark _))))) (pss_one (ps_ret pe_bl)) pss_nil)
      (pss_cons (ps_set (i := 5) nd rfl (Or.inl rfl) (pe_ix (r := rIxT K) ix_tup (pe_ix (r := rIxT K) ix_tup (pe_ix (r := rIxT K) ix_tup (pe_ix (r := rIxT K) ix_tup (pv 0) pe_int (fun _ _ => rfl)) (pv 5) (fun _ _ => rfl)) (pv 7) (fun _ _ => rfl)) (pv 9) (fun _ _ => rfl)))
      (pss_one (ps_if (pt_cmpR (r := rIn K true) op_notIn_seq (pv 5) (pv 2) rfl) (pss_one (ps_ret pe_bl)) pss_nil)))))))
      (pss_one (ps_ret pe_bl))))), ?_⟩
    intro En hD hN
    intro σ0 H0 s0 I0
    refine rss_ev I0 evx_int fun v1 H1 s1 _ I1 => ?_
    refine rss_ev I1 evx_int fun v2 H2 s2 _ I2 => ?_
    have I3 : EnvOk H2 (MR S p run 0) ((σ0.set 5 (some v1)).set 6 (some v2)) := by
      show EnvOk H2 [_, _, _, _, _, T.d (.int (((keptF S p).getD 0 0 : Nat) : Int)), _, _, _, _, _] _
      rw [kept_zero h0]
      exact I2
    refine rs_st (G := MR S p run 0) (H0 := H) (st_seq (st_forG (MR S p run) (it_tup (ds := run.map pairD) (evx_var (i := 4) rfl)) (fun Hb hs i t hi hq => ?_) (by
      rw [List.length_map]
      exact st_ret evx_bl hD))) (s0.trans (s1.trans s2)) I3
    obtain ⟨d, hd', ht⟩ := hq
    subst ht
    obtain ⟨i1, rfl⟩ := map_at (d := (0, 0)) hd'
    have hq := getD_mem (d := (0, 0)) i1
    obtain ⟨hg, hx⟩ := hrun _ hq
    have hW := mil_valid hS h0
    have hst : stA (milS S p) run i < (keptF S p).length := stA_lt hW hrun (Nat.le_of_lt i1)
    obtain ⟨m1, v, m2, m3, m4⟩ := mil_step (p := p) hst hg hx
    obtain ⟨n1, n2, _⟩ := keepF_ans m1
    have hroom := keptF_lt (getD_mem (d := 0) hst)
    have hnext : stA (milS S p) run (i + 1) = (keptF S p).idxOf v := m4
    have hnroom : (keptF S p).getD (stA (milS S p) run (i + 1)) 0 = v := by rw [hnext]; exact idx_get m2
    refine ⟨[_, _, _, _, _, _, _, _, _, _, _], _, tg_tup (tgs_cons tg_name (tgs_cons tg_name tgs_nil)), ?_⟩
    refine st_seq (st_asg (G' := [_, _, _, _, _, _, _, _, _, _, _]) (evx_ixTn (evx_ixTn (evx_ixTn (evx_ixTn (i := 2) (evx_var (i := 3) rfl) evx_int rfl) (evx_var (i := 6) rfl) (tb_get hst)) (evx_var (i := 7) rfl) (tb_get hg)) (evx_var (i := 8) rfl) (tb_get hx)) (tg_tup (tgs_cons tg_name (tgs_cons tg_name tgs_nil))) ?_)
    refine st_seq (st_asg (evx_inL (b := (S.b ((keptF S p).getD (stA (milS S p) run i) 0) (run.getD i (0, 0)).1 (run.getD i (0, 0)).2).any (inL (keptF S p))) (evx_ixTn (evx_ixTn (evx_ixTn (evx_ixTn (i := 2) (evx_var (i := 0) rfl) evx_int rfl) (evx_var (i := 5) rfl) (tb_get hroom)) (evx_var (i := 7) rfl) (tb_get hg)) (evx_var (i := 8) rfl) (tb_get hx)) (evx_var (i := 2) rfl) (inO_eq _ _)) tg_name ?_)
    have hfine : (S.b ((keptF S p).getD (stA (milS S p) run i) 0) (run.getD i (0, 0)).1 (run.getD i (0, 0)).2).any (inL (keptF S p)) = decide ((milS S p).g (stA (milS S p) run i) (run.getD i (0, 0)).1 (run.getD i (0, 0)).2 = (run.getD i (0, 0)).2) := by
      cases hc : (S.b ((keptF S p).getD (stA (milS S p) run i) 0) (run.getD i (0, 0)).1 (run.getD i (0, 0)).2).any (inL (keptF S p)) with
      | true => exact (decide_eq_true (least_own hp (keepF_own hp hx hc))).symm
      | false =>
        refine (decide_eq_false fun z => ?_).symm
        have h := (keepF_ans m1).2.2
        rw [z, hc] at h
        cases h
    refine st_seq (st_if (b := false) (evb_or (x := false) (y := false) (evb_T (evx_neB (evx_var (i := 10) rfl) (evx_eqI (b := decide ((milS S p).g (stA (milS S p) run i) (run.getD i (0, 0)).1 (run.getD i (0, 0)).2 = (run.getD i (0, 0)).2)) (evx_var (i := 9) rfl) (evx_var (i := 8) rfl) (by rw [decide_eq_decide]; omega)) (by rw [hfine]; simp))) fun _ => evb_T (evx_isN (evx_call (eva_cons (evx_var (i := 1) rfl) (eva_cons (evx_var (i := 8) rfl) (eva_cons (evx_var (i := 9) rfl) eva_nil))) ⟨S.d, p, _, _, hp, hx, n1, rfl, rfl⟩) evx_non (by rw [encO_isNon, n2]; rfl))) (fun h => nomatch h) fun _ => st_next ?_)
    refine st_seq (st_asg (t := .d (.int (v : Int))) (evx_eq (evx_ixTn (evx_ixTn (evx_ixTn (evx_ixTn (i := 2) (evx_var (i := 0) rfl) evx_int rfl) (evx_var (i := 5) rfl) (tb_get hroom)) (evx_var (i := 7) rfl) (tb_get hg)) (evx_var (i := 9) rfl) (tb_get n1)) (by rw [m3])) tg_name ?_)
    refine st_if (b := false) (evb_T (evx_ninL (o := some v) (evx_var (i := 5) rfl) (evx_var (i := 2) rfl) (by simp [inO, m2]))) (fun h => nomatch h) fun _ => st_next (nx_turn ?_ trivial)
    show LeG [_, _, _, _, _, T.d (.int (((keptF S p).getD (stA (milS S p) run (i + 1)) 0 : Nat) : Int)), T.d (.int (stA (milS S p) run (i + 1) : Int)), _, _, _, _] _
    rw [hnroom]
    repeat (first | exact .nil | refine .cons (.inr rfl) ?_ | refine .cons (.inl rfl) ?_)
end
end Mw

namespace Mw
open PySem PySem.Spec PyProof.Rows L2
/-- a sound watcher on the kept rooms, in ph phases -/
structure Ph (S : Sy) (p : Pr) (V : Wa) (ph : Nat) : Prop where
  v : V.Valid
  s : V.s = S.s
  d : V.d = S.d
  n : V.n = (keptF S p).length * ph
  pos : 1 ≤ ph
  step : ∀ f g x, f < V.n → g < S.s → x < S.d → V.g f g x ∈ keepF S p (inL (keptF S p)) ((keptF S p).getD (f / ph) 0) g x ∧
    ∃ v, v ∈ keptF S p ∧ S.b ((keptF S p).getD (f / ph) 0) g (V.g f g x) = some v ∧ V.t f g x / ph = (keptF S p).idxOf v
/-- while both let by, the mildest is where the other is -/
theorem ph_both {S : Sy} {p : Pr} {V : Wa} {ph : Nat} (hp : PrOk S.d p) (h : Ph S p V ph) {f g x : Nat} (hf : f < V.n) (hg : g < S.s) (hx : x < S.d) (hl : V.g f g x = x) :
    (milS S p).g (f / ph) g x = x ∧ (milS S p).t (f / ph) g x = V.t f g x / ph := by
  have hq : f / ph < (keptF S p).length := by
    rw [h.n] at hf
    exact Nat.div_lt_of_lt_mul (by rw [Nat.mul_comm]; exact hf)
  obtain ⟨h1, v, h2, h3, h4⟩ := h.step f g x hf hg hx
  rw [hl] at h1 h3
  obtain ⟨m1, u, m2, m3, m4⟩ := mil_step (p := p) hq hg hx
  have e : (milS S p).g (f / ph) g x = x := least_own hp h1
  rw [e, h3] at m3
  cases m3
  exact ⟨e, by rw [m4, h4]⟩
section
variable {P : Program} {w : World} {K : PySem.W.Frag} {mg : Str → Option Value} {base : Heap} {G : List T} {ta tb' te : TE} {a ta' : TA}
theorem st_forGP {H0 : Hp} {D : Ends} {wi : TI} {n : Nat} {F : Nat → T → Prop} {g : TG} {t1 : TS} (Gf : Nat → List T) (Pv : Nat → Prop) (hi : ItX (Gf 0) wi n F) (h0 : Pv 0)
    (hs : ∀ Hb, Same H0 Hb → ∀ i t, i < n → F i t → Pv i → ∃ G' js, TgX (Gf i) g t G' js ∧ StX Hb G' t1 { nx := TurnTo Hb (Gf (i + 1)) (Pv (i + 1)), rt := D.rt, bk := D.nx, ct := TurnTo Hb (Gf (i + 1)) (Pv (i + 1)) }) (hd : Pv n → NxX H0 (Gf n) D.nx) : StX H0 (Gf 0) (tFor wi g t1) D := fun σ H s I =>
  hi σ H I _ fun J H1 s1 w => by
    refine ⟨fun i m σ' H' => m = n - i ∧ i ≤ n ∧ Same H1 H' ∧ EnvOk H' (Gf i) σ' ∧ Pv i, ⟨n, by simp, Nat.zero_le _, Same.refl _, I.mono s1, h0⟩, ?_⟩
    rintro i m σ' H' ⟨rfl, hi, s', I', p⟩
    by_cases hlt : i < n
    · refine .inr ⟨w.1 i H' hlt s', fun σ2 H2 => Same H1 H2 ∧ EnvOk H2 (Gf (i + 1)) σ2 ∧ Pv (i + 1), fun σ2 H2 z => ⟨n - (i + 1), by omega, rfl, hlt, z⟩, fun x H2 y => ?_⟩
      obtain ⟨s2, t, ft, hv⟩ := w.2.2 i H' x H2 hlt s' y
      obtain ⟨G', js, hg, hb⟩ := hs H1 (s.trans s1) i t hlt ft p
      exact hg σ' H2 (I'.mono s2) x hv _ fun σ2 I2 _ => hb σ2 H2 (s'.trans s2) I2
    · have e : i = n := by omega
      subst e
      exact .inl ⟨w.2.1 H' s', hd p σ' H' ((s.trans s1).trans s') I'⟩
abbrev N__law_never_later : List Str := ["saying", "fees", "least", "other", "run", "state", "far", "sign", "wanted", "given", "let"]
theorem sc__law_never_later : FnScope N__law_never_later ["saying", "fees", "least", "other", "run"] (defScope s__law_never_later) := C8.fnScope_by (by decide +kernel)

def R__law_never_later (ts : List T) (t : T) : Prop := ∃ (S : Sy) (p : Pr) (V : Wa) (ph : Nat) (run : List (Nat × Nat)), S.Valid ∧ PrOk S.d p ∧ 0 ∈ keptF S p ∧ Ph S p V ph ∧ RunOk S.s S.d run ∧ run.length ≤ 1000 ∧ ts = [.d S.D, .d (encP S.d p), .d (milS S p).D, .d V.D, .d (.tup (run.map pairD))] ∧ t = .d (.bl true)
def NL (S : Sy) (p : Pr) (V : Wa) (run : List (Nat × Nat)) (i : Nat) : List T := [.d S.D, .d (encP S.d p), .d (milS S p).D, .d V.D, .d (.tup (run.map pairD)), .d (.int (stA (milS S p) run i : Int)), .d (.int (stA V run i : Int)), .u, .u, .u, .u]
theorem cal__law_never_later (F : MDef K mg "_law_never_later" s__law_never_later) (g : Glo mg) (c__law_cost : C8.Cal P w K mg base 1 "_law_cost" (spX R__law_cost) []) : C8.Cal P w K mg base 2 "_law_never_later" (spX R__law_never_later) [] :=
  cal_pure F sc__law_never_later (fun _ _ _ _ _ _ us hl => match us, hl with | [_, _, _, _, _], _ => rfl) (fun ts t ⟨_, _, _, _, _, _, _, _, _, _, _, e, _⟩ => by rw [e]; rfl) fun f cdv A outer s H E hr ts t ⟨S, p, V, ph, run, hS, hp, h0, hV, hrun, hlen, e1, e2⟩ => by
    subst e1 e2
    have nd := sc__law_never_later.nd
    have hu := hu_of hr
    refine ⟨_, (pss_cons (ps_set (i := 5) nd rfl (Or.inl rfl) pe_int)
      (pss_cons (ps_set (i := 6) nd rfl (Or.inl rfl) pe_int)
      (pss_cons (ps_for PassesOwn.never rfl (pi_tupK (K := K) rfl (pv 4)) (pg_tup rfl (pgs_cons (pg_name (i := 7) nd rfl (Or.inl rfl)) (pgs_cons (pg_name (i := 8) nd rfl (Or.inl rfl)) pgs_nil))) (pss_cons (ps_asg (pe_ix (r := rIxT K) ix_tup (pe_ix (r := rIxT K) ix_tup (pe_ix (r := rIxT K) ix_tup (pe_ix (r := rIxT K) ix_tup (pv 2) pe_int (fun _ _ => rfl)) (pv 5) (fun _ _ => rfl)) (pv 7) (fun _ _ => rfl)) (pv 8) (fun _ _ => rfl)) (pg_tup rfl (pgs_cons (pg_name (i := 9) nd rfl (Or.inl rfl)) (pgs_cons (pg_name (i := 5) nd rfl (Or.inl rfl)) pgs_nil))))
      (pss_cons (ps_asg (pe_ix (r := rIxT K) ix_tup (pe_ix (r := rIxT K) ix_tup (pe_ix (r := rIxT K) ix_tup (pe_ix (r := rIxT K) ix_tup (pv 3) pe_int (fun _ _ => rfl)) (pv 6) (fun _ _ => rfl)) (pv 7) (fun _ _ => rfl)) (pv 8) (fun _ _ => rfl)) (pg_tup rfl (pgs_cons (pg_name (i := 10) nd rfl (Or.inl rfl)) (pgs_cons (pg_name (i := 6) nd rfl (Or.inl rfl)) pgs_nil))))
      (pss_cons (ps_if (pt_cmpR op_ne (pv 10) (pv 8) (nomark _)) (pss_one (ps_ret (pe_or (pe_cmpR op_eq (pv 9) (pv 8) (nomark _)) (pe_one (pe_cmpR op_le (C8.pe_c c__law_cost hr (by decide) rfl (pa_cons (pv 1) (pa_cons (pv 8) (pa_cons (pv 9) pa_nil)))) (C8.pe_c c__law_cost hr (by decide) rfl (pa_cons (pv 1) (pa_cons (pv 8) (pa_cons (pv 10) pa_nil)))) (nomark _)))))) pss_nil)
      (pss_one (ps_if (pt_cmpR op_ne (pv 9) (pv 8) (nomark _)) (pss_one (ps_ret pe_bl)) pss_nil))))))
      (pss_one (ps_ret pe_bl))))), ?_⟩
    intro En hD hN σ0 H0 s0 I0
    have hW := mil_valid hS h0
    have hrunV : RunOk V.s V.d run := by rw [hV.s, hV.d]; exact hrun
    refine rss_ev I0 evx_int fun v1 H1 s1 _ I1 => ?_
    refine rss_ev I1 evx_int fun v2 H2 s2 _ I2 => ?_
    have I3 : EnvOk H2 (NL S p V run 0) ((σ0.set 5 (some v1)).set 6 (some v2)) := I2
    refine rs_st (G := NL S p V run 0) (H0 := H) (st_seq (st_forGP (NL S p V run) (fun i => stA (milS S p) run i = stA V run i / ph) (it_tup (ds := run.map pairD) (evx_var (i := 4) rfl)) (Nat.zero_div ph).symm (fun Hb hs i t hi hq hst0 => ?_) (fun _ => by
      rw [List.length_map]
      exact st_ret evx_bl hD))) (s0.trans (s1.trans s2)) I3
    obtain ⟨d, hd', ht⟩ := hq
    subst ht
    obtain ⟨i1, rfl⟩ := map_at (d := (0, 0)) hd'
    have hq := getD_mem (d := (0, 0)) i1
    obtain ⟨hg, hx⟩ := hrun _ hq
    have hst : stA (milS S p) run i < (keptF S p).length := stA_lt hW hrun (Nat.le_of_lt i1)
    have hfar : stA V run i < V.n := stA_lt hV.v hrunV (Nat.le_of_lt i1)
    obtain ⟨m1, v, m2, m3, m4⟩ := mil_step (p := p) hst hg hx
    obtain ⟨n1, n2, _⟩ := keepF_ans m1
    obtain ⟨u1, u, u2, u3, u4⟩ := hV.step _ _ _ hfar hg hx
    obtain ⟨w1, w2, _⟩ := keepF_ans u1
    refine ⟨[_, _, _, _, _, _, _, _, _, _, _], _, tg_tup (tgs_cons tg_name (tgs_cons tg_name tgs_nil)), ?_⟩
    refine st_seq (st_asg (G' := [_, _, _, _, _, _, _, _, _, _, _]) (evx_ixTn (evx_ixTn (evx_ixTn (evx_ixTn (i := 2) (evx_var (i := 2) rfl) evx_int rfl) (evx_var (i := 5) rfl) (tb_get hst)) (evx_var (i := 7) rfl) (tb_get hg)) (evx_var (i := 8) rfl) (tb_get hx)) (tg_tup (tgs_cons tg_name (tgs_cons tg_name tgs_nil))) ?_)
    refine st_seq (st_asg (G' := [_, _, _, _, _, _, _, _, _, _, _]) (evx_ixTn (evx_ixTn (evx_ixTn (evx_ixTn (i := 2) (evx_var (i := 3) rfl) evx_int rfl) (evx_var (i := 6) rfl) (tb_get hfar)) (evx_var (i := 7) rfl) (tb_get (by rw [hV.s]; exact hg))) (evx_var (i := 8) rfl) (tb_get (by rw [hV.d]; exact hx))) (tg_tup (tgs_cons tg_name (tgs_cons tg_name tgs_nil))) ?_)
    refine st_seq (st_if (b := !decide (V.g (stA V run i) (run.getD i (0, 0)).1 (run.getD i (0, 0)).2 = (run.getD i (0, 0)).2)) (evb_T (evx_neI (evx_var (i := 10) rfl) (evx_var (i := 8) rfl) (by congr 1; rw [decide_eq_decide]; omega))) (fun hne => ?_) fun heq => st_next ?_)
    · -- the other changes first, or both
      rw [← hst0] at u1
      have hle := leastF_le (p := p) (x := (run.getD i (0, 0)).2) u1
      obtain ⟨c1, hc1⟩ := Option.isSome_iff_exists.mp n2
      obtain ⟨c2, hc2⟩ := Option.isSome_iff_exists.mp w2
      have hc1' : costF p (run.getD i (0, 0)).2 (leastF p (run.getD i (0, 0)).2 (keepF S p (inL (keptF S p)) ((keptF S p).getD (stA (milS S p) run i) 0) (run.getD i (0, 0)).1 (run.getD i (0, 0)).2)) = some c1 := hc1
      rw [hc1', hc2] at hle
      have hle : c1 ≤ c2 := hle
      refine st_ret (evx_eq (evx_orV (x := decide ((milS S p).g (stA (milS S p) run i) (run.getD i (0, 0)).1 (run.getD i (0, 0)).2 = (run.getD i (0, 0)).2)) (y := true) (evx_eqI (evx_var (i := 9) rfl) (evx_var (i := 8) rfl) (by rw [decide_eq_decide]; omega)) fun _ => evx_I0b (i := (c1 : Int)) (j := (c2 : Int)) (evx_eq (evx_call (eva_cons (evx_var (i := 1) rfl) (eva_cons (evx_var (i := 8) rfl) (eva_cons (evx_var (i := 9) rfl) eva_nil))) ⟨S.d, p, _, _, hp, hx, n1, rfl, rfl⟩) (by rw [hc1])) (evx_eq (evx_call (eva_cons (evx_var (i := 1) rfl) (eva_cons (evx_var (i := 8) rfl) (eva_cons (evx_var (i := 10) rfl) eva_nil))) ⟨S.d, p, _, _, hp, hx, w1, rfl, rfl⟩) (by rw [hc2])) (decide_eq_true (by omega))) (by rw [Bool.or_true])) fun v H' s' hv => hD v H' (hs.trans s') hv
    · have hl : V.g (stA V run i) (run.getD i (0, 0)).1 (run.getD i (0, 0)).2 = (run.getD i (0, 0)).2 := by
        cases hc : decide (V.g (stA V run i) (run.getD i (0, 0)).1 (run.getD i (0, 0)).2 = (run.getD i (0, 0)).2) with
        | true => exact of_decide_eq_true hc
        | false => rw [hc] at heq; cases heq
      obtain ⟨z1, z2⟩ := ph_both hp hV hfar hg hx hl
      rw [← hst0] at z1 z2
      refine st_if (b := false) (evb_T (evx_neI (evx_var (i := 9) rfl) (evx_var (i := 8) rfl) (by rw [z1]; simp))) (fun h => nomatch h) fun _ => st_next (nx_turn ?_ z2)
      show LeG [_, _, _, _, _, T.d (.int (stA (milS S p) run (i + 1) : Int)), T.d (.int (stA V run (i + 1) : Int)), _, _, _, _] _
      repeat (first | exact .nil | refine .cons (.inr rfl) ?_ | refine .cons (.inl rfl) ?_)
end
end Mw

namespace Mw
open PySem PySem.Spec PyProof.Rows L2
/-! ### the pot -/
def XB : Int := 10 ^ 600
def BB : Nat := 1000000000
def PotOk (pa : Addr) (b : Nat) (H : Hp) : Prop := ∃ x y z : Int, H pa = some (.lst [.int x, .int y, .int z]) ∧ 0 ≤ x ∧ x < XB ∧ 0 ≤ y ∧ y < 2305843009213693952 ∧ 0 ≤ z ∧ z ≤ (b : Int)
theorem PotOk.le {pa : Addr} {b c : Nat} {H : Hp} (h : PotOk pa b H) (l : b ≤ c) : PotOk pa c H := by
  obtain ⟨x, y, z, h1, h2, h3, h4, h5, h6, h7⟩ := h
  exact ⟨x, y, z, h1, h2, h3, h4, h5, h6, by omega⟩
theorem PotOk.same {pa : Addr} {b : Nat} {H H' : Hp} (h : PotOk pa b H) (s : Same H H') : PotOk pa b H' := by
  obtain ⟨x, y, z, h1, r⟩ := h
  exact ⟨x, y, z, s _ _ h1, r⟩
theorem PotOk.sm {pa : Addr} {A : List Addr} {b : Nat} {H H' : Hp} (h : PotOk pa b H) (s : Sm A H H') (n : pa ∉ A) : PotOk pa b H' := by
  obtain ⟨x, y, z, h1, r⟩ := h
  exact ⟨x, y, z, s _ _ n h1, r⟩
theorem PotOk.mut {pa : Addr} {b : Nat} {H : Hp} (h : PotOk pa b H) : MutL [pa] H := fun a ha => by
  obtain rfl : a = pa := by simpa using ha
  obtain ⟨x, y, z, h1, _⟩ := h
  exact ⟨_, h1⟩
/-- an expression that may take from the pot, c times -/
def EvP (pa : Addr) (c : Nat) (G : List T) (te : TE) (At : T → Prop) : Prop := ∀ σ H b, EnvOk H G σ → PotOk pa b H → b + c ≤ BB → ∀ Q : VK,
  (∀ t v H', At t → OkB [pa] t → Sm [pa] H H' → PotOk pa (b + c) H' → Is H' t v → Q v H') → te σ H Q
def EvPA (pa : Addr) (c : Nat) (G : List T) (ta : TA) (At : List T → Prop) : Prop := ∀ σ H b, EnvOk H G σ → PotOk pa b H → b + c ≤ BB → ∀ Q : List V → Hp → Prop,
  (∀ ts vs H', At ts → AllB [pa] ts → Sm [pa] H H' → PotOk pa (b + c) H' → IsL H' ts vs → Q vs H') → ta σ H Q
/-- the promise of a def that takes c times from its first argument -/
def spPot (c : Nat) (R : List T → (T → Prop) → Prop) : Sp := fun vs H Q _ => ∃ pa b ts At ws, R ts At ∧ b + c ≤ BB ∧ PotOk pa b H ∧ AllB [pa] ts ∧ vs = .ref pa :: ws ∧ IsL H ts ws ∧
  ∀ t v H', At t → OkB [pa] t → Sm [pa] H H' → PotOk pa (b + c) H' → Is H' t v → Q v H'
section
variable {G G' G1 : List T} {ta tb' te tl tk tv td ty : TE} {tt : TT} {a : TA} {K : PySem.W.Frag} {pa : Addr} {c c1 c2 : Nat} {At Bt Ct : T → Prop}
theorem EvP.imp (h : EvP pa c1 G te At) (hc : c1 ≤ c) (k : ∀ t, At t → Bt t) : EvP pa c G te Bt := fun σ H b I p l Q q => h σ H b I p (by omega) Q fun t v H' ht ok s p' hv => q t v H' (k t ht) ok s (p'.le (by omega)) hv
theorem evp_x {t : T} (h : EvX G te t) (ok : OkB [pa] t) : EvP pa c G te (fun s => s = t) := fun σ H b I p l Q q => h σ H I Q fun v H' s hv => q t v H' rfl ok (Sm.of s) ((p.same s).le (by omega)) hv
theorem evpa_nil : EvPA pa 0 G tNil (fun ts => ts = []) := fun σ H b I p l Q q => q [] [] H rfl trivial (Sm.refl _ _) p .nil
theorem evpa_cons {As : List T → Prop} (hG : AllB [pa] G) (h : EvP pa c1 G te At) (r : EvPA pa c2 G a As) : EvPA pa (c1 + c2) G (tCons te a) (fun ts => ∃ t rs, ts = t :: rs ∧ At t ∧ As rs) := fun σ H b I p l Q q =>
  h σ H b I p (by omega) _ fun t v H1 ht ok s p1 hv => r σ H1 (b + c1) (I.monoB s p.mut hG) p1 (by omega) _ fun rs vs H2 hrs okr s2 p2 hvs => q (t :: rs) (v :: vs) H2 ⟨t, rs, rfl, ht, hrs⟩ ⟨ok, okr⟩ (s.trans s2) (by rw [← Nat.add_assoc]; exact p2) (.cons (Is.monoB s2 p1.mut ok hv) hvs)
/-- a call of a def that takes -/
theorem evp_call {R : List T → (T → Prop) → Prop} {E : XK} {As : List T → Prop} {i : Nat} (hp : G[i]? = some (.v (.ref pa))) (h : EvPA pa c1 G a As) (k : ∀ ts, As ts → R ts At) : EvP pa (c1 + c) G (tCall (spPot c R) [] E (tCons (tVar i) a)) At := fun σ H b I p l Q q => by
  obtain ⟨v, e1, z⟩ := I.getv hp
  obtain rfl : v = .ref pa := z
  refine ⟨_, e1, h σ H b I p (by omega) _ fun ts vs H1 hts ok s p1 hvs => ?_⟩
  show spPot c R ((V.ref pa :: vs) ++ []) H1 Q E
  rw [List.append_nil]
  exact ⟨pa, b + c1, ts, At, vs, k ts hts, by omega, p1, ok, rfl, hvs, fun t v H2 ht okt s2 p2 hv => q t v H2 ht okt (s.trans s2) (by rw [← Nat.add_assoc]; exact p2) hv⟩
theorem evp_op {r : R2} (hG : AllB [pa] G) (ha : EvP pa c1 G ta At) (hb : EvP pa c2 G tb' Bt) (hr : ∀ s t, At s → Bt t → ∃ z, Ct z ∧ OkB [pa] z ∧ ∀ v w H, Is H s v → Is H t w → ∀ Q : VK, (∀ u H', Same H H' → Is H' z u → Q u H') → r v w H Q) : EvP pa (c1 + c2) G (tOp r ta tb') Ct := fun σ H b I p l Q q =>
  ha σ H b I p (by omega) _ fun s v H1 hs ok1 s1 p1 hv => hb σ H1 (b + c1) (I.monoB s1 p.mut hG) p1 (by omega) _ fun t w H2 ht ok2 s2 p2 hw => by
    obtain ⟨z, hz, okz, hzr⟩ := hr s t hs ht
    exact hzr v w H2 (Is.monoB s2 p1.mut ok1 hv) hw Q fun u H3 s3 hu => q z u H3 hz okz ((s1.trans s2).trans (Sm.of s3)) (by rw [← Nat.add_assoc]; exact p2.same s3) hu
theorem isL_d' {H : Hp} {ds : List D} {vs : List V} (h : IsL H (ds.map T.d) vs) : DvL H ds vs := isL_d h
theorem evp_tup {As : List D → Prop} (h : EvPA pa c G a (fun ts => ∃ ds, ts = ds.map T.d ∧ As ds)) (hl : ∀ ds, As ds → ds.length ≤ 100000) : EvP pa c G (tTup a) (fun t => ∃ ds, t = .d (.tup ds) ∧ As ds) := fun σ H b I p l Q q =>
  h σ H b I p l _ fun ts vs H1 ⟨ds, e, hd⟩ ok s p1 hvs => by
    subst e
    have hv := isL_d hvs
    refine ⟨by rw [hv.len]; exact len_ok (hl ds hd), fun l' hl' => q (.d (.tup ds)) _ _ ⟨ds, rfl, hd⟩ trivial (s.trans (Sm.of (same_new hl'))) (p1.same (same_new hl')) ?_⟩
    exact ⟨l', vs, rfl, upd_same, hv.mono (same_new hl')⟩
theorem evp_lst {As : List D → Prop} (h : EvPA pa c G a (fun ts => ∃ ds, ts = ds.map T.d ∧ As ds)) (hl : ∀ ds, As ds → ds.length ≤ 100000) : EvP pa c G (tLst a) (fun t => ∃ la ds, t = .la la ds ∧ As ds) := fun σ H b I p l Q q =>
  h σ H b I p l _ fun ts vs H1 ⟨ds, e, hd⟩ ok s p1 hvs => by
    subst e
    have hv := isL_d hvs
    refine ⟨by rw [hv.len]; exact len_ok (hl ds hd), fun l' hl' => q (.la l' ds) _ _ ⟨l', ds, rfl, hd⟩ ?_ (s.trans (Sm.of (same_new hl'))) (p1.same (same_new hl')) ?_⟩
    · intro z
      obtain rfl : l' = pa := by simpa using z
      obtain ⟨x, y, z', h1, _⟩ := p1
      rw [h1] at hl'
      cases hl'
    · exact ⟨rfl, vs, upd_same, hv.mono (same_new hl')⟩
/-- an expression that gives a new list, and takes nothing -/
theorem evp_n {ds : List D} (h : EvN G te ds) : EvP pa c G te (fun t => ∃ la, t = .la la ds) := fun σ H b I p l Q q => h σ H I Q fun la H' n s hv => q (.la la ds) _ H' ⟨la, rfl⟩ (by
  intro z
  obtain rfl : la = pa := by simpa using z
  obtain ⟨x, y, z', h1, _⟩ := p
  rw [h1] at n
  cases n) (Sm.of s) ((p.same s).le (by omega)) hv
/-- tuple(..) of a new list -/
theorem evp_tupleL {As : List D → Prop} (h : EvP pa c G te (fun t => ∃ la ds, t = .la la ds ∧ As ds)) : EvP pa c G (tCB (rTupK K) (tCons te tNil)) (fun t => ∃ ds, t = .d (.tup ds) ∧ As ds) := fun σ H b I p l Q q =>
  h σ H b I p l _ fun t v H1 ⟨la, ds, e, hd⟩ ok s p1 hv => by
    subst e
    obtain ⟨rfl, xs, h1, h2⟩ := hv
    refine ⟨la, xs, rfl, .inl ⟨SqL.of h1, fun l' hl' => q (.d (.tup ds)) _ _ ⟨ds, rfl, hd⟩ trivial (s.trans (Sm.of (same_new hl'))) (p1.same (same_new hl')) ⟨l', xs, rfl, upd_same, h2.mono (same_new hl')⟩⟩⟩
/-- a comprehension whose element takes c times -/
theorem evp_lc {wi : TI} {n : Nat} {F : Nat → T → Prop} {g : TG} {vs : List Nat} {Ad : Nat → D → Prop} (hG : AllB [pa] G) (hi : ItT G wi n F)
    (ht : ∀ i t, i < n → F i t → ∃ G' js, TgX (wipeG G vs) g t G' js ∧ (∀ j ∈ js, j ∈ vs) ∧ EvP pa c G' te (fun t => ∃ d, t = .d d ∧ Ad i d)) (hz : n < 100000) :
    EvP pa (n * c) G (tLc wi g tYes te vs) (fun t => ∃ la ds, t = .la la ds ∧ ds.length = n ∧ ∀ i d, ds[i]? = some d → Ad i d) := fun σ H b I p l Q q => hi σ H I _ fun J H1 s1 w Dl hD => by
  have hpD : pa ≠ Dl := fun z => by
    obtain ⟨x, y, z', h1, _⟩ := p.same s1
    rw [z, hD] at h1
    cases h1
  have m1 : MutL [pa, Dl] (upd H1 Dl (.lst [])) := fun a ha => by
    rcases List.mem_cons.mp ha with rfl | ha
    · obtain ⟨x, y, z', h1, _⟩ := p.same s1
      exact ⟨_, by rw [upd_ne hpD]; exact h1⟩
    · obtain rfl : a = Dl := by simpa using ha
      exact ⟨[], upd_same⟩
  have z : tRun J g tYes vs (rApp Dl te) σ (upd H1 Dl (.lst [])) fun H' => Q (.ref Dl) H' := by
    refine ⟨fun i m H' => m = n - i ∧ i ≤ n ∧ Sm [pa, Dl] (upd H1 Dl (.lst [])) H' ∧ PotOk pa (b + i * c) H' ∧ ∃ xs ds, H' Dl = some (.lst xs) ∧ DvL H' ds xs ∧ ds.length = i ∧ ∀ j d, ds[j]? = some d → Ad j d, ⟨n, by simp, Nat.zero_le _, Sm.refl _ _, by simpa using ((p.same s1).same (same_new hD)), [], [], upd_same, DvL.nil, rfl, fun j d h => by simp at h⟩, ?_⟩
    rintro i m H' ⟨rfl, hi, s', p', xs, ds, hx, hd, hdl, had⟩
    have tx : TupX (upd H1 Dl (.lst [])) H' := s'.tup m1
    have tx1 : TupX H1 H' := (TupX.of (same_new hD)).trans tx
    by_cases hlt : i < n
    · refine .inr ⟨w.1 i H' hlt tx1, fun H'' => Sm [pa, Dl] (upd H1 Dl (.lst [])) H'' ∧ PotOk pa (b + (i + 1) * c) H'' ∧ ∃ xs ds, H'' Dl = some (.lst xs) ∧ DvL H'' ds xs ∧ ds.length = i + 1 ∧ ∀ j d, ds[j]? = some d → Ad j d, fun H'' z => ⟨n - (i + 1), by omega, rfl, hlt, z⟩, fun x H2 y => ?_⟩
      obtain ⟨s2, t, ft, hv⟩ := w.2.2 i H' x H2 hlt tx1 y
      obtain ⟨G', js, hg, hj, he⟩ := ht i t hlt ft
      have IB : EnvOk H' G σ := by
        have e1 : Sm [pa] H1 H' := Sm.drop hD (Sm.trans (Sm.of (same_new hD)) (Sm.sub (by simp) s'))
        exact (I.mono s1).monoB e1 (p.mut.same s1) hG
      have I2 : EnvOk H2 (wipeG G vs) (wipe σ vs) := (IB.mono s2).wipe vs
      refine hg _ H2 I2 x hv _ fun σ2 J2 hw => ⟨by rw [hw vs hj, wipe_wipe], ?_⟩
      have hle : (i + 1) * c ≤ n * c := Nat.mul_le_mul_right c hlt
      have hsu : (i + 1) * c = i * c + c := Nat.succ_mul i c
      refine (evb_yes (G := G')) σ2 H2 J2 _ fun H3 s3 => iteT (he σ2 H3 (b + i * c) (J2.mono s3) (p'.same (s2.trans s3)) (by omega) _ fun t v H4 ⟨d, e, hd'⟩ _ s4 p4 hv4 => ?_)
      have s2 := s2.trans s3
      subst e
      have hx4 : H4 Dl = some (.lst xs) := s4 _ _ (by simpa using Ne.symm hpD) (s2 _ _ hx)
      have mp : MutL [pa] H3 := (p'.same s2).mut
      have l1 := hd.len
      refine ⟨xs, hx4, len_lt (by omega), (s'.trans (Sm.of s2)).trans ((Sm.sub (by simp) s4).trans (Sm.upd (by simp))), ?_, xs ++ [v], ds ++ [d], upd_same, ?_, by rw [List.length_append, hdl]; rfl, fun j d' hj' => ?_⟩
      · rw [hsu, ← Nat.add_assoc]
        exact p4.sm (Sm.upd (A := [Dl]) (by simp)) (by simpa using hpD)
      · have t5 : TupX H4 (upd H4 Dl (.lst (xs ++ [v]))) := (Sm.upd (A := [Dl]) (o := .lst (xs ++ [v])) (by simp)).tup fun a ha => by
          obtain rfl : a = Dl := by simpa using ha
          exact ⟨_, hx4⟩
        exact DvL.monoT t5 _ _ ((DvL.monoT ((TupX.of s2).trans (s4.tup mp)) _ _ hd).snoc hv4)
      · by_cases e : j < ds.length
        · rw [List.getElem?_append_left e] at hj'
          exact had j d' hj'
        · have hjl : j = ds.length := by
            have := (List.getElem?_eq_some_iff.mp hj').1
            rw [List.length_append, List.length_singleton] at this
            omega
          subst hjl
          simp at hj'
          subst hj'
          rw [hdl]
          exact hd'
    · have e : i = n := by omega
      subst e
      refine .inl ⟨w.2.1 H' tx1, q (.la Dl ds) _ H' ⟨Dl, ds, rfl, hdl, had⟩ (by simpa [OkB] using Ne.symm hpD) ?_ p' ⟨rfl, xs, hx, hd⟩⟩
      exact (Sm.of s1).trans (Sm.drop hD (Sm.trans (Sm.of (same_new hD)) (Sm.sub (by simp) s')))
  exact z
end
end Mw

namespace Mw
open PySem PySem.Spec PyProof.Rows L2
section
variable {P : Program} {w : World} {K : PySem.W.Frag} {mg : Str → Option Value} {base : Heap} {G : List T} {ta tb' te : TE} {a ta' : TA}
/-- a def that takes from its first argument -/
theorem cal_pot {x : Str} {st : Stmt} {N ps : List Str} {k c : Nat} {R : List T → (T → Prop) → Prop} (F : MDef K mg x st) (S : FnScope N ps (defScope st))
    (hb : ∀ (kV doc pm : Value) (an : Option Addr) (cdv ct : Value) (us : List Value), us.length = ps.length → bindArgs (PySem.W.fnOf x x (defArgs st) (defBody st) (defScope st) .none kV doc pm an cdv ct) ⟨us, []⟩ = pure (ps.zip us))
    (len : ∀ ts At, R ts At → ts.length + 1 = ps.length)
    (hbody : ∀ (f : Addr) (cdv : Value) (A : Around) (outer : List Env) (s : Shared) (H : Hp) (E : XK), Room k (A.deeper (envOfC x (defScope st) s.heap.objs.size f cdv)) → ∀ ts At, R ts At →
      ∃ tt, PSs (cxOf CX0 P w K mg base N x (defScope st) f cdv A outer s H E).nox (defBody st) tt ∧ ∀ (D : Ends) σ pa b, EnvOk H ((.v (.ref pa) :: ts) ++ List.replicate (N.length - (.v (.ref pa) :: ts).length) .u) σ → PotOk pa b H → b + c ≤ BB → AllB [pa] ts →
        (∀ t v H', At t → OkB [pa] t → Sm [pa] H H' → PotOk pa (b + c) H' → Is H' t v → D.rt v H') → tt D σ H) : C8.Cal P w K mg base (k + 1) x (spPot c R) [] := by
  refine cal_of F S hb (fun vs H Q E ⟨pa, b, ts, At, ws, hR, _, _, _, e, hv, _⟩ => ?_) fun f cdv A outer s H vs Q E hr ⟨pa, b, ts, At, ws, hR, hl, hp, ok, e, hv, hQ⟩ => ?_
  · rw [e, List.length_cons, ← len ts At hR, hv.length]
  · obtain ⟨tt, h1, h2⟩ := hbody f cdv A outer s H E hr ts At hR
    subst e
    exact ⟨tt, h1, h2 _ (start N (.ref pa :: ws)) pa b (EnvOk.start (ts := .v (.ref pa) :: ts) (.cons rfl hv)) hp hl ok hQ⟩
theorem pot_put {pa : Addr} {H : Hp} {x y z : V} (h : H pa = some (.lst [x, y, z])) {σ : Slots} (hG : G.all PureT = true) (I : EnvOk H G σ) (o : HO) : EnvOk (upd H pa o) G σ := EnvOk.monoT ((Sm.upd (A := [pa]) (o := o) (by simp)).tup fun a ha => by
  obtain rfl : a = pa := by simpa using ha
  exact ⟨_, h⟩) hG I
def isNat (m : Nat) (t : T) : Prop := ∃ r : Nat, r < m ∧ t = .d (.int (r : Int))
theorem powG_ok {i : Int} {j n : Nat} (h : i.natAbs < 2 ^ n) (hn : n * j ≤ 100000) : CPowG i (j : Int) := by
  refine ⟨by omega, ?_⟩
  have h1 := intBits_le_iff.mpr h
  have h2 : Builtin.Int.intBits i * j ≤ n * j := Nat.mul_le_mul_right j h1
  have h3 : ((Builtin.Int.intBits i * j : Nat) : Int) ≤ 134217728 := by omega
  rw [Int.natCast_mul] at h3
  exact h3
abbrev N__law_take : List Str := ["pot", "many", "found", "one", "other"]
theorem sc__law_take : FnScope N__law_take ["pot", "many"] (defScope s__law_take) := C8.fnScope_by (by decide +kernel)

def R__law_take (ts : List T) (At : T → Prop) : Prop := ∃ m : Nat, 1 ≤ m ∧ m ≤ 100000 ∧ ts = [.d (.int (m : Int))] ∧ At = isNat m
theorem cal__law_take (F : MDef K mg "_law_take" s__law_take) (g : Glo mg) : C8.Cal P w K mg base 1 "_law_take" (spPot 1 R__law_take) [] :=
  cal_pot F sc__law_take (fun _ _ _ _ _ _ us hl => match us, hl with | [_, _], _ => rfl) (fun ts At ⟨_, _, _, e, _⟩ => by rw [e]; rfl) fun f cdv A outer s H E hr ts At ⟨m, m1, m2, e1, e2⟩ => by
    subst e1 e2
    have nd := sc__law_take.nd
    have hu := hu_of hr
    refine ⟨_, (pss_cons (ps_if (pt_cmpR op_gt (pe_ix (r := rIxL K) ix_list (pv 0) pe_int (fun _ _ => rfl)) pe_int (nomark _)) (pss_cons (ps_set (i := 2) nd rfl (Or.inl rfl) (pe_op op_mod (pe_ix (r := rIxL K) ix_list (pv 0) pe_int (fun _ _ => rfl)) (pv 1)))
      (pss_cons (ps_asg (pe_op op_fdivW (pe_ix (r := rIxL K) ix_list (pv 0) pe_int (fun _ _ => rfl)) (pv 1)) (pg_sub (pv 0) pe_int set_list))
      (pss_one (ps_ret (pv 2))))) pss_nil)
      (pss_cons (ps_asg (pe_op op_add (pe_ix (r := rIxL K) ix_list (pv 0) pe_int (fun _ _ => rfl)) pe_int) (pg_sub (pv 0) pe_int set_list))
      (pss_cons (ps_set (i := 3) nd rfl (Or.inl rfl) (pe_op op_mod (pe_op op_powG (pe_op op_add (pe_ix (r := rIxL K) ix_list (pv 0) pe_int (fun _ _ => rfl)) (pe_op op_mulW pe_int (pe_ix (r := rIxL K) ix_list (pv 0) pe_int (fun _ _ => rfl)))) pe_int) pe_int))
      (pss_cons (ps_set (i := 4) nd rfl (Or.inl rfl) (pe_op op_mod (pe_op op_powG (pe_op op_add (pe_op op_add (pv 3) (pe_op op_mod (pe_ix (r := rIxL K) ix_list (pv 0) pe_int (fun _ _ => rfl)) pe_int)) (pe_op op_mulW pe_int (pe_ix (r := rIxL K) ix_list (pv 0) pe_int (fun _ _ => rfl)))) pe_int) pe_int))
      (pss_one (ps_ret (pe_op op_mod (pe_op op_fdivW (pv 4) pe_int) (pv 1)))))))), ?_⟩
    intro En σ pa b I p l ok hD
    have hp := p
    obtain ⟨x, y, z, hH, x0, x1, y0, y1, z0, z1⟩ := hp
    have hz : z ≤ 1000000000 := by unfold BB at l; omega
    have Ip : EnvOk H [.v (.ref pa), .d (.int (m : Int)), .u, .u, .u] σ := I
    obtain ⟨v0, e0, zz⟩ := Ip.getv (i := 0) (t := .v (.ref pa)) rfl
    obtain rfl : v0 = .ref pa := zz
    have Il : EnvOk H [.la pa [.int x, .int y, .int z], .d (.int (m : Int)), .u, .u, .u] σ := EnvOk.know (t := .la pa [.int x, .int y, .int z]) ⟨rfl, _, hH, DvL.cons rfl (DvL.cons rfl (DvL.cons rfl DvL.nil))⟩ Ip e0
    have hm : (0 : Int) < (m : Int) := by omega
    refine rss_if0 Il (b := decide (0 < x)) (evb_T (evx_I0b (evx_ixLn (i := 0) (evx_liA (evx_var (i := 0) rfl)) evx_int rfl) evx_int rfl)) (fun hb H1 s1 I1 => ?_) fun hb H1 s1 I1 => ?_
    · refine rss_ev I1 (evx_I (i := x) (j := (m : Int)) (evx_ixLn (i := 0) (evx_liA (evx_var (i := 0) rfl)) evx_int rfl) (evx_var (i := 1) rfl) hm) fun v2 H2 s2 hv2 I2 => ?_
      refine rss_asg ((evx_I (i := x) (j := (m : Int)) (evx_ixLn (i := 0) (evx_liA (evx_var (i := 0) rfl)) evx_int rfl) (evx_var (i := 1) rfl) (wide_div (b := 100) hm (by omega) (by decide) (by decide))) _ _ I2 _ fun v3 H3 s3 hv3 => ?_)
      obtain rfl : v3 = .int (x / (m : Int)) := hv3
      have s03 := (s1.trans s2).trans s3
      have hH3 := s03 _ _ hH
      have e0' : (σ.set 2 (some v2))[0]? = some (some (.ref pa)) := by
        obtain ⟨v0, e0, zz, _⟩ := I2.getv (i := 0) (t := .la pa [.int x, .int y, .int z]) rfl
        obtain rfl : v0 = .ref pa := zz
        exact e0
      refine ⟨_, e0', pa, _, 0, 0, rfl, rfl, hH3, rfl, ?_⟩
      obtain ⟨v4, e4, z4⟩ := I2.getv (i := 2) (t := .d (.int (x % (m : Int)))) rfl
      obtain rfl : v4 = .int (x % (m : Int)) := z4
      have hr0 := Int.emod_nonneg x (show (m : Int) ≠ 0 by omega)
      have hr1 := Int.emod_lt_of_pos x hm
      refine rs_ret ⟨_, e4, hD (.d (.int (((x % (m : Int)).toNat : Nat) : Int))) _ _ ⟨_, by omega, rfl⟩ trivial ((Sm.of s03).trans (Sm.upd (by simp))) ⟨x / (m : Int), y, z, upd_same, Int.ediv_nonneg x0 (by omega), Int.lt_of_le_of_lt (Int.ediv_le_self _ x0) x1, y0, y1, z0, by omega⟩ ?_⟩
      show V.int _ = V.int _
      rw [Int.toNat_of_nonneg hr0]
    · have hx : x = 0 := by
        have := of_decide_eq_false hb
        omega
      refine rss_asg ((evx_I0i (i := z) (j := 1) (evx_ixLn (i := 2) (evx_liA (evx_var (i := 0) rfl)) evx_int rfl) evx_int) _ _ I1 _ fun v3 H3 s3 hv3 => ?_)
      obtain rfl : v3 = .int (z + 1) := hv3
      have s03 := s1.trans s3
      have hH3 := s03 _ _ hH
      refine ⟨_, e0, pa, _, 2, 2, rfl, rfl, hH3, rfl, ?_⟩
      have I4 : EnvOk (upd H3 pa (.lst [.int x, .int y, .int (z + 1)])) [.la pa [.int x, .int y, .int (z + 1)], .d (.int (m : Int)), .u, .u, .u] σ := EnvOk.know (t := .la pa [.int x, .int y, .int (z + 1)]) ⟨rfl, _, upd_same, DvL.cons rfl (DvL.cons rfl (DvL.cons rfl DvL.nil))⟩ (pot_put hH3 rfl (Ip.mono s03) _) e0
      have s4 : Sm [pa] H (upd H3 pa (.lst [.int x, .int y, .int (z + 1)])) := (Sm.of s03).trans (Sm.upd (by simp))
      have p4 : PotOk pa (b + 1) (upd H3 pa (.lst [.int x, .int y, .int (z + 1)])) := ⟨x, y, z + 1, upd_same, x0, x1, y0, y1, by omega, by omega⟩
      show tSeq _ _ _ σ (upd H3 pa (.lst [.int x, .int y, .int (z + 1)]))
      generalize upd H3 pa (.lst [.int x, .int y, .int (z + 1)]) = H4 at I4 s4 p4
      refine rss_ev I4 (t := .d (.int ((y + 104729 * (z + 1)) ^ 3 % 2305843009213693921))) (evx_I (i := (y + 104729 * (z + 1)) ^ (3 : Int).toNat) (j := 2305843009213693921) (evx_I (g := fun i j => i ^ j.toNat) (i := y + 104729 * (z + 1)) (j := 3) (evx_I0i (i := y) (j := 104729 * (z + 1)) (evx_ixLn (i := 1) (evx_liA (evx_var (i := 0) rfl)) evx_int rfl) (evx_I (i := 104729) (j := z + 1) evx_int (evx_ixLn (i := 2) (evx_liA (evx_var (i := 0) rfl)) evx_int rfl) (wide_mul (a := 20) (b := 40) (by decide) (by omega) (by decide) (by decide) (by decide)))) evx_int (powG_ok (j := 3) (n := 64) (by omega) (by decide))) evx_int (by decide)) fun v5 H5 s5 hv5 I5 => ?_
      have o0 := Int.emod_nonneg ((y + 104729 * (z + 1)) ^ 3) (show (2305843009213693921 : Int) ≠ 0 by decide)
      have o1 := Int.emod_lt_of_pos ((y + 104729 * (z + 1)) ^ 3) (show (0 : Int) < 2305843009213693921 by decide)
      generalize (y + 104729 * (z + 1)) ^ 3 % 2305843009213693921 = one at o0 o1 I5
      have q0 := Int.emod_nonneg y (show (65537 : Int) ≠ 0 by decide)
      have q1 := Int.emod_lt_of_pos y (show (0 : Int) < 65537 by decide)
      refine rss_ev I5 (t := .d (.int ((one + y % 65537 + 31 * (z + 1)) ^ 5 % 2305843009213693907))) (evx_I (i := (one + y % 65537 + 31 * (z + 1)) ^ (5 : Int).toNat) (j := 2305843009213693907) (evx_I (g := fun i j => i ^ j.toNat) (i := one + y % 65537 + 31 * (z + 1)) (j := 5) (evx_I0i (i := one + y % 65537) (j := 31 * (z + 1)) (evx_I0i (i := one) (j := y % 65537) (evx_var (i := 3) rfl) (evx_I (i := y) (j := 65537) (evx_ixLn (i := 1) (evx_liA (evx_var (i := 0) rfl)) evx_int rfl) evx_int (by decide))) (evx_I (i := 31) (j := z + 1) evx_int (evx_ixLn (i := 2) (evx_liA (evx_var (i := 0) rfl)) evx_int rfl) (wide_mul (a := 20) (b := 40) (by decide) (by omega) (by decide) (by decide) (by decide)))) evx_int (powG_ok (j := 5) (n := 64) (by omega) (by decide))) evx_int (by decide)) fun v6 H6 s6 hv6 I6 => ?_
      have r0 := Int.emod_nonneg ((one + y % 65537 + 31 * (z + 1)) ^ 5) (show (2305843009213693907 : Int) ≠ 0 by decide)
      generalize (one + y % 65537 + 31 * (z + 1)) ^ 5 % 2305843009213693907 = other at r0 I6
      refine rs_ret ((evx_I (i := other / 1024) (j := (m : Int)) (evx_I (i := other) (j := 1024) (evx_var (i := 4) rfl) evx_int (wide_div (b := 100) (by decide) (by decide) (by decide) (by decide))) (evx_var (i := 1) rfl) hm) _ _ I6 _ fun v7 H7 s7 hv7 => ?_)
      have t0 := Int.emod_nonneg (other / 1024) (show (m : Int) ≠ 0 by omega)
      have t1 := Int.emod_lt_of_pos (other / 1024) hm
      refine hD (.d (.int (((other / 1024 % (m : Int)).toNat : Nat) : Int))) _ _ ⟨_, by omega, rfl⟩ trivial (s4.trans (Sm.of ((s5.trans s6).trans s7))) (p4.same ((s5.trans s6).trans s7)) ?_
      show Dv H7 (.int _) v7
      rw [Int.toNat_of_nonneg t0]
      exact hv7
end
end Mw

namespace Mw
open PySem PySem.Spec PyProof.Rows L2
theorem tb_choose {Y : Type} [Inhabited Y] {Fy : Y → D} {Py : Nat → Y → Prop} {ds : List D} {n : Nat} (hl : ds.length = n) (h : ∀ i d, ds[i]? = some d → ∃ y, Py i y ∧ d = Fy y) : ∃ f : Nat → Y, ds = tb n (fun i => Fy (f i)) ∧ ∀ i, i < n → Py i (f i) := by
  have key : ∀ i, ∃ y, i < n → Py i y ∧ ds[i]? = some (Fy y) := fun i => by
    by_cases hi : i < n
    · obtain ⟨y, h1, h2⟩ := h i _ (List.getElem?_eq_getElem (by omega : i < ds.length))
      exact ⟨y, fun _ => ⟨h1, by rw [List.getElem?_eq_getElem (by omega : i < ds.length), h2]⟩⟩
    · exact ⟨default, fun z => absurd z hi⟩
  refine ⟨fun i => (key i).choose, ?_, fun i hi => ((key i).choose_spec hi).1⟩
  refine List.ext_getElem? fun i => ?_
  by_cases hi : i < n
  · rw [tb_get hi, ((key i).choose_spec hi).2]
  · rw [List.getElem?_eq_none (by omega), List.getElem?_eq_none (by rw [tb_len]; omega)]
section
variable {P : Program} {w : World} {K : PySem.W.Frag} {mg : Str → Option Value} {base : Heap} {G : List T} {ta tb' te : TE} {a ta' : TA} {pa : Addr} {c : Nat} {At : T → Prop} {D : Ends} {σ : Slots} {H : Hp} {u t1 t2 : TS} {tt : TT}
theorem rss_if (h : tt σ H fun b H1 => if b = true then t1 { D with nx := u D } σ H1 else t2 { D with nx := u D } σ H1) : tSeq (tIfS tt t1 t2) u D σ H := h
/-- a test of what is taken -/
theorem evp_eq0 {b : Nat} (I : EnvOk H G σ) (p : PotOk pa b H) (l : b + c ≤ BB) (hG : AllB [pa] G) (h : EvP pa c G te At) (hA : ∀ t, At t → ∃ r : Nat, t = .d (.int (r : Int))) {Q : Bool → Hp → Prop}
    (k : ∀ (r : Nat) H1, At (.d (.int (r : Int))) → Sm [pa] H H1 → PotOk pa (b + c) H1 → EnvOk H1 G σ → Q (decide (r = 0)) H1) : tTest (tOp rEq te (tC (.int 0))) σ H Q := h σ H b I p l _ fun t v H1 ht ok s p1 hv => by
  obtain ⟨r, e⟩ := hA t ht
  subst e
  obtain rfl : v = .int (r : Int) := hv
  refine ⟨rfl, _, rfl, ?_⟩
  have e : decide (V.int (r : Int) = V.int 0) = decide (r = 0) := by
    rw [decide_eq_decide]
    constructor
    · intro z
      injection z with z
      omega
    · rintro rfl
      rfl
  rw [e]
  exact k r H1 ht s p1 (I.monoB s p.mut hG)
theorem rs_appP {j : Nat} {la : Addr} {ds : List Mw.D} {A : Mw.D → Prop} {b : Nat} (I : EnvOk H G σ) (p : PotOk pa b H) (l : b + c ≤ BB) (hG : AllB [pa] G) (hj : G[j]? = some (.la la ds)) (hb : AllB [la] (G.set j .u)) (hl : ds.length < 100000) (he : EvP pa c G te At) (hA : ∀ t, At t → ∃ d, t = .d d ∧ A d)
    (k : ∀ d H1, A d → Sm [pa, la] H H1 → PotOk pa (b + c) H1 → EnvOk H1 (G.set j (.la la (ds ++ [d]))) σ → D.nx σ H1) : tDrop (tBM K "list" rAppend (tVar j) (tCons te tNil)) D σ H := by
  obtain ⟨w, e1, rfl, xs, e2, e3⟩ := I.getv hj
  have hpl : pa ≠ la := fun z => by
    have key : ∀ {G : List T} {j : Nat}, AllB [pa] G → G[j]? = some (.la la ds) → OkB [pa] (.la la ds) := by
      intro G
      induction G with
      | nil => intro j _ h; simp at h
      | cons t ts ih =>
        intro j h hj
        cases j with
        | zero =>
          simp at hj
          rw [← hj]
          exact h.1
        | succ j => exact ih h.2 (by simpa using hj)
    have := key hG hj
    exact this (by simp [z])
  refine rs_drop (dr_app e1 ⟨xs, e2⟩ (he σ H b I p l _ fun t v H1 ht ok s1 p1 hv => ?_))
  obtain ⟨d, e, hd⟩ := hA t ht
  subst e
  obtain ⟨ys, f1, f2, f3⟩ := (I.monoB s1 p.mut hG).app hj hb hv
  exact ⟨ys, f1, len_lt (by omega), k d _ hd ((Sm.sub (by simp) s1).trans (Sm.upd (by simp))) (p1.sm (Sm.upd (A := [la]) (by simp)) (by simpa using hpl)) f3⟩
theorem evx_intB {b : Bool} (h : EvA G a [.d (.bl b)]) : EvX G (tCB (fun xs H Q => (∃ i, xs = [.int i] ∧ Q (.int i) H) ∨ ∃ k, xs = [.bl k] ∧ Q (.int (if k then 1 else 0)) H) a) (.d (.int (if b then 1 else 0))) := fun σ H I Q q => h σ H I _ fun vs H1 s1 hvs => by
  cases hvs with
  | cons r t =>
    cases t
    rename_i v
    obtain rfl : v = .bl b := r
    exact .inr ⟨b, rfl, q _ H1 s1 rfl⟩
theorem take_ev {m : Nat} (m1 : 1 ≤ m) (m2 : m ≤ 100000) {i : Nat} (hp : G[i]? = some (.v (.ref pa))) (he : EvX G te (.d (.int (m : Int)))) (hG : AllB [pa] G) : EvP pa 1 G (tCall (spPot 1 R__law_take) [] C8.E0 (tCons (tVar i) (tCons te tNil))) (isNat m) :=
  EvP.imp (evp_call hp (evpa_cons (c1 := 0) hG (evp_x he trivial) evpa_nil) fun ts ⟨t, rs, e, ht, hr⟩ => ⟨m, m1, m2, by rw [e, ht, hr], rfl⟩) (by omega) fun _ h => h
theorem isNat_nat {m : Nat} (t : T) (h : isNat m t) : ∃ r : Nat, t = .d (.int (r : Int)) := let ⟨r, _, e⟩ := h; ⟨r, e⟩
abbrev N__law_room : List Str := ["pot", "rooms", "rate"]
theorem sc__law_room : FnScope N__law_room ["pot", "rooms", "rate"] (defScope s__law_room) := C8.fnScope_by (by decide +kernel)

def R__law_room (ts : List T) (At : T → Prop) : Prop := ∃ n rate : Nat, 1 ≤ n ∧ n ≤ 1000 ∧ 1 ≤ rate ∧ rate ≤ 1000 ∧ ts = [.d (.int (n : Int)), .d (.int (rate : Int))] ∧ At = fun t => ∃ o : Option Nat, (∀ v, o = some v → v < n) ∧ t = .d (encO o)
theorem cal__law_room (F : MDef K mg "_law_room" s__law_room) (g : Glo mg) (c__law_take : C8.Cal P w K mg base 1 "_law_take" (spPot 1 R__law_take) []) : C8.Cal P w K mg base 2 "_law_room" (spPot 2 R__law_room) [] :=
  cal_pot F sc__law_room (fun _ _ _ _ _ _ us hl => match us, hl with | [_, _, _], _ => rfl) (fun ts At ⟨_, _, _, _, _, _, e, _⟩ => by rw [e]; rfl) fun f cdv A outer s H E hr ts At ⟨n, rate, n1, n2, r1, r2, e1, e2⟩ => by
    subst e1 e2
    have nd := sc__law_room.nd
    have hu := hu_of hr
    refine ⟨_, (pss_cons (ps_if (pt_cmpR op_eq (C8.pe_c c__law_take hr (by decide) rfl (pa_cons (pv 0) (pa_cons (pv 2) pa_nil))) pe_int (nomark _)) (pss_one (ps_ret pe_non)) pss_nil)
      (pss_one (ps_ret (C8.pe_c c__law_take hr (by decide) rfl (pa_cons (pv 0) (pa_cons (pv 1) pa_nil)))))), ?_⟩
    intro En σ pa b I p l ok hD
    have hG : AllB [pa] [.v (.ref pa), .d (.int (n : Int)), .d (.int (rate : Int))] := ⟨trivial, trivial, trivial, trivial⟩
    have I : EnvOk H [.v (.ref pa), .d (.int (n : Int)), .d (.int (rate : Int))] σ := I
    refine rss_if (evp_eq0 I p (by omega) hG (take_ev r1 (by omega) (i := 0) rfl (evx_var (i := 2) rfl) hG) isNat_nat fun r H1 _ s1 p1 I1 => ?_)
    by_cases h : r = 0
    · rw [decide_eq_true h]
      exact iteT (rs_ret (hD (.d (encO none)) _ H1 ⟨none, fun v z => (by cases z), rfl⟩ trivial s1 (p1.le (by omega)) rfl))
    · rw [decide_eq_false h]
      exact iteF (rs_ret ((take_ev n1 (by omega) (i := 0) rfl (evx_var (i := 1) rfl) hG) σ H1 (b + 1) I1 p1 (by omega) _ fun t v H2 ⟨x, hx, e⟩ okt s2 p2 hv => hD t v H2 ⟨some x, fun v z => (by cases z; exact hx), e⟩ okt (s1.trans s2) p2 hv))
/-- a saying of these sizes -/
def SyIs (s d n : Nat) (t : T) : Prop := ∃ S : Sy, S.s = s ∧ S.d = d ∧ S.n = n ∧ (∀ r g x v, r < n → g < s → x < d → S.b r g x = some v → v < n) ∧ t = .d S.D
def RowIs (d n : Nat) (e : Mw.D) : Prop := ∃ f : Nat → Option Nat, (∀ x, x < d → ∀ v, f x = some v → v < n) ∧ e = .tup (tb d fun x => encO (f x))
def RoomIs (s d n : Nat) (e : Mw.D) : Prop := ∃ f : Nat → Nat → Option Nat, (∀ g, g < s → ∀ x, x < d → ∀ v, f g x = some v → v < n) ∧ e = .tup (tb s fun g => .tup (tb d fun x => encO (f g x)))
theorem rowIs_of {d n : Nat} {ds : List Mw.D} (hl : ds.length = d) (h : ∀ (i : Nat) e, ds[i]? = some e → ∃ o : Option Nat, (∀ v, o = some v → v < n) ∧ e = encO o) : RowIs d n (.tup ds) := by
  obtain ⟨f, h1, h2⟩ := tb_choose (Py := fun _ o => ∀ v, o = some v → v < n) hl h
  exact ⟨f, fun x hx => h2 x hx, by rw [h1]⟩
theorem roomIs_of {s d n : Nat} {ds : List Mw.D} (hl : ds.length = s) (h : ∀ (i : Nat) e, ds[i]? = some e → RowIs d n e) : RoomIs s d n (.tup ds) := by
  obtain ⟨f, h1, h2⟩ := tb_choose (Y := Nat → Option Nat) (Fy := fun f => .tup (tb d fun x => encO (f x))) (Py := fun _ f => ∀ x, x < d → ∀ v, f x = some v → v < n) hl h
  exact ⟨f, fun g hg => h2 g hg, by rw [h1]⟩
theorem syIs_of {s d n : Nat} {ds : List Mw.D} (hl : ds.length = n) (h : ∀ (i : Nat) e, ds[i]? = some e → RoomIs s d n e) : SyIs s d n (.d (.tup [.int (s : Int), .int (d : Int), .tup ds])) := by
  obtain ⟨f, h1, h2⟩ := tb_choose (Y := Nat → Nat → Option Nat) (Fy := fun f => .tup (tb s fun g => .tup (tb d fun x => encO (f g x)))) (Py := fun _ f => ∀ g, g < s → ∀ x, x < d → ∀ v, f g x = some v → v < n) hl h
  exact ⟨⟨s, d, n, f⟩, rfl, rfl, rfl, fun r g x v hr hg hx e => h2 r hr g hg x hx v e, by rw [h1]⟩
abbrev N__law_saying : List Str := ["pot", "signs", "deeds", "rooms", "rate", "table", "room", "s", "d"]
theorem sc__law_saying : FnScope N__law_saying ["pot", "signs", "deeds", "rooms", "rate"] (defScope s__law_saying) := C8.fnScope_by (by decide +kernel)

def R__law_saying (ts : List T) (At : T → Prop) : Prop := ∃ s d n rate : Nat, (1 ≤ s ∧ s ≤ 9) ∧ (1 ≤ d ∧ d ≤ 9) ∧ (1 ≤ n ∧ n ≤ 100) ∧ 1 ≤ rate ∧ rate ≤ 1000 ∧ ts = [.d (.int (s : Int)), .d (.int (d : Int)), .d (.int (n : Int)), .d (.int (rate : Int))] ∧ At = SyIs s d n
def SG (pa ta : Addr) (s d n rate : Nat) (ds : List Mw.D) : List T := [.v (.ref pa), .d (.int (s : Int)), .d (.int (d : Int)), .d (.int (n : Int)), .d (.int (rate : Int)), .la ta ds, .u, .u, .u]
theorem cal__law_saying (F : MDef K mg "_law_saying" s__law_saying) (g : Glo mg) (c__law_room : C8.Cal P w K mg base 2 "_law_room" (spPot 2 R__law_room) []) : C8.Cal P w K mg base 3 "_law_saying" (spPot 20000 R__law_saying) [] :=
  cal_pot F sc__law_saying (fun _ _ _ _ _ _ us hl => match us, hl with | [_, _, _, _, _], _ => rfl) (fun ts At ⟨_, _, _, _, _, _, _, _, _, e, _⟩ => by rw [e]; rfl) fun f cdv A outer s H E hr ts At ⟨s, d, n, rate, ⟨s1, s2⟩, ⟨d1, d2⟩, ⟨n1, n2⟩, r1, r2, e1, e2⟩ => by
    subst e1 e2
    have nd := sc__law_saying.nd
    have hu := hu_of hr
    refine ⟨_, (pss_cons (ps_set (i := 5) nd rfl (Or.inl rfl) (pe_lst pa_nil))
      (pss_cons (ps_for PassesOwn.never rfl (pi_range1 rfl g.range (pa_cons (pv 3) pa_nil)) (pg_name (i := 6) nd rfl (Or.inl rfl)) (pss_one (ps_expr (pe_bm PySem.F.plainAttrs_list PySem.F.slot_list_append PySem.F.type_list_append mt_append (pv 5) (pa_cons (pe_callTy (r := rTupK K) call_tuple_of (by rfl) g.tuple (by decide +kernel) (pa_cons (pe_lc (own := [("s", 7)]) (g := (gName 7)) (tt := tYes) rfl nd (pi_range1 rfl g.range (pa_cons (pv 1) pa_nil)) (blkOk_by (by show blkC N__law_saying (defScope s__law_saying) _ _ = true; decide +kernel)) (fun _ _ _ _ _ => (pg_name (i := 7) nd rfl (Or.inl rfl))) (fun _ _ _ _ _ => pts_nil) (fun _ _ _ _ _ => (pe_callTy (r := rTupK K) call_tuple_of (by rfl) g.tuple (by decide +kernel) (pa_cons (pe_lc (own := [("d", 8)]) (g := (gName 8)) (tt := tYes) rfl nd (pi_range1 rfl g.range (pa_cons (pv 2) pa_nil)) (blkOk_by (by show blkC N__law_saying (relS _ (defScope s__law_saying)) _ _ = true; decide +kernel)) (fun _ _ _ _ _ => (pg_name (i := 8) nd rfl (Or.inl rfl))) (fun _ _ _ _ _ => pts_nil) (fun _ _ _ _ _ => (C8.pe_c c__law_room hr (by decide) rfl (pa_cons (pv 0) (pa_cons (pv 3) (pa_cons (pv 4) pa_nil)))))) pa_nil)))) pa_nil)) pa_nil)))))
      (pss_one (ps_ret (pe_tup (pa_cons (pv 1) (pa_cons (pv 2) (pa_cons (pe_callTy (r := rTupK K) call_tuple_of (by rfl) g.tuple (by decide +kernel) (pa_cons (pv 5) pa_nil)) pa_nil)))))))), ?_⟩
    intro En σ pa b I p l ok hD
    refine rss_nil I fun ta H1 nt sa I1 => ?_
    have I1 : EnvOk H1 (SG pa ta s d n rate []) (σ.set 5 (some (.ref ta))) := I1
    have p1 := p.same sa
    have hpt : pa ≠ ta := fun z => by
      obtain ⟨x, y, z', h1, _⟩ := p
      rw [z, nt] at h1
      cases h1
    have hM : MutL [pa, ta] H1 := fun a ha => by
      rcases List.mem_cons.mp ha with rfl | ha
      · exact p1.mut a (by simp)
      · obtain rfl : a = ta := by simpa using ha
        obtain ⟨_, _, _, xs, e, _⟩ := I1.getv (i := 5) (t := .la a []) rfl
        exact ⟨xs, e⟩
    have hcost : ∀ i, i ≤ n → i * (s * (d * 2)) ≤ 20000 := fun i hi => by
      have h1 : i * (s * (d * 2)) ≤ 100 * (9 * (9 * 2)) := Nat.mul_le_mul (by omega) (Nat.mul_le_mul s2 (by omega))
      omega
    refine rss_forB I1 hM (itT_rngN (n := n) (eva_cons (evx_var (i := 3) rfl) eva_nil) (by omega)).b fun H2 s2' => ⟨fun i σ' H' => ∃ ds, ds.length = i ∧ (∀ (j : Nat) e, ds[j]? = some e → RoomIs s d n e) ∧ EnvOk H' (SG pa ta s d n rate ds) σ' ∧ Sm [pa, ta] H2 H' ∧ PotOk pa (b + i * (s * (d * 2))) H',
      ⟨[], rfl, fun j e h => by simp at h, I1.mono s2', Sm.refl _ _, by simpa using p1.same s2'⟩, fun i σ' H' ⟨_, _, _, _, h, _⟩ => h, ?_, ?_⟩
    · rintro i t σ' H' H3 x hi rfl ⟨ds, hl, hds, I3, sm3, p3⟩ s3 hx
      refine tg_name σ' H3 (I3.mono s3) x hx _ fun σ4 I4 _ => ?_
      have hG4 : AllB [pa] ((SG pa ta s d n rate ds).set 6 (.d (.int (i : Int)))) := ⟨trivial, trivial, trivial, trivial, trivial, by simpa [OkB] using Ne.symm hpt, trivial, trivial, trivial, trivial⟩
      have hci := hcost (i + 1) hi
      have hsu : (i + 1) * (s * (d * 2)) = i * (s * (d * 2)) + s * (d * 2) := Nat.succ_mul _ _
      refine rs_appP (pa := pa) (c := s * (d * 2)) (j := 5) (la := ta) (ds := ds) (A := RoomIs s d n) I4 (p3.same s3) (by omega) hG4 rfl ⟨trivial, trivial, trivial, trivial, trivial, trivial, trivial, trivial, trivial, trivial⟩ (by omega) (evp_tupleL (As := fun es => es.length = s ∧ ∀ (j : Nat) e, es[j]? = some e → RowIs d n e) (EvP.imp (evp_lc (Ad := fun _ e => RowIs d n e) hG4 (itT_rngN (n := s) (eva_cons (evx_var (i := 1) rfl) eva_nil) (by omega)) (fun gn t hg ht => ?_) (by omega)) (Nat.le_refl _) fun t ⟨la, es, e, h1, h2⟩ => ⟨la, es, e, h1, h2⟩)) (fun t ⟨es, e, h1, h2⟩ => ⟨_, e, roomIs_of h1 h2⟩) fun e H5 he s5 p5 I5 => ?_
      · subst ht
        have hG5 : AllB [pa] (SG pa ta s d n rate ds) := ⟨trivial, trivial, trivial, trivial, trivial, by simpa [OkB] using Ne.symm hpt, trivial, trivial, trivial, trivial⟩
        refine ⟨[.v (.ref pa), .d (.int (s : Int)), .d (.int (d : Int)), .d (.int (n : Int)), .d (.int (rate : Int)), .la ta ds, _, _, _], _, tg_name, by decide, EvP.imp (evp_tupleL (As := fun es => es.length = d ∧ ∀ (j : Nat) e, es[j]? = some e → ∃ o : Option Nat, (∀ v, o = some v → v < n) ∧ e = encO o) (EvP.imp (evp_lc (c := 2) (Ad := fun _ e => ∃ o : Option Nat, (∀ v, o = some v → v < n) ∧ e = encO o) ⟨trivial, trivial, trivial, trivial, trivial, by simpa [OkB] using Ne.symm hpt, trivial, trivial, trivial, trivial⟩ (itT_rngN (n := d) (eva_cons (evx_var (i := 2) rfl) eva_nil) (by omega)) (fun x t hx ht => ?_) (by omega)) (Nat.le_refl _) fun t ⟨la, es, e, h1, h2⟩ => ⟨la, es, e, h1, h2⟩)) (Nat.le_refl _) fun t ⟨es, e, h1, h2⟩ => ⟨_, e, rowIs_of h1 h2⟩⟩
        subst ht
        have hG6 : AllB [pa] [.v (.ref pa), .d (.int (s : Int)), .d (.int (d : Int)), .d (.int (n : Int)), .d (.int (rate : Int)), .la ta ds, .d (.int (i : Int)), .d (.int (gn : Int)), .d (.int (x : Int))] := ⟨trivial, trivial, trivial, trivial, trivial, by simpa [OkB] using Ne.symm hpt, trivial, trivial, trivial, trivial⟩
        refine ⟨[.v (.ref pa), .d (.int (s : Int)), .d (.int (d : Int)), .d (.int (n : Int)), .d (.int (rate : Int)), .la ta ds, _, _, _], _, tg_name, by decide, EvP.imp (evp_call (c1 := 0) (i := 0) rfl (evpa_cons (c1 := 0) (c2 := 0) ⟨trivial, trivial, trivial, trivial, trivial, by simpa [OkB] using Ne.symm hpt, trivial, trivial, trivial, trivial⟩ (evp_x (evx_var (i := 3) rfl) trivial) (evpa_cons (c1 := 0) (c2 := 0) ⟨trivial, trivial, trivial, trivial, trivial, by simpa [OkB] using Ne.symm hpt, trivial, trivial, trivial, trivial⟩ (evp_x (evx_var (i := 4) rfl) trivial) evpa_nil)) fun ts ⟨t1, rs, e1, h1, t2, rs2, e2, h2, h3⟩ => ⟨n, rate, n1, by omega, r1, r2, by rw [e1, e2, h1, h2, h3], rfl⟩) (by omega) fun t ⟨o, h1, h2⟩ => ⟨_, h2, o, h1, rfl⟩⟩
      · refine ⟨ds ++ [e], by rw [List.length_append, hl]; rfl, fun j e' hj => ?_, ?_, sm3.trans ((Sm.of s3).trans s5), by rw [hsu, ← Nat.add_assoc]; exact p5⟩
        · by_cases hjl : j < ds.length
          · rw [List.getElem?_append_left hjl] at hj
            exact hds j e' hj
          · have : j = ds.length := by
              have := (List.getElem?_eq_some_iff.mp hj).1
              rw [List.length_append, List.length_singleton] at this
              omega
            subst this
            simp at hj
            rw [← hj]
            exact he
        · refine EnvOk.le ?_ I5
          repeat (first | exact .nil | refine .cons (.inr rfl) ?_ | refine .cons (.inl rfl) ?_)
    · rintro σ' H' ⟨ds, hl, hds, I3, sm3, p3⟩
      have hcn := hcost n (Nat.le_refl _)
      refine rs_ret ((evx_tup (ds := [_, _, _]) (eva_cons (evx_var (i := 1) rfl) (eva_cons (evx_var (i := 2) rfl) (eva_cons (evx_tuple (ds := ds) (eva_cons (evx_liA (evx_var (i := 5) rfl)) eva_nil)) eva_nil)))) σ' H' I3 _ fun v H4 s4 hv => ?_)
      refine hD _ v H4 (syIs_of hl hds) trivial ?_ ((p3.same s4).le (by omega)) hv
      refine Sm.drop nt (Sm.trans (Sm.of (sa.trans s2')) (Sm.trans (Sm.sub (fun a ha => ?_) sm3) (Sm.of s4)))
      rcases List.mem_cons.mp ha with rfl | ha
      · simp
      · obtain rfl : a = ta := by simpa using ha
        simp
end
end Mw

namespace Mw
open PySem PySem.Spec PyProof.Rows L2
section
variable {P : Program} {w : World} {K : PySem.W.Frag} {mg : Str → Option Value} {base : Heap} {G : List T} {ta tb' te : TE} {a ta' : TA} {pa : Addr} {c c1 c2 : Nat} {At : T → Prop} {D : Ends} {σ : Slots} {H : Hp} {u t1 t2 : TS} {tt : TT}
theorem rss_ifk (Pv : Slots → Hp → Prop) (key : ∀ σ' H', Pv σ' H' → u D σ' H') (h : (∀ σ' H', Pv σ' H' → u D σ' H') → tt σ H fun b H1 => if b = true then t1 { D with nx := u D } σ H1 else t2 { D with nx := u D } σ H1) : tSeq (tIfS tt t1 t2) u D σ H := h key
def PriceIs (wn gn : Nat) (o : Option Nat) : Prop := (wn = gn → o = some 0) ∧ (wn ≠ gn → ∀ c, o = some c → 1 ≤ c ∧ c ≤ 99)
abbrev N__law_price : List Str := ["pot", "wanted", "given", "top"]
theorem sc__law_price : FnScope N__law_price ["pot", "wanted", "given", "top"] (defScope s__law_price) := C8.fnScope_by (by decide +kernel)

def R__law_price (ts : List T) (At : T → Prop) : Prop := ∃ wn gn top : Nat, 1 ≤ top ∧ top ≤ 99 ∧ ts = [.d (.int (wn : Int)), .d (.int (gn : Int)), .d (.int (top : Int))] ∧ At = fun t => ∃ o, PriceIs wn gn o ∧ t = .d (encO o)
theorem cal__law_price (F : MDef K mg "_law_price" s__law_price) (g : Glo mg) (c__law_take : C8.Cal P w K mg base 1 "_law_take" (spPot 1 R__law_take) []) : C8.Cal P w K mg base 2 "_law_price" (spPot 2 R__law_price) [] :=
  cal_pot F sc__law_price (fun _ _ _ _ _ _ us hl => match us, hl with | [_, _, _, _], _ => rfl) (fun ts At ⟨_, _, _, _, _, e, _⟩ => by rw [e]; rfl) fun f cdv A outer s H E hr ts At ⟨wn, gn, top, h1, h2, e1, e2⟩ => by
    subst e1 e2
    have nd := sc__law_price.nd
    have hu := hu_of hr
    refine ⟨_, (pss_cons (ps_if (pt_cmpR op_eq (pv 1) (pv 2) (nomark _)) (pss_one (ps_ret pe_int)) pss_nil)
      (pss_cons (ps_if (pt_cmpR op_eq (C8.pe_c c__law_take hr (by decide) rfl (pa_cons (pv 0) (pa_cons pe_int pa_nil))) pe_int (nomark _)) (pss_one (ps_ret pe_non)) pss_nil)
      (pss_one (ps_ret (pe_op op_add pe_int (C8.pe_c c__law_take hr (by decide) rfl (pa_cons (pv 0) (pa_cons (pv 3) pa_nil)))))))), ?_⟩
    intro En σ pa b I p l ok hD
    have hG : AllB [pa] [.v (.ref pa), .d (.int (wn : Int)), .d (.int (gn : Int)), .d (.int (top : Int))] := ⟨trivial, trivial, trivial, trivial, trivial⟩
    have I : EnvOk H [.v (.ref pa), .d (.int (wn : Int)), .d (.int (gn : Int)), .d (.int (top : Int))] σ := I
    refine rss_if0 I (b := decide (wn = gn)) (evb_T (evx_eqI (evx_var (i := 1) rfl) (evx_var (i := 2) rfl) (by rw [decide_eq_decide]; omega))) (fun he H1 s1 I1 => ?_) fun he H1 s1 I1 => ?_
    · have e := of_decide_eq_true he
      exact rs_ret (hD (.d (encO (some 0))) _ H1 ⟨some 0, ⟨fun _ => rfl, fun z => absurd e z⟩, rfl⟩ trivial (Sm.of s1) ((p.same s1).le (by omega)) rfl)
    · have hne := of_decide_eq_false he
      have p1 := p.same s1
      refine rss_if (evp_eq0 I1 p1 (by omega) hG (take_ev (m := 5) (by decide) (by decide) (i := 0) rfl evx_int hG) isNat_nat fun r H2 _ s2 p2 I2 => ?_)
      by_cases h : r = 0
      · rw [decide_eq_true h]
        exact iteT (rs_ret (hD (.d (encO none)) _ H2 ⟨none, ⟨fun z => absurd z hne, fun _ c z => (by cases z)⟩, rfl⟩ trivial ((Sm.of s1).trans s2) (p2.le (by omega)) rfl))
      · rw [decide_eq_false h]
        refine iteF (rs_ret ((evp_op (c1 := 0) (c2 := 1) (At := fun t => t = .d (.int 1)) (Bt := isNat top) (Ct := fun t => ∃ c : Nat, c < top ∧ t = .d (.int (((1 + c : Nat) : Nat) : Int))) hG (evp_x evx_int trivial) (take_ev (m := top) h1 (by omega) (i := 0) rfl (evx_var (i := 3) rfl) hG) fun s t hs ⟨c, hc, ht⟩ => ⟨.d (.int ((1 + c : Nat) : Int)), ⟨c, hc, rfl⟩, trivial, fun v w H hv hw Q q => ?_⟩) σ H2 (b + 1) I2 p2 (by omega) _ fun t v H3 ⟨c, hc, e⟩ okt s3 p3 hv => hD t v H3 ⟨some (1 + c), ⟨fun z => absurd z hne, fun _ c' z => (by cases z; omega)⟩, e⟩ okt ((Sm.of s1).trans (s2.trans s3)) p3 hv))
        subst hs ht
        obtain rfl : v = .int 1 := hv
        obtain rfl : w = .int (c : Int) := hw
        refine ⟨1, (c : Int), rfl, rfl, q _ H (Same.refl H) ?_⟩
        show V.int (1 + (c : Int)) = V.int ((1 + c : Nat) : Int)
        rw [Int.natCast_add]
        rfl
def PrIs (d : Nat) (t : T) : Prop := ∃ p : Pr, PrOk d p ∧ t = .d (encP d p)
abbrev N__law_prices : List Str := ["pot", "deeds", "top", "d", "e"]
theorem sc__law_prices : FnScope N__law_prices ["pot", "deeds", "top"] (defScope s__law_prices) := C8.fnScope_by (by decide +kernel)

def R__law_prices (ts : List T) (At : T → Prop) : Prop := ∃ d top : Nat, 1 ≤ d ∧ d ≤ 9 ∧ 1 ≤ top ∧ top ≤ 99 ∧ ts = [.d (.int (d : Int)), .d (.int (top : Int))] ∧ At = PrIs d
theorem cal__law_prices (F : MDef K mg "_law_prices" s__law_prices) (g : Glo mg) (c__law_take : C8.Cal P w K mg base 1 "_law_take" (spPot 1 R__law_take) []) (c__law_price : C8.Cal P w K mg base 2 "_law_price" (spPot 2 R__law_price) []) : C8.Cal P w K mg base 3 "_law_prices" (spPot 200 R__law_prices) [] :=
  cal_pot F sc__law_prices (fun _ _ _ _ _ _ us hl => match us, hl with | [_, _, _], _ => rfl) (fun ts At ⟨_, _, _, _, _, _, e, _⟩ => by rw [e]; rfl) fun f cdv A outer s H E hr ts At ⟨d, top, d1, d2, h1, h2, e1, e2⟩ => by
    subst e1 e2
    have nd := sc__law_prices.nd
    have hu := hu_of hr
    refine ⟨_, (pss_cons (ps_if (pt_cmpR op_eq (C8.pe_c c__law_take hr (by decide) rfl (pa_cons (pv 0) (pa_cons pe_int pa_nil))) pe_int (nomark _)) (pss_one (ps_ret pe_non)) pss_nil)
      (pss_one (ps_ret (pe_callTy (r := rTupK K) call_tuple_of (by rfl) g.tuple (by decide +kernel) (pa_cons (pe_lc (own := [("d", 3)]) (g := (gName 3)) (tt := tYes) rfl nd (pi_range1 rfl g.range (pa_cons (pv 1) pa_nil)) (blkOk_by (by show blkC N__law_prices (defScope s__law_prices) _ _ = true; decide +kernel)) (fun _ _ _ _ _ => (pg_name (i := 3) nd rfl (Or.inr rfl))) (fun _ _ _ _ _ => pts_nil) (fun _ _ _ _ _ => (pe_callTy (r := rTupK K) call_tuple_of (by rfl) g.tuple (by decide +kernel) (pa_cons (pe_lc (own := [("e", 4)]) (g := (gName 4)) (tt := tYes) rfl nd (pi_range1 rfl g.range (pa_cons (pv 1) pa_nil)) (blkOk_by (by show blkC N__law_prices (relS _ (defScope s__law_prices)) _ _ = true; decide +kernel)) (fun _ _ _ _ _ => (pg_name (i := 4) nd rfl (Or.inl rfl))) (fun _ _ _ _ _ => pts_nil) (fun _ _ _ _ _ => (C8.pe_c c__law_price hr (by decide) rfl (pa_cons (pv 0) (pa_cons (pv 3) (pa_cons (pv 4) (pa_cons (pv 2) pa_nil))))))) pa_nil)))) pa_nil))))), ?_⟩
    intro En σ pa b I p l ok hD
    have hG : AllB [pa] [.v (.ref pa), .d (.int (d : Int)), .d (.int (top : Int)), .u, .u] := ⟨trivial, trivial, trivial, trivial, trivial, trivial⟩
    have I : EnvOk H [.v (.ref pa), .d (.int (d : Int)), .d (.int (top : Int)), .u, .u] σ := I
    refine rss_if (evp_eq0 I p (by omega) hG (take_ev (m := 3) (by decide) (by decide) (i := 0) rfl evx_int hG) isNat_nat fun r H2 _ s2 p2 I2 => ?_)
    by_cases h : r = 0
    · rw [decide_eq_true h]
      exact iteT (rs_ret (hD (.d (encP d none)) _ H2 ⟨none, trivial, rfl⟩ trivial s2 (p2.le (by omega)) rfl))
    · rw [decide_eq_false h]
      have hc : d * (d * 2) ≤ 9 * (9 * 2) := Nat.mul_le_mul d2 (by omega)
      refine iteF (rs_ret ((EvP.imp (c := 199) (Bt := PrIs d) (evp_tupleL (As := fun es => es.length = d ∧ ∀ (i : Nat) e, es[i]? = some e → ∃ fr : Nat → Option Nat, (∀ x, x < d → PriceIs i x (fr x)) ∧ e = .tup (tb d fun x => encO (fr x))) (EvP.imp (evp_lc (c := d * 2) (Ad := fun i e => ∃ fr : Nat → Option Nat, (∀ x, x < d → PriceIs i x (fr x)) ∧ e = .tup (tb d fun x => encO (fr x))) hG (itT_rngN (n := d) (eva_cons (evx_var (i := 1) rfl) eva_nil) (by omega)) (fun i t hi ht => ?_) (by omega)) (Nat.le_refl _) fun t ⟨la, es, e, q1, q2⟩ => ⟨la, es, e, q1, q2⟩)) (by omega) fun t ⟨es, e, q1, q2⟩ => ?_) σ H2 (b + 1) I2 p2 (by omega) _ fun t v H3 ht okt s3 p3 hv => hD t v H3 ht okt (s2.trans s3) (p3.le (by omega)) hv))
      · subst ht
        refine ⟨[_, _, _, _, _], _, tg_name, by decide, EvP.imp (evp_tupleL (As := fun es => es.length = d ∧ ∀ (x : Nat) e, es[x]? = some e → ∃ o : Option Nat, PriceIs i x o ∧ e = encO o) (EvP.imp (evp_lc (c := 2) (Ad := fun x e => ∃ o : Option Nat, PriceIs i x o ∧ e = encO o) ⟨trivial, trivial, trivial, trivial, trivial, trivial⟩ (itT_rngN (n := d) (eva_cons (evx_var (i := 1) rfl) eva_nil) (by omega)) (fun x t hx ht => ?_) (by omega)) (Nat.le_refl _) fun t ⟨la, es, e, q1, q2⟩ => ⟨la, es, e, q1, q2⟩)) (Nat.le_refl _) fun t ⟨es, e, q1, q2⟩ => ?_⟩
        · subst ht
          exact ⟨[_, _, _, _, _], _, tg_name, by decide, EvP.imp (evp_call (c1 := 0) (i := 0) rfl (evpa_cons (c1 := 0) (c2 := 0) ⟨trivial, trivial, trivial, trivial, trivial, trivial⟩ (evp_x (evx_var (i := 3) rfl) trivial) (evpa_cons (c1 := 0) (c2 := 0) ⟨trivial, trivial, trivial, trivial, trivial, trivial⟩ (evp_x (evx_var (i := 4) rfl) trivial) (evpa_cons (c1 := 0) (c2 := 0) ⟨trivial, trivial, trivial, trivial, trivial, trivial⟩ (evp_x (evx_var (i := 2) rfl) trivial) evpa_nil))) fun ts ⟨t1, rs, e1, h1', t2, rs2, e2, h2', t3, rs3, e3, h3', h4'⟩ => ⟨i, x, top, h1, h2, by rw [e1, e2, e3, h1', h2', h3', h4'], rfl⟩) (by omega) fun t ⟨o, h1', h2'⟩ => ⟨_, h2', o, h1', rfl⟩⟩
        · obtain ⟨fr, z1, z2⟩ := tb_choose (Py := fun x o => PriceIs i x o) q1 q2
          exact ⟨_, e, fr, z2, by rw [z1]⟩
      · obtain ⟨fr, z1, z2⟩ := tb_choose (Y := Nat → Option Nat) (Fy := fun fr => .tup (tb d fun x => encO (fr x))) (Py := fun i fr => ∀ x, x < d → PriceIs i x (fr x)) q1 q2
        refine ⟨some fr, fun x y hx hy => z2 x hx y hy, ?_⟩
        rw [e, z1]
def RunIs (s d m : Nat) (t : T) : Prop := ∃ run : List (Nat × Nat), RunOk s d run ∧ run.length ≤ m ∧ t = .d (.tup (run.map pairD))
theorem runIs_of {s d m : Nat} {ds : List Mw.D} (hl : ds.length ≤ m) (h : ∀ (i : Nat) e, ds[i]? = some e → ∃ q : Nat × Nat, (q.1 < s ∧ q.2 < d) ∧ e = pairD q) : RunIs s d m (.d (.tup ds)) := by
  obtain ⟨f, z1, z2⟩ := tb_choose (Y := Nat × Nat) (Fy := pairD) (Py := fun _ q => q.1 < s ∧ q.2 < d) rfl h
  refine ⟨tb ds.length f, fun q hq => ?_, by rw [tb_len]; exact hl, ?_⟩
  · obtain ⟨i, hi, rfl⟩ := tb_mem hq
    exact z2 i hi
  · have e : (tb ds.length f).map pairD = tb ds.length fun i => pairD (f i) := by simp [tb]
    rw [e, ← z1]
abbrev N__law_run : List Str := ["pot", "signs", "deeds", "many", "k"]
theorem sc__law_run : FnScope N__law_run ["pot", "signs", "deeds", "many"] (defScope s__law_run) := C8.fnScope_by (by decide +kernel)

def R__law_run (ts : List T) (At : T → Prop) : Prop := ∃ s d m : Nat, 1 ≤ s ∧ s ≤ 9 ∧ 1 ≤ d ∧ d ≤ 9 ∧ m ≤ 50 ∧ ts = [.d (.int (s : Int)), .d (.int (d : Int)), .d (.int (m : Int))] ∧ At = RunIs s d 50
theorem cal__law_run (F : MDef K mg "_law_run" s__law_run) (g : Glo mg) (c__law_take : C8.Cal P w K mg base 1 "_law_take" (spPot 1 R__law_take) []) : C8.Cal P w K mg base 2 "_law_run" (spPot 100 R__law_run) [] :=
  cal_pot F sc__law_run (fun _ _ _ _ _ _ us hl => match us, hl with | [_, _, _, _], _ => rfl) (fun ts At ⟨_, _, _, _, _, _, _, _, e, _⟩ => by rw [e]; rfl) fun f cdv A outer s H E hr ts At ⟨sn, d, m, s1, s2, d1, d2, hm, e1, e2⟩ => by
    subst e1 e2
    have nd := sc__law_run.nd
    have hu := hu_of hr
    refine ⟨_, (pss_one (ps_ret (pe_callTy (r := rTupK K) call_tuple_of (by rfl) g.tuple (by decide +kernel) (pa_cons (pe_lc (own := [("k", 4)]) (g := (gName 4)) (tt := tYes) rfl nd (pi_range1 rfl g.range (pa_cons (pv 3) pa_nil)) (blkOk_by (by show blkC N__law_run (defScope s__law_run) _ _ = true; decide +kernel)) (fun _ _ _ _ _ => (pg_name (i := 4) nd rfl (Or.inl rfl))) (fun _ _ _ _ _ => pts_nil) (fun _ _ _ _ _ => (pe_tup (pa_cons (C8.pe_c c__law_take hr (by decide) rfl (pa_cons (pv 0) (pa_cons (pv 1) pa_nil))) (pa_cons (C8.pe_c c__law_take hr (by decide) rfl (pa_cons (pv 0) (pa_cons (pv 2) pa_nil))) pa_nil))))) pa_nil)))), ?_⟩
    intro En σ pa b I p l ok hD
    have I : EnvOk H [.v (.ref pa), .d (.int (sn : Int)), .d (.int (d : Int)), .d (.int (m : Int)), .u] σ := I
    have hG0 : AllB [pa] [.v (.ref pa), .d (.int (sn : Int)), .d (.int (d : Int)), .d (.int (m : Int)), .u] := ⟨trivial, trivial, trivial, trivial, trivial, trivial⟩
    refine rs_ret ((EvP.imp (c := 100) (Bt := RunIs sn d 50) (evp_tupleL (As := fun es => es.length = m ∧ ∀ (i : Nat) e, es[i]? = some e → ∃ q : Nat × Nat, (q.1 < sn ∧ q.2 < d) ∧ e = pairD q) (EvP.imp (evp_lc (c := 2) (Ad := fun i e => ∃ q : Nat × Nat, (q.1 < sn ∧ q.2 < d) ∧ e = pairD q) hG0 (itT_rngN (n := m) (eva_cons (evx_var (i := 3) rfl) eva_nil) (by omega)) (fun i t hi ht => ?_) (by omega)) (Nat.le_refl _) fun t ⟨la, es, e, q1, q2⟩ => ⟨la, es, e, q1, q2⟩)) (by omega) fun t ⟨es, e, q1, q2⟩ => ?_) σ H b I p l _ fun t v H3 ht okt s3 p3 hv => hD t v H3 ht okt s3 p3 hv)
    · subst ht
      have hG : AllB [pa] [.v (.ref pa), .d (.int (sn : Int)), .d (.int (d : Int)), .d (.int (m : Int)), .d (.int (i : Int))] := ⟨trivial, trivial, trivial, trivial, trivial, trivial⟩
      refine ⟨[.v (.ref pa), .d (.int (sn : Int)), .d (.int (d : Int)), .d (.int (m : Int)), .d (.int (i : Int))], _, tg_name, by decide, EvP.imp (evp_tup (As := fun ds => ∃ q : Nat × Nat, (q.1 < sn ∧ q.2 < d) ∧ ds = [.int (q.1 : Int), .int (q.2 : Int)]) (c := 2) (fun σ H b I p l Q q => (evpa_cons (c1 := 1) (c2 := 1) hG (take_ev (m := sn) s1 (by omega) (i := 0) rfl (evx_var (i := 1) rfl) hG) (evpa_cons (c1 := 1) (c2 := 0) hG (take_ev (m := d) d1 (by omega) (i := 0) rfl (evx_var (i := 2) rfl) hG) evpa_nil)) σ H b I p l Q fun ts vs H' ⟨t1, rs, e1, ⟨x, hx, e2⟩, t2, rs2, e3, ⟨y, hy, e4⟩, e5⟩ ok s' p' hv => q ts vs H' ⟨[.int (x : Int), .int (y : Int)], by rw [e1, e2, e3, e4, e5]; rfl, (x, y), ⟨hx, hy⟩, rfl⟩ ok s' p' hv) fun ds ⟨q, _, e⟩ => by rw [e]; simp) (Nat.le_refl _) fun t ⟨ds, e, q, h1, h2⟩ => ⟨_, e, q, h1, by rw [h2]⟩⟩
    · rw [e]
      exact runIs_of (by omega) q2
theorem XB_nat : XB = ((10 ^ 600 : Nat) : Int) := by
  unfold XB
  exact (Int.natCast_pow 10 600).symm
theorem XB_pow : ((10 : Int) ^ 60) ^ 10 = XB := by
  unfold XB
  rw [← Int.pow_mul]
theorem XB_bits : (10 ^ 600 : Nat) < 2 ^ 2400 := by decide +kernel
abbrev N__law_pot : List Str := ["script", "k", "cell"]
theorem sc__law_pot : FnScope N__law_pot ["script", "k"] (defScope s__law_pot) := C8.fnScope_by (by decide +kernel)

def sp_pot (K : PySem.W.Frag) : Sp := fun vs H Q _ => ∃ (sa : Addr) (ns : List Int) (k : Nat), vs = [.ref sa, .int (k : Int)] ∧ SqL K H sa (ns.map V.int) ∧ k < 1000 ∧ ∀ pa H', H pa = none → Same H H' → PotOk pa 0 H' → Q (.ref pa) H'
theorem cal__law_pot (F : MDef K mg "_law_pot" s__law_pot) (g : Glo mg) : C8.Cal P w K mg base 1 "_law_pot" (sp_pot K) [] :=
  cal_of F sc__law_pot (fun _ _ _ _ _ _ us hl => match us, hl with | [_, _], _ => rfl) (fun vs H Q E ⟨_, _, _, e, _⟩ => by rw [e]; rfl) fun f cdv A outer s H vs Q E hr ⟨sa, ns, k, e, hS, hk, hQ⟩ => by
    subst e
    have nd := sc__law_pot.nd
    have hu := hu_of hr
    refine ⟨_, (pss_cons (ps_set (i := 2) nd rfl (Or.inl rfl) pe_int)
      (pss_cons (ps_if (pt_cmpR op_lt (pv 1) (pe_callB (r := rLenK K) call_len_seq (by rfl) g.len PySem.boot_len (pa_cons (pv 0) pa_nil)) (nomark _)) (pss_one (ps_set (i := 2) nd rfl (Or.inl rfl) (pe_op op_mod (pe_callB call_abs (by rfl) g.abs (by decide +kernel) (pa_cons (pe_ix (r := rIxL K) ix_list (pv 0) (pv 1) (fun _ _ => rfl)) pa_nil)) (pe_op op_powG (pe_op op_powG pe_int pe_int) pe_int)))) pss_nil)
      (pss_one (ps_ret (pe_lst (pa_cons (pe_op op_mulW (pv 2) (pe_callTy call_int1 (by rfl) g.int (by decide +kernel) (pa_cons (pe_cmpR op_ge (pv 2) (pe_op op_powG pe_int pe_int) (nomark _)) pa_nil))) (pa_cons (pe_op op_mod (pe_op op_powG (pe_op op_add (pe_op op_add (pe_op op_mod (pv 2) pe_int) (pe_op op_mulW pe_int (pv 1))) pe_int) pe_int) pe_int) (pa_cons pe_int pa_nil)))))))), ?_⟩
    have I0 : EnvOk H [.v (.ref sa), .d (.int (k : Int)), .u] (start N__law_pot [.ref sa, .int (k : Int)]) := EnvOk.start (N := N__law_pot) (ts := [.v (.ref sa), .d (.int (k : Int))]) (.cons rfl (.cons rfl .nil))
    generalize start N__law_pot [.ref sa, .int (k : Int)] = σ0 at I0
    refine rss_ev I0 evx_int fun v1 H1 s1 _ I1 => ?_
    have I1 : EnvOk H1 [.v (.ref sa), .d (.int (k : Int)), .d (.int 0)] (σ0.set 2 (some v1)) := I1
    generalize σ0.set 2 (some v1) = σ1 at I1
    have XB0 : (0 : Int) < XB := by rw [XB_nat]; exact Int.natCast_pos.mpr (Nat.pow_pos (by decide))
    refine rss_ifk (fun σ' H' => Same H H' ∧ ∃ cell : Int, 0 ≤ cell ∧ cell < XB ∧ EnvOk H' [.v (.ref sa), .d (.int (k : Int)), .d (.int cell)] σ') ?_ fun key => ?_
    · rintro σ' H' ⟨s', cell, c0, c1, I'⟩
      have q0 := Int.emod_nonneg cell (show (2147483629 : Int) ≠ 0 by decide)
      have q1 := Int.emod_lt_of_pos cell (show (0 : Int) < 2147483629 by decide)
      have cb : cell.natAbs < 2 ^ 2400 := by
        have h1 : cell.natAbs < 10 ^ 600 := by
          rw [XB_nat] at c1
          generalize (10 ^ 600 : Nat) = X at c1 ⊢
          omega
        exact Nat.lt_trans h1 XB_bits
      refine rs_ret ((evn_lst (ds := [.int (cell * (if decide ((10 : Int) ^ (18 : Int).toNat ≤ cell) then 1 else 0)), .int ((cell % 2147483629 + 7919 * (k : Int) + 1) ^ (5 : Int).toNat % 2305843009213693951), .int 0]) (eva_cons (evx_I (i := cell) (j := if decide ((10 : Int) ^ (18 : Int).toNat ≤ cell) then 1 else 0) (evx_var (i := 2) rfl) (evx_intB (eva_cons (evx_I0b (evx_var (i := 2) rfl) (evx_I (g := fun i j => i ^ j.toNat) evx_int evx_int (powG_ok (j := 18) (n := 10) (by decide) (by decide))) rfl) eva_nil)) (wide_mul (a := 2400) (b := 10) cb (by split <;> decide) (by decide) (by decide) (by decide))) (eva_cons (evx_I (i := (cell % 2147483629 + 7919 * (k : Int) + 1) ^ (5 : Int).toNat) (j := 2305843009213693951) (evx_I (g := fun i j => i ^ j.toNat) (i := cell % 2147483629 + 7919 * (k : Int) + 1) (j := 5) (evx_I0i (i := cell % 2147483629 + 7919 * (k : Int)) (j := 1) (evx_I0i (i := cell % 2147483629) (j := 7919 * (k : Int)) (evx_I (i := cell) (j := 2147483629) (evx_var (i := 2) rfl) evx_int (by decide)) (evx_I (i := 7919) (j := (k : Int)) evx_int (evx_var (i := 1) rfl) (wide_mul (a := 20) (b := 20) (by decide) (by omega) (by decide) (by decide) (by decide)))) evx_int) evx_int (powG_ok (j := 5) (n := 60) (by omega) (by decide))) evx_int (by decide)) (eva_cons evx_int eva_nil)))) σ' H' I' _ fun pa H2 n2 s2 h2 => ?_)
      obtain ⟨_, xs, h3, h4⟩ := h2
      obtain ⟨x1, r1, rfl, w1, x2, r2, rfl, w2, x3, r3, rfl, w3, rfl⟩ := h4
      obtain rfl : x1 = .int _ := w1
      obtain rfl : x2 = .int _ := w2
      obtain rfl : x3 = .int 0 := w3
      refine hQ pa H2 (none_of s' n2) (s'.trans s2) ⟨_, _, 0, h3, ?_, ?_, Int.emod_nonneg _ (by decide), Int.lt_of_lt_of_le (Int.emod_lt_of_pos _ (by decide)) (by decide), by omega, by omega⟩
      · split
        · rw [Int.mul_one]; exact c0
        · rw [Int.mul_zero]; exact Int.le_refl 0
      · split
        · rw [Int.mul_one]; exact c1
        · rw [Int.mul_zero]; exact XB0
    · obtain ⟨u0, e0, z0⟩ := I1.getv (i := 0) (t := .v (.ref sa)) rfl
      obtain rfl : u0 = .ref sa := z0
      obtain ⟨u1, e1, z1⟩ := I1.getv (i := 1) (t := .d (.int (k : Int))) rfl
      obtain rfl : u1 = .int (k : Int) := z1
      have hS1 : SqL K H1 sa (ns.map V.int) := s1.seq hS
      refine ⟨_, e1, _, e0, sa, _, rfl, .inl hS1, (k : Int), ((ns.map V.int).length : Int), rfl, rfl, _, rfl, ?_⟩
      by_cases hlt : k < (ns.map V.int).length
      · rw [decide_eq_true (by omega)]
        refine iteT (rs_set ?_)
        have hget : (ns.map V.int)[k]? = some (.int (ns.getD k 0)) := by
          rw [List.getElem?_map, List.getD_eq_getElem?_getD]
          rw [List.length_map] at hlt
          rw [List.getElem?_eq_getElem hlt]
          rfl
        refine ⟨_, e0, _, e1, sa, _, (k : Int), _, rfl, rfl, hS1, at_of (j := k) (by omega) hget, _, rfl, ?_⟩
        refine (evx_I (g := fun i j => i ^ j.toNat) (i := 10 ^ (60 : Int).toNat) (j := 10) (evx_I (g := fun i j => i ^ j.toNat) (i := 10) (j := 60) evx_int evx_int (powG_ok (j := 60) (n := 10) (by decide) (by decide))) evx_int (powG_ok (j := 10) (n := 240) (by decide +kernel) (by decide))) σ1 H1 I1 _ fun v2 H2 s2 hv2 => ?_
        obtain rfl : v2 = .int ((10 ^ (60 : Int).toNat) ^ (10 : Int).toNat) := hv2
        have ex : ((10 : Int) ^ (60 : Int).toNat) ^ (10 : Int).toNat = XB := XB_pow
        rw [ex]
        refine ⟨_, _, rfl, rfl, XB0, key _ _ ⟨s1.trans s2, (if ns.getD k 0 < 0 then -ns.getD k 0 else ns.getD k 0) % XB, Int.emod_nonneg _ (by omega), Int.emod_lt_of_pos _ XB0, ?_⟩⟩
        exact (I1.mono s2).setv (t := .d (.int _)) 2 rfl
      · rw [decide_eq_false (by omega)]
        exact iteF (rs_next (key _ _ ⟨s1, 0, by omega, XB0, I1⟩))
end
end Mw

namespace Mw
open PySem PySem.Spec PyProof.Rows L2
section
variable {P : Program} {w : World} {K : PySem.W.Frag} {mg : Str → Option Value} {base : Heap} {G : List T} {ta tb' te : TE} {a ta' : TA} {pa : Addr} {c c1 c2 : Nat} {At Bt : T → Prop} {D : Ends} {σ : Slots} {H : Hp} {u t1 t2 : TS} {tt : TT}
/-- an assignment of what is taken -/
theorem rss_evP {i b : Nat} (I : EnvOk H G σ) (p : PotOk pa b H) (l : b + c ≤ BB) (hG : AllB [pa] G) (h : EvP pa c G te At)
    (k : ∀ t v H1, At t → OkB [pa] t → Sm [pa] H H1 → PotOk pa (b + c) H1 → Is H1 t v → EnvOk H1 (G.set i t) (σ.set i (some v)) → u D (σ.set i (some v)) H1) : tSeq (tAsg te (gName i)) u D σ H :=
  rss_set (h σ H b I p l _ fun t v H1 ht ok s p1 hv => k t v H1 ht ok s p1 hv ((I.monoB s p.mut hG).setv i hv))
/-- an int from 1 to hi -/
def IsR (hi : Nat) (t : T) : Prop := ∃ v : Nat, 1 ≤ v ∧ v ≤ hi ∧ t = .d (.int (v : Int))
theorem evp_1take {m hi i : Nat} (m1 : 1 ≤ m) (m2 : m ≤ hi) (h9 : hi ≤ 1000) (hp : G[i]? = some (.v (.ref pa))) (hG : AllB [pa] G) (he : EvX G te (.d (.int (m : Int)))) : EvP pa 1 G (tOp (rI0 fun i j => .int (i + j)) (tC (.int 1)) (tCall (spPot 1 R__law_take) [] C8.E0 (tCons (tVar i) (tCons te tNil)))) (IsR hi) :=
  evp_op (c1 := 0) (c2 := 1) (At := fun t => t = .d (.int 1)) (Bt := isNat m) hG (evp_x evx_int trivial) (take_ev (m := m) m1 (by omega) hp he hG) fun s t hs ⟨c, hc, ht⟩ => ⟨.d (.int ((1 + c : Nat) : Int)), ⟨1 + c, by omega, by omega, rfl⟩, trivial, fun v w H hv hw Q q => by
    subst hs ht
    obtain rfl : v = .int 1 := hv
    obtain rfl : w = .int (c : Int) := hw
    refine ⟨1, (c : Int), rfl, rfl, q _ H (Same.refl H) ?_⟩
    show V.int (1 + (c : Int)) = V.int ((1 + c : Nat) : Int)
    rw [Int.natCast_add]
    rfl⟩
def AllR (hi n : Nat) (ts : List T) : Prop := ts.length = n ∧ ∀ t ∈ ts, IsR hi t
theorem evpa_nilR {hi : Nat} : EvPA pa 0 G tNil (AllR hi 0) := fun σ H b I p l Q q => q [] [] H ⟨rfl, fun t h => by cases h⟩ trivial (Sm.refl _ _) p .nil
theorem evpa_consR {hi n : Nat} (hG : AllB [pa] G) (h : EvP pa c1 G te (IsR hi)) (r : EvPA pa c2 G a (AllR hi n)) : EvPA pa (c1 + c2) G (tCons te a) (AllR hi (n + 1)) := fun σ H b I p l Q q =>
  (evpa_cons hG h r) σ H b I p l Q fun ts vs H' ⟨t, rs, e, ht, hl, hr⟩ ok s p' hv => q ts vs H' ⟨by rw [e, List.length_cons, hl], fun t' h => by
    rw [e] at h
    rcases List.mem_cons.mp h with rfl | h
    · exact ht
    · exact hr t' h⟩ ok s p' hv
theorem allR_ds {hi n : Nat} {ts : List T} (h : AllR hi n ts) : ∃ ds : List Mw.D, ts = ds.map T.d ∧ ds.length = n ∧ ∀ (i : Nat) e, ds[i]? = some e → ∃ v : Nat, 1 ≤ v ∧ v ≤ hi ∧ e = .int (v : Int) := by
  obtain ⟨h1, h2⟩ := h
  subst h1
  induction ts with
  | nil => exact ⟨[], rfl, rfl, fun i e h => by simp at h⟩
  | cons t ts ih =>
    obtain ⟨ds, e1, e2, e3⟩ := ih fun t h => h2 t (List.mem_cons_of_mem _ h)
    obtain ⟨v, v1, v2, rfl⟩ := h2 t List.mem_cons_self
    refine ⟨.int (v : Int) :: ds, by rw [List.map_cons, e1], by rw [List.length_cons, List.length_cons, e2], fun i e he => ?_⟩
    cases i with
    | zero =>
      simp at he
      exact ⟨v, v1, v2, he.symm⟩
    | succ i => exact e3 i e (by simpa using he)
/-- a[i] of a list of such ints -/
theorem evp_pick {hi n j : Nat} (hG : AllB [pa] G) (h : EvPA pa c G a (AllR hi n)) (hj : j < n) (hn : n ≤ 100) (he : EvX G te (.d (.int (j : Int)))) : EvP pa c G (tOp (rIxL K) (tLst a) te) (IsR hi) :=
  EvP.imp (evp_op (c1 := c) (c2 := 0) (At := fun t => ∃ la ds, t = .la la ds ∧ (ds.length = n ∧ ∀ (i : Nat) e, ds[i]? = some e → ∃ v : Nat, 1 ≤ v ∧ v ≤ hi ∧ e = Mw.D.int (v : Int))) (Bt := fun t => t = .d (.int (j : Int))) (Ct := IsR hi) hG
    (evp_lst (As := fun ds => ds.length = n ∧ ∀ (i : Nat) e, ds[i]? = some e → ∃ v : Nat, 1 ≤ v ∧ v ≤ hi ∧ e = Mw.D.int (v : Int)) (fun σ H b I p l Q q => h σ H b I p l Q fun ts vs H' ht ok s p' hv => q ts vs H' (allR_ds ht) ok s p' hv) fun ds ⟨e, _⟩ => by omega)
    (evp_x he trivial) fun s t ⟨la, ds, e1, e2, e3⟩ e4 => by
      have hl : j < ds.length := by omega
      obtain ⟨v, v1, v2, ev⟩ := e3 j _ (List.getElem?_eq_getElem hl)
      refine ⟨.d (.int (v : Int)), ⟨v, v1, v2, rfl⟩, trivial, fun x y H hx hy Q q => ?_⟩
      subst e1 e4
      obtain ⟨rfl, xs, h1, h2⟩ := hx
      obtain rfl : y = .int (j : Int) := hy
      obtain ⟨z, z1, z2⟩ := h2.get (List.getElem?_eq_getElem hl)
      rw [ev] at z2
      exact ⟨la, xs, (j : Int), z, rfl, rfl, SqL.of h1, at_of (j := j) (by omega) z1, q z H (Same.refl H) z2⟩) (by omega) fun _ h => h
/-- a written list at a place that is taken -/
theorem evp_pickC {l : List Nat} (hG : AllB [pa] G) (h : EvA G a ((intD l).map T.d)) (hl : l.length ≤ 100) (he : EvP pa 1 G te (isNat l.length)) : EvP pa 1 G (tOp (rIxL K) (tLst a) te) (fun t => ∃ v ∈ l, t = .d (.int (v : Int))) :=
  EvP.imp (evp_op (c1 := 0) (c2 := 1) (At := fun t => ∃ la, t = .la la (intD l)) (Bt := isNat l.length) (Ct := fun t => ∃ v ∈ l, t = .d (.int (v : Int))) hG (evp_n (evn_lst (ds := intD l) h (by rw [List.length_map]; omega))) he fun s t ⟨la, e1⟩ ⟨j, hj, e4⟩ => by
    refine ⟨.d (.int (l[j] : Int)), ⟨l[j], List.getElem_mem hj, rfl⟩, trivial, fun x y H hx hy Q q => ?_⟩
    subst e1 e4
    obtain ⟨rfl, xs, h1, h2⟩ := hx
    obtain rfl : y = .int (j : Int) := hy
    obtain ⟨z, z1, z2⟩ := h2.get (i := j) (d := .int (l[j] : Int)) (by rw [List.getElem?_map, List.getElem?_eq_getElem hj]; rfl)
    exact ⟨la, xs, (j : Int), z, rfl, rfl, SqL.of h1, at_of (j := j) (by omega) z1, q z H (Same.refl H) z2⟩) (by omega) fun _ h => h
def WorldIs (t : T) : Prop := ∃ (S : Sy) (p : Pr), S.Valid ∧ PrOk S.d p ∧ t = .d (.tup [S.D, encP S.d p])
abbrev N__law_world : List Str := ["pot", "wide", "way", "signs", "deeds", "rooms", "saying"]
theorem sc__law_world : FnScope N__law_world ["pot", "wide"] (defScope s__law_world) := C8.fnScope_by (by decide +kernel)

def R__law_world (ts : List T) (At : T → Prop) : Prop := ∃ wide : Nat, wide ≤ 1 ∧ ts = [.d (.int (wide : Int))] ∧ At = WorldIs
theorem cal__law_world (F : MDef K mg "_law_world" s__law_world) (g : Glo mg) (c__law_take : C8.Cal P w K mg base 1 "_law_take" (spPot 1 R__law_take) []) (c__law_saying : C8.Cal P w K mg base 3 "_law_saying" (spPot 20000 R__law_saying) []) (c__law_prices : C8.Cal P w K mg base 3 "_law_prices" (spPot 200 R__law_prices) []) : C8.Cal P w K mg base 4 "_law_world" (spPot 25000 R__law_world) [] :=
  cal_pot F sc__law_world (fun _ _ _ _ _ _ us hl => match us, hl with | [_, _], _ => rfl) (fun ts At ⟨_, _, e, _⟩ => by rw [e]; rfl) fun f cdv A outer s H E hr ts At ⟨wide, hw, e1, e2⟩ => by
    subst e1 e2
    have nd := sc__law_world.nd
    have hu := hu_of hr
    refine ⟨_, (pss_cons (ps_set (i := 2) nd rfl (Or.inl rfl) (pe_op op_mulW (pe_ix (r := rIxL K) ix_list (pe_lst (pa_cons pe_int (pa_cons pe_int (pa_cons pe_int (pa_cons pe_int (pa_cons pe_int (pa_cons pe_int (pa_cons pe_int (pa_cons pe_int pa_nil))))))))) (C8.pe_c c__law_take hr (by decide) rfl (pa_cons (pv 0) (pa_cons pe_int pa_nil))) (fun _ _ => rfl)) (pv 1)))
      (pss_cons (ps_set (i := 3) nd rfl (Or.inl rfl) (pe_ix (r := rIxL K) ix_list (pe_lst (pa_cons (pe_op op_add pe_int (C8.pe_c c__law_take hr (by decide) rfl (pa_cons (pv 0) (pa_cons pe_int pa_nil)))) (pa_cons (pe_op op_add pe_int (C8.pe_c c__law_take hr (by decide) rfl (pa_cons (pv 0) (pa_cons pe_int pa_nil)))) (pa_cons (pe_op op_add pe_int (C8.pe_c c__law_take hr (by decide) rfl (pa_cons (pv 0) (pa_cons pe_int pa_nil)))) (pa_cons pe_int pa_nil))))) (pv 2) (fun _ _ => rfl)))
      (pss_cons (ps_set (i := 4) nd rfl (Or.inl rfl) (pe_ix (r := rIxL K) ix_list (pe_lst (pa_cons (pe_op op_add pe_int (C8.pe_c c__law_take hr (by decide) rfl (pa_cons (pv 0) (pa_cons pe_int pa_nil)))) (pa_cons (pe_op op_add pe_int (C8.pe_c c__law_take hr (by decide) rfl (pa_cons (pv 0) (pa_cons pe_int pa_nil)))) (pa_cons (pe_op op_add pe_int (C8.pe_c c__law_take hr (by decide) rfl (pa_cons (pv 0) (pa_cons pe_int pa_nil)))) (pa_cons pe_int pa_nil))))) (pv 2) (fun _ _ => rfl)))
      (pss_cons (ps_set (i := 5) nd rfl (Or.inl rfl) (pe_ix (r := rIxL K) ix_list (pe_lst (pa_cons (pe_op op_add pe_int (C8.pe_c c__law_take hr (by decide) rfl (pa_cons (pv 0) (pa_cons pe_int pa_nil)))) (pa_cons (pe_op op_add pe_int (C8.pe_c c__law_take hr (by decide) rfl (pa_cons (pv 0) (pa_cons pe_int pa_nil)))) (pa_cons (pe_op op_add pe_int (C8.pe_c c__law_take hr (by decide) rfl (pa_cons (pv 0) (pa_cons pe_int pa_nil)))) (pa_cons (pe_op op_add pe_int (C8.pe_c c__law_take hr (by decide) rfl (pa_cons (pv 0) (pa_cons pe_int pa_nil)))) pa_nil))))) (pv 2) (fun _ _ => rfl)))
      (pss_cons (ps_set (i := 6) nd rfl (Or.inl rfl) (C8.pe_c c__law_saying hr (by decide) rfl (pa_cons (pv 0) (pa_cons (pv 3) (pa_cons (pv 4) (pa_cons (pv 5) (pa_cons (pe_ix (r := rIxL K) ix_list (pe_lst (pa_cons pe_int (pa_cons pe_int (pa_cons pe_int (pa_cons pe_int pa_nil))))) (C8.pe_c c__law_take hr (by decide) rfl (pa_cons (pv 0) (pa_cons pe_int pa_nil))) (fun _ _ => rfl)) pa_nil)))))))
      (pss_one (ps_ret (pe_tup (pa_cons (pv 6) (pa_cons (C8.pe_c c__law_prices hr (by decide) rfl (pa_cons (pv 0) (pa_cons (pv 4) (pa_cons (pe_ix (r := rIxL K) ix_list (pe_lst (pa_cons pe_int (pa_cons pe_int (pa_cons pe_int pa_nil)))) (C8.pe_c c__law_take hr (by decide) rfl (pa_cons (pv 0) (pa_cons pe_int pa_nil))) (fun _ _ => rfl)) pa_nil)))) pa_nil)))))))))), ?_⟩
    intro En σ pa b I p l ok hD
    have hG : AllB [pa] [.v (.ref pa), .d (.int (wide : Int)), .u, .u, .u, .u, .u] := ⟨trivial, trivial, trivial, trivial, trivial, trivial, trivial, trivial⟩
    have I : EnvOk H [.v (.ref pa), .d (.int (wide : Int)), .u, .u, .u, .u, .u] σ := I
    refine rss_evP (At := fun t => ∃ y : Nat, y < 4 ∧ t = .d (.int (y : Int))) (c := 1) I p (by omega) hG (evp_op (c1 := 1) (c2 := 0) (At := fun t => ∃ v ∈ [0, 0, 1, 1, 1, 2, 2, 3], t = .d (.int ((v : Nat) : Int))) (Bt := fun t => t = .d (.int (wide : Int))) hG (evp_pickC (l := [0, 0, 1, 1, 1, 2, 2, 3]) hG (eva_cons evx_int (eva_cons evx_int (eva_cons evx_int (eva_cons evx_int (eva_cons evx_int (eva_cons evx_int (eva_cons evx_int (eva_cons evx_int eva_nil)))))))) (by decide) (take_ev (m := 8) (by decide) (by decide) (i := 0) rfl evx_int hG)) (evp_x (evx_var (i := 1) rfl) trivial) fun s t ⟨v, hv, e1⟩ e2 => ⟨.d (.int ((v * wide : Nat) : Int)), ⟨v * wide, ?_, rfl⟩, trivial, fun x y H hx hy Q q => ?_⟩) fun t v1 H1 ⟨y, hy, e⟩ _ s1 p1 hv1 I1 => ?_
    · have hv3 : v ≤ 3 := by
        simp only [List.mem_cons, List.not_mem_nil, or_false] at hv
        omega
      have : v * wide ≤ 3 * 1 := Nat.mul_le_mul hv3 hw
      omega
    · subst e1 e2
      obtain rfl : x = .int (v : Int) := hx
      obtain rfl : y = .int (wide : Int) := hy
      have hv3 : v ≤ 3 := by
        simp only [List.mem_cons, List.not_mem_nil, or_false] at hv
        omega
      refine ⟨(v : Int), (wide : Int), rfl, rfl, wide_mul (a := 10) (b := 10) (by omega) (by omega) (by decide) (by decide) (by decide), q _ H (Same.refl H) ?_⟩
      show V.int _ = V.int _
      rw [Int.natCast_mul]
    subst e
    have I1 : EnvOk H1 [.v (.ref pa), .d (.int (wide : Int)), .d (.int (y : Int)), .u, .u, .u, .u] (σ.set 2 (some v1)) := I1
    have hG1 : AllB [pa] [.v (.ref pa), .d (.int (wide : Int)), .d (.int (y : Int)), .u, .u, .u, .u] := ⟨trivial, trivial, trivial, trivial, trivial, trivial, trivial, trivial⟩
    refine rss_evP (At := IsR 9) (c := 3) I1 p1 (by omega) hG1 (evp_pick (n := 4) (j := y) hG1 (evpa_consR (c1 := 1) (c2 := 2) hG1 (evp_1take (m := 3) (by decide) (by decide) (by decide) (i := 0) rfl hG1 evx_int) (evpa_consR (c1 := 1) (c2 := 1) hG1 (evp_1take (m := 4) (by decide) (by decide) (by decide) (i := 0) rfl hG1 evx_int) (evpa_consR (c1 := 1) (c2 := 0) hG1 (evp_1take (m := 9) (by decide) (by decide) (by decide) (i := 0) rfl hG1 evx_int) (evpa_consR (c1 := 0) (c2 := 0) hG1 (EvP.imp (evp_x evx_int trivial) (Nat.le_refl _) fun t e => ⟨1, by decide, by decide, e⟩) evpa_nilR)))) hy (by decide) (evx_var (i := 2) rfl)) fun t v2 H2 ⟨sn, sn1, sn2, e⟩ _ s2 p2 hv2 I2 => ?_
    subst e
    have I2 : EnvOk H2 [.v (.ref pa), .d (.int (wide : Int)), .d (.int (y : Int)), .d (.int (sn : Int)), .u, .u, .u] _ := I2
    have hG2 : AllB [pa] [.v (.ref pa), .d (.int (wide : Int)), .d (.int (y : Int)), .d (.int (sn : Int)), .u, .u, .u] := ⟨trivial, trivial, trivial, trivial, trivial, trivial, trivial, trivial⟩
    refine rss_evP (At := IsR 9) (c := 3) I2 p2 (by omega) hG2 (evp_pick (n := 4) (j := y) hG2 (evpa_consR (c1 := 1) (c2 := 2) hG2 (evp_1take (m := 4) (by decide) (by decide) (by decide) (i := 0) rfl hG2 evx_int) (evpa_consR (c1 := 1) (c2 := 1) hG2 (evp_1take (m := 4) (by decide) (by decide) (by decide) (i := 0) rfl hG2 evx_int) (evpa_consR (c1 := 1) (c2 := 0) hG2 (evp_1take (m := 9) (by decide) (by decide) (by decide) (i := 0) rfl hG2 evx_int) (evpa_consR (c1 := 0) (c2 := 0) hG2 (EvP.imp (evp_x evx_int trivial) (Nat.le_refl _) fun t e => ⟨2, by decide, by decide, e⟩) evpa_nilR)))) hy (by decide) (evx_var (i := 2) rfl)) fun t v3 H3 ⟨d, d1, d2, e⟩ _ s3 p3 hv3 I3 => ?_
    subst e
    have I3 : EnvOk H3 [.v (.ref pa), .d (.int (wide : Int)), .d (.int (y : Int)), .d (.int (sn : Int)), .d (.int (d : Int)), .u, .u] _ := I3
    have hG3 : AllB [pa] [.v (.ref pa), .d (.int (wide : Int)), .d (.int (y : Int)), .d (.int (sn : Int)), .d (.int (d : Int)), .u, .u] := ⟨trivial, trivial, trivial, trivial, trivial, trivial, trivial, trivial⟩
    refine rss_evP (At := IsR 100) (c := 4) I3 p3 (by omega) hG3 (evp_pick (n := 4) (j := y) hG3 (evpa_consR (c1 := 1) (c2 := 3) hG3 (evp_1take (m := 5) (by decide) (by decide) (by decide) (i := 0) rfl hG3 evx_int) (evpa_consR (c1 := 1) (c2 := 2) hG3 (evp_1take (m := 12) (by decide) (by decide) (by decide) (i := 0) rfl hG3 evx_int) (evpa_consR (c1 := 1) (c2 := 1) hG3 (evp_1take (m := 3) (by decide) (by decide) (by decide) (i := 0) rfl hG3 evx_int) (evpa_consR (c1 := 1) (c2 := 0) hG3 (evp_1take (m := 100) (by decide) (by decide) (by decide) (i := 0) rfl hG3 evx_int) evpa_nilR)))) hy (by decide) (evx_var (i := 2) rfl)) fun t v4 H4 ⟨n, n1, n2, e⟩ _ s4 p4 hv4 I4 => ?_
    subst e
    have I4 : EnvOk H4 [.v (.ref pa), .d (.int (wide : Int)), .d (.int (y : Int)), .d (.int (sn : Int)), .d (.int (d : Int)), .d (.int (n : Int)), .u] _ := I4
    have hG4 : AllB [pa] [.v (.ref pa), .d (.int (wide : Int)), .d (.int (y : Int)), .d (.int (sn : Int)), .d (.int (d : Int)), .d (.int (n : Int)), .u] := ⟨trivial, trivial, trivial, trivial, trivial, trivial, trivial, trivial⟩
    refine rss_evP (At := SyIs sn d n) (c := 20001) I4 p4 (by omega) hG4 (evp_call (c1 := 1) (c := 20000) (i := 0) rfl (evpa_cons (c1 := 0) (c2 := 1) hG4 (evp_x (evx_var (i := 3) rfl) trivial) (evpa_cons (c1 := 0) (c2 := 1) hG4 (evp_x (evx_var (i := 4) rfl) trivial) (evpa_cons (c1 := 0) (c2 := 1) hG4 (evp_x (evx_var (i := 5) rfl) trivial) (evpa_cons (c1 := 1) (c2 := 0) hG4 (evp_pickC (l := [2, 3, 5, 9]) hG4 (eva_cons evx_int (eva_cons evx_int (eva_cons evx_int (eva_cons evx_int eva_nil)))) (by decide) (take_ev (m := 4) (by decide) (by decide) (i := 0) rfl evx_int hG4)) evpa_nil)))) fun ts ⟨t1, r1, q1, h1, t2, r2, q2, h2, t3, r3, q3, h3, t4, r4, q4, ⟨rt, hrt, h4⟩, h5⟩ => ?_) fun t v5 H5 ⟨S, hs, hd, hn, hb, e⟩ _ s5 p5 hv5 I5 => ?_
    · simp only [List.mem_cons, List.not_mem_nil, or_false] at hrt
      exact ⟨sn, d, n, rt, ⟨sn1, sn2⟩, ⟨d1, d2⟩, ⟨n1, n2⟩, by omega, by omega, by rw [q1, q2, q3, q4, h1, h2, h3, h4, h5], rfl⟩
    subst e hs hd hn
    have I5 : EnvOk H5 [.v (.ref pa), .d (.int (wide : Int)), .d (.int (y : Int)), .d (.int (S.s : Int)), .d (.int (S.d : Int)), .d (.int (S.n : Int)), .d S.D] _ := I5
    have hG5 : AllB [pa] [.v (.ref pa), .d (.int (wide : Int)), .d (.int (y : Int)), .d (.int (S.s : Int)), .d (.int (S.d : Int)), .d (.int (S.n : Int)), .d S.D] := ⟨trivial, trivial, trivial, trivial, trivial, trivial, trivial, trivial⟩
    have hS : S.Valid := ⟨⟨sn1, sn2⟩, ⟨d1, d2⟩, ⟨n1, n2⟩, hb⟩
    refine rs_ret ((evp_tup (c := 201) (As := fun ds => ∃ q : Pr, PrOk S.d q ∧ ds = [S.D, encP S.d q]) (fun σ H b I p l Q q => (evpa_cons (c1 := 0) (c2 := 201) hG5 (evp_x (evx_var (i := 6) rfl) trivial) (evpa_cons (c1 := 201) (c2 := 0) hG5 (evp_call (At := PrIs S.d) (c1 := 1) (c := 200) (i := 0) rfl (evpa_cons (c1 := 0) (c2 := 1) hG5 (evp_x (evx_var (i := 4) rfl) trivial) (evpa_cons (c1 := 1) (c2 := 0) hG5 (evp_pickC (l := [2, 9, 99]) hG5 (eva_cons evx_int (eva_cons evx_int (eva_cons evx_int eva_nil))) (by decide) (take_ev (m := 3) (by decide) (by decide) (i := 0) rfl evx_int hG5)) evpa_nil)) fun ts ⟨t1, r1, q1, h1, t2, r2, q2, ⟨rt, hrt, h2⟩, h3⟩ => (by
      simp only [List.mem_cons, List.not_mem_nil, or_false] at hrt
      exact ⟨S.d, rt, d1, d2, by omega, by omega, by rw [q1, q2, h1, h2, h3], rfl⟩)) evpa_nil)) σ H b I p l Q fun ts vs H' ⟨t1, r1, q1, h1, t2, r2, q2, ⟨pq, hpq, h2⟩, h3⟩ ok s' p' hv => q ts vs H' ⟨[S.D, encP S.d pq], by rw [q1, q2, h1, h2, h3]; rfl, pq, hpq, rfl⟩ ok s' p' hv) fun ds ⟨q, _, e⟩ => by rw [e]; simp) _ H5 _ I5 p5 (by omega) _ fun t v H6 ⟨ds, e, q, hq, e2⟩ ok' s6 p6 hv => ?_)
    exact hD t v H6 ⟨S, q, hS, hq, by rw [e, e2]⟩ ok' ((((s1.trans s2).trans s3).trans s4).trans (s5.trans s6)) (p6.le (by omega)) hv
end
end Mw

namespace Mw
open PySem PySem.Spec PyProof.Rows L2
section
variable {P : Program} {w : World} {K : PySem.W.Frag} {mg : Str → Option Value} {base : Heap} {G : List T} {ta tb' te : TE} {a ta' : TA} {pa : Addr} {c c1 c2 : Nat} {At Bt : T → Prop} {D : Ends} {σ : Slots} {H : Hp} {u t1 t2 : TS} {tt : TT}
theorem evn_lcR {wi : TI} {n : Nat} {h : Nat → Mw.D} {p : Nat → Bool} {g : TG} {vs : List Nat} (hi : ItX G wi n FN)
    (ht : ∀ a, a < n → LcTurn (wipeG G vs) g tt te vs (.d (.int (a : Int))) (if p a then some (h a) else none)) (hz : n < 100000) : EvN G (tLc wi g tt te vs) (((List.range n).filter p).map h) := by
  rw [← filterMap_if (List.range n) p h]
  refine evn_lc _ hi (fun i t hi e => ?_) hz
  subst e
  exact ht i hi
theorem evp_cat {A B : List Mw.D → Prop} (hG : AllB [pa] G) (ha : EvP pa c1 G ta (fun t => ∃ la ds, t = .la la ds ∧ A ds)) (hb : EvP pa c2 G tb' (fun t => ∃ la ds, t = .la la ds ∧ B ds)) (hl : ∀ ds es, A ds → B es → ds.length + es.length ≤ 100000) :
    EvP pa (c1 + c2) G (tOp rCat ta tb') (fun t => ∃ la ds es, t = .la la (ds ++ es) ∧ A ds ∧ B es) := fun σ H b I p l Q q =>
  ha σ H b I p (by omega) _ fun s v H1 ⟨la, ds, e1, h1⟩ ok1 s1 p1 hv => hb σ H1 (b + c1) (I.monoB s1 p.mut hG) p1 (by omega) _ fun t w H2 ⟨lb, es, e2, h2⟩ ok2 s2 p2 hw => by
    subst e1 e2
    obtain ⟨rfl, xs, f1, f2⟩ := Is.monoB s2 p1.mut ok1 hv
    obtain ⟨rfl, ys, g1, g2⟩ := hw
    have l1 := f2.len
    have l2 := g2.len
    have := hl ds es h1 h2
    refine ⟨la, lb, xs, ys, rfl, rfl, f1, g1, len_ok (by omega), fun l' hl' => q (.la l' (ds ++ es)) _ _ ⟨l', ds, es, rfl, h1, h2⟩ ?_ ((s1.trans s2).trans (Sm.of (same_new hl'))) (by rw [← Nat.add_assoc]; exact p2.same (same_new hl')) ⟨rfl, _, upd_same, (f2.append g2).mono (same_new hl')⟩⟩
    intro z
    obtain rfl : l' = pa := by simpa using z
    obtain ⟨x, y, z', h1, _⟩ := p2
    rw [h1] at hl'
    cases hl'
theorem evp_pickL {la : Addr} {ds : List Mw.D} (hG : AllB [pa] G) (h : EvX G ta (.la la ds)) (hn : la ≠ pa) (he : EvP pa c G te (isNat ds.length)) : EvP pa c G (tOp (rIxL K) ta te) (fun t => ∃ d ∈ ds, t = .d d) :=
  EvP.imp (evp_op (c1 := 0) (c2 := c) (At := fun t => t = .la la ds) (Bt := isNat ds.length) (Ct := fun t => ∃ d ∈ ds, t = .d d) hG (evp_x h (by simpa [OkB] using hn)) he fun s t e1 ⟨j, hj, e4⟩ => by
    refine ⟨.d ds[j], ⟨ds[j], List.getElem_mem hj, rfl⟩, trivial, fun x y H hx hy Q q => ?_⟩
    subst e1 e4
    obtain ⟨rfl, xs, h1, h2⟩ := hx
    obtain rfl : y = .int (j : Int) := hy
    obtain ⟨z, z1, z2⟩ := h2.get (i := j) (List.getElem?_eq_getElem hj)
    exact ⟨la, xs, (j : Int), z, rfl, rfl, SqL.of h1, at_of (j := j) (by omega) z1, q z H (Same.refl H) z2⟩) (by omega) fun _ h => h
theorem okB_ne {la : Addr} {ds : List Mw.D} (h : OkB [pa] (.la la ds)) : la ≠ pa := fun z => h (by simp [z])
abbrev N__law_let_run : List Str := ["pot", "watcher", "many", "state", "run", "turn", "sign", "row", "wanted", "some"]
theorem sc__law_let_run : FnScope N__law_let_run ["pot", "watcher", "many"] (defScope s__law_let_run) := C8.fnScope_by (by decide +kernel)

def R__law_let_run (ts : List T) (At : T → Prop) : Prop := ∃ (W : Wa) (m : Nat), W.Valid ∧ m ≤ 50 ∧ ts = [.d W.D, .d (.int (m : Int))] ∧ At = RunIs W.s W.d 50
def LR (pa ra : Addr) (W : Wa) (m st : Nat) (rq : List (Nat × Nat)) : List T := [.v (.ref pa), .d W.D, .d (.int (m : Int)), .d (.int (st : Int)), .la ra (rq.map pairD), .u, .u, .u, .u, .u]
theorem cal__law_let_run (F : MDef K mg "_law_let_run" s__law_let_run) (g : Glo mg) (c__law_take : C8.Cal P w K mg base 1 "_law_take" (spPot 1 R__law_take) []) : C8.Cal P w K mg base 2 "_law_let_run" (spPot 200 R__law_let_run) [] :=
  cal_pot F sc__law_let_run (fun _ _ _ _ _ _ us hl => match us, hl with | [_, _, _], _ => rfl) (fun ts At ⟨_, _, _, _, e, _⟩ => by rw [e]; rfl) fun f cdv A outer s H E hr ts At ⟨W, m, hW, hm, e1, e2⟩ => by
    subst e1 e2
    have nd := sc__law_let_run.nd
    have hu := hu_of hr
    refine ⟨_, (pss_cons (ps_set (i := 3) nd rfl (Or.inl rfl) pe_int)
      (pss_cons (ps_set (i := 4) nd rfl (Or.inl rfl) (pe_lst pa_nil))
      (pss_cons (ps_for PassesOwn.never rfl (pi_range1 rfl g.range (pa_cons (pv 2) pa_nil)) (pg_name (i := 5) nd rfl (Or.inl rfl)) (pss_cons (ps_set (i := 6) nd rfl (Or.inl rfl) (C8.pe_c c__law_take hr (by decide) rfl (pa_cons (pv 0) (pa_cons (pe_ix (r := rIxT K) ix_tup (pv 1) pe_int (fun _ _ => rfl)) pa_nil))))
      (pss_cons (ps_set (i := 7) nd rfl (Or.inr rfl) (pe_ix (r := rIxT K) ix_tup (pe_ix (r := rIxT K) ix_tup (pe_ix (r := rIxT K) ix_tup (pv 1) pe_int (fun _ _ => rfl)) (pv 3) (fun _ _ => rfl)) (pv 6) (fun _ _ => rfl)))
      (pss_cons (ps_set (i := 9) nd rfl (Or.inl rfl) (pe_op op_cat (pe_lc (own := [("wanted", 8)]) (g := (gName 8)) rfl nd (pi_range1 rfl g.range (pa_cons (pe_ix (r := rIxT K) ix_tup (pv 1) pe_int (fun _ _ => rfl)) pa_nil)) (blkOk_by (by show blkC N__law_let_run (defScope s__law_let_run) _ _ = true; decide +kernel)) (fun _ _ _ _ _ => (pg_name (i := 8) nd rfl (Or.inl rfl))) (fun _ _ _ _ _ => (pts_one (pt_cmpR op_eq (pe_ix (r := rIxT K) ix_tup (pe_ix (r := rIxT K) ix_tup (pv 7) (pv 8) (fun _ _ => rfl)) pe_int (fun _ _ => rfl)) (pv 8) (nomark _)))) (fun _ _ _ _ _ => (pv 8))) (pe_lst (pa_cons (C8.pe_c c__law_take hr (by decide) rfl (pa_cons (pv 0) (pa_cons (pe_ix (r := rIxT K) ix_tup (pv 1) pe_int (fun _ _ => rfl)) pa_nil))) pa_nil))))
      (pss_cons (ps_set (i := 8) nd rfl (Or.inl rfl) (pe_ix (r := rIxL K) ix_list (pv 9) (C8.pe_c c__law_take hr (by decide) rfl (pa_cons (pv 0) (pa_cons (pe_callB (r := rLenK K) call_len_seq (by rfl) g.len PySem.boot_len (pa_cons (pv 9) pa_nil)) pa_nil))) (fun _ _ => rfl)))
      (pss_cons (ps_expr (pe_bm PySem.F.plainAttrs_list PySem.F.slot_list_append PySem.F.type_list_append mt_append (pv 4) (pa_cons (pe_tup (pa_cons (pv 6) (pa_cons (pv 8) pa_nil))) pa_nil)))
      (pss_one (ps_set (i := 3) nd rfl (Or.inl rfl) (pe_ix (r := rIxT K) ix_tup (pe_ix (r := rIxT K) ix_tup (pv 7) (pv 8) (fun _ _ => rfl)) pe_int (fun _ _ => rfl))))))))))
      (pss_one (ps_ret (pe_callTy (r := rTupK K) call_tuple_of (by rfl) g.tuple (by decide +kernel) (pa_cons (pv 4) pa_nil))))))), ?_⟩
    intro En σ pa b I p l ok hD
    obtain ⟨⟨s1, s2⟩, ⟨d1, d2⟩, ⟨n1, n2⟩, hst⟩ := hW
    refine rss_ev I evx_int fun v0 H0 s0 _ I0 => ?_
    refine rss_nil I0 fun ra H1 nr s01 I1 => ?_
    have I1 : EnvOk H1 (LR pa ra W m 0 []) _ := I1
    have p1 := (p.same s0).same s01
    have hpr : pa ≠ ra := fun z => by
      obtain ⟨x, y, z', h1, _⟩ := p.same s0
      rw [z, nr] at h1
      cases h1
    have hM : MutL [pa, ra] H1 := fun a ha => by
      rcases List.mem_cons.mp ha with rfl | ha
      · exact p1.mut a (by simp)
      · obtain rfl : a = ra := by simpa using ha
        obtain ⟨_, _, _, xs, e, _⟩ := I1.getv (i := 4) (t := .la a []) rfl
        exact ⟨xs, e⟩
    refine rss_forB I1 hM (itT_rngN (n := m) (eva_cons (evx_var (i := 2) rfl) eva_nil) (by omega)).b fun H2 s2' => ⟨fun i σ' H' => ∃ (st : Nat) (rq : List (Nat × Nat)), st < W.n ∧ rq.length = i ∧ RunOk W.s W.d rq ∧ EnvOk H' (LR pa ra W m st rq) σ' ∧ Sm [pa, ra] H2 H' ∧ PotOk pa (b + i * 3) H',
      ⟨0, [], n1, rfl, fun q h => (by cases h), I1.mono s2', Sm.refl _ _, by simpa using p1.same s2'⟩, fun i σ' H' ⟨_, _, _, _, _, _, h, _⟩ => h, ?_, ?_⟩
    · rintro i t σ' H' H3 x hi rfl ⟨st, rq, hs, hl, hrq, I3, sm3, p3⟩ s3 hx
      refine tg_name σ' H3 (I3.mono s3) x hx _ fun σ4 I4 _ => ?_
      have okr : OkB [pa] (.la ra (rq.map pairD)) := by simpa [OkB] using Ne.symm hpr
      have hG4 : AllB [pa] ((LR pa ra W m st rq).set 5 (.d (.int (i : Int)))) := ⟨trivial, trivial, trivial, trivial, okr, trivial, trivial, trivial, trivial, trivial, trivial⟩
      have I4 : EnvOk H3 ((LR pa ra W m st rq).set 5 (.d (.int (i : Int)))) σ4 := I4
      refine rss_evP (At := isNat W.s) (c := 1) I4 (p3.same s3) (by omega) hG4 (take_ev (m := W.s) s1 (by omega) (i := 0) rfl (evx_ixTn (i := 0) (evx_var (i := 1) rfl) evx_int rfl) hG4) fun t v5 H5 ⟨sg, hsg, e⟩ _ s5 p5 hv5 I5 => ?_
      subst e
      refine rss_ev I5 (evx_ixTn (evx_ixTn (evx_ixTn (i := 2) (evx_var (i := 1) rfl) evx_int rfl) (evx_var (i := 3) rfl) (tb_get hs)) (evx_var (i := 6) rfl) (tb_get hsg)) fun v6 H6 s6 hv6 I6 => ?_
      have I6 : EnvOk H6 [.v (.ref pa), .d W.D, .d (.int (m : Int)), .d (.int (st : Int)), .la ra (rq.map pairD), .d (.int (i : Int)), .d (.int (sg : Int)), .d (W.row st sg), .u, .u] _ := I6
      have hG6 : AllB [pa] [.v (.ref pa), .d W.D, .d (.int (m : Int)), .d (.int (st : Int)), .la ra (rq.map pairD), .d (.int (i : Int)), .d (.int (sg : Int)), .d (W.row st sg), .u, .u] := ⟨trivial, trivial, trivial, trivial, okr, trivial, trivial, trivial, trivial, trivial, trivial⟩
      refine rss_evP (At := fun t => ∃ la ds, t = .la la ds ∧ 1 ≤ ds.length ∧ ds.length ≤ 100 ∧ ∀ d ∈ ds, ∃ y : Nat, y < W.d ∧ d = .int (y : Int)) (c := 1) I6 (p5.same s6) (by omega) hG6 (EvP.imp (evp_cat (c1 := 0) (c2 := 1) (A := fun ds => ds.length ≤ 9 ∧ ∀ d ∈ ds, ∃ y : Nat, y < W.d ∧ d = .int (y : Int)) (B := fun ds => ds.length = 1 ∧ ∀ d ∈ ds, ∃ y : Nat, y < W.d ∧ d = .int (y : Int)) hG6
        (EvP.imp (evp_n (evn_lcR (n := W.d) (p := fun y => decide (W.g st sg y = y)) (h := fun y => .int (y : Int)) (it_rngN (n := W.d) (eva_cons (evx_ixTn (i := 1) (evx_var (i := 1) rfl) evx_int rfl) eva_nil) (by omega)) (fun y hy => .tst tg_name (by decide) (evb_T (evx_eqI (evx_ixTn (i := 0) (evx_ixTn (evx_var (i := 7) rfl) (evx_var (i := 8) rfl) (tb_get hy)) evx_int rfl) (evx_var (i := 8) rfl) (by rw [decide_eq_decide]; omega))) fun _ => evx_var (i := 8) rfl) (by omega))) (Nat.le_refl _) fun t ⟨la, e⟩ => ⟨la, _, e, ?_, fun d hd => ?_⟩)
        (EvP.imp (evp_lst (c := 1) (As := fun ds => ∃ y : Nat, y < W.d ∧ ds = [.int (y : Int)]) (fun σ H b I p l Q q => (evpa_cons (c1 := 1) (c2 := 0) hG6 (take_ev (m := W.d) d1 (by omega) (i := 0) rfl (evx_ixTn (i := 1) (evx_var (i := 1) rfl) evx_int rfl) hG6) evpa_nil) σ H b I p l Q fun ts vs H' ⟨t1, r1, q1, ⟨y, hy, h1⟩, h3⟩ ok s' p' hv => q ts vs H' ⟨[.int (y : Int)], by rw [q1, h1, h3]; rfl, y, hy, rfl⟩ ok s' p' hv) fun ds ⟨q, _, e⟩ => by rw [e]; simp) (Nat.le_refl _) fun t ⟨la, ds, e, y, hy, e2⟩ => ⟨la, ds, e, by rw [e2]; rfl, fun d hd => ⟨y, hy, by rw [e2] at hd; simpa using hd⟩⟩)
        fun ds es ⟨h1, _⟩ ⟨h2, _⟩ => by omega) (by omega) fun t ⟨la, ds, es, e, ⟨h1, h2⟩, h3, h4⟩ => ⟨la, _, e, by rw [List.length_append]; omega, by rw [List.length_append]; omega, fun d hd => by
          rcases List.mem_append.mp hd with hd | hd
          · exact h2 d hd
          · exact h4 d hd⟩) fun t v7 H7 ⟨la, ds, e, hl1, hl2, hds⟩ ok7 s7 p7 hv7 I7 => ?_
      · rw [List.length_map]
        have := List.length_filter_le (fun y => decide (W.g st sg y = y)) (List.range W.d)
        rw [List.length_range] at this
        omega
      · obtain ⟨y, hy, rfl⟩ := List.mem_map.mp hd
        exact ⟨y, List.mem_range.mp (List.mem_filter.mp hy).1, rfl⟩
      subst e
      have I7 : EnvOk H7 [.v (.ref pa), .d W.D, .d (.int (m : Int)), .d (.int (st : Int)), .la ra (rq.map pairD), .d (.int (i : Int)), .d (.int (sg : Int)), .d (W.row st sg), .u, .la la ds] _ := I7
      have hG7 : AllB [pa] [.v (.ref pa), .d W.D, .d (.int (m : Int)), .d (.int (st : Int)), .la ra (rq.map pairD), .d (.int (i : Int)), .d (.int (sg : Int)), .d (W.row st sg), .u, .la la ds] := ⟨trivial, trivial, trivial, trivial, okr, trivial, trivial, trivial, trivial, ok7, trivial⟩
      refine rss_evP (At := fun t => ∃ d ∈ ds, t = .d d) (c := 1) I7 p7 (by omega) hG7 (evp_pickL hG7 (evx_var (i := 9) rfl) (okB_ne ok7) (take_ev (m := ds.length) hl1 (by omega) (i := 0) rfl (evx_lenL (eva_cons (evx_liA (evx_var (i := 9) rfl)) eva_nil)) hG7)) fun t v8 H8 ⟨d, hd, e⟩ _ s8 p8 hv8 I8 => ?_
      obtain ⟨y, hy, rfl⟩ := hds d hd
      subst e
      refine rss_app (la := ra) (j := 4) (ds := rq.map pairD) (d := pairD (sg, y)) (G1 := [.v (.ref pa), .d W.D, .d (.int (m : Int)), .d (.int (st : Int)), .la ra (rq.map pairD), .u, .u, .d (W.row st sg), .d (.int (y : Int)), .u]) I8 (evx_tup (ds := [_, _]) (eva_cons (evx_var (i := 6) rfl) (eva_cons (evx_var (i := 8) rfl) eva_nil))) ?_ rfl ⟨trivial, trivial, trivial, trivial, trivial, trivial, trivial, trivial, trivial, trivial, trivial⟩ (by rw [List.length_map]; omega) fun H9 s9 I9 => ?_
      · repeat (first | exact .nil | refine .cons (.inr rfl) ?_ | refine .cons (.inl rfl) ?_)
      have e9 : rq.map pairD ++ [pairD (sg, y)] = (rq ++ [(sg, y)]).map pairD := by simp
      rw [e9] at I9
      refine rs_ev (t := .d (.int (W.t st sg y : Int))) I9 (evx_ixTn (i := 1) (evx_ixTn (evx_var (i := 7) rfl) (evx_var (i := 8) rfl) (tb_get hy)) evx_int rfl) fun v10 H10 s10 hv10 I10 => ?_
      refine ⟨W.t st sg y, rq ++ [(sg, y)], (hst st sg y hs hsg hy).2, by rw [List.length_append, hl]; rfl, fun q hq => ?_, ?_, sm3.trans ((Sm.of s3).trans ((Sm.sub (by simp) s5).trans ((Sm.of s6).trans ((Sm.sub (by simp) s7).trans ((Sm.sub (by simp) s8).trans ((Sm.sub (by simp) s9).trans (Sm.of s10))))))), ?_⟩
      · rcases List.mem_append.mp hq with hq | hq
        · exact hrq q hq
        · obtain rfl := List.mem_singleton.mp hq
          exact ⟨hsg, hy⟩
      · refine EnvOk.le ?_ I10
        repeat (first | exact .nil | refine .cons (.inr rfl) ?_ | refine .cons (.inl rfl) ?_)
      · exact ((p8.sm s9 (by simpa using hpr)).same s10).le (by omega)
    · rintro σ' H' ⟨st, rq, hs, hl, hrq, I3, sm3, p3⟩
      refine rs_ret ((evx_tuple (ds := rq.map pairD) (eva_cons (evx_liA (evx_var (i := 4) rfl)) eva_nil)) σ' H' I3 _ fun v H4 s4 hv => ?_)
      refine hD _ v H4 ⟨rq, hrq, by omega, rfl⟩ trivial ?_ ((p3.same s4).le (by omega)) hv
      refine (Sm.of s0).trans (Sm.drop nr (Sm.trans (Sm.of (s01.trans s2')) (Sm.trans (Sm.sub (fun a ha => ?_) sm3) (Sm.of s4))))
      rcases List.mem_cons.mp ha with rfl | ha
      · simp
      · obtain rfl : a = ra := by simpa using ha
        simp
end
end Mw

namespace Mw
open PySem PySem.Spec PyProof.Rows L2
section
variable {P : Program} {w : World} {K : PySem.W.Frag} {mg : Str → Option Value} {base : Heap} {G : List T} {ta tb' te : TE} {a ta' : TA} {pa : Addr} {c c1 c2 : Nat} {At Bt : T → Prop} {D : Ends} {σ : Slots} {H : Hp} {u t1 t2 : TS} {tt : TT}
theorem evp_gt0 {b : Nat} (I : EnvOk H G σ) (p : PotOk pa b H) (l : b + c ≤ BB) (hG : AllB [pa] G) (h : EvP pa c G te At) (hA : ∀ t, At t → ∃ r : Nat, t = .d (.int (r : Int))) {Q : Bool → Hp → Prop}
    (k : ∀ (r : Nat) H1, At (.d (.int (r : Int))) → Sm [pa] H H1 → PotOk pa (b + c) H1 → EnvOk H1 G σ → Q (decide (0 < r)) H1) : tTest (tOp (rI0 fun i j => .bl (decide (j < i))) te (tC (.int 0))) σ H Q := h σ H b I p l _ fun t v H1 ht ok s p1 hv => by
  obtain ⟨r, e⟩ := hA t ht
  subst e
  obtain rfl : v = .int (r : Int) := hv
  refine ⟨(r : Int), 0, rfl, rfl, _, rfl, ?_⟩
  have e : decide ((0 : Int) < (r : Int)) = decide (0 < r) := by
    rw [decide_eq_decide]
    omega
  rw [e]
  exact k r H1 ht s p1 (I.monoB s p.mut hG)
theorem evx_idx {i : Nat} {ka : Addr} {l : List Nat} {v : Nat} (h : EvX G (tVar i) (.la ka (intD l))) (hv : EvX G te (.d (.int (v : Int)))) (hm : v ∈ l) : EvX G (tBM K "list" (rIndex K) (tVar i) (tCons te tNil)) (.d (.int (l.idxOf v : Int))) := fun σ H I Q q => h σ H I _ fun x H1 s1 hx => by
  obtain ⟨rfl, xs, e1, e2⟩ := hx
  refine ⟨.inl ⟨rfl, xs, SqL.of e1⟩, hv σ H1 (I.mono s1) _ fun y H2 s2 hy => ?_⟩
  obtain rfl : y = .int (v : Int) := hy
  have e3 := ints_ofN e2
  subst e3
  have hi := List.idxOf_lt_length_of_mem hm
  refine ⟨ka, _, .int (v : Int), l.idxOf v, .int (l[l.idxOf v] : Int), rfl, rfl, SqL.of (s2 _ _ e1), rfl, (inV_ints (some v) _ H2 rfl l).2.1, by rw [List.getElem?_map, List.getElem?_eq_getElem hi]; rfl, ?_, fun m z' hlt hz => ?_, q _ H2 (s1.trans s2) rfl⟩
  · rw [List.getElem_idxOf hi]
    show ((v : Int) == (v : Int)) = true
    simp
  · obtain ⟨hm', rfl⟩ := map_at (d := 0) hz
    show (((l.getD m 0 : Nat) : Int) == (v : Int)) = false
    rw [List.getD_eq_getElem?_getD, List.getElem?_eq_getElem hm']
    have : l[m] ≠ v := fun z => by
      have h2 := List.not_of_lt_findIdx (p := (· == v)) (xs := l) (i := m) hlt
      rw [z] at h2
      simp at h2
    have h3 : ((l[m] : Nat) : Int) ≠ (v : Int) := by omega
    simpa using h3
theorem fresh_ne {i : Nat} {b a' : Addr} {ds : List Mw.D} (I : EnvOk H G σ) (h : G[i]? = some (.la b ds)) (n : H a' = none) : b ≠ a' := fun z => by
  obtain ⟨_, _, _, xs, e, _⟩ := I.getv h
  rw [z, n] at e
  cases e
theorem pot_ne {b : Nat} {a' : Addr} (p : PotOk pa b H) (n : H a' = none) : pa ≠ a' := fun z => by
  obtain ⟨x, y, z', h1, _⟩ := p
  rw [z, n] at h1
  cases h1
/-- what stands in a cell -/
def CellP (S : Sy) (p : Pr) (ph r g x : Nat) (q : Nat × Nat) : Prop := q.1 ∈ keepF S p (inL (keptF S p)) r g x ∧ (∃ v, v ∈ keptF S p ∧ S.b r g q.1 = some v ∧ q.2 / ph = (keptF S p).idxOf v) ∧ q.2 < (keptF S p).length * ph
def RowP (S : Sy) (p : Pr) (ph r g : Nat) (e : Mw.D) : Prop := ∃ f : Nat → Nat × Nat, (∀ x, x < S.d → CellP S p ph r g x (f x)) ∧ e = .tup (tb S.d fun x => pairD (f x))
def StateP (S : Sy) (p : Pr) (ph r : Nat) (e : Mw.D) : Prop := ∃ f : Nat → Nat → Nat × Nat, (∀ g, g < S.s → ∀ x, x < S.d → CellP S p ph r g x (f g x)) ∧ e = .tup (tb S.s fun g => .tup (tb S.d fun x => pairD (f g x)))
theorem rowP_of {S : Sy} {p : Pr} {ph r g : Nat} {ds : List Mw.D} (hl : ds.length = S.d) (h : ∀ (x : Nat) e, ds[x]? = some e → ∃ q, CellP S p ph r g x q ∧ e = pairD q) : RowP S p ph r g (.tup ds) := by
  obtain ⟨f, h1, h2⟩ := tb_choose (Fy := pairD) (Py := fun x q => CellP S p ph r g x q) hl h
  exact ⟨f, h2, by rw [h1]⟩
theorem stateP_of {S : Sy} {p : Pr} {ph r : Nat} {ds : List Mw.D} (hl : ds.length = S.s) (h : ∀ (g : Nat) e, ds[g]? = some e → RowP S p ph r g e) : StateP S p ph r (.tup ds) := by
  obtain ⟨f, h1, h2⟩ := tb_choose (Y := Nat → Nat × Nat) (Fy := fun f => .tup (tb S.d fun x => pairD (f x))) (Py := fun g f => ∀ x, x < S.d → CellP S p ph r g x (f x)) hl h
  exact ⟨f, h2, by rw [h1]⟩
theorem ph_of {S : Sy} {p : Pr} {ph : Nat} {ds : List Mw.D} (hS : S.Valid) (h0 : 0 ∈ keptF S p) (h1 : 1 ≤ ph) (hn : (keptF S p).length * ph ≤ 100) (hl : ds.length = (keptF S p).length * ph) (h : ∀ (f : Nat) e, ds[f]? = some e → StateP S p ph ((keptF S p).getD (f / ph) 0) e) : ∃ V, Ph S p V ph ∧ Mw.D.tup [.int (S.s : Int), .int (S.d : Int), .tup ds] = V.D := by
  obtain ⟨F, z1, z2⟩ := tb_choose (Y := Nat → Nat → Nat × Nat) (Fy := fun f => .tup (tb S.s fun g => .tup (tb S.d fun x => pairD (f g x)))) (Py := fun f q => ∀ g, g < S.s → ∀ x, x < S.d → CellP S p ph ((keptF S p).getD (f / ph) 0) g x (q g x)) hl h
  refine ⟨⟨S.s, S.d, (keptF S p).length * ph, fun f g x => (F f g x).1, fun f g x => (F f g x).2⟩, ⟨⟨hS.1, hS.2.1, ⟨?_, hn⟩, fun f g x hf hg hx => ?_⟩, rfl, rfl, rfl, h1, fun f g x hf hg hx => ?_⟩, by rw [z1]⟩
  · exact Nat.mul_pos (List.length_pos_of_mem h0) h1
  · obtain ⟨q1, q2, q3⟩ := z2 f hf g hg x hx
    exact ⟨(keepF_ans q1).1, q3⟩
  · obtain ⟨q1, q2, q3⟩ := z2 f hf g hg x hx
    exact ⟨q1, q2⟩
theorem snoc_all {ds : List Mw.D} {e : Mw.D} {n : Nat} {Py : Nat → Mw.D → Prop} (hl : ds.length = n) (h : ∀ (i : Nat) d, ds[i]? = some d → Py i d) (he : Py n e) : ∀ (i : Nat) d, (ds ++ [e])[i]? = some d → Py i d := fun i d hi => by
  by_cases hlt : i < ds.length
  · rw [List.getElem?_append_left hlt] at hi
    exact h i d hi
  · have : i = ds.length := by
      have := (List.getElem?_eq_some_iff.mp hi).1
      rw [List.length_append, List.length_singleton] at this
      omega
    subst this
    simp at hi
    rw [← hi, hl]
    exact he
def PGx (S : Sy) (p : Pr) (pa ka sa : Addr) (ph : Nat) (ds : List Mw.D) (t6 t8 t9 t10 t11 t12 t13 t14 : T) : List T :=
  [.v (.ref pa), .d S.D, .d (encP S.d p), .la ka (intD (keptF S p)), .d (.int (ph : Int)), .la sa ds, t6, .u, t8, t9, t10, t11, t12, t13, t14]
theorem allPG {S : Sy} {p : Pr} {pa ka sa : Addr} {ph : Nat} {ds : List Mw.D} {t6 t8 t9 t10 t11 t12 t13 t14 : T} {A : List Addr} (hk : ka ∉ A) (hs : sa ∉ A) (h6 : OkB A t6) (h8 : OkB A t8) (h9 : OkB A t9) (h10 : OkB A t10) (h11 : OkB A t11) (h12 : OkB A t12) (h13 : OkB A t13) (h14 : OkB A t14) : AllB A (PGx S p pa ka sa ph ds t6 t8 t9 t10 t11 t12 t13 t14) :=
  ⟨trivial, trivial, trivial, hk, trivial, hs, h6, trivial, h8, h9, h10, h11, h12, h13, h14, trivial⟩
/-- one cell of a row -/
theorem phased_cell {S : Sy} {p : Pr} {ka sa wa : Addr} {ph : Nat} {ds cs : List Mw.D} {t8 : T} {r g x b : Nat} (c__law_some : True) (hp : PrOk S.d p) (hS : S.Valid) (hr : r ∈ keptF S p) (hg : g < S.s) (hx : x < S.d) (hph : 1 ≤ ph) (hph3 : ph ≤ 3)
    (hkp : ka ≠ pa) (hsp : sa ≠ pa) (hkw : ka ≠ wa) (hsw : sa ≠ wa) (hwp : wa ≠ pa) (h8p : OkB [pa] t8) (h8w : OkB [wa] t8) (hl : cs.length < 100)
    (I : EnvOk H (PGx S p pa ka sa ph ds (.d (.int (r : Int))) t8 (.d (.int (g : Int))) (.la wa cs) (.d (.int (x : Int))) .u .u .u) σ) (pot : PotOk pa b H) (hb : b + 3 ≤ BB)
    (k : ∀ e σ' H', (∃ q, CellP S p ph r g x q ∧ e = pairD q) → EnvOk H' (PGx S p pa ka sa ph ds (.d (.int (r : Int))) t8 (.d (.int (g : Int))) (.la wa (cs ++ [e])) .u .u .u .u) σ' → Sm [pa, wa] H H' → PotOk pa (b + 3) H' → D.nx σ' H') :
    tSeq (tAsg (tCall (spNew R__law_some) [] C8.E0 (tCons (tVar 1) (tCons (tVar 2) (tCons (tVar 3) (tCons (tVar 6) (tCons (tVar 9) (tCons (tVar 11) tNil))))))) (gName 12))
      (tSeq (tAsg (tOp (rIxL K) (tVar 12) (tCall (spPot 1 R__law_take) [] C8.E0 (tCons (tVar 0) (tCons (tCB (rLenK K) (tCons (tVar 12) tNil)) tNil)))) (gName 13))
      (tSeq (tIfS (tAnd (tTest (tOp (rIn K false) (tVar 11) (tVar 12))) (tTest (tOp (rI0 fun i j => .bl (decide (j < i))) (tCall (spPot 1 R__law_take) [] C8.E0 (tCons (tVar 0) (tCons (tC (.int 3)) tNil))) (tC (.int 0))))) (tAsg (tVar 11) (gName 13)) tNext)
      (tSeq (tAsg (tBM K "list" (rIndex K) (tVar 3) (tCons (tOp (rIxT K) (tOp (rIxT K) (tOp (rIxT K) (tOp (rIxT K) (tVar 1) (tC (.int 2))) (tVar 6)) (tVar 9)) (tVar 13)) tNil)) (gName 14))
      (tDrop (tBM K "list" rAppend (tVar 10) (tCons (tTup (tCons (tVar 13) (tCons (tOp (rI0 fun i j => .int (i + j)) (tOp (rI CMulW fun i j => .int (i * j)) (tVar 14) (tVar 4)) (tCall (spPot 1 R__law_take) [] C8.E0 (tCons (tVar 0) (tCons (tVar 4) tNil)))) tNil))) tNil)))))) D σ H := by
  have hkp' : ka ∉ [pa] := by simpa using hkp
  have hsp' : sa ∉ [pa] := by simpa using hsp
  have hwp' : OkB [pa] (.la wa cs) := by simpa [OkB] using hwp
  have hG : AllB [pa] (PGx S p pa ka sa ph ds (.d (.int (r : Int))) t8 (.d (.int (g : Int))) (.la wa cs) (.d (.int (x : Int))) .u .u .u) := allPG hkp' hsp' trivial h8p trivial hwp' trivial trivial trivial trivial
  have hd9 : S.d ≤ 9 := hS.2.1.2
  have hne := kept_keep (p := p) hr hg hx
  have hkl := keepF_len S p (inL (keptF S p)) r g x
  have hkpos : 1 ≤ (keepF S p (inL (keptF S p)) r g x).length := by
    cases hk' : keepF S p (inL (keptF S p)) r g x with
    | nil => exact absurd hk' hne
    | cons _ _ => simp
  refine rss_evP (At := fun t => ∃ la, t = .la la (intD (keepF S p (inL (keptF S p)) r g x))) (c := 0) I pot (by omega) hG (evp_n (evn_call (eva_cons (evx_var (i := 1) rfl) (eva_cons (evx_var (i := 2) rfl) (eva_cons (evx_liA (evx_var (i := 3) rfl)) (eva_cons (evx_var (i := 6) rfl) (eva_cons (evx_var (i := 9) rfl) (eva_cons (evx_var (i := 11) rfl) eva_nil)))))) ⟨S, p, keptF S p, r, g, x, hp, by omega, keptF_lt hr, hg, hx, rfl, rfl⟩)) fun t v1 H1 ⟨la, e⟩ ok1 s1 p1 hv1 I1 => ?_
  subst e
  have I1 : EnvOk H1 (PGx S p pa ka sa ph ds (.d (.int (r : Int))) t8 (.d (.int (g : Int))) (.la wa cs) (.d (.int (x : Int))) (.la la (intD (keepF S p (inL (keptF S p)) r g x))) .u .u) _ := I1
  have hG1 : AllB [pa] (PGx S p pa ka sa ph ds (.d (.int (r : Int))) t8 (.d (.int (g : Int))) (.la wa cs) (.d (.int (x : Int))) (.la la (intD (keepF S p (inL (keptF S p)) r g x))) .u .u) := allPG hkp' hsp' trivial h8p trivial hwp' trivial ok1 trivial trivial
  have elen : (intD (keepF S p (inL (keptF S p)) r g x)).length = (keepF S p (inL (keptF S p)) r g x).length := by simp
  refine rss_evP (At := fun t => ∃ d ∈ intD (keepF S p (inL (keptF S p)) r g x), t = .d d) (c := 1) I1 p1 (by omega) hG1 (evp_pickL hG1 (evx_var (i := 12) rfl) (okB_ne ok1) (take_ev (m := (intD (keepF S p (inL (keptF S p)) r g x)).length) (by omega) (by omega) (i := 0) rfl (evx_lenL (eva_cons (evx_liA (evx_var (i := 12) rfl)) eva_nil)) hG1)) fun t v2 H2 ⟨d, hd, e⟩ ok2 s2 p2 hv2 I2 => ?_
  obtain ⟨y0, hy0, rfl⟩ := List.mem_map.mp hd
  subst e
  have I2 : EnvOk H2 (PGx S p pa ka sa ph ds (.d (.int (r : Int))) t8 (.d (.int (g : Int))) (.la wa cs) (.d (.int (x : Int))) (.la la (intD (keepF S p (inL (keptF S p)) r g x))) (.d (.int (y0 : Int))) .u) _ := I2
  have hG2 : AllB [pa] (PGx S p pa ka sa ph ds (.d (.int (r : Int))) t8 (.d (.int (g : Int))) (.la wa cs) (.d (.int (x : Int))) (.la la (intD (keepF S p (inL (keptF S p)) r g x))) (.d (.int (y0 : Int))) .u) := allPG hkp' hsp' trivial h8p trivial hwp' trivial ok1 trivial trivial
  generalize List.set (List.set σ 12 (some v1)) 13 (some v2) = σ2 at I2
  refine rss_ifk (fun σ' H' => ∃ y, y ∈ keepF S p (inL (keptF S p)) r g x ∧ EnvOk H' (PGx S p pa ka sa ph ds (.d (.int (r : Int))) t8 (.d (.int (g : Int))) (.la wa cs) .u .u (.d (.int (y : Int))) .u) σ' ∧ Sm [pa] H2 H' ∧ PotOk pa (b + 2) H') ?_ fun key => ?_
  · rintro σ' H' ⟨y, hy, I3, s3, p3⟩
    obtain ⟨y1, y2, y3⟩ := keepF_ans hy
    obtain ⟨v, hv, hvl⟩ := Option.any_eq_true _ _ |>.mp y3
    have hvl : v ∈ keptF S p := of_decide_eq_true hvl
    have hil := List.idxOf_lt_length_of_mem hvl
    have hkl2 := keptF_len S p
    have hn100 := hS.2.2.1.2
    refine rss_ev (t := .d (.int ((keptF S p).idxOf v : Int))) I3 (evx_idx (evx_var (i := 3) rfl) (evx_eq (evx_ixTn (evx_ixTn (evx_ixTn (evx_ixTn (i := 2) (evx_var (i := 1) rfl) evx_int rfl) (evx_var (i := 6) rfl) (tb_get (keptF_lt hr))) (evx_var (i := 9) rfl) (tb_get hg)) (evx_var (i := 13) rfl) (tb_get y1)) (by rw [hv])) hvl) fun v4 H4 s4 hv4 I4 => ?_
    have I4 : EnvOk H4 (PGx S p pa ka sa ph ds (.d (.int (r : Int))) t8 (.d (.int (g : Int))) (.la wa cs) .u .u (.d (.int (y : Int))) (.d (.int ((keptF S p).idxOf v : Int)))) _ := I4
    have hG4 : AllB [pa] (PGx S p pa ka sa ph ds (.d (.int (r : Int))) t8 (.d (.int (g : Int))) (.la wa cs) .u .u (.d (.int (y : Int))) (.d (.int ((keptF S p).idxOf v : Int)))) := allPG hkp' hsp' trivial h8p trivial hwp' trivial trivial trivial trivial
    refine rs_appP (pa := pa) (c := 1) (j := 10) (la := wa) (ds := cs) (A := fun e => ∃ q, CellP S p ph r g x q ∧ e = pairD q) I4 (p3.same s4) (by omega) hG4 rfl ⟨trivial, trivial, trivial, by simpa [OkB] using hkw, trivial, by simpa [OkB] using hsw, trivial, trivial, h8w, trivial, trivial, trivial, trivial, trivial, trivial, trivial⟩ (by omega)
      (evp_tup (c := 1) (As := fun es => ∃ z : Nat, z < ph ∧ es = [.int (y : Int), .int (((keptF S p).idxOf v * ph + z : Nat) : Int)]) (fun σ H b I pp l Q q => (evpa_cons (c1 := 0) (c2 := 1) hG4 (evp_x (evx_var (i := 13) rfl) trivial) (evpa_cons (c1 := 1) (c2 := 0) hG4 (evp_op (c1 := 0) (c2 := 1) (At := fun t => t = .d (.int (((keptF S p).idxOf v * ph : Nat) : Int))) (Bt := isNat ph) (Ct := fun t => ∃ z : Nat, z < ph ∧ t = .d (.int (((keptF S p).idxOf v * ph + z : Nat) : Int))) hG4
        (evp_x (evx_eq (evx_I (i := ((keptF S p).idxOf v : Int)) (j := (ph : Int)) (evx_var (i := 14) rfl) (evx_var (i := 4) rfl) (wide_mul (a := 20) (b := 20) (by omega) (by omega) (by decide) (by decide) (by decide))) (by rw [Int.natCast_mul])) trivial) (take_ev (m := ph) hph (by omega) (i := 0) rfl (evx_var (i := 4) rfl) hG4) fun s t hs ⟨z, hz, ht⟩ => ⟨.d (.int (((keptF S p).idxOf v * ph + z : Nat) : Int)), ⟨z, hz, rfl⟩, trivial, fun v w H hv hw Q q => by
          subst hs ht
          obtain rfl : v = .int _ := hv
          obtain rfl : w = .int (z : Int) := hw
          refine ⟨_, (z : Int), rfl, rfl, q _ H (Same.refl H) ?_⟩
          show V.int _ = V.int _
          rw [← Int.natCast_add]⟩) evpa_nil)) σ H b I pp l Q fun ts vs H' ⟨t1, r1, q1, h1, t2, r2, q2, ⟨z, hz, h2⟩, h3⟩ ok s' p' hv => q ts vs H' ⟨[.int (y : Int), .int (((keptF S p).idxOf v * ph + z : Nat) : Int)], by rw [q1, q2, h1, h2, h3]; rfl, z, hz, rfl⟩ ok s' p' hv) fun ds ⟨z, _, e⟩ => by rw [e]; simp)
      (fun t ⟨es, e, z, hz, e2⟩ => ⟨_, e, (y, (keptF S p).idxOf v * ph + z), ⟨hy, ⟨v, hvl, hv, ?_⟩, ?_⟩, by rw [e2]⟩) fun e H5 he s5 p5 I5 => ?_
    · show ((keptF S p).idxOf v * ph + z) / ph = _
      rw [Nat.mul_comm, Nat.mul_add_div (by omega), Nat.div_eq_of_lt hz, Nat.add_zero]
    · show (keptF S p).idxOf v * ph + z < (keptF S p).length * ph
      have : ((keptF S p).idxOf v + 1) * ph ≤ (keptF S p).length * ph := Nat.mul_le_mul_right ph hil
      rw [Nat.succ_mul] at this
      omega
    · refine k e _ H5 he ?_ ((Sm.sub (by simp) s1).trans ((Sm.sub (by simp) s2).trans ((Sm.sub (by simp) s3).trans ((Sm.of s4).trans s5)))) p5
      refine EnvOk.le ?_ I5
      exact .cons (.inr rfl) (.cons (.inr rfl) (.cons (.inr rfl) (.cons (.inr rfl) (.cons (.inr rfl) (.cons (.inr rfl) (.cons (.inr rfl) (.cons (.inr rfl) (.cons (.inr rfl) (.cons (.inr rfl) (.cons (.inr rfl) (.cons (.inl rfl) (.cons (.inl rfl) (.cons (.inl rfl) (.cons (.inl rfl) .nil))))))))))))))
  · refine (evb_T (evx_inL (o := some x) (l := keepF S p (inL (keptF S p)) r g x) (evx_var (i := 11) rfl) (evx_liA (evx_var (i := 12) rfl)) rfl)) σ2 H2 I2 _ fun H3 s3 => ?_
    have I3 := I2.mono s3
    have hle : ∀ y : Nat, LeG (PGx S p pa ka sa ph ds (.d (.int (r : Int))) t8 (.d (.int (g : Int))) (.la wa cs) .u .u (.d (.int (y : Int))) .u) (PGx S p pa ka sa ph ds (.d (.int (r : Int))) t8 (.d (.int (g : Int))) (.la wa cs) (.d (.int (x : Int))) (.la la (intD (keepF S p (inL (keptF S p)) r g x))) (.d (.int (y : Int))) .u) := fun y =>
      .cons (.inr rfl) (.cons (.inr rfl) (.cons (.inr rfl) (.cons (.inr rfl) (.cons (.inr rfl) (.cons (.inr rfl) (.cons (.inr rfl) (.cons (.inr rfl) (.cons (.inr rfl) (.cons (.inr rfl) (.cons (.inr rfl) (.cons (.inl rfl) (.cons (.inl rfl) (.cons (.inr rfl) (.cons (.inr rfl) .nil))))))))))))))
    by_cases hin : x ∈ keepF S p (inL (keptF S p)) r g x
    · have e : inO (some x) (keepF S p (inL (keptF S p)) r g x) = true := decide_eq_true hin
      rw [e]
      refine iteT (evp_gt0 I3 (p2.same s3) (by omega) hG2 (take_ev (m := 3) (by decide) (by decide) (i := 0) rfl evx_int hG2) isNat_nat fun r' H4 _ s4 p4 I4 => ?_)
      by_cases hr' : 0 < r'
      · rw [decide_eq_true hr']
        refine iteT (rs_ev (t := .d (.int (x : Int))) I4 (evx_var (i := 11) rfl) fun v5 H5 s5 hv5 I5 => ?_)
        exact key _ _ ⟨x, hin, EnvOk.le (hle x) I5, (Sm.of s3).trans (s4.trans (Sm.of s5)), (p4.same s5).le (by omega)⟩
      · rw [decide_eq_false hr']
        exact iteF (rs_next (key _ _ ⟨y0, hy0, EnvOk.le (hle y0) I4, (Sm.of s3).trans s4, p4.le (by omega)⟩))
    · have e : inO (some x) (keepF S p (inL (keptF S p)) r g x) = false := decide_eq_false hin
      rw [e]
      exact iteF (iteF (rs_next (key _ _ ⟨y0, hy0, EnvOk.le (hle y0) I3, Sm.of s3, (p2.same s3).le (by omega)⟩)))
end
end Mw

namespace Mw
open PySem PySem.Spec PyProof.Rows L2
section
variable {P : Program} {w : World} {K : PySem.W.Frag} {mg : Str → Option Value} {base : Heap}
theorem mut2 {pa la : Addr} {b i : Nat} {ds : List Mw.D} {G : List T} {σ : Slots} {H : Hp} (p : PotOk pa b H) (I : EnvOk H G σ) (h : G[i]? = some (.la la ds)) : MutL [pa, la] H := fun a ha => by
  rcases List.mem_cons.mp ha with rfl | ha
  · exact p.mut a (by simp)
  · obtain rfl : a = la := by simpa using ha
    obtain ⟨_, _, _, xs, e, _⟩ := I.getv h
    exact ⟨xs, e⟩
theorem sm_new2 {pa la : Addr} {H H1 H2 : Hp} (n : H la = none) (s : Same H H1) (s2 : Sm [pa, la] H1 H2) : Sm [pa] H H2 :=
  Sm.drop n (Sm.trans (Sm.of s) (Sm.sub (fun a ha => by
    rcases List.mem_cons.mp ha with rfl | ha
    · simp
    · obtain rfl : a = la := by simpa using ha
      simp) s2))
abbrev N__law_phased : List Str := ["pot", "saying", "fees", "kept", "phases", "states", "room", "phase", "rows", "sign", "row", "wanted", "some", "given", "place"]
theorem sc__law_phased : FnScope N__law_phased ["pot", "saying", "fees", "kept"] (defScope s__law_phased) := C8.fnScope_by (by decide +kernel)

def R__law_phased (ts : List T) (At : T → Prop) : Prop := ∃ (S : Sy) (p : Pr) (ka : Addr), S.Valid ∧ PrOk S.d p ∧ 0 ∈ keptF S p ∧ ts = [.d S.D, .d (encP S.d p), .la ka (intD (keptF S p))] ∧ At = fun t => ∃ V ph, Ph S p V ph ∧ t = .d V.D
theorem cal__law_phased (F : MDef K mg "_law_phased" s__law_phased) (g : Glo mg) (c__law_take : C8.Cal P w K mg base 1 "_law_take" (spPot 1 R__law_take) []) (c__law_some : C8.Cal P w K mg base 3 "_law_some" (spNew R__law_some) []) : C8.Cal P w K mg base 4 "_law_phased" (spPot 100000 R__law_phased) [] :=
  cal_pot F sc__law_phased (fun _ _ _ _ _ _ us hl => match us, hl with | [_, _, _, _], _ => rfl) (fun ts At ⟨_, _, _, _, _, _, e, _⟩ => by rw [e]; rfl) fun f cdv A outer s H E hr ts At ⟨S, p, ka, hS, hp, h0, e1, e2⟩ => by
    subst e1 e2
    have nd := sc__law_phased.nd
    have hu := hu_of hr
    refine ⟨_, (pss_cons (ps_set (i := 4) nd rfl (Or.inl rfl) (pe_op op_add pe_int (C8.pe_c c__law_take hr (by decide) rfl (pa_cons (pv 0) (pa_cons (pe_ix (r := rIxL K) ix_list (pe_lst (pa_cons pe_int (pa_cons pe_int pa_nil))) (pe_callTy call_int1 (by rfl) g.int (by decide +kernel) (pa_cons (pe_cmpR op_gt (pe_callB (r := rLenK K) call_len_seq (by rfl) g.len PySem.boot_len (pa_cons (pv 3) pa_nil)) pe_int (nomark _)) pa_nil)) (fun _ _ => rfl)) pa_nil)))))
      (pss_cons (ps_set (i := 5) nd rfl (Or.inl rfl) (pe_lst pa_nil))
      (pss_cons (ps_for PassesOwn.never rfl (pi_listK (K := K) rfl (pv 3)) (pg_name (i := 6) nd rfl (Or.inl rfl)) (pss_one (ps_for PassesOwn.never rfl (pi_range1 rfl g.range (pa_cons (pv 4) pa_nil)) (pg_name (i := 7) nd rfl (Or.inl rfl)) (pss_cons (ps_set (i := 8) nd rfl (Or.inl rfl) (pe_lst pa_nil))
      (pss_cons (ps_for PassesOwn.never rfl (pi_range1 rfl g.range (pa_cons (pe_ix (r := rIxT K) ix_tup (pv 1) pe_int (fun _ _ => rfl)) pa_nil)) (pg_name (i := 9) nd rfl (Or.inl rfl)) (pss_cons (ps_set (i := 10) nd rfl (Or.inl rfl) (pe_lst pa_nil))
      (pss_cons (ps_for PassesOwn.never rfl (pi_range1 rfl g.range (pa_cons (pe_ix (r := rIxT K) ix_tup (pv 1) pe_int (fun _ _ => rfl)) pa_nil)) (pg_name (i := 11) nd rfl (Or.inl rfl)) (pss_cons (ps_set (i := 12) nd rfl (Or.inl rfl) (C8.pe_c c__law_some hr (by decide) rfl (pa_cons (pv 1) (pa_cons (pv 2) (pa_cons (pv 3) (pa_cons (pv 6) (pa_cons (pv 9) (pa_cons (pv 11) pa_nil))))))))
      (pss_cons (ps_set (i := 13) nd rfl (Or.inl rfl) (pe_ix (r := rIxL K) ix_list (pv 12) (C8.pe_c c__law_take hr (by decide) rfl (pa_cons (pv 0) (pa_cons (pe_callB (r := rLenK K) call_len_seq (by rfl) g.len PySem.boot_len (pa_cons (pv 12) pa_nil)) pa_nil))) (fun _ _ => rfl)))
      (pss_cons (ps_if (PW.pt (pw_and (pt_cmpR (r := rIn K false) op_in_seq (pv 11) (pv 12) rfl) (pw_and1 (pt_cmpR op_gt (C8.pe_c c__law_take hr (by decide) rfl (pa_cons (pv 0) (pa_cons pe_int pa_nil))) pe_int (nomark _))))) (pss_one (ps_set (i := 13) nd rfl (Or.inl rfl) (pv 11))) pss_nil)
      (pss_cons (ps_set (i := 14) nd rfl (Or.inl rfl) (pe_bm PySem.F.plainAttrs_list PySem.F.slot_list_index PySem.F.type_list_index mt_index (pv 3) (pa_cons (pe_ix (r := rIxT K) ix_tup (pe_ix (r := rIxT K) ix_tup (pe_ix (r := rIxT K) ix_tup (pe_ix (r := rIxT K) ix_tup (pv 1) pe_int (fun _ _ => rfl)) (pv 6) (fun _ _ => rfl)) (pv 9) (fun _ _ => rfl)) (pv 13) (fun _ _ => rfl)) pa_nil)))
      (pss_one (ps_expr (pe_bm PySem.F.plainAttrs_list PySem.F.slot_list_append PySem.F.type_list_append mt_append (pv 10) (pa_cons (pe_tup (pa_cons (pv 13) (pa_cons (pe_op op_add (pe_op op_mulW (pv 14) (pv 4)) (C8.pe_c c__law_take hr (by decide) rfl (pa_cons (pv 0) (pa_cons (pv 4) pa_nil)))) pa_nil))) pa_nil)))))))))
      (pss_one (ps_expr (pe_bm PySem.F.plainAttrs_list PySem.F.slot_list_append PySem.F.type_list_append mt_append (pv 8) (pa_cons (pe_callTy (r := rTupK K) call_tuple_of (by rfl) g.tuple (by decide +kernel) (pa_cons (pv 10) pa_nil)) pa_nil)))))))
      (pss_one (ps_expr (pe_bm PySem.F.plainAttrs_list PySem.F.slot_list_append PySem.F.type_list_append mt_append (pv 5) (pa_cons (pe_callTy (r := rTupK K) call_tuple_of (by rfl) g.tuple (by decide +kernel) (pa_cons (pv 8) pa_nil)) pa_nil)))))))))
      (pss_one (ps_ret (pe_tup (pa_cons (pe_ix (r := rIxT K) ix_tup (pv 1) pe_int (fun _ _ => rfl)) (pa_cons (pe_ix (r := rIxT K) ix_tup (pv 1) pe_int (fun _ _ => rfl)) (pa_cons (pe_callTy (r := rTupK K) call_tuple_of (by rfl) g.tuple (by decide +kernel) (pa_cons (pv 5) pa_nil)) pa_nil))))))))), ?_⟩
    intro En σ pa b I pot l ok hD
    have hkp : ka ≠ pa := okB_ne ok.2.2.1
    have okk : OkB [pa] (.la ka (intD (keptF S p))) := ok.2.2.1
    have hS' := hS
    obtain ⟨⟨q1, q2⟩, ⟨d1, d2⟩, ⟨w1, w2⟩, _⟩ := hS'
    have hkl := keptF_len S p
    have elk : (intD (keptF S p)).length = (keptF S p).length := by simp
    have I : EnvOk H [.v (.ref pa), .d S.D, .d (encP S.d p), .la ka (intD (keptF S p)), .u, .u, .u, .u, .u, .u, .u, .u, .u, .u, .u] σ := I
    have hG0 : AllB [pa] [.v (.ref pa), .d S.D, .d (encP S.d p), .la ka (intD (keptF S p)), .u, .u, .u, .u, .u, .u, .u, .u, .u, .u, .u] := ⟨trivial, trivial, trivial, okk, trivial, trivial, trivial, trivial, trivial, trivial, trivial, trivial, trivial, trivial, trivial, trivial⟩
    have hm : ∃ m : Nat, 1 ≤ m ∧ m ≤ 3 ∧ (keptF S p).length * m ≤ 100 ∧ ([Mw.D.int 3, .int 1] : List Mw.D)[(if decide ((33 : Int) < ((intD (keptF S p)).length : Int)) then (1 : Int) else 0).toNat]? = some (.int (m : Int)) := by
      rw [elk]
      by_cases h : 33 < (keptF S p).length
      · exact ⟨1, by omega, by omega, by omega, by rw [decide_eq_true (by omega)]; rfl⟩
      · exact ⟨3, by omega, by omega, by omega, by rw [decide_eq_false (by omega)]; rfl⟩
    obtain ⟨m, m1, m2, m3, m4⟩ := hm
    refine rss_evP (At := IsR m) (c := 1) I pot (by omega) hG0 (evp_1take (m := m) (hi := m) m1 (Nat.le_refl _) (by omega) (i := 0) rfl hG0 (evx_ixL (i := if decide ((33 : Int) < ((intD (keptF S p)).length : Int)) then (1 : Int) else 0) (evx_lst (ds := [.int 3, .int 1]) (eva_cons evx_int (eva_cons evx_int eva_nil))) (evx_intB (eva_cons (evx_I0b (evx_lenL (eva_cons (evx_liA (evx_var (i := 3) rfl)) eva_nil)) evx_int rfl) eva_nil)) (by split <;> omega) m4)) fun t v1 H1 ⟨ph, p1, p2, e⟩ _ sm1 pot1 hv1 I1 => ?_
    subst e
    have hn100 : (keptF S p).length * ph ≤ 100 := Nat.le_trans (Nat.mul_le_mul_left _ p2) m3
    refine rss_nil I1 fun sa H2 n2 s2 I2 => ?_
    have I2 : EnvOk H2 (PGx S p pa ka sa ph [] .u .u .u .u .u .u .u .u) _ := I2
    have pot2 := pot1.same s2
    have hsp : sa ≠ pa := Ne.symm (pot_ne pot1 n2)
    have hks : ka ≠ sa := fresh_ne (i := 3) I1 rfl n2
    have hrow : S.d * 3 ≤ 27 := by omega
    have hst : S.s * (S.d * 3) ≤ 243 := by
      have := Nat.mul_le_mul q2 hrow
      omega
    have hroom : ∀ i j : Nat, i ≤ (keptF S p).length → j ≤ ph → i * (ph * (S.s * (S.d * 3))) + j * (S.s * (S.d * 3)) ≤ 60000 := fun i j hi hj => by
      have h1 : i * (ph * (S.s * (S.d * 3))) ≤ 24300 := by
        have h2 : i * (ph * (S.s * (S.d * 3))) = (i * ph) * (S.s * (S.d * 3)) := (Nat.mul_assoc _ _ _).symm
        have h3 : i * ph ≤ (keptF S p).length * ph := Nat.mul_le_mul_right _ hi
        have h4 : (i * ph) * (S.s * (S.d * 3)) ≤ 100 * 243 := Nat.mul_le_mul (by omega) hst
        omega
      have h5 : j * (S.s * (S.d * 3)) ≤ 3 * 243 := Nat.mul_le_mul (by omega) hst
      omega
    generalize hcs : S.s * (S.d * 3) = cs' at hst hroom
    refine rss_forB (A := [pa, sa]) I2 (mut2 (i := 5) pot2 I2 rfl) (itb_list (ds := intD (keptF S p)) (evx_var (i := 3) rfl) (by simp [hkp, hks])) fun H3 s3 => ⟨fun i σ' H' => ∃ ds : List Mw.D, ds.length = i * ph ∧ (∀ (f : Nat) e, ds[f]? = some e → StateP S p ph ((keptF S p).getD (f / ph) 0) e) ∧ EnvOk H' (PGx S p pa ka sa ph ds .u .u .u .u .u .u .u .u) σ' ∧ Sm [pa, sa] H3 H' ∧ PotOk pa (b + 1 + i * (ph * cs')) H',
      ⟨[], by simp, fun f e h => by simp at h, I2.mono s3, Sm.refl _ _, by simpa using pot2.same s3⟩, fun i σ' H' ⟨_, _, _, _, h, _⟩ => h, ?_, ?_⟩
    · rintro i t σ' H' H4 x hi ⟨d', hd', rfl⟩ ⟨ds, hl, hds, I4, sm4, pot4⟩ s4 hx
      obtain ⟨hi', rfl⟩ := map_at (d := 0) hd'
      have hrm := getD_mem (d := 0) hi'
      generalize hrr : (keptF S p).getD i 0 = r at hrm hx
      refine tg_name σ' H4 (I4.mono s4) x hx _ fun σ5 I5 _ => ?_
      have I5 : EnvOk H4 (PGx S p pa ka sa ph ds (.d (.int (r : Int))) .u .u .u .u .u .u .u) σ5 := I5
      have pot5 := pot4.same s4
      refine rs_forB (A := [pa, sa]) I5 (mut2 (i := 5) pot5 I5 rfl) (itT_rngN (n := ph) (eva_cons (evx_var (i := 4) rfl) eva_nil) (by omega)).b fun H6 s6 => ⟨fun j σ' H' => ∃ ds : List Mw.D, ds.length = i * ph + j ∧ (∀ (f : Nat) e, ds[f]? = some e → StateP S p ph ((keptF S p).getD (f / ph) 0) e) ∧ EnvOk H' (PGx S p pa ka sa ph ds (.d (.int (r : Int))) .u .u .u .u .u .u .u) σ' ∧ Sm [pa, sa] H6 H' ∧ PotOk pa (b + 1 + i * (ph * cs') + j * cs') H',
        ⟨ds, by omega, hds, I5.mono s6, Sm.refl _ _, by simpa using pot5.same s6⟩, fun j σ' H' ⟨_, _, _, _, h, _⟩ => h, ?_, ?_⟩
      · rintro j t σ' H' H7 x hj rfl ⟨ds, hl, hds, I7, sm7, pot7⟩ s7 hx
        refine tg_name σ' H7 (I7.mono s7) x hx _ fun σ8 I8 _ => ?_
        have I8 : EnvOk H7 (PGx S p pa ka sa ph ds (.d (.int (r : Int))) .u .u .u .u .u .u .u) σ8 := EnvOk.le (.cons (.inr rfl) (.cons (.inr rfl) (.cons (.inr rfl) (.cons (.inr rfl) (.cons (.inr rfl) (.cons (.inr rfl) (.cons (.inr rfl) (.cons (.inl rfl) (.cons (.inr rfl) (.cons (.inr rfl) (.cons (.inr rfl) (.cons (.inr rfl) (.cons (.inr rfl) (.cons (.inr rfl) (.cons (.inr rfl) .nil))))))))))))))) I8
        have hr0 := hroom i (j + 1) (by omega) hj
        have hsj : (j + 1) * cs' = j * cs' + cs' := Nat.succ_mul _ _
        have pot8 := pot7.same s7
        refine rss_nil I8 fun ra H9 n9 s9 I9 => ?_
        have I9 : EnvOk H9 (PGx S p pa ka sa ph ds (.d (.int (r : Int))) (.la ra []) .u .u .u .u .u .u) _ := I9
        have pot9 := pot8.same s9
        have hrp : ra ≠ pa := Ne.symm (pot_ne pot8 n9)
        have hkr : ka ≠ ra := fresh_ne (i := 3) I8 rfl n9
        have hsr : sa ≠ ra := fresh_ne (i := 5) I8 rfl n9
        refine rss_forB (A := [pa, ra]) I9 (mut2 (i := 8) pot9 I9 rfl) (itT_rngN (n := S.s) (eva_cons (evx_ixTn (i := 0) (evx_var (i := 1) rfl) evx_int rfl) eva_nil) (by omega)).b fun H10 s10 => ⟨fun gn σ' H' => ∃ rs : List Mw.D, rs.length = gn ∧ (∀ (i : Nat) e, rs[i]? = some e → RowP S p ph r i e) ∧ EnvOk H' (PGx S p pa ka sa ph ds (.d (.int (r : Int))) (.la ra rs) .u .u .u .u .u .u) σ' ∧ Sm [pa, ra] H10 H' ∧ PotOk pa (b + 1 + i * (ph * cs') + j * cs' + gn * (S.d * 3)) H',
          ⟨[], rfl, fun i e h => by simp at h, I9.mono s10, Sm.refl _ _, by simpa using pot9.same s10⟩, fun j σ' H' ⟨_, _, _, _, h, _⟩ => h, ?_, ?_⟩
        · rintro gn t σ' H' H11 x hgn rfl ⟨rs, hrl, hrs, I11, sm11, pot11⟩ s11 hx
          refine tg_name σ' H11 (I11.mono s11) x hx _ fun σ12 I12 _ => ?_
          have pot12 := pot11.same s11
          have hgc : (gn + 1) * (S.d * 3) ≤ cs' := by rw [← hcs]; exact Nat.mul_le_mul_right _ hgn
          have hgs : (gn + 1) * (S.d * 3) = gn * (S.d * 3) + S.d * 3 := Nat.succ_mul _ _
          refine rss_nil I12 fun wa H13 n13 s13 I13 => ?_
          have I13 : EnvOk H13 (PGx S p pa ka sa ph ds (.d (.int (r : Int))) (.la ra rs) (.d (.int (gn : Int))) (.la wa []) .u .u .u .u) _ := I13
          have pot13 := pot12.same s13
          have hwp : wa ≠ pa := Ne.symm (pot_ne pot12 n13)
          have hkw : ka ≠ wa := fresh_ne (i := 3) I12 rfl n13
          have hsw : sa ≠ wa := fresh_ne (i := 5) I12 rfl n13
          have hrw : ra ≠ wa := fresh_ne (i := 8) I12 rfl n13
          refine rss_forB (A := [pa, wa]) I13 (mut2 (i := 10) pot13 I13 rfl) (itT_rngN (n := S.d) (eva_cons (evx_ixTn (i := 1) (evx_var (i := 1) rfl) evx_int rfl) eva_nil) (by omega)).b fun H14 s14 => ⟨fun xn σ' H' => ∃ cs : List Mw.D, cs.length = xn ∧ (∀ (i : Nat) e, cs[i]? = some e → ∃ q, CellP S p ph r gn i q ∧ e = pairD q) ∧ EnvOk H' (PGx S p pa ka sa ph ds (.d (.int (r : Int))) (.la ra rs) (.d (.int (gn : Int))) (.la wa cs) .u .u .u .u) σ' ∧ Sm [pa, wa] H14 H' ∧ PotOk pa (b + 1 + i * (ph * cs') + j * cs' + gn * (S.d * 3) + xn * 3) H',
            ⟨[], rfl, fun i e h => by simp at h, I13.mono s14, Sm.refl _ _, by simpa using pot13.same s14⟩, fun j σ' H' ⟨_, _, _, _, h, _⟩ => h, ?_, ?_⟩
          · rintro xn t σ' H' H15 x hxn rfl ⟨cs, hcl, hcc, I15, sm15, pot15⟩ s15 hx
            refine tg_name σ' H15 (I15.mono s15) x hx _ fun σ16 I16 _ => ?_
            exact phased_cell (b := b + 1 + i * (ph * cs') + j * cs' + gn * (S.d * 3) + xn * 3) trivial hp hS hrm hgn hxn p1 (by omega) hkp hsp hkw hsw hwp (by simpa [OkB] using hrp) (by simpa [OkB] using hrw) (by omega) I16 (pot15.same s15) (by omega) fun e σ17 H17 he I17 sm17 pot17 =>
              ⟨cs ++ [e], by rw [List.length_append, hcl]; rfl, snoc_all hcl hcc he, I17, sm15.trans ((Sm.of s15).trans sm17), by
                have : (xn + 1) * 3 = xn * 3 + 3 := by omega
                rw [this, ← Nat.add_assoc]
                exact pot17⟩
          · rintro σ' H' ⟨cs, hcl, hcc, I15, sm15, pot15⟩
            refine rs_app (la := ra) (j := 8) (G1 := PGx S p pa ka sa ph ds (.d (.int (r : Int))) (.la ra rs) .u .u .u .u .u .u) (ds := rs) (d := .tup cs) I15 (evx_tuple (eva_cons (evx_liA (evx_var (i := 10) rfl)) eva_nil)) (.cons (.inr rfl) (.cons (.inr rfl) (.cons (.inr rfl) (.cons (.inr rfl) (.cons (.inr rfl) (.cons (.inr rfl) (.cons (.inr rfl) (.cons (.inr rfl) (.cons (.inr rfl) (.cons (.inl rfl) (.cons (.inl rfl) (.cons (.inr rfl) (.cons (.inr rfl) (.cons (.inr rfl) (.cons (.inr rfl) .nil))))))))))))))) rfl ⟨trivial, trivial, trivial, by simpa [OkB] using hkr, trivial, by simpa [OkB] using hsr, trivial, trivial, trivial, trivial, trivial, trivial, trivial, trivial, trivial, trivial⟩ (by omega) fun H16 s16 I16 => ?_
            refine ⟨rs ++ [Mw.D.tup cs], by rw [List.length_append, hrl]; rfl, snoc_all hrl hrs (rowP_of hcl hcc), I16, sm11.trans ((Sm.of s11).trans ((Sm.sub (by simp) (sm_new2 n13 (s13.trans s14) sm15)).trans (Sm.sub (by simp) s16))), ?_⟩
            refine (pot15.sm s16 (by simpa using Ne.symm hrp)).le (by rw [hgs]; omega)
        · rintro σ' H' ⟨rs, hrl, hrs, I11, sm11, pot11⟩
          refine rs_app (la := sa) (j := 5) (G1 := PGx S p pa ka sa ph ds (.d (.int (r : Int))) .u .u .u .u .u .u .u) (ds := ds) (d := .tup rs) I11 (evx_tuple (eva_cons (evx_liA (evx_var (i := 8) rfl)) eva_nil)) (.cons (.inr rfl) (.cons (.inr rfl) (.cons (.inr rfl) (.cons (.inr rfl) (.cons (.inr rfl) (.cons (.inr rfl) (.cons (.inr rfl) (.cons (.inr rfl) (.cons (.inl rfl) (.cons (.inr rfl) (.cons (.inr rfl) (.cons (.inr rfl) (.cons (.inr rfl) (.cons (.inr rfl) (.cons (.inr rfl) .nil))))))))))))))) rfl ⟨trivial, trivial, trivial, by simpa [OkB] using hks, trivial, trivial, trivial, trivial, trivial, trivial, trivial, trivial, trivial, trivial, trivial, trivial⟩ (by
            have : i * ph + j < 100 := by
              have h3 : (i + 1) * ph ≤ (keptF S p).length * ph := Nat.mul_le_mul_right _ hi'
              rw [Nat.succ_mul] at h3
              omega
            omega) fun H16 s16 I16 => ?_
          have hf : (i * ph + j) / ph = i := by
            rw [Nat.mul_comm, Nat.mul_add_div (by omega), Nat.div_eq_of_lt hj, Nat.add_zero]
          refine ⟨ds ++ [Mw.D.tup rs], by rw [List.length_append, hl]; rfl, snoc_all hl hds (by rw [hf, hrr]; exact stateP_of hrl hrs), I16, sm7.trans ((Sm.of s7).trans ((Sm.sub (by simp) (sm_new2 n9 (s9.trans s10) sm11)).trans (Sm.sub (by simp) s16))), ?_⟩
          refine (pot11.sm s16 (by simpa using Ne.symm hsp)).le ?_
          rw [hcs]
          omega
      · rintro σ' H' ⟨ds, hl, hds, I7, sm7, pot7⟩
        refine ⟨ds, by rw [hl, Nat.succ_mul], hds, EnvOk.le (.cons (.inr rfl) (.cons (.inr rfl) (.cons (.inr rfl) (.cons (.inr rfl) (.cons (.inr rfl) (.cons (.inr rfl) (.cons (.inl rfl) (.cons (.inr rfl) (.cons (.inr rfl) (.cons (.inr rfl) (.cons (.inr rfl) (.cons (.inr rfl) (.cons (.inr rfl) (.cons (.inr rfl) (.cons (.inr rfl) .nil))))))))))))))) I7, sm4.trans ((Sm.of (s4.trans s6)).trans sm7), pot7.le ?_⟩
        rw [Nat.succ_mul]
        omega
    · rintro σ' H' ⟨ds, hl, hds, I4, sm4, pot4⟩
      rw [elk] at hl pot4
      have hr0 := hroom (keptF S p).length 0 (Nat.le_refl _) (Nat.zero_le _)
      obtain ⟨V, hV, eV⟩ := ph_of hS h0 p1 hn100 hl hds
      refine rs_ret ((evx_tup (ds := [_, _, _]) (eva_cons (evx_ixTn (i := 0) (evx_var (i := 1) rfl) evx_int rfl) (eva_cons (evx_ixTn (i := 1) (evx_var (i := 1) rfl) evx_int rfl) (eva_cons (evx_tuple (ds := ds) (eva_cons (evx_liA (evx_var (i := 5) rfl)) eva_nil)) eva_nil)))) σ' H' I4 _ fun v H5 s5 hv => ?_)
      rw [eV] at hv
      exact hD (.d V.D) v H5 ⟨V, ph, hV, rfl⟩ trivial (sm1.trans ((sm_new2 n2 (s2.trans s3) sm4).trans (Sm.of s5))) ((pot4.same s5).le (by omega)) hv
end
end Mw

namespace Mw
open PySem PySem.Spec PyProof.Rows L2
section
variable {P : Program} {w : World} {K : PySem.W.Frag} {mg : Str → Option Value} {base : Heap} {G : List T} {ta tb' te tl : TE} {a ta' : TA} {pa : Addr} {c c1 c2 : Nat} {At Bt : T → Prop} {D : Ends} {σ : Slots} {H : Hp} {u t1 t2 : TS} {tt : TT}
/-- a call of a pure def whose arguments are taken -/
theorem evp_callX {R : List T → T → Prop} {E : XK} {As : List T → Prop} {t0 : T} (h : EvPA pa c G a As) (ok : OkB [pa] t0) (k : ∀ ts, As ts → ∃ ts', R ts' t0 ∧ ∀ vs H, IsL H ts vs → IsL H ts' vs) : EvP pa c G (tCall (spX R) [] E a) (fun t => t = t0) := fun σ H b I p l Q q =>
  h σ H b I p l _ fun ts vs H1 hts okt s1 p1 hvs => by
    obtain ⟨ts', hR, hx⟩ := k ts hts
    show spX R (vs ++ []) H1 Q E
    rw [List.append_nil]
    exact ⟨ts', t0, hR, hx vs H1 hvs, fun v H2 s2 hv => q t0 v H2 rfl ok (s1.trans (Sm.of s2)) (p1.same s2) hv⟩
/-- if not ..: where .. is true -/
theorem rss_notP {b : Nat} (I : EnvOk H G σ) (p : PotOk pa b H) (l : b + c ≤ BB) (hG : AllB [pa] G) (h : EvP pa c G te (fun t => t = .d (.bl true))) (k : ∀ H1, Sm [pa] H H1 → PotOk pa (b + c) H1 → EnvOk H1 G σ → u D σ H1) : tSeq (tIfS (tNot (tB te)) t1 tNext) u D σ H :=
  h σ H b I p l _ fun t v H1 ht ok s p1 hv => by
    subst ht
    obtain rfl : v = .bl true := hv
    exact ⟨true, rfl, iteF (k H1 s p1 (I.monoB s p.mut hG))⟩
theorem rs_notP {b : Nat} (I : EnvOk H G σ) (p : PotOk pa b H) (l : b + c ≤ BB) (hG : AllB [pa] G) (h : EvP pa c G te (fun t => t = .d (.bl true))) (k : ∀ H1, Sm [pa] H H1 → PotOk pa (b + c) H1 → EnvOk H1 G σ → D.nx σ H1) : tIfS (tNot (tB te)) t1 tNext D σ H :=
  h σ H b I p l _ fun t v H1 ht ok s p1 hv => by
    subst ht
    obtain rfl : v = .bl true := hv
    exact ⟨true, rfl, iteF (k H1 s p1 (I.monoB s p.mut hG))⟩
theorem rs_forP {g : TG} {A : List Mw.D → Prop} {b : Nat} (I : EnvOk H G σ) (p : PotOk pa b H) (l : b + c ≤ BB) (hG : AllB [pa] G) (h : EvP pa c G tl (fun t => ∃ la ds, t = .la la ds ∧ A ds))
    (k : ∀ la ds xs H1, A ds → Sm [pa] H H1 → PotOk pa (b + c) H1 → EnvOk H1 G σ → H1 la = some (.lst xs) → DvL H1 ds xs → ∃ Pv : Nat → Slots → Hp → Prop, Pv 0 σ H1 ∧ (∀ i σ' H', Pv i σ' H' → H' la = some (.lst xs) ∧ TupX H1 H') ∧
      (∀ i d x σ' H', ds[i]? = some d → Pv i σ' H' → Dv H' d x → g x σ' H' fun σ3 H3 => t1 { D with nx := Pv (i + 1), ct := Pv (i + 1), bk := D.nx } σ3 H3) ∧ ∀ σ' H', Pv ds.length σ' H' → D.nx σ' H') : tFor (iList K tl) g t1 D σ H :=
  h σ H b I p l _ fun t v H1 ⟨la, ds, e, hd⟩ ok s p1 hv => by
    subst e
    obtain ⟨rfl, xs, e1, e2⟩ := hv
    exact wk_list e1 e2 (k la ds xs H1 hd s p1 (I.monoB s p.mut hG) e1 e2)
theorem div_lt' {f n ph : Nat} (hf : f < n * ph) : f / ph < n := Nat.div_lt_of_lt_mul (by rw [Nat.mul_comm]; exact hf)
abbrev N__law_least_right : List Str := ["pot", "saying", "fees", "kept", "least", "turns", "turn", "other", "told", "run"]
theorem sc__law_least_right : FnScope N__law_least_right ["pot", "saying", "fees", "kept", "least", "turns"] (defScope s__law_least_right) := C8.fnScope_by (by decide +kernel)

def R__law_least_right (ts : List T) (At : T → Prop) : Prop := ∃ (S : Sy) (p : Pr) (ka : Addr) (n : Nat), S.Valid ∧ PrOk S.d p ∧ 0 ∈ keptF S p ∧ n ≤ 2 ∧ ts = [.d S.D, .d (encP S.d p), .la ka (intD (keptF S p)), .d (milS S p).D, .d (.int (n : Int))] ∧ At = fun t => t = .d (.bl true)
def LS (S : Sy) (p : Pr) (pa ka : Addr) (n : Nat) (t7 t8 : T) : List T := [.v (.ref pa), .d S.D, .d (encP S.d p), .la ka (intD (keptF S p)), .d (milS S p).D, .d (.int (n : Int)), .u, t7, t8, .u]
theorem cal__law_least_right (F : MDef K mg "_law_least_right" s__law_least_right) (g : Glo mg) (c__law_phased : C8.Cal P w K mg base 4 "_law_phased" (spPot 100000 R__law_phased) []) (c_milder : C8.Cal P w K mg base 7 "milder" spMilder []) (c__law_right : C8.Cal P w K mg base 4 "_law_right" (spX R__law_right) []) (c__law_run : C8.Cal P w K mg base 2 "_law_run" (spPot 100 R__law_run) []) (c__law_let_run : C8.Cal P w K mg base 2 "_law_let_run" (spPot 200 R__law_let_run) [])
    (c__law_never_later : C8.Cal P w K mg base 2 "_law_never_later" (spX R__law_never_later) []) (c__law_mended_right : C8.Cal P w K mg base 2 "_law_mended_right" (spX R__law_mended_right) []) : C8.Cal P w K mg base 8 "_law_least_right" (spPot 300000 R__law_least_right) [] :=
  cal_pot F sc__law_least_right (fun _ _ _ _ _ _ us hl => match us, hl with | [_, _, _, _, _, _], _ => rfl) (fun ts At ⟨_, _, _, _, _, _, _, _, e, _⟩ => by rw [e]; rfl) fun f cdv A outer s H E hr ts At ⟨S, p, ka, n, hS, hp, h0, hn, e1, e2⟩ => by
    subst e1 e2
    have nd := sc__law_least_right.nd
    have hu := hu_of hr
    refine ⟨_, (pss_cons (ps_for PassesOwn.never rfl (pi_range1 rfl g.range (pa_cons (pv 5) pa_nil)) (pg_name (i := 6) nd rfl (Or.inl rfl)) (pss_cons (ps_set (i := 7) nd rfl (Or.inl rfl) (C8.pe_c c__law_phased hr (by decide) rfl (pa_cons (pv 0) (pa_cons (pv 1) (pa_cons (pv 2) (pa_cons (pv 3) pa_nil))))))
      (pss_cons (ps_set (i := 8) nd rfl (Or.inl rfl) (C8.pe_c c_milder hr (by decide) rfl (pa_cons (pv 4) (pa_cons (pv 7) pa_nil))))
      (pss_cons (ps_if (PW.pt (pw_or (pt_cmpR op_ne (pe_ix (r := rIxT K) ix_tup (pv 8) pe_int (fun _ _ => rfl)) pe_str (nomark _)) (pw_or1 (pt_not (pt_val (C8.pe_c c__law_right hr (by decide) rfl (pa_cons (pv 4) (pa_cons (pv 7) (pa_cons (pv 8) pa_nil))))))))) (pss_one (ps_ret pe_bl)) pss_nil)
      (pss_one (ps_for PassesOwn.never rfl (pi_listK (K := K) rfl (pe_lst (pa_cons (C8.pe_c c__law_run hr (by decide) rfl (pa_cons (pv 0) (pa_cons (pe_ix (r := rIxT K) ix_tup (pv 1) pe_int (fun _ _ => rfl)) (pa_cons (pe_ix (r := rIxT K) ix_tup (pv 1) pe_int (fun _ _ => rfl)) (pa_cons pe_int pa_nil))))) (pa_cons (C8.pe_c c__law_let_run hr (by decide) rfl (pa_cons (pv 0) (pa_cons (pv 7) (pa_cons pe_int pa_nil)))) pa_nil)))) (pg_name (i := 9) nd rfl (Or.inl rfl)) (pss_cons (ps_if (pt_not (pt_val (C8.pe_c c__law_never_later hr (by decide) rfl (pa_cons (pv 1) (pa_cons (pv 2) (pa_cons (pv 4) (pa_cons (pv 7) (pa_cons (pv 9) pa_nil)))))))) (pss_one (ps_ret pe_bl)) pss_nil)
      (pss_one (ps_if (pt_not (pt_val (C8.pe_c c__law_mended_right hr (by decide) rfl (pa_cons (pv 1) (pa_cons (pv 2) (pa_cons (pv 3) (pa_cons (pv 4) (pa_cons (pv 9) pa_nil)))))))) (pss_one (ps_ret pe_bl)) pss_nil)))))))))
      (pss_one (ps_ret pe_bl))), ?_⟩
    intro En σ pa b I pot l ok hD
    have okk : OkB [pa] (.la ka (intD (keptF S p))) := ok.2.2.1
    have hW := mil_valid hS h0
    have I : EnvOk H (LS S p pa ka n .u .u) σ := I
    have hGs : ∀ d8 : T, OkB [pa] d8 → ∀ d7 : T, OkB [pa] d7 → AllB [pa] (LS S p pa ka n d7 d8) := fun d8 h8 d7 h7 => ⟨trivial, trivial, trivial, okk, trivial, trivial, trivial, h7, h8, trivial, trivial⟩
    refine rss_forB (A := [pa]) I pot.mut (itT_rngN (n := n) (eva_cons (evx_var (i := 5) rfl) eva_nil) (by omega)).b fun H1 s1 => ⟨fun i σ' H' => EnvOk H' (LS S p pa ka n .u .u) σ' ∧ Sm [pa] H1 H' ∧ PotOk pa (b + i * 100300) H', ⟨I.mono s1, Sm.refl _ _, by simpa using pot.same s1⟩, fun i σ' H' h => h.2.1, ?_, ?_⟩
    · rintro i t σ' H' H2 x hi rfl ⟨I2, sm2, pot2⟩ s2 hx
      refine tg_name σ' H2 (I2.mono s2) x hx _ fun σ3 I3 _ => ?_
      have I3 : EnvOk H2 (LS S p pa ka n .u .u) σ3 := EnvOk.le (.cons (.inr rfl) (.cons (.inr rfl) (.cons (.inr rfl) (.cons (.inr rfl) (.cons (.inr rfl) (.cons (.inr rfl) (.cons (.inl rfl) (.cons (.inr rfl) (.cons (.inr rfl) (.cons (.inr rfl) .nil)))))))))) I3
      have hG3 := hGs .u trivial .u trivial
      have pot3 := pot2.same s2
      refine rss_evP (At := fun t => ∃ V ph, Ph S p V ph ∧ t = .d V.D) (c := 100000) I3 pot3 (by omega) hG3 (evp_call (c1 := 0) (c := 100000) (i := 0) rfl (evpa_cons (c1 := 0) (c2 := 0) hG3 (evp_x (evx_var (i := 1) rfl) trivial) (evpa_cons (c1 := 0) (c2 := 0) hG3 (evp_x (evx_var (i := 2) rfl) trivial) (evpa_cons (c1 := 0) (c2 := 0) hG3 (evp_x (evx_var (i := 3) rfl) okk) evpa_nil))) fun ts ⟨t1, r1, q1, h1, t2, r2, q2, h2, t3, r3, q3, h3, h4⟩ => ⟨S, p, ka, hS, hp, h0, by rw [q1, q2, q3, h1, h2, h3, h4], rfl⟩) fun t v4 H4 ⟨V, ph, hV, e⟩ _ sm4 pot4 hv4 I4 => ?_
      subst e
      have I4 : EnvOk H4 (LS S p pa ka n (.d V.D) .u) _ := I4
      refine rss_set ((eva_cons (evx_var (i := 4) (t := .d (milS S p).D) rfl) (eva_cons (evx_var (i := 7) (t := .d V.D) rfl) eva_nil)) _ _ I4 _ fun vs H5 s5 hvs => ?_)
      rw [List.append_nil]
      refine ⟨milS S p, V, fun a' b' => b' < V.n ∧ a' = b' / ph, hW, hV.v, hV.s.symm, hV.d.symm, ⟨hV.v.2.2.1.1, (Nat.zero_div ph).symm⟩, fun a' b' ⟨h1, h2⟩ => ⟨?_, h1⟩, fun a' b' gn x ⟨h1, h2⟩ hg hx hl => ?_, hvs, fun v6 H6 ps s6 hv6 hpw h00 hb hcl hlen => ?_⟩
      · rw [h2]
        have : b' < (keptF S p).length * ph := by rw [← hV.n]; exact h1
        exact div_lt' this
      · obtain ⟨z1, z2⟩ := ph_both hp hV h1 hg hx hl
        rw [h2]
        exact ⟨z1, (hV.v.2.2.2 b' gn x h1 (by rw [hV.s]; exact hg) (by rw [hV.d]; exact hx)).2, z2⟩
      have I6 := ((I4.mono s5).mono s6).setv (t := .d (.tup [.str "milder", .tup (ps.map pairD)])) 8 hv6
      have I6 : EnvOk H6 (LS S p pa ka n (.d V.D) (.d (.tup [.str "milder", .tup (ps.map pairD)]))) _ := I6
      have hG6 := hGs (.d (.tup [.str "milder", .tup (ps.map pairD)])) trivial (.d V.D) trivial
      have pot6 := (pot4.same s5).same s6
      refine rss_if0 I6 (b := false) (evb_or (x := false) (y := false) (evb_T (evx_neS (evx_ixTn (i := 0) (evx_var (i := 8) rfl) evx_int rfl) evx_str (by simp))) fun _ => evb_not (x := true) (evb_B (evx_call (eva_cons (evx_var (i := 4) rfl) (eva_cons (evx_var (i := 7) rfl) (eva_cons (evx_var (i := 8) rfl) eva_nil))) ⟨milS S p, V, ps, hW, hV.v, hV.s.symm, hV.d.symm, hpw, h00, hb, hcl, hlen, rfl, rfl⟩))) (fun h => nomatch h) fun _ H7 s7 I7 => ?_
      have pot7 := pot6.same s7
      have hci : (i + 1) * 100300 ≤ 2 * 100300 := Nat.mul_le_mul_right _ (by omega)
      refine rs_forP (c := 300) (A := fun ds => ∀ d ∈ ds, ∃ run : List (Nat × Nat), RunOk S.s S.d run ∧ run.length ≤ 50 ∧ d = .tup (run.map pairD)) I7 pot7 (by omega) hG6 (EvP.imp (evp_lst (As := fun ds => ds.length ≤ 2 ∧ ∀ d ∈ ds, ∃ run : List (Nat × Nat), RunOk S.s S.d run ∧ run.length ≤ 50 ∧ d = .tup (run.map pairD)) (c := 300) (fun σ H b I pp l Q q => (evpa_cons (c1 := 100) (c2 := 200) hG6
        (evp_call (At := RunIs S.s S.d 50) (c1 := 0) (c := 100) (i := 0) rfl (evpa_cons (c1 := 0) (c2 := 0) hG6 (evp_x (evx_ixTn (i := 0) (evx_var (i := 1) rfl) evx_int rfl) trivial) (evpa_cons (c1 := 0) (c2 := 0) hG6 (evp_x (evx_ixTn (i := 1) (evx_var (i := 1) rfl) evx_int rfl) trivial) (evpa_cons (c1 := 0) (c2 := 0) hG6 (evp_x evx_int trivial) evpa_nil))) fun ts ⟨t1, r1, q1, h1, t2, r2, q2, h2, t3, r3, q3, h3, h4⟩ => ⟨S.s, S.d, 12, hS.1.1, hS.1.2, hS.2.1.1, hS.2.1.2, by decide, by rw [q1, q2, q3, h1, h2, h3, h4]; rfl, rfl⟩)
        (evpa_cons (c1 := 200) (c2 := 0) hG6 (evp_call (At := RunIs V.s V.d 50) (c1 := 0) (c := 200) (i := 0) rfl (evpa_cons (c1 := 0) (c2 := 0) hG6 (evp_x (evx_var (i := 7) rfl) trivial) (evpa_cons (c1 := 0) (c2 := 0) hG6 (evp_x evx_int trivial) evpa_nil)) fun ts ⟨t1, r1, q1, h1, t2, r2, q2, h2, h3⟩ => ⟨V, 20, hV.v, by decide, by rw [q1, q2, h1, h2, h3]; rfl, rfl⟩) evpa_nil)) σ H b I pp l Q fun ts vs H' ⟨t1, r1, q1, ⟨ra, ha1, ha2, ha3⟩, t2, r2, q2, ⟨rb, hb1, hb2, hb3⟩, h3⟩ ok s' p' hv => q ts vs H' ⟨[.tup (ra.map pairD), .tup (rb.map pairD)], by rw [q1, q2, ha3, hb3, h3]; rfl, by simp, fun d hd => (by
        rcases List.mem_cons.mp hd with rfl | hd
        · exact ⟨ra, ha1, ha2, rfl⟩
        · obtain rfl := List.mem_singleton.mp hd
          exact ⟨rb, by rw [← hV.s, ← hV.d]; exact hb1, hb2, rfl⟩)⟩ ok s' p' hv) fun ds h => Nat.le_trans h.1 (by decide)) (Nat.le_refl _) fun t ⟨la, ds, e, h⟩ => ⟨la, ds, e, h.2⟩) fun la ds xs H8 hds sm8 pot8 I8 hla hxs => ?_
      refine ⟨fun i σ' H' => EnvOk H' (LS S p pa ka n (.d V.D) (.d (.tup [.str "milder", .tup (ps.map pairD)]))) σ' ∧ Same H8 H', ⟨I8, Same.refl _⟩, fun i σ' H' ⟨_, s⟩ => ⟨s _ _ hla, TupX.of s⟩, ?_, ?_⟩
      · rintro j d x σ' H' hd ⟨I9, s9⟩ hx
        obtain ⟨run, hr1, hr2, rfl⟩ := hds d (List.mem_of_getElem? hd)
        refine tg_name σ' H' I9 x (show Is H' (.d (.tup (run.map pairD))) x from hx) _ fun σ10 I10 _ => ?_
        have I10 : EnvOk H' [.v (.ref pa), .d S.D, .d (encP S.d p), .la ka (intD (keptF S p)), .d (milS S p).D, .d (.int (n : Int)), .u, .d V.D, .d (.tup [.str "milder", .tup (ps.map pairD)]), .d (.tup (run.map pairD))] σ10 := I10
        refine rss_if0 I10 (b := false) (evb_not (x := true) (evb_B (evx_call (eva_cons (evx_var (i := 1) rfl) (eva_cons (evx_var (i := 2) rfl) (eva_cons (evx_var (i := 4) rfl) (eva_cons (evx_var (i := 7) rfl) (eva_cons (evx_var (i := 9) rfl) eva_nil))))) ⟨S, p, V, ph, run, hS, hp, h0, hV, hr1, by omega, rfl, rfl⟩))) (fun h => nomatch h) fun _ H11 s11 I11 => ?_
        refine rs_evif I11 (b := false) (evb_not (x := true) (evb_B (evx_call (eva_cons (evx_var (i := 1) rfl) (eva_cons (evx_var (i := 2) rfl) (eva_cons (evx_liA (evx_var (i := 3) rfl)) (eva_cons (evx_var (i := 4) rfl) (eva_cons (evx_var (i := 9) rfl) eva_nil))))) ⟨S, p, run, hS, hp, h0, hr1, by omega, rfl, rfl⟩))) (fun h => nomatch h) fun _ H12 s12 I12 => ?_
        exact rs_next ⟨EnvOk.le (.cons (.inr rfl) (.cons (.inr rfl) (.cons (.inr rfl) (.cons (.inr rfl) (.cons (.inr rfl) (.cons (.inr rfl) (.cons (.inr rfl) (.cons (.inr rfl) (.cons (.inr rfl) (.cons (.inl rfl) .nil)))))))))) I12, s9.trans (s11.trans s12)⟩
      · rintro σ' H' ⟨I9, s9⟩
        refine ⟨EnvOk.le (.cons (.inr rfl) (.cons (.inr rfl) (.cons (.inr rfl) (.cons (.inr rfl) (.cons (.inr rfl) (.cons (.inr rfl) (.cons (.inr rfl) (.cons (.inl rfl) (.cons (.inl rfl) (.cons (.inr rfl) .nil)))))))))) I9, sm2.trans ((Sm.of s2).trans (sm4.trans ((Sm.of ((s5.trans s6).trans s7)).trans (sm8.trans (Sm.of s9))))), (pot8.same s9).le (by rw [Nat.succ_mul]; omega)⟩
    · rintro σ' H' ⟨I2, sm2, pot2⟩
      exact rs_ret (hD _ _ H' rfl trivial ((Sm.of s1).trans sm2) (pot2.le (by have : n * 100300 ≤ 2 * 100300 := Nat.mul_le_mul_right _ hn; omega)) rfl)
end
end Mw

namespace Mw
open PySem PySem.Spec PyProof.Rows L2
section
variable {P : Program} {w : World} {K : PySem.W.Frag} {mg : Str → Option Value} {base : Heap} {D : Ends} {σ : Slots} {H : Hp} {u t1 t2 : TS} {tt : TT}
abbrev N_law : List Str := ["script", "k", "pot", "saying", "fees", "kept", "least", "run"]
theorem sc_law : FnScope N_law ["script"] (defScope s_law) := C8.fnScope_by (by decide +kernel)

def spLaw (K : PySem.W.Frag) : Sp := fun vs H Q _ => ∃ (a : Addr) (ns : List Int), vs = [.ref a] ∧ SqL K H a (ns.map V.int) ∧ ns.length ≤ 63 ∧ ∀ H', Q (.bl true) H'
def GL (a : Addr) : List T := [.v (.ref a), .u, .u, .u, .u, .u, .u, .u]
theorem law_body (g : Glo mg) (f : Addr) (cdv : Value) (A : Around) (outer : List Env) (s : Shared) (H : Hp) (vs : List V) (Q : VK) (E : XK) (c__law_take : C8.Cal P w K mg base 1 "_law_take" (spPot 1 R__law_take) []) (c__law_pot : C8.Cal P w K mg base 1 "_law_pot" (sp_pot K) []) (c__law_world : C8.Cal P w K mg base 4 "_law_world" (spPot 25000 R__law_world) []) (c__law_kept : C8.Cal P w K mg base 4 "_law_kept" (spNew R__law_kept) [])
    (c_mildest : CalK P w K mg base 8 "mildest" ["prices"] (spX R_mildest)) (c__law_run : C8.Cal P w K mg base 2 "_law_run" (spPot 100 R__law_run) []) (c__law_let_run : C8.Cal P w K mg base 2 "_law_let_run" (spPot 200 R__law_let_run) []) (c__law_mended_right : C8.Cal P w K mg base 2 "_law_mended_right" (spX R__law_mended_right) []) (c__law_least_right : C8.Cal P w K mg base 8 "_law_least_right" (spPot 300000 R__law_least_right) [])
    (hr : Room 8 (A.deeper (envOfC "law" (defScope s_law) s.heap.objs.size f cdv))) (h : spLaw K vs H Q E) : ∃ t, PSs (cxOf CX0 P w K mg base N_law "law" (defScope s_law) f cdv A outer s H E).nox (defBody s_law) t ∧ t { nx := fun _ H' => Q .non H', rt := Q } (start N_law vs) H := by
  obtain ⟨a, ns, e, hS, hns, hQ⟩ := h
  subst e
  have nd := sc_law.nd
  have hu := hu_of hr
  refine ⟨_, (pss_cons (ps_for PassesOwn.never rfl (pi_range1 rfl g.range (pa_cons (pe_callB (call_max2 rfl) (by rfl) g.max (by decide +kernel) (pa_cons pe_int (pa_cons (pe_callB (call_min2 rfl) (by rfl) g.min (by decide +kernel) (pa_cons pe_int (pa_cons (pe_callB (r := rLenK K) call_len_seq (by rfl) g.len PySem.boot_len (pa_cons (pv 0) pa_nil)) pa_nil))) pa_nil))) pa_nil)) (pg_name (i := 1) nd rfl (Or.inl rfl)) (pss_cons (ps_set (i := 2) nd rfl (Or.inl rfl) (C8.pe_c c__law_pot hr (by decide) rfl (pa_cons (pv 0) (pa_cons (pv 1) pa_nil))))
    (pss_cons (ps_asg (C8.pe_c c__law_world hr (by decide) rfl (pa_cons (pv 2) (pa_cons (pe_callTy call_int1 (by rfl) g.int (by decide +kernel) (pa_cons (pe_cmpR op_eq (pv 1) pe_int (nomark _)) pa_nil)) pa_nil))) (pg_tup rfl (pgs_cons (pg_name (i := 3) nd rfl (Or.inl rfl)) (pgs_cons (pg_name (i := 4) nd rfl (Or.inl rfl)) pgs_nil))))
    (pss_cons (ps_set (i := 5) nd rfl (Or.inl rfl) (C8.pe_c c__law_kept hr (by decide) rfl (pa_cons (pv 3) (pa_cons (pv 4) pa_nil))))
    (pss_one (ps_if (pt_cmpR (r := rIn K false) op_in_seq pe_int (pv 5) rfl) (pss_cons (ps_set (i := 6) nd rfl (Or.inl rfl) (pe_ck c_mildest hr (by decide) rfl (pa_cons (pv 3) pa_nil) (pk_cons (pv 4) pk_nil)))
    (pss_cons (ps_set (i := 7) nd rfl (Or.inl rfl) (C8.pe_c c__law_run hr (by decide) rfl (pa_cons (pv 2) (pa_cons (pe_ix (r := rIxT K) ix_tup (pv 3) pe_int (fun _ _ => rfl)) (pa_cons (pe_ix (r := rIxT K) ix_tup (pv 3) pe_int (fun _ _ => rfl)) (pa_cons (C8.pe_c c__law_take hr (by decide) rfl (pa_cons (pv 2) (pa_cons pe_int pa_nil))) pa_nil))))))
    (pss_cons (ps_if (pt_not (pt_val (C8.pe_c c__law_mended_right hr (by decide) rfl (pa_cons (pv 3) (pa_cons (pv 4) (pa_cons (pv 5) (pa_cons (pv 6) (pa_cons (pv 7) pa_nil)))))))) (pss_one (ps_ret pe_bl)) pss_nil)
    (pss_cons (ps_if (pt_not (pt_val (C8.pe_c c__law_mended_right hr (by decide) rfl (pa_cons (pv 3) (pa_cons (pv 4) (pa_cons (pv 5) (pa_cons (pv 6) (pa_cons (C8.pe_c c__law_let_run hr (by decide) rfl (pa_cons (pv 2) (pa_cons (pv 6) (pa_cons pe_int pa_nil)))) pa_nil)))))))) (pss_one (ps_ret pe_bl)) pss_nil)
    (pss_one (ps_if (pt_not (pt_val (C8.pe_c c__law_least_right hr (by decide) rfl (pa_cons (pv 2) (pa_cons (pv 3) (pa_cons (pv 4) (pa_cons (pv 5) (pa_cons (pv 6) (pa_cons (pe_op op_add pe_int (pe_callTy call_int1 (by rfl) g.int (by decide +kernel) (pa_cons (pe_cmpR op_lt (pv 1) pe_int (nomark _)) pa_nil))) pa_nil))))))))) (pss_one (ps_ret pe_bl)) pss_nil)))))) pss_nil))))))
    (pss_one (ps_ret pe_bl))), ?_⟩
  have I0 : EnvOk H (GL a) (start N_law [.ref a]) := EnvOk.start (N := N_law) (ts := [.v (.ref a)]) (.cons rfl .nil)
  generalize start N_law [.ref a] = σ0 at I0
  obtain ⟨v0, e0, z0⟩ := I0.getv (i := 0) (t := .v (.ref a)) rfl
  obtain rfl : v0 = .ref a := z0
  have hbound : ∃ N : Nat, N ≤ 100 ∧ (if (if (((ns.map V.int).length : Nat) : Int) < 63 then (((ns.map V.int).length : Nat) : Int) else 63) > 1 then (if (((ns.map V.int).length : Nat) : Int) < 63 then (((ns.map V.int).length : Nat) : Int) else 63) else 1) = (N : Int) := by
    refine ⟨(if (if (((ns.map V.int).length : Nat) : Int) < 63 then (((ns.map V.int).length : Nat) : Int) else 63) > 1 then (if (((ns.map V.int).length : Nat) : Int) < 63 then (((ns.map V.int).length : Nat) : Int) else 63) else 1).toNat, ?_, ?_⟩
    · split <;> (try split) <;> omega
    · rw [Int.toNat_of_nonneg]
      split <;> (try split) <;> omega
  obtain ⟨N, hN, hNe⟩ := hbound
  show tSeq (tFor (iRng1 _) _ _) _ _ σ0 H
  refine rss_for ⟨_, e0, a, _, rfl, .inl hS, 63, _, rfl, 1, _, rfl, _, rfl, ?_, ?_, ?_⟩
  · rw [hNe]; omega
  · rw [hNe]; omega
  rw [hNe]
  refine ⟨fun i m σ' H' => m = N - i ∧ i ≤ N ∧ EnvOk H' (GL a) σ' ∧ Same H H', ⟨N, by simp, Nat.zero_le _, I0, Same.refl _⟩, ?_⟩
  rintro k m σ' H' ⟨rfl, hk, I1, s1⟩
  by_cases hlt : k < N
  · refine .inr ⟨by show k < (N : Int).toNat; omega, fun σ2 H2 => EnvOk H2 (GL a) σ2 ∧ Same H H2, fun σ2 H2 z => ⟨N - (k + 1), by omega, rfl, hlt, z⟩, fun x H2 y => ?_⟩
    obtain ⟨rfl, rfl⟩ := y
    have hx : Is H2 (.d (.int (k : Int))) (.int (0 + (k : Int))) := by
      show V.int (0 + (k : Int)) = V.int (k : Int)
      rw [Int.zero_add]
    refine tg_name σ' H2 I1 _ hx _ fun σ3 I3 _ => ?_
    have I3 : EnvOk H2 [.v (.ref a), .d (.int (k : Int)), .u, .u, .u, .u, .u, .u] σ3 := I3
    obtain ⟨u0, f0, z0⟩ := I3.getv (i := 0) (t := .v (.ref a)) rfl
    obtain rfl : u0 = .ref a := z0
    obtain ⟨u1, f1, z1⟩ := I3.getv (i := 1) (t := .d (.int (k : Int))) rfl
    obtain rfl : u1 = .int (k : Int) := z1
    -- the pot
    refine rss_set ⟨_, f0, _, f1, a, ns, k, rfl, s1.seq hS, by omega, fun pa H4 n4 s4 pot4 => ?_⟩
    have I4 : EnvOk H4 [.v (.ref a), .d (.int (k : Int)), .v (.ref pa), .u, .u, .u, .u, .u] (σ3.set 2 (some (.ref pa))) := (I3.mono s4).setv (t := .v (.ref pa)) (v := .ref pa) 2 rfl
    have hG4 : AllB [pa] [.v (.ref a), .d (.int (k : Int)), .v (.ref pa), .u, .u, .u, .u, .u] := ⟨trivial, trivial, trivial, trivial, trivial, trivial, trivial, trivial, trivial⟩
    -- the world
    refine rss_asg ((evp_call (At := WorldIs) (c1 := 0) (c := 25000) (i := 2) rfl (evpa_cons (c1 := 0) (c2 := 0) hG4 (evp_x (evx_eq (evx_intB (eva_cons (evx_eqI (b := decide (k = 0)) (evx_var (i := 1) rfl) evx_int (by rw [decide_eq_decide]; omega)) eva_nil)) (show T.d (.int (if decide (k = 0) then 1 else 0)) = T.d (.int (((if k = 0 then 1 else 0) : Nat) : Int)) from by split <;> simp_all)) trivial) evpa_nil) fun ts ⟨t1, r1, q1, h1, h2⟩ => ⟨if k = 0 then 1 else 0, by split <;> omega, by rw [q1, h1, h2], rfl⟩) _ H4 0 I4 pot4 (by decide) _ fun t v5 H5 ⟨S, p, hSv, hp, e⟩ _ sm5 pot5 hv5 => ?_)
    subst e
    refine (tg_tup (tgs_cons tg_name (tgs_cons tg_name tgs_nil)) rfl) _ H5 (I4.monoB sm5 pot4.mut hG4) v5 hv5 _ fun σ6 I6 _ => ?_
    have I6 : EnvOk H5 [.v (.ref a), .d (.int (k : Int)), .v (.ref pa), .d S.D, .d (encP S.d p), .u, .u, .u] σ6 := I6
    have hSv' := hSv
    obtain ⟨⟨a1, a2⟩, ⟨b1, b2⟩, ⟨c1, c2⟩, _⟩ := hSv'
    -- kept
    refine rss_set ((evn_call (eva_cons (evx_var (i := 3) rfl) (eva_cons (evx_var (i := 4) rfl) eva_nil)) ⟨S, p, hp, by omega, by omega, by omega, rfl, rfl⟩) σ6 H5 I6 _ fun ka H7 n7 s7 h7 => ?_)
    have pot7 := pot5.same s7
    have hkp : ka ≠ pa := Ne.symm (pot_ne pot5 n7)
    have okk : OkB [pa] (.la ka (intD (keptF S p))) := by simpa [OkB] using hkp
    have I7 : EnvOk H7 [.v (.ref a), .d (.int (k : Int)), .v (.ref pa), .d S.D, .d (encP S.d p), .la ka (intD (keptF S p)), .u, .u] _ := (I6.mono s7).setv 5 h7
    have fin : ∀ σ' H', Sm [pa] H7 H' → EnvOk H' (GL a) σ' → EnvOk H' (GL a) σ' ∧ Same H H' := fun σ' H' sm I' => ⟨I', fun b o eb => by
      have h2 := s1 _ _ eb
      have hb : b ∉ [pa] := by simpa using ne_of_none h2 n4
      exact sm _ _ hb (s7 _ _ (sm5 _ _ hb (s4 _ _ h2)))⟩
    refine rs_evif I7 (b := decide (0 ∈ keptF S p)) (evb_T (evx_inL (o := some 0) (l := keptF S p) evx_int (evx_liA (evx_var (i := 5) rfl)) rfl)) (fun hb H8 s8 I8 => ?_) fun hb H8 s8 I8 => ?_
    · have h0 := of_decide_eq_true hb
      refine rss_ev I8 (evx_callN (eva_cons (evx_var (i := 3) rfl) eva_nil) (eva_cons (evx_var (i := 4) rfl) eva_nil) ⟨S, p, hSv, hp, h0, rfl, rfl⟩) fun v9 H9 s9 hv9 I9 => ?_
      have I9 : EnvOk H9 [.v (.ref a), .d (.int (k : Int)), .v (.ref pa), .d S.D, .d (encP S.d p), .la ka (intD (keptF S p)), .d (milS S p).D, .u] _ := I9
      have hG9 : AllB [pa] [.v (.ref a), .d (.int (k : Int)), .v (.ref pa), .d S.D, .d (encP S.d p), .la ka (intD (keptF S p)), .d (milS S p).D, .u] := ⟨trivial, trivial, trivial, trivial, trivial, okk, trivial, trivial, trivial⟩
      have pot9 := (pot7.same s8).same s9
      refine rss_evP (At := RunIs S.s S.d 50) (c := 101) I9 pot9 (by decide) hG9 (evp_call (c1 := 1) (c := 100) (i := 2) rfl (evpa_cons (c1 := 0) (c2 := 1) hG9 (evp_x (evx_ixTn (i := 0) (evx_var (i := 3) rfl) evx_int rfl) trivial) (evpa_cons (c1 := 0) (c2 := 1) hG9 (evp_x (evx_ixTn (i := 1) (evx_var (i := 3) rfl) evx_int rfl) trivial) (evpa_cons (c1 := 1) (c2 := 0) hG9 (take_ev (m := 41) (by decide) (by decide) (i := 2) rfl evx_int hG9) evpa_nil))) fun ts ⟨t1, r1, q1, h1, t2, r2, q2, h2, t3, r3, q3, ⟨y, hy, h3⟩, h4⟩ => ⟨S.s, S.d, y, a1, a2, b1, b2, by omega, by rw [q1, q2, q3, h1, h2, h3, h4], rfl⟩) fun t v10 H10 ⟨run, hr1, hr2, e⟩ _ sm10 pot10 hv10 I10 => ?_
      subst e
      have I10 : EnvOk H10 [.v (.ref a), .d (.int (k : Int)), .v (.ref pa), .d S.D, .d (encP S.d p), .la ka (intD (keptF S p)), .d (milS S p).D, .d (.tup (run.map pairD))] _ := I10
      have hG10 : AllB [pa] [.v (.ref a), .d (.int (k : Int)), .v (.ref pa), .d S.D, .d (encP S.d p), .la ka (intD (keptF S p)), .d (milS S p).D, .d (.tup (run.map pairD))] := ⟨trivial, trivial, trivial, trivial, trivial, okk, trivial, trivial, trivial⟩
      refine rss_if0 I10 (b := false) (evb_not (x := true) (evb_B (evx_call (eva_cons (evx_var (i := 3) rfl) (eva_cons (evx_var (i := 4) rfl) (eva_cons (evx_liA (evx_var (i := 5) rfl)) (eva_cons (evx_var (i := 6) rfl) (eva_cons (evx_var (i := 7) rfl) eva_nil))))) ⟨S, p, run, hSv, hp, h0, hr1, by omega, rfl, rfl⟩))) (fun h => nomatch h) fun _ H11 s11 I11 => ?_
      have pot11 := pot10.same s11
      have hW := mil_valid hSv h0
      refine rss_notP (c := 200) I11 pot11 (by decide) hG10 (evp_callX (t0 := .d (.bl true)) (evpa_cons (c1 := 0) (c2 := 200) hG10 (evp_x (evx_var (i := 3) rfl) trivial) (evpa_cons (c1 := 0) (c2 := 200) hG10 (evp_x (evx_var (i := 4) rfl) trivial) (evpa_cons (c1 := 0) (c2 := 200) hG10 (evp_x (evx_var (i := 5) rfl) okk) (evpa_cons (c1 := 0) (c2 := 200) hG10 (evp_x (evx_var (i := 6) rfl) trivial) (evpa_cons (c1 := 200) (c2 := 0) hG10 (evp_call (At := RunIs S.s S.d 50) (c1 := 0) (c := 200) (i := 2) rfl (evpa_cons (c1 := 0) (c2 := 0) hG10 (evp_x (evx_var (i := 6) rfl) trivial) (evpa_cons (c1 := 0) (c2 := 0) hG10 (evp_x evx_int trivial) evpa_nil)) fun ts ⟨t1, r1, q1, h1, t2, r2, q2, h2, h3⟩ => ⟨milS S p, 20, hW, by decide, by rw [q1, q2, h1, h2, h3]; rfl, rfl⟩) evpa_nil))))) trivial fun ts ⟨t1, r1, q1, h1, t2, r2, q2, h2, t3, r3, q3, h3, t4, r4, q4, h4, t5, r5, q5, ⟨rn, hn1, hn2, h5⟩, h6⟩ => ⟨[.d S.D, .d (encP S.d p), .li (intD (keptF S p)), .d (milS S p).D, .d (.tup (rn.map pairD))], ⟨S, p, rn, hSv, hp, h0, hn1, by omega, rfl, rfl⟩, fun vs H hvs => ?_⟩) fun H12 sm12 pot12 I12 => ?_
      · rw [q1, q2, q3, q4, q5, h1, h2, h3, h4, h5, h6] at hvs
        cases hvs with
        | cons x1 hvs => cases hvs with
          | cons x2 hvs => cases hvs with
            | cons x3 hvs =>
              obtain ⟨y1, ys, y2, y3⟩ := x3
              exact .cons x1 (.cons x2 (.cons ⟨ka, ys, y1, y2, y3⟩ hvs))
      · refine rs_notP (c := 300000) I12 pot12 (by decide) hG10 (evp_call (c1 := 0) (c := 300000) (i := 2) rfl (evpa_cons (c1 := 0) (c2 := 0) hG10 (evp_x (evx_var (i := 3) rfl) trivial) (evpa_cons (c1 := 0) (c2 := 0) hG10 (evp_x (evx_var (i := 4) rfl) trivial) (evpa_cons (c1 := 0) (c2 := 0) hG10 (evp_x (evx_var (i := 5) rfl) okk) (evpa_cons (c1 := 0) (c2 := 0) hG10 (evp_x (evx_var (i := 6) rfl) trivial) (evpa_cons (c1 := 0) (c2 := 0) hG10 (evp_x (evx_I0i (i := 1) (j := if decide (k < 4) then 1 else 0) evx_int (evx_intB (eva_cons (evx_I0b (b := decide (k < 4)) (evx_var (i := 1) rfl) evx_int (by rw [decide_eq_decide]; omega)) eva_nil))) trivial) evpa_nil))))) fun ts ⟨t1, r1, q1, h1, t2, r2, q2, h2, t3, r3, q3, h3, t4, r4, q4, h4, t5, r5, q5, h5, h6⟩ => ⟨S, p, ka, 1 + (if k < 4 then 1 else 0), hSv, hp, h0, by split <;> omega, ?_, rfl⟩) fun H13 sm13 pot13 I13 => ?_
        · rw [q1, q2, q3, q4, q5, h1, h2, h3, h4, h5, h6]
          by_cases h : k < 4
          · simp [h]
          · simp [h]
        · refine fin _ H13 ((Sm.of (s8.trans s9)).trans (sm10.trans ((Sm.of s11).trans (sm12.trans sm13)))) (EnvOk.le ?_ I13)
          exact .cons (.inr rfl) (.cons (.inl rfl) (.cons (.inl rfl) (.cons (.inl rfl) (.cons (.inl rfl) (.cons (.inl rfl) (.cons (.inl rfl) (.cons (.inl rfl) .nil)))))))
    · refine rs_next (fin _ H8 (Sm.of s8) (EnvOk.le ?_ I8))
      exact .cons (.inr rfl) (.cons (.inl rfl) (.cons (.inl rfl) (.cons (.inl rfl) (.cons (.inl rfl) (.cons (.inl rfl) (.cons (.inl rfl) (.cons (.inl rfl) .nil)))))))
  · have e : k = N := by omega
    subst e
    exact .inl ⟨by show (k : Int).toNat ≤ k; omega, rs_ret (hQ H')⟩
end
end Mw

set_option maxHeartbeats 0
namespace Mw
open PySem PySem.Spec PyProof.Rows L2

theorem hglo {K : PySem.W.Frag} {h : Heap} {mg : Str → Option Value} (X : K.In h) (G : h.Ns mainGlobals mg) (c : He.SaysD hfa hfn K) : Glo mg where
  isinstance := He.free_ok X G (c.fact 53 (f := .free "isinstance") rfl)
  int := He.free_ok X G (c.fact 54 (f := .free "int") rfl)
  bool := He.free_ok X G (c.fact 55 (f := .free "bool") rfl)
  str := He.free_ok X G (c.fact 56 (f := .free "str") rfl)
  tuple := He.free_ok X G (c.fact 57 (f := .free "tuple") rfl)
  list := He.free_ok X G (c.fact 58 (f := .free "list") rfl)
  dict := He.free_ok X G (c.fact 59 (f := .free "dict") rfl)
  len := He.free_ok X G (c.fact 60 (f := .free "len") rfl)
  all := He.free_ok X G (c.fact 61 (f := .free "all") rfl)
  any := He.free_ok X G (c.fact 62 (f := .free "any") rfl)
  range := He.free_ok X G (c.fact 63 (f := .free "range") rfl)
  enumerate := He.free_ok X G (c.fact 64 (f := .free "enumerate") rfl)
  zip := He.free_ok X G (c.fact 65 (f := .free "zip") rfl)
  min := He.free_ok X G (c.fact 66 (f := .free "min") rfl)
  max := He.free_ok X G (c.fact 67 (f := .free "max") rfl)
  abs := He.free_ok X G (c.fact 68 (f := .free "abs") rfl)
  sorted := He.free_ok X G (c.fact 69 (f := .free "sorted") rfl)
  MOST := He.int_ok X G (c.fact 70 (f := .int "MOST" 100) rfl)
  WIDE := He.int_ok X G (c.fact 71 (f := .int "WIDE" 9) rfl)
  DEAR := He.int_ok X G (c.fact 72 (f := .int "DEAR" 99) rfl)
  MILDER := He.str_ok X G (c.fact 73 (f := .str "MILDER" "milder") rfl)
  NOT := He.str_ok X G (c.fact 74 (f := .str "NOT" "not") rfl)
theorem hm_is_whole {K : PySem.W.Frag} {h : Heap} {mg : Str → Option Value} (X : K.In h) (G : h.Ns mainGlobals mg) (c : He.SaysD hfa hfn K) : MDef K mg "is_whole" s_is_whole := by
  obtain ⟨fd, F⟩ := c.def_ 0 (d := hd_is_whole) rfl
  exact ⟨_, fd, F, He.glo_ok X G (c.fact 0 (f := .glo "is_whole") rfl)⟩
theorem hm_is_below {K : PySem.W.Frag} {h : Heap} {mg : Str → Option Value} (X : K.In h) (G : h.Ns mainGlobals mg) (c : He.SaysD hfa hfn K) : MDef K mg "is_below" s_is_below := by
  obtain ⟨fd, F⟩ := c.def_ 1 (d := hd_is_below) rfl
  exact ⟨_, fd, F, He.glo_ok X G (c.fact 1 (f := .glo "is_below") rfl)⟩
theorem hm_is_count {K : PySem.W.Frag} {h : Heap} {mg : Str → Option Value} (X : K.In h) (G : h.Ns mainGlobals mg) (c : He.SaysD hfa hfn K) : MDef K mg "is_count" s_is_count := by
  obtain ⟨fd, F⟩ := c.def_ 2 (d := hd_is_count) rfl
  exact ⟨_, fd, F, He.glo_ok X G (c.fact 2 (f := .glo "is_count") rfl)⟩
theorem hm_is_row {K : PySem.W.Frag} {h : Heap} {mg : Str → Option Value} (X : K.In h) (G : h.Ns mainGlobals mg) (c : He.SaysD hfa hfn K) : MDef K mg "is_row" s_is_row := by
  obtain ⟨fd, F⟩ := c.def_ 3 (d := hd_is_row) rfl
  exact ⟨_, fd, F, He.glo_ok X G (c.fact 3 (f := .glo "is_row") rfl)⟩
theorem hm_is_room {K : PySem.W.Frag} {h : Heap} {mg : Str → Option Value} (X : K.In h) (G : h.Ns mainGlobals mg) (c : He.SaysD hfa hfn K) : MDef K mg "is_room" s_is_room := by
  obtain ⟨fd, F⟩ := c.def_ 4 (d := hd_is_room) rfl
  exact ⟨_, fd, F, He.glo_ok X G (c.fact 4 (f := .glo "is_room") rfl)⟩
theorem hm_is_saying {K : PySem.W.Frag} {h : Heap} {mg : Str → Option Value} (X : K.In h) (G : h.Ns mainGlobals mg) (c : He.SaysD hfa hfn K) : MDef K mg "is_saying" s_is_saying := by
  obtain ⟨fd, F⟩ := c.def_ 5 (d := hd_is_saying) rfl
  exact ⟨_, fd, F, He.glo_ok X G (c.fact 5 (f := .glo "is_saying") rfl)⟩
theorem hm_need_saying {K : PySem.W.Frag} {h : Heap} {mg : Str → Option Value} (X : K.In h) (G : h.Ns mainGlobals mg) (c : He.SaysD hfa hfn K) : MDef K mg "need_saying" s_need_saying := by
  obtain ⟨fd, F⟩ := c.def_ 6 (d := hd_need_saying) rfl
  exact ⟨_, fd, F, He.glo_ok X G (c.fact 6 (f := .glo "need_saying") rfl)⟩
theorem hm_need_alike {K : PySem.W.Frag} {h : Heap} {mg : Str → Option Value} (X : K.In h) (G : h.Ns mainGlobals mg) (c : He.SaysD hfa hfn K) : MDef K mg "need_alike" s_need_alike := by
  obtain ⟨fd, F⟩ := c.def_ 7 (d := hd_need_alike) rfl
  exact ⟨_, fd, F, He.glo_ok X G (c.fact 7 (f := .glo "need_alike") rfl)⟩
theorem hm_is_price {K : PySem.W.Frag} {h : Heap} {mg : Str → Option Value} (X : K.In h) (G : h.Ns mainGlobals mg) (c : He.SaysD hfa hfn K) : MDef K mg "is_price" s_is_price := by
  obtain ⟨fd, F⟩ := c.def_ 8 (d := hd_is_price) rfl
  exact ⟨_, fd, F, He.glo_ok X G (c.fact 8 (f := .glo "is_price") rfl)⟩
theorem hm_are_prices {K : PySem.W.Frag} {h : Heap} {mg : Str → Option Value} (X : K.In h) (G : h.Ns mainGlobals mg) (c : He.SaysD hfa hfn K) : MDef K mg "are_prices" s_are_prices := by
  obtain ⟨fd, F⟩ := c.def_ 9 (d := hd_are_prices) rfl
  exact ⟨_, fd, F, He.glo_ok X G (c.fact 9 (f := .glo "are_prices") rfl)⟩
theorem hm_need_prices {K : PySem.W.Frag} {h : Heap} {mg : Str → Option Value} (X : K.In h) (G : h.Ns mainGlobals mg) (c : He.SaysD hfa hfn K) : MDef K mg "need_prices" s_need_prices := by
  obtain ⟨fd, F⟩ := c.def_ 10 (d := hd_need_prices) rfl
  exact ⟨_, fd, F, He.glo_ok X G (c.fact 10 (f := .glo "need_prices") rfl)⟩
theorem hm_cost {K : PySem.W.Frag} {h : Heap} {mg : Str → Option Value} (X : K.In h) (G : h.Ns mainGlobals mg) (c : He.SaysD hfa hfn K) : MDef K mg "cost" s_cost := by
  obtain ⟨fd, F⟩ := c.def_ 11 (d := hd_cost) rfl
  exact ⟨_, fd, F, He.glo_ok X G (c.fact 11 (f := .glo "cost") rfl)⟩
theorem hm_answers_to {K : PySem.W.Frag} {h : Heap} {mg : Str → Option Value} (X : K.In h) (G : h.Ns mainGlobals mg) (c : He.SaysD hfa hfn K) : MDef K mg "answers_to" s_answers_to := by
  obtain ⟨fd, F⟩ := c.def_ 12 (d := hd_answers_to) rfl
  exact ⟨_, fd, F, He.glo_ok X G (c.fact 12 (f := .glo "answers_to") rfl)⟩
theorem hm_keepers {K : PySem.W.Frag} {h : Heap} {mg : Str → Option Value} (X : K.In h) (G : h.Ns mainGlobals mg) (c : He.SaysD hfa hfn K) : MDef K mg "keepers" s_keepers := by
  obtain ⟨fd, F⟩ := c.def_ 13 (d := hd_keepers) rfl
  exact ⟨_, fd, F, He.glo_ok X G (c.fact 13 (f := .glo "keepers") rfl)⟩
theorem hm_losing {K : PySem.W.Frag} {h : Heap} {mg : Str → Option Value} (X : K.In h) (G : h.Ns mainGlobals mg) (c : He.SaysD hfa hfn K) : MDef K mg "losing" s_losing := by
  obtain ⟨fd, F⟩ := c.def_ 14 (d := hd_losing) rfl
  exact ⟨_, fd, F, He.glo_ok X G (c.fact 14 (f := .glo "losing") rfl)⟩
theorem hm_lost_in {K : PySem.W.Frag} {h : Heap} {mg : Str → Option Value} (X : K.In h) (G : h.Ns mainGlobals mg) (c : He.SaysD hfa hfn K) : MDef K mg "lost_in" s_lost_in := by
  obtain ⟨fd, F⟩ := c.def_ 15 (d := hd_lost_in) rfl
  exact ⟨_, fd, F, He.glo_ok X G (c.fact 15 (f := .glo "lost_in") rfl)⟩
theorem hm_kept_in {K : PySem.W.Frag} {h : Heap} {mg : Str → Option Value} (X : K.In h) (G : h.Ns mainGlobals mg) (c : He.SaysD hfa hfn K) : MDef K mg "kept_in" s_kept_in := by
  obtain ⟨fd, F⟩ := c.def_ 16 (d := hd_kept_in) rfl
  exact ⟨_, fd, F, He.glo_ok X G (c.fact 16 (f := .glo "kept_in") rfl)⟩
theorem hm_need_both {K : PySem.W.Frag} {h : Heap} {mg : Str → Option Value} (X : K.In h) (G : h.Ns mainGlobals mg) (c : He.SaysD hfa hfn K) : MDef K mg "need_both" s_need_both := by
  obtain ⟨fd, F⟩ := c.def_ 17 (d := hd_need_both) rfl
  exact ⟨_, fd, F, He.glo_ok X G (c.fact 17 (f := .glo "need_both") rfl)⟩
theorem hm_need_kept {K : PySem.W.Frag} {h : Heap} {mg : Str → Option Value} (X : K.In h) (G : h.Ns mainGlobals mg) (c : He.SaysD hfa hfn K) : MDef K mg "need_kept" s_need_kept := by
  obtain ⟨fd, F⟩ := c.def_ 18 (d := hd_need_kept) rfl
  exact ⟨_, fd, F, He.glo_ok X G (c.fact 18 (f := .glo "need_kept") rfl)⟩
theorem hm_is_cell {K : PySem.W.Frag} {h : Heap} {mg : Str → Option Value} (X : K.In h) (G : h.Ns mainGlobals mg) (c : He.SaysD hfa hfn K) : MDef K mg "is_cell" s_is_cell := by
  obtain ⟨fd, F⟩ := c.def_ 19 (d := hd_is_cell) rfl
  exact ⟨_, fd, F, He.glo_ok X G (c.fact 19 (f := .glo "is_cell") rfl)⟩
theorem hm_is_state {K : PySem.W.Frag} {h : Heap} {mg : Str → Option Value} (X : K.In h) (G : h.Ns mainGlobals mg) (c : He.SaysD hfa hfn K) : MDef K mg "is_state" s_is_state := by
  obtain ⟨fd, F⟩ := c.def_ 20 (d := hd_is_state) rfl
  exact ⟨_, fd, F, He.glo_ok X G (c.fact 20 (f := .glo "is_state") rfl)⟩
theorem hm_is_watcher {K : PySem.W.Frag} {h : Heap} {mg : Str → Option Value} (X : K.In h) (G : h.Ns mainGlobals mg) (c : He.SaysD hfa hfn K) : MDef K mg "is_watcher" s_is_watcher := by
  obtain ⟨fd, F⟩ := c.def_ 21 (d := hd_is_watcher) rfl
  exact ⟨_, fd, F, He.glo_ok X G (c.fact 21 (f := .glo "is_watcher") rfl)⟩
theorem hm_need_watcher {K : PySem.W.Frag} {h : Heap} {mg : Str → Option Value} (X : K.In h) (G : h.Ns mainGlobals mg) (c : He.SaysD hfa hfn K) : MDef K mg "need_watcher" s_need_watcher := by
  obtain ⟨fd, F⟩ := c.def_ 22 (d := hd_need_watcher) rfl
  exact ⟨_, fd, F, He.glo_ok X G (c.fact 22 (f := .glo "need_watcher") rfl)⟩
theorem hm_choices_of {K : PySem.W.Frag} {h : Heap} {mg : Str → Option Value} (X : K.In h) (G : h.Ns mainGlobals mg) (c : He.SaysD hfa hfn K) : MDef K mg "choices_of" s_choices_of := by
  obtain ⟨fd, F⟩ := c.def_ 23 (d := hd_choices_of) rfl
  exact ⟨_, fd, F, He.glo_ok X G (c.fact 23 (f := .glo "choices_of") rfl)⟩
theorem hm_on_rooms {K : PySem.W.Frag} {h : Heap} {mg : Str → Option Value} (X : K.In h) (G : h.Ns mainGlobals mg) (c : He.SaysD hfa hfn K) : MDef K mg "on_rooms" s_on_rooms := by
  obtain ⟨fd, F⟩ := c.def_ 24 (d := hd_on_rooms) rfl
  exact ⟨_, fd, F, He.glo_ok X G (c.fact 24 (f := .glo "on_rooms") rfl)⟩
theorem hm_least_of {K : PySem.W.Frag} {h : Heap} {mg : Str → Option Value} (X : K.In h) (G : h.Ns mainGlobals mg) (c : He.SaysD hfa hfn K) : MDef K mg "least_of" s_least_of := by
  obtain ⟨fd, F⟩ := c.def_ 25 (d := hd_least_of) rfl
  exact ⟨_, fd, F, He.glo_ok X G (c.fact 25 (f := .glo "least_of") rfl)⟩
theorem hm_mildest_on {K : PySem.W.Frag} {h : Heap} {mg : Str → Option Value} (X : K.In h) (G : h.Ns mainGlobals mg) (c : He.SaysD hfa hfn K) : MDef K mg "mildest_on" s_mildest_on := by
  obtain ⟨fd, F⟩ := c.def_ 26 (d := hd_mildest_on) rfl
  exact ⟨_, fd, F, He.glo_ok X G (c.fact 26 (f := .glo "mildest_on") rfl)⟩
theorem hm_let_wholly {K : PySem.W.Frag} {h : Heap} {mg : Str → Option Value} (X : K.In h) (G : h.Ns mainGlobals mg) (c : He.SaysD hfa hfn K) : MDef K mg "let_wholly" s_let_wholly := by
  obtain ⟨fd, F⟩ := c.def_ 28 (d := hd_let_wholly) rfl
  exact ⟨_, fd, F, He.glo_ok X G (c.fact 28 (f := .glo "let_wholly") rfl)⟩
theorem hm_milder {K : PySem.W.Frag} {h : Heap} {mg : Str → Option Value} (X : K.In h) (G : h.Ns mainGlobals mg) (c : He.SaysD hfa hfn K) : MDef K mg "milder" s_milder := by
  obtain ⟨fd, F⟩ := c.def_ 29 (d := hd_milder) rfl
  exact ⟨_, fd, F, He.glo_ok X G (c.fact 29 (f := .glo "milder") rfl)⟩
theorem hm__law_pot {K : PySem.W.Frag} {h : Heap} {mg : Str → Option Value} (X : K.In h) (G : h.Ns mainGlobals mg) (c : He.SaysD hfa hfn K) : MDef K mg "_law_pot" s__law_pot := by
  obtain ⟨fd, F⟩ := c.def_ 30 (d := hd__law_pot) rfl
  exact ⟨_, fd, F, He.glo_ok X G (c.fact 30 (f := .glo "_law_pot") rfl)⟩
theorem hm__law_take {K : PySem.W.Frag} {h : Heap} {mg : Str → Option Value} (X : K.In h) (G : h.Ns mainGlobals mg) (c : He.SaysD hfa hfn K) : MDef K mg "_law_take" s__law_take := by
  obtain ⟨fd, F⟩ := c.def_ 31 (d := hd__law_take) rfl
  exact ⟨_, fd, F, He.glo_ok X G (c.fact 31 (f := .glo "_law_take") rfl)⟩
theorem hm__law_room {K : PySem.W.Frag} {h : Heap} {mg : Str → Option Value} (X : K.In h) (G : h.Ns mainGlobals mg) (c : He.SaysD hfa hfn K) : MDef K mg "_law_room" s__law_room := by
  obtain ⟨fd, F⟩ := c.def_ 32 (d := hd__law_room) rfl
  exact ⟨_, fd, F, He.glo_ok X G (c.fact 32 (f := .glo "_law_room") rfl)⟩
theorem hm__law_saying {K : PySem.W.Frag} {h : Heap} {mg : Str → Option Value} (X : K.In h) (G : h.Ns mainGlobals mg) (c : He.SaysD hfa hfn K) : MDef K mg "_law_saying" s__law_saying := by
  obtain ⟨fd, F⟩ := c.def_ 33 (d := hd__law_saying) rfl
  exact ⟨_, fd, F, He.glo_ok X G (c.fact 33 (f := .glo "_law_saying") rfl)⟩
theorem hm__law_price {K : PySem.W.Frag} {h : Heap} {mg : Str → Option Value} (X : K.In h) (G : h.Ns mainGlobals mg) (c : He.SaysD hfa hfn K) : MDef K mg "_law_price" s__law_price := by
  obtain ⟨fd, F⟩ := c.def_ 34 (d := hd__law_price) rfl
  exact ⟨_, fd, F, He.glo_ok X G (c.fact 34 (f := .glo "_law_price") rfl)⟩
theorem hm__law_prices {K : PySem.W.Frag} {h : Heap} {mg : Str → Option Value} (X : K.In h) (G : h.Ns mainGlobals mg) (c : He.SaysD hfa hfn K) : MDef K mg "_law_prices" s__law_prices := by
  obtain ⟨fd, F⟩ := c.def_ 35 (d := hd__law_prices) rfl
  exact ⟨_, fd, F, He.glo_ok X G (c.fact 35 (f := .glo "_law_prices") rfl)⟩
theorem hm__law_cost {K : PySem.W.Frag} {h : Heap} {mg : Str → Option Value} (X : K.In h) (G : h.Ns mainGlobals mg) (c : He.SaysD hfa hfn K) : MDef K mg "_law_cost" s__law_cost := by
  obtain ⟨fd, F⟩ := c.def_ 36 (d := hd__law_cost) rfl
  exact ⟨_, fd, F, He.glo_ok X G (c.fact 36 (f := .glo "_law_cost") rfl)⟩
theorem hm__law_answers {K : PySem.W.Frag} {h : Heap} {mg : Str → Option Value} (X : K.In h) (G : h.Ns mainGlobals mg) (c : He.SaysD hfa hfn K) : MDef K mg "_law_answers" s__law_answers := by
  obtain ⟨fd, F⟩ := c.def_ 37 (d := hd__law_answers) rfl
  exact ⟨_, fd, F, He.glo_ok X G (c.fact 37 (f := .glo "_law_answers") rfl)⟩
theorem hm__law_held {K : PySem.W.Frag} {h : Heap} {mg : Str → Option Value} (X : K.In h) (G : h.Ns mainGlobals mg) (c : He.SaysD hfa hfn K) : MDef K mg "_law_held" s__law_held := by
  obtain ⟨fd, F⟩ := c.def_ 38 (d := hd__law_held) rfl
  exact ⟨_, fd, F, He.glo_ok X G (c.fact 38 (f := .glo "_law_held") rfl)⟩
theorem hm__law_kept {K : PySem.W.Frag} {h : Heap} {mg : Str → Option Value} (X : K.In h) (G : h.Ns mainGlobals mg) (c : He.SaysD hfa hfn K) : MDef K mg "_law_kept" s__law_kept := by
  obtain ⟨fd, F⟩ := c.def_ 39 (d := hd__law_kept) rfl
  exact ⟨_, fd, F, He.glo_ok X G (c.fact 39 (f := .glo "_law_kept") rfl)⟩
theorem hm__law_whole {K : PySem.W.Frag} {h : Heap} {mg : Str → Option Value} (X : K.In h) (G : h.Ns mainGlobals mg) (c : He.SaysD hfa hfn K) : MDef K mg "_law_whole" s__law_whole := by
  obtain ⟨fd, F⟩ := c.def_ 40 (d := hd__law_whole) rfl
  exact ⟨_, fd, F, He.glo_ok X G (c.fact 40 (f := .glo "_law_whole") rfl)⟩
theorem hm__law_world {K : PySem.W.Frag} {h : Heap} {mg : Str → Option Value} (X : K.In h) (G : h.Ns mainGlobals mg) (c : He.SaysD hfa hfn K) : MDef K mg "_law_world" s__law_world := by
  obtain ⟨fd, F⟩ := c.def_ 41 (d := hd__law_world) rfl
  exact ⟨_, fd, F, He.glo_ok X G (c.fact 41 (f := .glo "_law_world") rfl)⟩
theorem hm__law_some {K : PySem.W.Frag} {h : Heap} {mg : Str → Option Value} (X : K.In h) (G : h.Ns mainGlobals mg) (c : He.SaysD hfa hfn K) : MDef K mg "_law_some" s__law_some := by
  obtain ⟨fd, F⟩ := c.def_ 42 (d := hd__law_some) rfl
  exact ⟨_, fd, F, He.glo_ok X G (c.fact 42 (f := .glo "_law_some") rfl)⟩
theorem hm__law_run {K : PySem.W.Frag} {h : Heap} {mg : Str → Option Value} (X : K.In h) (G : h.Ns mainGlobals mg) (c : He.SaysD hfa hfn K) : MDef K mg "_law_run" s__law_run := by
  obtain ⟨fd, F⟩ := c.def_ 43 (d := hd__law_run) rfl
  exact ⟨_, fd, F, He.glo_ok X G (c.fact 43 (f := .glo "_law_run") rfl)⟩
theorem hm__law_is_pair {K : PySem.W.Frag} {h : Heap} {mg : Str → Option Value} (X : K.In h) (G : h.Ns mainGlobals mg) (c : He.SaysD hfa hfn K) : MDef K mg "_law_is_pair" s__law_is_pair := by
  obtain ⟨fd, F⟩ := c.def_ 44 (d := hd__law_is_pair) rfl
  exact ⟨_, fd, F, He.glo_ok X G (c.fact 44 (f := .glo "_law_is_pair") rfl)⟩
theorem hm__law_pairs_right {K : PySem.W.Frag} {h : Heap} {mg : Str → Option Value} (X : K.In h) (G : h.Ns mainGlobals mg) (c : He.SaysD hfa hfn K) : MDef K mg "_law_pairs_right" s__law_pairs_right := by
  obtain ⟨fd, F⟩ := c.def_ 45 (d := hd__law_pairs_right) rfl
  exact ⟨_, fd, F, He.glo_ok X G (c.fact 45 (f := .glo "_law_pairs_right") rfl)⟩
theorem hm__law_right {K : PySem.W.Frag} {h : Heap} {mg : Str → Option Value} (X : K.In h) (G : h.Ns mainGlobals mg) (c : He.SaysD hfa hfn K) : MDef K mg "_law_right" s__law_right := by
  obtain ⟨fd, F⟩ := c.def_ 46 (d := hd__law_right) rfl
  exact ⟨_, fd, F, He.glo_ok X G (c.fact 46 (f := .glo "_law_right") rfl)⟩
theorem hm__law_phased {K : PySem.W.Frag} {h : Heap} {mg : Str → Option Value} (X : K.In h) (G : h.Ns mainGlobals mg) (c : He.SaysD hfa hfn K) : MDef K mg "_law_phased" s__law_phased := by
  obtain ⟨fd, F⟩ := c.def_ 47 (d := hd__law_phased) rfl
  exact ⟨_, fd, F, He.glo_ok X G (c.fact 47 (f := .glo "_law_phased") rfl)⟩
theorem hm__law_let_run {K : PySem.W.Frag} {h : Heap} {mg : Str → Option Value} (X : K.In h) (G : h.Ns mainGlobals mg) (c : He.SaysD hfa hfn K) : MDef K mg "_law_let_run" s__law_let_run := by
  obtain ⟨fd, F⟩ := c.def_ 48 (d := hd__law_let_run) rfl
  exact ⟨_, fd, F, He.glo_ok X G (c.fact 48 (f := .glo "_law_let_run") rfl)⟩
theorem hm__law_mended_right {K : PySem.W.Frag} {h : Heap} {mg : Str → Option Value} (X : K.In h) (G : h.Ns mainGlobals mg) (c : He.SaysD hfa hfn K) : MDef K mg "_law_mended_right" s__law_mended_right := by
  obtain ⟨fd, F⟩ := c.def_ 49 (d := hd__law_mended_right) rfl
  exact ⟨_, fd, F, He.glo_ok X G (c.fact 49 (f := .glo "_law_mended_right") rfl)⟩
theorem hm__law_never_later {K : PySem.W.Frag} {h : Heap} {mg : Str → Option Value} (X : K.In h) (G : h.Ns mainGlobals mg) (c : He.SaysD hfa hfn K) : MDef K mg "_law_never_later" s__law_never_later := by
  obtain ⟨fd, F⟩ := c.def_ 50 (d := hd__law_never_later) rfl
  exact ⟨_, fd, F, He.glo_ok X G (c.fact 50 (f := .glo "_law_never_later") rfl)⟩
theorem hm__law_least_right {K : PySem.W.Frag} {h : Heap} {mg : Str → Option Value} (X : K.In h) (G : h.Ns mainGlobals mg) (c : He.SaysD hfa hfn K) : MDef K mg "_law_least_right" s__law_least_right := by
  obtain ⟨fd, F⟩ := c.def_ 51 (d := hd__law_least_right) rfl
  exact ⟨_, fd, F, He.glo_ok X G (c.fact 51 (f := .glo "_law_least_right") rfl)⟩
theorem hm_mildest {K : PySem.W.Frag} {h : Heap} {mg : Str → Option Value} (X : K.In h) (G : h.Ns mainGlobals mg) (c : He.SaysD hfa hfn K) : MDefK K mg "mildest" s_mildest [("prices", .non)] := by
  obtain ⟨fd, F⟩ := c.def_ 27 (d := hd_mildest) rfl
  exact ⟨_, fd, F, He.glo_ok X G (c.fact 27 (f := .glo "mildest") rfl)⟩
theorem hfacts {P : Program} {w : World} {K : PySem.W.Frag} {h : Heap} {mg : Str → Option Value} {f : Addr} (X : K.In h) (G : h.Ns mainGlobals mg) (hfa' : mg ("law" : Str) = some (.ref f)) (c : He.SaysD hfa hfn K) :
    ∃ fd : FuncData, (∀ (s : Shared) (v : Value), BindsTo s fd ⟨[v], []⟩ [("script", v)]) ∧ ∀ base : Heap, K.In base → base.Ns mainGlobals mg → FnOk P w K mg base CX0 9 f fd ["script"] (spLaw K) := by
  obtain ⟨fd, F⟩ := c.def_ 52 (d := hd_law) rfl
  have e := hfa'.symm.trans (He.glo_ok X G (c.fact 52 (f := .glo "law") rfl))
  cases e
  have b := FunD.bindsA (ps := ["script"]) F fun _ _ _ _ _ _ us hl => match us, hl with | [_], _ => rfl
  refine ⟨fd, fun s v => b s [v] rfl, fun base _ _ => ?_⟩
  have g := hglo X G c
  have c_is_whole := cal_is_whole (P := P) (w := w) (base := base) (hm_is_whole X G c) g 
  have c_is_below := cal_is_below (P := P) (w := w) (base := base) (hm_is_below X G c) g c_is_whole
  have c_is_count := cal_is_count (P := P) (w := w) (base := base) (hm_is_count X G c) g c_is_whole
  have c_is_row := cal_is_row (P := P) (w := w) (base := base) (hm_is_row X G c) g 
  have c_is_room := cal_is_room (P := P) (w := w) (base := base) (hm_is_room X G c) g c_is_row c_is_below
  have c_is_saying := cal_is_saying (P := P) (w := w) (base := base) (hm_is_saying X G c) g c_is_row c_is_count c_is_room
  have c_need_saying := cal_need_saying (P := P) (w := w) (base := base) (hm_need_saying X G c) g c_is_saying
  have c_need_alike := cal_need_alike (P := P) (w := w) (base := base) (hm_need_alike X G c) g 
  have c_is_price := cal_is_price (P := P) (w := w) (base := base) (hm_is_price X G c) g c_is_whole
  have c_are_prices := cal_are_prices (P := P) (w := w) (base := base) (hm_are_prices X G c) g c_is_row c_is_price
  have c_need_prices := cal_need_prices (P := P) (w := w) (base := base) (hm_need_prices X G c) g c_are_prices
  have c_cost := cal_cost (P := P) (w := w) (base := base) (hm_cost X G c) g 
  have c_answers_to := cal_answers_to (P := P) (w := w) (base := base) (hm_answers_to X G c) g c_cost
  have c_keepers := cal_keepers (P := P) (w := w) (base := base) (hm_keepers X G c) g c_answers_to
  have c_losing := cal_losing (P := P) (w := w) (base := base) (hm_losing X G c) g c_keepers
  have c_lost_in := cal_lost_in (P := P) (w := w) (base := base) (hm_lost_in X G c) g c_losing
  have c_kept_in := cal_kept_in (P := P) (w := w) (base := base) (hm_kept_in X G c) g c_lost_in
  have c_need_both := cal_need_both (P := P) (w := w) (base := base) (hm_need_both X G c) g c_need_saying c_need_prices
  have c_need_kept := cal_need_kept (P := P) (w := w) (base := base) (hm_need_kept X G c) g c_kept_in
  have c_is_cell := cal_is_cell (P := P) (w := w) (base := base) (hm_is_cell X G c) g c_is_row c_is_below
  have c_is_state := cal_is_state (P := P) (w := w) (base := base) (hm_is_state X G c) g c_is_row c_is_cell
  have c_is_watcher := cal_is_watcher (P := P) (w := w) (base := base) (hm_is_watcher X G c) g c_is_row c_is_count c_is_state
  have c_need_watcher := cal_need_watcher (P := P) (w := w) (base := base) (hm_need_watcher X G c) g c_is_watcher
  have c_choices_of := cal_choices_of (P := P) (w := w) (base := base) (hm_choices_of X G c) g c_keepers
  have c_on_rooms := cal_on_rooms (P := P) (w := w) (base := base) (hm_on_rooms X G c) g 
  have c_least_of := cal_least_of (P := P) (w := w) (base := base) (hm_least_of X G c) g c_cost
  have c_mildest_on := cal_mildest_on (P := P) (w := w) (base := base) (hm_mildest_on X G c) g c_choices_of c_on_rooms c_least_of
  have c_mildest := cal_mildest (P := P) (w := w) (base := base) (hm_mildest X G c) g c_need_both c_need_kept c_mildest_on
  have c_let_wholly := cal_let_wholly (P := P) (w := w) (base := base) (hm_let_wholly X G c) g 
  have c_milder := cal_milder (P := P) (w := w) (base := base) (hm_milder X G c) g c_need_watcher c_need_alike c_let_wholly
  have c__law_cost := cal__law_cost (P := P) (w := w) (base := base) (hm__law_cost X G c) g 
  have c__law_answers := cal__law_answers (P := P) (w := w) (base := base) (hm__law_answers X G c) g c__law_cost
  have c__law_held := cal__law_held (P := P) (w := w) (base := base) (hm__law_held X G c) g c__law_answers
  have c__law_kept := cal__law_kept (P := P) (w := w) (base := base) (hm__law_kept X G c) g c__law_held
  have c__law_some := cal__law_some (P := P) (w := w) (base := base) (hm__law_some X G c) g c__law_answers
  have c__law_whole := cal__law_whole (P := P) (w := w) (base := base) (hm__law_whole X G c) g 
  have c__law_is_pair := cal__law_is_pair (P := P) (w := w) (base := base) (hm__law_is_pair X G c) g c__law_whole
  have c__law_pairs_right := cal__law_pairs_right (P := P) (w := w) (base := base) (hm__law_pairs_right X G c) g c__law_is_pair
  have c__law_right := cal__law_right (P := P) (w := w) (base := base) (hm__law_right X G c) g c__law_pairs_right
  have c__law_mended_right := cal__law_mended_right (P := P) (w := w) (base := base) (hm__law_mended_right X G c) g c__law_cost
  have c__law_never_later := cal__law_never_later (P := P) (w := w) (base := base) (hm__law_never_later X G c) g c__law_cost
  have c__law_take := cal__law_take (P := P) (w := w) (base := base) (hm__law_take X G c) g 
  have c__law_room := cal__law_room (P := P) (w := w) (base := base) (hm__law_room X G c) g c__law_take
  have c__law_saying := cal__law_saying (P := P) (w := w) (base := base) (hm__law_saying X G c) g c__law_room
  have c__law_price := cal__law_price (P := P) (w := w) (base := base) (hm__law_price X G c) g c__law_take
  have c__law_prices := cal__law_prices (P := P) (w := w) (base := base) (hm__law_prices X G c) g c__law_take c__law_price
  have c__law_run := cal__law_run (P := P) (w := w) (base := base) (hm__law_run X G c) g c__law_take
  have c__law_pot := cal__law_pot (P := P) (w := w) (base := base) (hm__law_pot X G c) g 
  have c__law_world := cal__law_world (P := P) (w := w) (base := base) (hm__law_world X G c) g c__law_take c__law_saying c__law_prices
  have c__law_let_run := cal__law_let_run (P := P) (w := w) (base := base) (hm__law_let_run X G c) g c__law_take
  have c__law_phased := cal__law_phased (P := P) (w := w) (base := base) (hm__law_phased X G c) g c__law_take c__law_some
  have c__law_least_right := cal__law_least_right (P := P) (w := w) (base := base) (hm__law_least_right X G c) g c__law_phased c_milder c__law_right c__law_run c__law_let_run c__law_never_later c__law_mended_right
  refine F.ok sc_law (fun vs H Q E ⟨_, _, e, _⟩ => by rw [e]; rfl) fun cdv A outer s H vs Q E hr h => ?_
  obtain ⟨t, h1, h2⟩ := law_body (P := P) (w := w) (base := base) g _ cdv A outer s H vs Q E c__law_take c__law_pot c__law_world c__law_kept c_mildest c__law_run c__law_let_run c__law_mended_right c__law_least_right hr h
  exact ⟨t, PSs.nox h1, h2⟩
end Mw

open PySem PySem.W PySem.Calls PyProof.Rows
theorem PySem.Challenge.cw_mildwarden_k30_whole_the_mildest_is_leas_holds : PySem.Challenge.rw_mildwarden_k30_whole_the_mildest_is_leas.Holds := by
  w_on; o_law
  refine HandSHeadRun.head_any (r := OpenLaw.row PySem.Challenge.rw_mildwarden_k30_whole_the_mildest_is_leas) (q := view (OpenLaw.row PySem.Challenge.rw_mildwarden_k30_whole_the_mildest_is_leas).prog [76]) (H := Mw.hk) (ob := Mw.hob) (M := 4000) (loose := Mw.hloose) (d := HandSHeadRun.topDef (OpenLaw.row PySem.Challenge.rw_mildwarden_k30_whole_the_mildest_is_leas).prog 76) (kwd := []) Mw.hob_eq
    (by kernel_rfl) (fun s => by kernel_rfl) Mw.hrun (by kernel_rfl) (by kernel_rfl) (by kernel_rfl) (by rfl) (by first | assumption | decide +kernel) (by decide +kernel) ⟨rfl, rfl, rfl, rfl, rfl, by decide +kernel⟩ ?hw ?hc
  case hw => w_witness2
  case hc =>
    refine L2.walk_ofE (l := PySem.Challenge.rw_mildwarden_k30_whole_the_mildest_is_leas) (n := 63) (k := 9) (x := "script") (CX := L2.CX0) rfl (by decide) (by kernel_rfl) ⟨rfl, by decide, by decide⟩ ?F (fun _ _ _ _ z => z)
    intro w mg fa h Y G hmg0
    obtain ⟨K, KX, c⟩ := Y
    have hmg : mg ("law" : PySem.Str) = some (.ref fa) := by
      have e : (HandSHeadRun.topDef (OpenLaw.row PySem.Challenge.rw_mildwarden_k30_whole_the_mildest_is_leas).prog 76).name = ("law" : PySem.Str) := by kernel_rfl
      rw [← e]
      exact hmg0
    obtain ⟨fd, hb, hF⟩ := Mw.hfacts (P := (PySem.Challenge.rw_mildwarden_k30_whole_the_mildest_is_leas).prog) (w := w) KX G hmg c
    exact ⟨K, fd, Mw.spLaw K, KX, hb, fun H a ns hl _ hS => ⟨a, ns, rfl, hS, hl, fun _ => rfl⟩, hF⟩
