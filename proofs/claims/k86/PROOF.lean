import PyProof.Rows.All
import Wide.All
import OpenK.AllK
import Wide.FinOn
import HandS.ForMost
import HandS.Wide
import HandS.IsInst
import HandS.Flow
import HandS.Walk
import HandS.Strs
import HandS.Style
import HandS.Exc
import HandS.Codes
import HandS.ForExc
import HandS.ExcIs
import HandS.Defaults
import HandS.ExcInit
import HandS.FStr
import HandS.ExcField
import HandS.TryOnly
import HandS.Conv
import HandS.TupAny
import HandS.Zip
import HandS.Deep
import HandS.TupLen
import HandS.SortKw
import HandS.RevRange
import HandS.ListItems
import HandS.SetFor
import HandS.More
import KE.KIntText
import KE.DataCmp
import KE.GoesZip
import KE.KDictZip
import Flt.Len
import HandS.Head0
import HandS.Head1
import HandS.Head2
import HandS.HeadEnd
import HandS.HeadHook1
import HandS.HeadHook2
import PySem.Challenge.RW_dearsigns_k86_whole_all_doors
set_option Elab.async false
set_option linter.all false
set_option maxRecDepth 100000
set_option maxHeartbeats 4000000

/-! the own head: what the top has left is looked at by one kernel run (HandS.Head0 .. Head2), the facts of Txt are read off by a hook; nothing of the top is written out -/
namespace Oh
open PySem PySem.Spec PyProof.Rows L2 He
/-- one part of what is looked at: facts of the top, defs -/
abbrev Part : Type := (PySem.W.Frag → List (List Bool)) × List DefD
def obs (fb : PySem.W.Frag → List (List Bool)) (fn : List DefD) (K : PySem.W.Frag) : AlD := ((fb K).all (fun l => l.all fun b => b) && fn.all fun d => d.ok K, fn.map fun d => fnW K d.at_)
def Says (fb : PySem.W.Frag → List (List Bool)) (fn : List DefD) (K : PySem.W.Frag) : Prop := obs fb fn K = valD fn
def obsG (as : List Addr) (p : Part) (g : Addr → Option Obj) : AlD := obs p.1 p.2 (frG g as)
def SaysL (ps : List Part) (K : PySem.W.Frag) : Prop := (ps.map fun p => obs p.1 p.2 K) = ps.map fun p => valD p.2
abbrev hook (as : List Addr) (ps : List Part) : PySem.W.Hook where
  α := List AlD
  obs := fun s => ps.map fun p : Part => obsG as p s.heap.get?
  val := fun _ => ps.map fun p : Part => valD p.2
  says := fun _ h => ∃ K : PySem.W.Frag, K.In h ∧ SaysL ps K
  of _ s z := ⟨frG s.heap.get? as, frG_in, z⟩
  keeps _ _ _ y k := y.elim fun F z => ⟨F, PySem.W.Frag.In.keeps z.1 k, z.2⟩
def ob (as : List Addr) (ps : List Part) (s : PySem.W.SharedT) : List AlD := ps.map fun p => obsG as p (HandSHeadRun.getT s)
theorem ob_eq (as : List Addr) (ps : List Part) (s : PySem.W.SharedT) : ob as ps s = (hook as ps).obs s.abs :=
  congrArg (fun g => ps.map fun p => obsG as p g) (funext fun a => HandSHeadRun.getT_eq s a)
theorem SaysL.at_ {ps : List Part} {K : PySem.W.Frag} (c : SaysL ps K) (i : Nat) {p : Part} (h : ps[i]? = some p := by rfl) : Says p.1 p.2 K := by
  have z := congrArg (fun l => l[i]?) (show (ps.map fun p => obs p.1 p.2 K) = ps.map fun p => valD p.2 from c)
  simp only [List.getElem?_map, h, Option.map_some] at z
  exact Option.some.inj z
/-- the state behind the top -/
noncomputable abbrev EndS (p : Program) (M : Nat) (w : World) (os : OsState) : Option PySem.W.SharedT := HandSHeadRun.endF (HandSHeadRun.stepQ (HandSHeadRun.denQ HandSHeadRun.tabQ) p w) M p w os
theorem map_parts {α β γ : Type} {e : Option α} {ps : List β} {f : α → β → γ} {v : β → γ} {s : α} (z : e = some s) (h : ∀ p ∈ ps, e.map (fun s => f s p) = some (v p)) : ps.map (f s) = ps.map v := by
  apply List.map_congr_left
  intro p hp
  have y := h p hp
  rw [z] at y
  exact Option.some.inj y
/-- the run's equation by its parts, each a run of its own -/
theorem runEq {r : PySem.W.OpenRow} {q : Program} {as : List Addr} {ps : List Part} {M : Nat} {loose : List Str} {w : World}
    (h1 : ∀ os, (EndS r.prog M w os).map (fun s => HandSHeadRun.looksF r.prog (PySem.W.boot_heap w.params) s.abs) = some true)
    (h2 : ∀ os, (EndS r.prog M w os).map (fun s => HandSHeadRun.seenQ q loose (importedModules r.prog.main.body) (fun s => PySem.W.xlAt q [] s && PySem.W.recOk r.toRowW.records s) s.abs) = some (PySem.W.openGood q loose))
    (h3 : ∀ os, ∀ p ∈ ps, (EndS r.prog M w os).map (fun s => obsG as p (HandSHeadRun.getT s)) = some (valD p.2)) : HandSHeadRun.RunEq r q (hook as ps) (ob as ps) M loose w := by
  intro os
  have a := h1 os
  have b := h2 os
  obtain ⟨s, z, a⟩ := Option.map_eq_some_iff.mp a
  have c := map_parts z (h3 os)
  rw [z] at b
  have b2 := Option.some.inj b
  show (EndS r.prog M w os).map _ = _
  rw [z]
  exact congrArg Option.some (Prod.ext a (Prod.ext b2 c))
/-! what is looked at -/
def excB (K : PySem.W.Frag) (C : Addr) (bm : List Value) : Bool := match K.lookup C with
  | some ⟨.type t, _, .cls cd, sl⟩ => (match sl.toList with
    | [_, _, _, _, some (.builtin n), _] => decide (t = "type") && (decide (n = "ValueError.__new__") && (decide (cd.mro = .ref C :: bm) && (!cd.hasDel && cd.hasDict)))
    | _ => false)
  | _ => false
def valB (o : Option PySem.W.CFound) (n : String) : Bool := match o with
  | some (.val (.builtin b)) => decide (b = n)
  | _ => false
def vB (K : PySem.W.Frag) (x : Str) (v : V) : Bool := match PySem.W.nsIn K mainGlobals x with
  | some (some u) => relB v u
  | _ => false
/-- at a: a written tuple of these -/
def ktB (K : PySem.W.Frag) (a : Addr) (vs : List V) : Bool := match K.lookup a with
  | some ⟨.type c, _, .seq its _, _⟩ => decide (c = "tuple") && (decide (its.size ≤ sizeLine) && relAll vs its.toList)
  | _ => false
/-- the j-th part of the tuple at a, an object -/
def ptA (K : PySem.W.Frag) (a : Addr) (j : Nat) : Addr := match K.lookup a with
  | some ⟨_, _, .seq its _, _⟩ => (match its.toList[j]? with
    | some (.ref b) => b
    | _ => 0)
  | _ => 0
end Oh
namespace Dear
open PySem PySem.Spec PyProof.Rows L2
def top (i : Nat) : Stmt := PySem.Challenge.pw_dearsigns_k86_whole_all_doors.main.body.getD i (.Pass ⟨0, 0, 0, 0⟩)
abbrev s__wall : Stmt := top 0
abbrev s_NoTongue___init__ : Stmt := inClass (top 8) 0
abbrev s_NoWants___init__ : Stmt := inClass (top 9) 0
abbrev s_is_whole : Stmt := top 13
abbrev s_is_name : Stmt := top 14
abbrev s_divisor : Stmt := top 15
abbrev s_is_fraction : Stmt := top 16
abbrev s_lowest : Stmt := top 17
abbrev s_fraction : Stmt := top 18
abbrev s_plus : Stmt := top 19
abbrev s_minus : Stmt := top 20
abbrev s_times : Stmt := top 21
abbrev s_under : Stmt := top 22
abbrev s_sum_of : Stmt := top 23
abbrev s_is_price : Stmt := top 29
abbrev s_is_letter_tongues : Stmt := top 30
abbrev s_is_sign : Stmt := top 32
abbrev s_are_signs : Stmt := top 33
abbrev s_are_unlike_texts : Stmt := top 34
abbrev s_look_at_tongue : Stmt := top 35
abbrev s_comes : Stmt := top 38
abbrev s_may_come : Stmt := top 39
abbrev s_prices_in : Stmt := top 40
abbrev s_lasts_in : Stmt := top 41
abbrev s_stands : Stmt := top 42
abbrev s_may_stand : Stmt := top 43
abbrev s_is_word : Stmt := top 44
abbrev s_way_of : Stmt := top 45
abbrev s_price_of : Stmt := top 46
abbrev s_grown_counts : Stmt := top 47
abbrev s_counts_by_length : Stmt := top 48
abbrev s_word_counts : Stmt := top 49
abbrev s_text_counts : Stmt := top 50
abbrev s_signs_to_ends : Stmt := top 51
abbrev s_words_of : Stmt := top 52
abbrev s_are_things : Stmt := top 54
abbrev s_is_begin : Stmt := top 55
abbrev s_is_seat : Stmt := top 56
abbrev s_first_seat : Stmt := top 57
abbrev s_partings : Stmt := top 58
abbrev s_taken_ways : Stmt := top 59
abbrev s_rest_seat : Stmt := top 60
abbrev s_is_want : Stmt := top 64
abbrev s_look_at_wants : Stmt := top 65
abbrev s_is_floor : Stmt := top 71
abbrev s_are_floors : Stmt := top 72
abbrev s_taken_cost : Stmt := top 73
abbrev s_rest_cost : Stmt := top 74
abbrev s_ways_at : Stmt := top 75
abbrev s_is_right : Stmt := top 76
abbrev s_lets_floors : Stmt := top 77
abbrev s_claim_of_floors : Stmt := top 78
abbrev s_both_ways : Stmt := top 80
abbrev s_can_follow : Stmt := top 81
abbrev s_Sets___init__ : Stmt := inClass (top 82) 0
abbrev s_Sets_of_sign : Stmt := inClass (top 82) 1
abbrev s_Sets_from_sign : Stmt := inClass (top 82) 2
abbrev s_sets_by_size : Stmt := top 83
abbrev s_books_many : Stmt := top 84
abbrev s_Lister___init__ : Stmt := inClass (top 89) 0
abbrev s_Lister_with_sign : Stmt := inClass (top 89) 1
abbrev s_Lister_listed_from : Stmt := inClass (top 89) 2
abbrev s_orders_of : Stmt := top 90
abbrev s_all_books : Stmt := top 91
abbrev s_common_bottom : Stmt := top 92
abbrev s_cost_by : Stmt := top 93
abbrev s_costs_of_all : Stmt := top 94
abbrev s_all_things : Stmt := top 99
abbrev s_Search___init__ : Stmt := inClass (top 100) 0
abbrev s_Search_is_on : Stmt := inClass (top 100) 1
abbrev s_Search_may_take : Stmt := inClass (top 100) 2
abbrev s_Search_taken_at : Stmt := inClass (top 100) 3
abbrev s_Search_rest_at : Stmt := inClass (top 100) 4
abbrev s_Search_look_at : Stmt := inClass (top 100) 5
abbrev s_Search_least_cost : Stmt := inClass (top 100) 6
abbrev s_Search_best_book : Stmt := inClass (top 100) 7
abbrev s_look_at_size_cheapest : Stmt := top 101
abbrev s_cheapest_book : Stmt := top 103
abbrev s_bound_book : Stmt := top 105
abbrev s_rank_of : Stmt := top 107
abbrev s_comes_ahead : Stmt := top 108
abbrev s_is_list_of_texts : Stmt := top 109
abbrev s_first_no_word : Stmt := top 110
abbrev s_first_begin : Stmt := top 111
abbrev s_first_turned : Stmt := top 112
abbrev s_what_is_wrong : Stmt := top 113
abbrev s_cost_of : Stmt := top 114
abbrev s_show_fraction : Stmt := top 116
abbrev s_sign_row : Stmt := top 117
abbrev s_write_case : Stmt := top 118
abbrev s_begins_of : Stmt := top 120
abbrev s_put_price : Stmt := top 121
abbrev s_columns_of : Stmt := top 122
abbrev s_look_at_mended : Stmt := top 126
abbrev s_sets_of : Stmt := top 127
abbrev s_kept_book : Stmt := top 128
abbrev s_best_keeping : Stmt := top 129
abbrev s_mend : Stmt := top 130
abbrev s_Keeper___init__ : Stmt := inClass (top 133) 0
abbrev s_Keeper_set_count : Stmt := inClass (top 133) 1
abbrev s_Keeper_undo : Stmt := inClass (top 133) 2
abbrev s_Keeper_wants_now : Stmt := inClass (top 133) 3
abbrev s_Keeper_book_now : Stmt := inClass (top 133) 4
abbrev s_Keeper_cost_now : Stmt := inClass (top 133) 5
abbrev s_Keeper_least_now : Stmt := inClass (top 133) 6
abbrev s_look_at_size_parts : Stmt := top 137
abbrev s_goes_with : Stmt := top 139
abbrev s_candidates_among : Stmt := top 140
abbrev s_candidates_of : Stmt := top 141
abbrev s_may_be_split : Stmt := top 142
abbrev s_is_amount : Stmt := top 147
abbrev s_are_amounts : Stmt := top 148
abbrev s_is_part : Stmt := top 149
abbrev s_are_parts : Stmt := top 150
abbrev s_are_shares : Stmt := top 151
abbrev s_parts_by_signs : Stmt := top 152
abbrev s_share_of : Stmt := top 153
abbrev s_signs_behind : Stmt := top 154
abbrev s_holds_for : Stmt := top 155
abbrev s_lets_shares : Stmt := top 156
abbrev s_claim_of_shares : Stmt := top 157
abbrev s_by_rising_price : Stmt := top 162
abbrev s_Judge___init__ : Stmt := inClass (top 163) 0
abbrev s_Judge_candidates : Stmt := inClass (top 163) 1
abbrev s_Judge_told_ends : Stmt := inClass (top 163) 2
abbrev s_Judge_cheapest_ones : Stmt := inClass (top 163) 3
abbrev s_Judge_bound_by : Stmt := inClass (top 163) 4
abbrev s_Judge_is_dead : Stmt := inClass (top 163) 5
abbrev s_Judge_is_by_cheapest : Stmt := inClass (top 163) 6
abbrev s_Judge_is_by_shares : Stmt := inClass (top 163) 7
abbrev s_Judge_is_so : Stmt := inClass (top 163) 8
abbrev s_Judge_is_tree : Stmt := inClass (top 163) 9
abbrev s_is_reason : Stmt := top 164
abbrev s_lets_tree : Stmt := top 165
abbrev s_cheaper_first : Stmt := top 169
abbrev s_parts_with : Stmt := top 170
abbrev s_value_for : Stmt := top 171
abbrev s_best_shares : Stmt := top 172
abbrev s_shares_for : Stmt := top 173
abbrev s_clash_in : Stmt := top 175
abbrev s_Seeker___init__ : Stmt := inClass (top 176) 0
abbrev s_Seeker_reason_for : Stmt := inClass (top 176) 1
abbrev s_Seeker_reason_by_shares : Stmt := inClass (top 176) 2
abbrev s_Seeker_book_with : Stmt := inClass (top 176) 3
abbrev s_Seeker_split_at : Stmt := inClass (top 176) 4
abbrev s_Seeker_tree_for : Stmt := inClass (top 176) 5
abbrev s_seek_book : Stmt := top 177
abbrev s_grown : Stmt := top 179
abbrev s_tree_of : Stmt := top 180
abbrev s_can_come : Stmt := top 181
abbrev s_look_at_branch : Stmt := top 182
abbrev s_look_at_tree : Stmt := top 183
abbrev s_book_of : Stmt := top 184
abbrev s_is_letter_turning : Stmt := top 189
abbrev s_look_at_letters : Stmt := top 191
abbrev s_look_at_order : Stmt := top 192
abbrev s_called : Stmt := top 193
abbrev s_turned_tongue : Stmt := top 194
abbrev s_turned_text : Stmt := top 195
abbrev s_turned_book : Stmt := top 196
abbrev s_put_so : Stmt := top 197
abbrev s_put_wants : Stmt := top 198
abbrev s_dearer : Stmt := top 199
abbrev s_more_often : Stmt := top 200
abbrev s__law_draws : Stmt := top 203
abbrev s__law_stage_two : Stmt := top 205
abbrev s__law_tongue_alone : Stmt := top 206
abbrev s__law_with_wants : Stmt := top 207
abbrev s__law_wants_alone : Stmt := top 208
abbrev s__law_told : Stmt := top 209
abbrev s__law_tongues : Stmt := top 210
abbrev s__law_wants : Stmt := top 211
abbrev s_law : Stmt := top 212
def ohB0 (K : PySem.W.Frag) : List (List Bool) := [
  [decide (PySem.W.nsIn K mainGlobals "DearError" = some (some (.ref (He.ga K "DearError"))))],
  [decide (PySem.W.nsIn K mainGlobals "NoNumber" = some (some (.ref (He.ga K "NoNumber"))))],
  [decide (PySem.W.nsIn K mainGlobals "NoBook" = some (some (.ref (He.ga K "NoBook"))))],
  [decide (PySem.W.nsIn K mainGlobals "NoTree" = some (some (.ref (He.ga K "NoTree"))))],
  [decide (PySem.W.nsIn K mainGlobals "TooMany" = some (some (.ref (He.ga K "TooMany"))))],
  [decide (PySem.W.nsIn K mainGlobals "NoTurn" = some (some (.ref (He.ga K "NoTurn"))))],
  [decide (PySem.W.nsIn K mainGlobals "NoTongue" = some (some (.ref (He.ga K "NoTongue"))))],
  [decide (PySem.W.nsIn K mainGlobals "NoWants" = some (some (.ref (He.ga K "NoWants"))))],
  [PySem.W.excIn K (He.ga K "TooMany") [.type "ValueError", .type "Exception", .type "BaseException", .type "object"] "ValueError.__new__", PySem.W.keepIn K (.ref (He.ga K "TooMany")), decide (PySem.W.subIn K (.ref (He.ga K "TooMany")) (.type "BaseException") = some true), decide (PySem.W.typeIn K (.ref (He.ga K "TooMany")) = some (.type "type")), decide (PySem.W.findIn K (.ref (He.ga K "TooMany")) "__getattribute__" = some (some (.builtin "BaseException.__getattribute__"))), decide (PySem.W.findIn K (.ref (He.ga K "TooMany")) "__getattr__" = some none), decide (PySem.W.subIn K (.ref (He.ga K "TooMany")) (.type "BaseException") = some true), PySem.W.hasDictIn K (He.ga K "TooMany"), decide (PySem.W.findIn K (.ref (He.ga K "TooMany")) "__class__" = some (some (.builtin "object.__class__"))), decide (PySem.W.specialIn K (.builtin "object.__class__") "__get__" = some (some (.builtin "getset_descriptor.__get__"))), decide (PySem.W.takesIn K (.builtin "object.__class__") = some true), decide (PySem.W.mroIn K (He.ga K "TooMany") (.type "object") = some true)],
  [decide (PySem.W.specialIn K (.ref (He.ga K "DearError")) "__getattribute__" = some (some (.builtin "type.__getattribute__"))), PySem.W.readsIn K (He.ga K "DearError") (.type "type"), Oh.valB (PySem.W.findCls K (.ref (He.ga K "DearError")) (.type "type") "__init__") "ValueError.__init__"],
  [Oh.excB K (He.ga K "NoTongue") [.ref (He.ga K "DearError"), .type "ValueError", .type "Exception", .type "BaseException", .type "object"], decide (PySem.W.findIn K (.ref (He.ga K "NoTongue")) "__setattr__" = some (some (.builtin "object.__setattr__"))), decide (PySem.W.subIn K (.ref (He.ga K "NoTongue")) (.type "BaseException") = some true), decide (PySem.W.typeIn K (.ref (He.ga K "NoTongue")) = some (.type "type")), PySem.W.keepIn K (.ref (He.ga K "NoTongue")), decide (PySem.W.findIn K (.ref (He.ga K "NoTongue")) "part" = some none), decide (PySem.W.findIn K (.ref (He.ga K "NoTongue")) "__getattribute__" = some (some (.builtin "BaseException.__getattribute__"))), decide (PySem.W.findIn K (.ref (He.ga K "NoTongue")) "__getattr__" = some none), decide (PySem.W.subIn K (.ref (He.ga K "NoTongue")) (.type "BaseException") = some true), PySem.W.hasDictIn K (He.ga K "NoTongue"), decide (PySem.W.findIn K (.ref (He.ga K "NoTongue")) "__class__" = some (some (.builtin "object.__class__"))), decide (PySem.W.specialIn K (.builtin "object.__class__") "__get__" = some (some (.builtin "getset_descriptor.__get__"))), decide (PySem.W.takesIn K (.builtin "object.__class__") = some true), decide (PySem.W.mroIn K (He.ga K "NoTongue") (.type "object") = some true), decide (PySem.W.findIn K (.ref (He.ga K "NoTongue")) "__init__" = some (some (.ref (He.ma K (He.ga K "NoTongue") "__init__")))), decide (PySem.W.typeIn K (.ref (He.ma K (He.ga K "NoTongue") "__init__")) = some (.type "function"))],
  [Oh.excB K (He.ga K "NoWants") [.ref (He.ga K "DearError"), .type "ValueError", .type "Exception", .type "BaseException", .type "object"], decide (PySem.W.findIn K (.ref (He.ga K "NoWants")) "__setattr__" = some (some (.builtin "object.__setattr__"))), decide (PySem.W.subIn K (.ref (He.ga K "NoWants")) (.type "BaseException") = some true), decide (PySem.W.typeIn K (.ref (He.ga K "NoWants")) = some (.type "type")), PySem.W.keepIn K (.ref (He.ga K "NoWants")), decide (PySem.W.findIn K (.ref (He.ga K "NoWants")) "number" = some none), decide (PySem.W.findIn K (.ref (He.ga K "NoWants")) "__getattribute__" = some (some (.builtin "BaseException.__getattribute__"))), decide (PySem.W.findIn K (.ref (He.ga K "NoWants")) "__getattr__" = some none), decide (PySem.W.subIn K (.ref (He.ga K "NoWants")) (.type "BaseException") = some true), PySem.W.hasDictIn K (He.ga K "NoWants"), decide (PySem.W.findIn K (.ref (He.ga K "NoWants")) "__class__" = some (some (.builtin "object.__class__"))), decide (PySem.W.specialIn K (.builtin "object.__class__") "__get__" = some (some (.builtin "getset_descriptor.__get__"))), decide (PySem.W.takesIn K (.builtin "object.__class__") = some true), decide (PySem.W.mroIn K (He.ga K "NoWants") (.type "object") = some true), decide (PySem.W.findIn K (.ref (He.ga K "NoWants")) "__init__" = some (some (.ref (He.ma K (He.ga K "NoWants") "__init__")))), decide (PySem.W.typeIn K (.ref (He.ma K (He.ga K "NoWants") "__init__")) = some (.type "function"))],
  [decide (PySem.W.kitOne K (.ref (He.ga K "NoWants")) (.ref (He.ga K "NoTongue")) = some false)],
  [decide (PySem.W.exmOne K (.ref (He.ga K "NoTongue")) (.ref (He.ga K "NoTongue")) = some true)],
  [decide (PySem.W.exmOne K (.ref (He.ga K "NoWants")) (.ref (He.ga K "NoWants")) = some true)],
  [decide (PySem.W.nsIn K mainGlobals "Sets" = some (some (.ref (He.ga K "Sets")))), PySem.W.plainGet K (He.ga K "Sets") Str.empty, PySem.W.hasDictIn K (He.ga K "Sets"), PySem.W.plainOver K (He.ga K "Sets"), decide (PySem.W.findIn K (.ref (He.ga K "Sets")) "__setattr__" = some (some (.builtin "object.__setattr__"))), PySem.W.makesIn K (He.ga K "Sets"), PySem.W.keepIn K (.ref (He.ga K "Sets"))],
  [decide (PySem.W.nsIn K mainGlobals "Lister" = some (some (.ref (He.ga K "Lister")))), PySem.W.plainGet K (He.ga K "Lister") Str.empty, PySem.W.hasDictIn K (He.ga K "Lister"), PySem.W.plainOver K (He.ga K "Lister"), decide (PySem.W.findIn K (.ref (He.ga K "Lister")) "__setattr__" = some (some (.builtin "object.__setattr__"))), PySem.W.makesIn K (He.ga K "Lister"), PySem.W.keepIn K (.ref (He.ga K "Lister"))],
  [decide (PySem.W.nsIn K mainGlobals "Search" = some (some (.ref (He.ga K "Search")))), PySem.W.plainGet K (He.ga K "Search") Str.empty, PySem.W.hasDictIn K (He.ga K "Search"), PySem.W.plainOver K (He.ga K "Search"), decide (PySem.W.findIn K (.ref (He.ga K "Search")) "__setattr__" = some (some (.builtin "object.__setattr__"))), PySem.W.makesIn K (He.ga K "Search"), PySem.W.keepIn K (.ref (He.ga K "Search"))],
  [decide (PySem.W.nsIn K mainGlobals "Keeper" = some (some (.ref (He.ga K "Keeper")))), PySem.W.plainGet K (He.ga K "Keeper") Str.empty, PySem.W.hasDictIn K (He.ga K "Keeper"), PySem.W.plainOver K (He.ga K "Keeper"), decide (PySem.W.findIn K (.ref (He.ga K "Keeper")) "__setattr__" = some (some (.builtin "object.__setattr__"))), PySem.W.makesIn K (He.ga K "Keeper"), PySem.W.keepIn K (.ref (He.ga K "Keeper"))],
  [decide (PySem.W.findIn K (.ref (He.ga K "Keeper")) "__init__" = some (some (.ref (He.ma K (He.ga K "Keeper") "__init__")))), PySem.W.isFn K (.ref (He.ma K (He.ga K "Keeper") "__init__")), PySem.W.keepIn K (.ref (He.ma K (He.ga K "Keeper") "__init__"))],
  [decide (PySem.W.findIn K (.ref (He.ga K "Keeper")) "book_now" = some (some (.ref (He.ma K (He.ga K "Keeper") "book_now")))), PySem.W.isFn K (.ref (He.ma K (He.ga K "Keeper") "book_now")), PySem.W.keepIn K (.ref (He.ma K (He.ga K "Keeper") "book_now"))],
  [decide (PySem.W.nsIn K mainGlobals "Judge" = some (some (.ref (He.ga K "Judge")))), PySem.W.plainGet K (He.ga K "Judge") Str.empty, PySem.W.hasDictIn K (He.ga K "Judge"), PySem.W.plainOver K (He.ga K "Judge"), decide (PySem.W.findIn K (.ref (He.ga K "Judge")) "__setattr__" = some (some (.builtin "object.__setattr__"))), PySem.W.makesIn K (He.ga K "Judge"), PySem.W.keepIn K (.ref (He.ga K "Judge"))],
  [decide (PySem.W.findIn K (.ref (He.ga K "Judge")) "__init__" = some (some (.ref (He.ma K (He.ga K "Judge") "__init__")))), PySem.W.isFn K (.ref (He.ma K (He.ga K "Judge") "__init__")), PySem.W.keepIn K (.ref (He.ma K (He.ga K "Judge") "__init__"))],
  [decide (PySem.W.findIn K (.ref (He.ga K "Judge")) "is_so" = some (some (.ref (He.ma K (He.ga K "Judge") "is_so")))), PySem.W.isFn K (.ref (He.ma K (He.ga K "Judge") "is_so")), PySem.W.keepIn K (.ref (He.ma K (He.ga K "Judge") "is_so"))],
  [decide (PySem.W.findIn K (.ref (He.ga K "Judge")) "is_tree" = some (some (.ref (He.ma K (He.ga K "Judge") "is_tree")))), PySem.W.isFn K (.ref (He.ma K (He.ga K "Judge") "is_tree")), PySem.W.keepIn K (.ref (He.ma K (He.ga K "Judge") "is_tree"))],
  [decide (PySem.W.nsIn K mainGlobals "Seeker" = some (some (.ref (He.ga K "Seeker")))), PySem.W.plainGet K (He.ga K "Seeker") Str.empty, PySem.W.hasDictIn K (He.ga K "Seeker"), PySem.W.plainOver K (He.ga K "Seeker"), decide (PySem.W.findIn K (.ref (He.ga K "Seeker")) "__setattr__" = some (some (.builtin "object.__setattr__"))), PySem.W.makesIn K (He.ga K "Seeker"), PySem.W.keepIn K (.ref (He.ga K "Seeker"))],
  [decide (PySem.W.findIn K (.ref (He.ga K "Seeker")) "__init__" = some (some (.ref (He.ma K (He.ga K "Seeker") "__init__")))), PySem.W.isFn K (.ref (He.ma K (He.ga K "Seeker") "__init__")), PySem.W.keepIn K (.ref (He.ma K (He.ga K "Seeker") "__init__"))],
  [decide (PySem.W.nsIn K mainGlobals "is_whole" = some (some (.ref (He.ga K "is_whole"))))],
  [decide (PySem.W.nsIn K mainGlobals "is_name" = some (some (.ref (He.ga K "is_name"))))],
  [decide (PySem.W.nsIn K mainGlobals "divisor" = some (some (.ref (He.ga K "divisor"))))],
  [decide (PySem.W.nsIn K mainGlobals "is_fraction" = some (some (.ref (He.ga K "is_fraction"))))],
  [decide (PySem.W.nsIn K mainGlobals "lowest" = some (some (.ref (He.ga K "lowest"))))],
  [decide (PySem.W.nsIn K mainGlobals "plus" = some (some (.ref (He.ga K "plus"))))],
  [decide (PySem.W.nsIn K mainGlobals "is_price" = some (some (.ref (He.ga K "is_price"))))],
  [decide (PySem.W.nsIn K mainGlobals "is_letter_tongues" = some (some (.ref (He.ga K "is_letter_tongues"))))],
  [decide (PySem.W.nsIn K mainGlobals "is_sign" = some (some (.ref (He.ga K "is_sign"))))],
  [decide (PySem.W.nsIn K mainGlobals "are_signs" = some (some (.ref (He.ga K "are_signs"))))],
  [decide (PySem.W.nsIn K mainGlobals "are_unlike_texts" = some (some (.ref (He.ga K "are_unlike_texts"))))],
  [decide (PySem.W.nsIn K mainGlobals "look_at_tongue" = some (some (.ref (He.ga K "look_at_tongue"))))],
  [decide (PySem.W.nsIn K mainGlobals "may_come" = some (some (.ref (He.ga K "may_come"))))],
  [decide (PySem.W.nsIn K mainGlobals "lasts_in" = some (some (.ref (He.ga K "lasts_in"))))],
  [decide (PySem.W.nsIn K mainGlobals "may_stand" = some (some (.ref (He.ga K "may_stand"))))],
  [decide (PySem.W.nsIn K mainGlobals "is_word" = some (some (.ref (He.ga K "is_word"))))],
  [decide (PySem.W.nsIn K mainGlobals "way_of" = some (some (.ref (He.ga K "way_of"))))],
  [decide (PySem.W.nsIn K mainGlobals "price_of" = some (some (.ref (He.ga K "price_of"))))],
  [decide (PySem.W.nsIn K mainGlobals "counts_by_length" = some (some (.ref (He.ga K "counts_by_length"))))],
  [decide (PySem.W.nsIn K mainGlobals "word_counts" = some (some (.ref (He.ga K "word_counts"))))],
  [decide (PySem.W.nsIn K mainGlobals "text_counts" = some (some (.ref (He.ga K "text_counts"))))],
  [decide (PySem.W.nsIn K mainGlobals "words_of" = some (some (.ref (He.ga K "words_of"))))],
  [decide (PySem.W.nsIn K mainGlobals "is_want" = some (some (.ref (He.ga K "is_want"))))],
  [decide (PySem.W.nsIn K mainGlobals "look_at_wants" = some (some (.ref (He.ga K "look_at_wants"))))],
  [decide (PySem.W.nsIn K mainGlobals "lets_floors" = some (some (.ref (He.ga K "lets_floors"))))],
  [decide (PySem.W.nsIn K mainGlobals "claim_of_floors" = some (some (.ref (He.ga K "claim_of_floors"))))],
  [decide (PySem.W.nsIn K mainGlobals "sets_by_size" = some (some (.ref (He.ga K "sets_by_size"))))],
  [decide (PySem.W.nsIn K mainGlobals "books_many" = some (some (.ref (He.ga K "books_many"))))],
  [decide (PySem.W.nsIn K mainGlobals "all_books" = some (some (.ref (He.ga K "all_books"))))],
  [decide (PySem.W.nsIn K mainGlobals "costs_of_all" = some (some (.ref (He.ga K "costs_of_all"))))],
  [decide (PySem.W.nsIn K mainGlobals "cheapest_book" = some (some (.ref (He.ga K "cheapest_book"))))],
  [decide (PySem.W.nsIn K mainGlobals "bound_book" = some (some (.ref (He.ga K "bound_book"))))],
  [decide (PySem.W.nsIn K mainGlobals "comes_ahead" = some (some (.ref (He.ga K "comes_ahead"))))]]
def ohB1 (K : PySem.W.Frag) : List (List Bool) := [
  [decide (PySem.W.nsIn K mainGlobals "what_is_wrong" = some (some (.ref (He.ga K "what_is_wrong"))))],
  [decide (PySem.W.nsIn K mainGlobals "cost_of" = some (some (.ref (He.ga K "cost_of"))))],
  [decide (PySem.W.nsIn K mainGlobals "write_case" = some (some (.ref (He.ga K "write_case"))))],
  [decide (PySem.W.nsIn K mainGlobals "columns_of" = some (some (.ref (He.ga K "columns_of"))))],
  [decide (PySem.W.nsIn K mainGlobals "mend" = some (some (.ref (He.ga K "mend"))))],
  [decide (PySem.W.nsIn K mainGlobals "candidates_of" = some (some (.ref (He.ga K "candidates_of"))))],
  [decide (PySem.W.nsIn K mainGlobals "lets_shares" = some (some (.ref (He.ga K "lets_shares"))))],
  [decide (PySem.W.nsIn K mainGlobals "is_reason" = some (some (.ref (He.ga K "is_reason"))))],
  [decide (PySem.W.nsIn K mainGlobals "lets_tree" = some (some (.ref (He.ga K "lets_tree"))))],
  [decide (PySem.W.nsIn K mainGlobals "shares_for" = some (some (.ref (He.ga K "shares_for"))))],
  [decide (PySem.W.nsIn K mainGlobals "seek_book" = some (some (.ref (He.ga K "seek_book"))))],
  [decide (PySem.W.nsIn K mainGlobals "tree_of" = some (some (.ref (He.ga K "tree_of"))))],
  [decide (PySem.W.nsIn K mainGlobals "book_of" = some (some (.ref (He.ga K "book_of"))))],
  [decide (PySem.W.nsIn K mainGlobals "turned_tongue" = some (some (.ref (He.ga K "turned_tongue"))))],
  [decide (PySem.W.nsIn K mainGlobals "turned_text" = some (some (.ref (He.ga K "turned_text"))))],
  [decide (PySem.W.nsIn K mainGlobals "turned_book" = some (some (.ref (He.ga K "turned_book"))))],
  [decide (PySem.W.nsIn K mainGlobals "put_wants" = some (some (.ref (He.ga K "put_wants"))))],
  [decide (PySem.W.nsIn K mainGlobals "dearer" = some (some (.ref (He.ga K "dearer"))))],
  [decide (PySem.W.nsIn K mainGlobals "more_often" = some (some (.ref (He.ga K "more_often"))))],
  [decide (PySem.W.nsIn K mainGlobals "_law_draws" = some (some (.ref (He.ga K "_law_draws"))))],
  [decide (PySem.W.nsIn K mainGlobals "_law_stage_two" = some (some (.ref (He.ga K "_law_stage_two"))))],
  [decide (PySem.W.nsIn K mainGlobals "_law_tongue_alone" = some (some (.ref (He.ga K "_law_tongue_alone"))))],
  [decide (PySem.W.nsIn K mainGlobals "_law_with_wants" = some (some (.ref (He.ga K "_law_with_wants"))))],
  [decide (PySem.W.nsIn K mainGlobals "_law_wants_alone" = some (some (.ref (He.ga K "_law_wants_alone"))))],
  [decide (PySem.W.nsIn K mainGlobals "_law_told" = some (some (.ref (He.ga K "_law_told"))))],
  [decide (PySem.W.nsIn K mainGlobals "_law_tongues" = some (some (.ref (He.ga K "_law_tongues"))))],
  [decide (PySem.W.nsIn K mainGlobals "_law_wants" = some (some (.ref (He.ga K "_law_wants"))))],
  [decide (PySem.W.nsIn K mainGlobals "law" = some (some (.ref (He.ga K "law"))))],
  [Oh.vB K "LETTERS_numbers" (.str "abcdefghijklmnopqrstuvwxyz")],
  [Oh.vB K "LONGEST_numbers" (.int 8)],
  [Oh.vB K "LETTERS_tongues" (.str "abcdefghijklmnopqrstuvwxyz")],
  [Oh.vB K "FEWEST_SIGNS" (.int 2)],
  [Oh.vB K "MOST_SIGNS" (.int 6)],
  [Oh.vB K "LONGEST_tongues" (.int 8)],
  [Oh.vB K "MOST_WORDS_words" (.int 5000)],
  [Oh.vB K "MOST_THINGS_wants" (.int 20)],
  [Oh.vB K "GREATEST_COUNT" (.int 1000000000)],
  [decide (PySem.W.nsIn K mainGlobals "abs" = some none)],
  [decide (PySem.W.nsIn K mainGlobals "all" = some none)],
  [decide (PySem.W.nsIn K mainGlobals "bool" = some none)],
  [decide (PySem.W.nsIn K mainGlobals "dict" = some none)],
  [decide (PySem.W.nsIn K mainGlobals "enumerate" = some none)],
  [decide (PySem.W.nsIn K mainGlobals "int" = some none)],
  [decide (PySem.W.nsIn K mainGlobals "isinstance" = some none)],
  [decide (PySem.W.nsIn K mainGlobals "len" = some none)],
  [decide (PySem.W.nsIn K mainGlobals "list" = some none)],
  [decide (PySem.W.nsIn K mainGlobals "set" = some none)],
  [decide (PySem.W.nsIn K mainGlobals "str" = some none)],
  [decide (PySem.W.nsIn K mainGlobals "sum" = some none)],
  [decide (PySem.W.nsIn K mainGlobals "tuple" = some none)]]
def ohD0 : List He.DefD := [
  ⟨("NoTongue", some "__init__"), "__init__", "NoTongue.__init__", defArgs s_NoTongue___init__, defBody s_NoTongue___init__, defScope s_NoTongue___init__, [], []⟩,
  ⟨("NoWants", some "__init__"), "__init__", "NoWants.__init__", defArgs s_NoWants___init__, defBody s_NoWants___init__, defScope s_NoWants___init__, [], []⟩,
  ⟨("Keeper", some "__init__"), "__init__", "Keeper.__init__", defArgs s_Keeper___init__, defBody s_Keeper___init__, defScope s_Keeper___init__, [.bl false, .non], []⟩,
  ⟨("Keeper", some "book_now"), "book_now", "Keeper.book_now", defArgs s_Keeper_book_now, defBody s_Keeper_book_now, defScope s_Keeper_book_now, [], []⟩,
  ⟨("Judge", some "__init__"), "__init__", "Judge.__init__", defArgs s_Judge___init__, defBody s_Judge___init__, defScope s_Judge___init__, [], []⟩,
  ⟨("Judge", some "is_so"), "is_so", "Judge.is_so", defArgs s_Judge_is_so, defBody s_Judge_is_so, defScope s_Judge_is_so, [], []⟩,
  ⟨("Judge", some "is_tree"), "is_tree", "Judge.is_tree", defArgs s_Judge_is_tree, defBody s_Judge_is_tree, defScope s_Judge_is_tree, [], []⟩,
  ⟨("Seeker", some "__init__"), "__init__", "Seeker.__init__", defArgs s_Seeker___init__, defBody s_Seeker___init__, defScope s_Seeker___init__, [], []⟩,
  ⟨("is_whole", none), "is_whole", "is_whole", defArgs s_is_whole, defBody s_is_whole, defScope s_is_whole, [], []⟩,
  ⟨("is_name", none), "is_name", "is_name", defArgs s_is_name, defBody s_is_name, defScope s_is_name, [], []⟩,
  ⟨("divisor", none), "divisor", "divisor", defArgs s_divisor, defBody s_divisor, defScope s_divisor, [], []⟩,
  ⟨("is_fraction", none), "is_fraction", "is_fraction", defArgs s_is_fraction, defBody s_is_fraction, defScope s_is_fraction, [], []⟩,
  ⟨("lowest", none), "lowest", "lowest", defArgs s_lowest, defBody s_lowest, defScope s_lowest, [], []⟩,
  ⟨("plus", none), "plus", "plus", defArgs s_plus, defBody s_plus, defScope s_plus, [], []⟩,
  ⟨("is_price", none), "is_price", "is_price", defArgs s_is_price, defBody s_is_price, defScope s_is_price, [], []⟩,
  ⟨("is_letter_tongues", none), "is_letter", "is_letter", defArgs s_is_letter_tongues, defBody s_is_letter_tongues, defScope s_is_letter_tongues, [], []⟩,
  ⟨("is_sign", none), "is_sign", "is_sign", defArgs s_is_sign, defBody s_is_sign, defScope s_is_sign, [], []⟩,
  ⟨("are_signs", none), "are_signs", "are_signs", defArgs s_are_signs, defBody s_are_signs, defScope s_are_signs, [], []⟩,
  ⟨("are_unlike_texts", none), "are_unlike_texts", "are_unlike_texts", defArgs s_are_unlike_texts, defBody s_are_unlike_texts, defScope s_are_unlike_texts, [], []⟩,
  ⟨("look_at_tongue", none), "look_at_tongue", "look_at_tongue", defArgs s_look_at_tongue, defBody s_look_at_tongue, defScope s_look_at_tongue, [], []⟩,
  ⟨("may_come", none), "may_come", "may_come", defArgs s_may_come, defBody s_may_come, defScope s_may_come, [], []⟩,
  ⟨("lasts_in", none), "lasts_in", "lasts_in", defArgs s_lasts_in, defBody s_lasts_in, defScope s_lasts_in, [], []⟩,
  ⟨("may_stand", none), "may_stand", "may_stand", defArgs s_may_stand, defBody s_may_stand, defScope s_may_stand, [], []⟩,
  ⟨("is_word", none), "is_word", "is_word", defArgs s_is_word, defBody s_is_word, defScope s_is_word, [], []⟩,
  ⟨("way_of", none), "way_of", "way_of", defArgs s_way_of, defBody s_way_of, defScope s_way_of, [], []⟩]
def ohD1 : List He.DefD := [
  ⟨("price_of", none), "price_of", "price_of", defArgs s_price_of, defBody s_price_of, defScope s_price_of, [], []⟩,
  ⟨("counts_by_length", none), "counts_by_length", "counts_by_length", defArgs s_counts_by_length, defBody s_counts_by_length, defScope s_counts_by_length, [], []⟩,
  ⟨("word_counts", none), "word_counts", "word_counts", defArgs s_word_counts, defBody s_word_counts, defScope s_word_counts, [], []⟩,
  ⟨("text_counts", none), "text_counts", "text_counts", defArgs s_text_counts, defBody s_text_counts, defScope s_text_counts, [], []⟩,
  ⟨("words_of", none), "words_of", "words_of", defArgs s_words_of, defBody s_words_of, defScope s_words_of, [], []⟩,
  ⟨("is_want", none), "is_want", "is_want", defArgs s_is_want, defBody s_is_want, defScope s_is_want, [], []⟩,
  ⟨("look_at_wants", none), "look_at_wants", "look_at_wants", defArgs s_look_at_wants, defBody s_look_at_wants, defScope s_look_at_wants, [], []⟩,
  ⟨("lets_floors", none), "lets_floors", "lets_floors", defArgs s_lets_floors, defBody s_lets_floors, defScope s_lets_floors, [], []⟩,
  ⟨("claim_of_floors", none), "claim_of_floors", "claim_of_floors", defArgs s_claim_of_floors, defBody s_claim_of_floors, defScope s_claim_of_floors, [], []⟩,
  ⟨("sets_by_size", none), "sets_by_size", "sets_by_size", defArgs s_sets_by_size, defBody s_sets_by_size, defScope s_sets_by_size, [], []⟩,
  ⟨("books_many", none), "books_many", "books_many", defArgs s_books_many, defBody s_books_many, defScope s_books_many, [], []⟩,
  ⟨("all_books", none), "all_books", "all_books", defArgs s_all_books, defBody s_all_books, defScope s_all_books, [], []⟩,
  ⟨("costs_of_all", none), "costs_of_all", "costs_of_all", defArgs s_costs_of_all, defBody s_costs_of_all, defScope s_costs_of_all, [], []⟩,
  ⟨("cheapest_book", none), "cheapest_book", "cheapest_book", defArgs s_cheapest_book, defBody s_cheapest_book, defScope s_cheapest_book, [], []⟩,
  ⟨("bound_book", none), "bound_book", "bound_book", defArgs s_bound_book, defBody s_bound_book, defScope s_bound_book, [], []⟩,
  ⟨("comes_ahead", none), "comes_ahead", "comes_ahead", defArgs s_comes_ahead, defBody s_comes_ahead, defScope s_comes_ahead, [], []⟩,
  ⟨("what_is_wrong", none), "what_is_wrong", "what_is_wrong", defArgs s_what_is_wrong, defBody s_what_is_wrong, defScope s_what_is_wrong, [.bl false], []⟩,
  ⟨("cost_of", none), "cost_of", "cost_of", defArgs s_cost_of, defBody s_cost_of, defScope s_cost_of, [], []⟩,
  ⟨("write_case", none), "write_case", "write_case", defArgs s_write_case, defBody s_write_case, defScope s_write_case, [], []⟩,
  ⟨("columns_of", none), "columns_of", "columns_of", defArgs s_columns_of, defBody s_columns_of, defScope s_columns_of, [], []⟩,
  ⟨("mend", none), "mend", "mend", defArgs s_mend, defBody s_mend, defScope s_mend, [], []⟩,
  ⟨("candidates_of", none), "candidates_of", "candidates_of", defArgs s_candidates_of, defBody s_candidates_of, defScope s_candidates_of, [], []⟩,
  ⟨("lets_shares", none), "lets_shares", "lets_shares", defArgs s_lets_shares, defBody s_lets_shares, defScope s_lets_shares, [], []⟩,
  ⟨("is_reason", none), "is_reason", "is_reason", defArgs s_is_reason, defBody s_is_reason, defScope s_is_reason, [], []⟩,
  ⟨("lets_tree", none), "lets_tree", "lets_tree", defArgs s_lets_tree, defBody s_lets_tree, defScope s_lets_tree, [], []⟩]
def ohD2 : List He.DefD := [
  ⟨("shares_for", none), "shares_for", "shares_for", defArgs s_shares_for, defBody s_shares_for, defScope s_shares_for, [], []⟩,
  ⟨("seek_book", none), "seek_book", "seek_book", defArgs s_seek_book, defBody s_seek_book, defScope s_seek_book, [], []⟩,
  ⟨("tree_of", none), "tree_of", "tree_of", defArgs s_tree_of, defBody s_tree_of, defScope s_tree_of, [], []⟩,
  ⟨("book_of", none), "book_of", "book_of", defArgs s_book_of, defBody s_book_of, defScope s_book_of, [], []⟩,
  ⟨("turned_tongue", none), "turned_tongue", "turned_tongue", defArgs s_turned_tongue, defBody s_turned_tongue, defScope s_turned_tongue, [], []⟩,
  ⟨("turned_text", none), "turned_text", "turned_text", defArgs s_turned_text, defBody s_turned_text, defScope s_turned_text, [], []⟩,
  ⟨("turned_book", none), "turned_book", "turned_book", defArgs s_turned_book, defBody s_turned_book, defScope s_turned_book, [], []⟩,
  ⟨("put_wants", none), "put_wants", "put_wants", defArgs s_put_wants, defBody s_put_wants, defScope s_put_wants, [], []⟩,
  ⟨("dearer", none), "dearer", "dearer", defArgs s_dearer, defBody s_dearer, defScope s_dearer, [], []⟩,
  ⟨("more_often", none), "more_often", "more_often", defArgs s_more_often, defBody s_more_often, defScope s_more_often, [], []⟩,
  ⟨("_law_draws", none), "_law_draws", "_law_draws", defArgs s__law_draws, defBody s__law_draws, defScope s__law_draws, [], []⟩,
  ⟨("_law_stage_two", none), "_law_stage_two", "_law_stage_two", defArgs s__law_stage_two, defBody s__law_stage_two, defScope s__law_stage_two, [], []⟩,
  ⟨("_law_tongue_alone", none), "_law_tongue_alone", "_law_tongue_alone", defArgs s__law_tongue_alone, defBody s__law_tongue_alone, defScope s__law_tongue_alone, [], []⟩,
  ⟨("_law_with_wants", none), "_law_with_wants", "_law_with_wants", defArgs s__law_with_wants, defBody s__law_with_wants, defScope s__law_with_wants, [], []⟩,
  ⟨("_law_wants_alone", none), "_law_wants_alone", "_law_wants_alone", defArgs s__law_wants_alone, defBody s__law_wants_alone, defScope s__law_wants_alone, [], []⟩,
  ⟨("_law_told", none), "_law_told", "_law_told", defArgs s__law_told, defBody s__law_told, defScope s__law_told, [], []⟩,
  ⟨("_law_tongues", none), "_law_tongues", "_law_tongues", defArgs s__law_tongues, defBody s__law_tongues, defScope s__law_tongues, [], []⟩,
  ⟨("_law_wants", none), "_law_wants", "_law_wants", defArgs s__law_wants, defBody s__law_wants, defScope s__law_wants, [], []⟩,
  ⟨("law", none), "law", "law", defArgs s_law, defBody s_law, defScope s_law, [], []⟩]
def ohP0 : Oh.Part := (ohB0, [])
def ohP1 : Oh.Part := (ohB1, [])
def ohP2 : Oh.Part := (fun _ => [], ohD0)
def ohP3 : Oh.Part := (fun _ => [], ohD1)
def ohP4 : Oh.Part := (fun _ => [], ohD2)
def ohPs : List Oh.Part := [ohP0, ohP1, ohP2, ohP3, ohP4]
abbrev ohR : PySem.W.OpenRow := PySem.W.OpenLaw.row PySem.Challenge.rw_dearsigns_k86_whole_all_doors
def ohN0 : List PySem.Str := ["_wall", "DearError", "NoNumber", "NoBook", "NoTree", "TooMany", "NoTurn", "NoTongue", "NoWants", "LETTERS_numbers", "LONGEST_numbers", "is_whole", "is_name", "divisor", "is_fraction", "lowest", "fraction", "plus", "minus", "times", "under", "sum_of", "LETTERS_tongues", "FEWEST_SIGNS", "MOST_SIGNS", "LONGEST_tongues", "is_price", "is_letter", "is_letter_tongues", "is_sign"]
def ohN1 : List PySem.Str := ["are_signs", "are_unlike_texts", "look_at_tongue", "MOST_WORDS_words", "comes", "may_come", "prices_in", "lasts_in", "stands", "may_stand", "is_word", "way_of", "price_of", "grown_counts", "counts_by_length", "word_counts", "text_counts", "signs_to_ends", "words_of", "are_things", "is_begin", "is_seat", "first_seat", "partings", "taken_ways", "rest_seat", "MOST_THINGS_wants", "GREATEST_COUNT", "is_want", "look_at_wants"]
def ohN2 : List PySem.Str := ["NOUGHT_floors", "MOST_SEATS", "MOST_THINGS_floors", "MOST_ORDERED_floors", "is_floor", "are_floors", "taken_cost", "rest_cost", "ways_at", "is_right", "lets_floors", "claim_of_floors", "both_ways", "can_follow", "Sets", "sets_by_size", "books_many", "MOST_BOOKS", "MOST_WORDS_allbooks", "MOST_THINGS_allbooks", "Lister", "orders_of", "all_books", "common_bottom", "cost_by", "costs_of_all", "NOUGHT_cheapest", "MOST_THINGS_cheapest", "MOST_ORDERED_cheapest", "all_things"]
def ohN3 : List PySem.Str := ["Search", "look_at_size", "look_at_size_cheapest", "cheapest_book", "bound_book", "rank_of", "comes_ahead", "is_list_of_texts", "first_no_word", "first_begin", "first_turned", "what_is_wrong", "cost_of", "show_fraction", "sign_row", "write_case", "begins_of", "put_price", "columns_of", "MOST_THINGS_mending", "MOST_ORDERED_mending", "look_at_mended", "sets_of", "kept_book", "best_keeping", "mend", "NOUGHT_keeper", "Keeper", "MOST_WORDS_parts", "MOST_TEXTS_parts"]
def ohN4 : List PySem.Str := ["look_at_size_parts", "goes_with", "candidates_among", "candidates_of", "may_be_split", "MOST_LOOKED", "NOUGHT_shares", "ONE", "is_amount", "are_amounts", "is_part", "are_parts", "are_shares", "parts_by_signs", "share_of", "signs_behind", "holds_for", "lets_shares", "claim_of_shares", "ENDINGS", "MOST_NODES", "MOST_WITHIN", "by_rising_price", "Judge", "is_reason", "lets_tree", "MOST_TEXTS_sharing", "TRIES", "cheaper_first", "parts_with"]
def ohN5 : List PySem.Str := ["value_for", "best_shares", "shares_for", "clash_in", "Seeker", "seek_book", "grown", "tree_of", "can_come", "look_at_branch", "look_at_tree", "book_of", "LETTERS_turning", "GREATEST_FACTOR", "MOST_OFTEN", "is_letter_turning", "look_at_letters", "look_at_order", "called", "turned_tongue", "turned_text", "turned_book", "put_so", "put_wants", "dearer", "more_often", "_law_cell", "_law_draws", "_law_low", "_law_stage_two"]
def ohN6 : List PySem.Str := ["_law_tongue_alone", "_law_with_wants", "_law_wants_alone", "_law_told", "_law_tongues", "_law_wants"]
def ohNames : List PySem.Str := ohN0 ++ ohN1 ++ ohN2 ++ ohN3 ++ ohN4 ++ ohN5 ++ ohN6
def ohAs : List Addr := mainGlobals :: cStatics :: List.range' 0 1600
abbrev ohQ : Program := PySem.W.view ohR.prog [212]
theorem ohR1 (w : World) (os : OsState) : (Oh.EndS ohR.prog 30000 w os).map (fun s => HandSHeadRun.looksF ohR.prog (PySem.W.boot_heap w.params) s.abs) = some true := by kernel_rfl
theorem ohR2 (w : World) (os : OsState) : (Oh.EndS ohR.prog 30000 w os).map (fun s => HandSHeadRun.seenQ ohQ ohNames (importedModules ohR.prog.main.body) (fun s => PySem.W.xlAt ohQ [] s && PySem.W.recOk ohR.toRowW.records s) s.abs) = some (PySem.W.openGood ohQ ohNames) := by kernel_rfl
theorem ohS0 (w : World) (os : OsState) : (Oh.EndS ohR.prog 30000 w os).map (fun s => Oh.obsG ohAs ohP0 (HandSHeadRun.getT s)) = some (He.valD ohP0.2) := by kernel_rfl
theorem ohS1 (w : World) (os : OsState) : (Oh.EndS ohR.prog 30000 w os).map (fun s => Oh.obsG ohAs ohP1 (HandSHeadRun.getT s)) = some (He.valD ohP1.2) := by kernel_rfl
theorem ohS2 (w : World) (os : OsState) : (Oh.EndS ohR.prog 30000 w os).map (fun s => Oh.obsG ohAs ohP2 (HandSHeadRun.getT s)) = some (He.valD ohP2.2) := by kernel_rfl
theorem ohS3 (w : World) (os : OsState) : (Oh.EndS ohR.prog 30000 w os).map (fun s => Oh.obsG ohAs ohP3 (HandSHeadRun.getT s)) = some (He.valD ohP3.2) := by kernel_rfl
theorem ohS4 (w : World) (os : OsState) : (Oh.EndS ohR.prog 30000 w os).map (fun s => Oh.obsG ohAs ohP4 (HandSHeadRun.getT s)) = some (He.valD ohP4.2) := by kernel_rfl
theorem ohS (w : World) (os : OsState) : ∀ p ∈ ohPs, (Oh.EndS ohR.prog 30000 w os).map (fun s => Oh.obsG ohAs p (HandSHeadRun.getT s)) = some (He.valD p.2) := by
  intro p hp
  rcases List.mem_cons.mp hp with rfl | hp
  · exact ohS0 w os
  rcases List.mem_cons.mp hp with rfl | hp
  · exact ohS1 w os
  rcases List.mem_cons.mp hp with rfl | hp
  · exact ohS2 w os
  rcases List.mem_cons.mp hp with rfl | hp
  · exact ohS3 w os
  rcases List.mem_cons.mp hp with rfl | hp
  · exact ohS4 w os
  cases hp
theorem ohRun (w : World) : HandSHeadRun.RunEq ohR ohQ (Oh.hook ohAs ohPs) (Oh.ob ohAs ohPs) 30000 ohNames w := Oh.runEq (ohR1 w) (ohR2 w) (ohS w)
end Dear
open PySem PySem.W PySem.Calls PyProof.Rows
theorem Dear.ohTop (hc : WalkO Dear.ohQ Dear.ohNames (XL Dear.ohQ []) (Oh.hook Dear.ohAs Dear.ohPs).says Dear.ohR.toRowW (HandSHeadRun.topDef Dear.ohR.prog 212) [] fun f vs => PySem.call f vs) : PySem.Challenge.rw_dearsigns_k86_whole_all_doors.Holds := by
  w_on; o_law
  refine HandSHeadRun.head_any (r := OpenLaw.row PySem.Challenge.rw_dearsigns_k86_whole_all_doors) (q := Dear.ohQ) (H := Oh.hook Dear.ohAs Dear.ohPs) (ob := Oh.ob Dear.ohAs Dear.ohPs) (M := 30000) (loose := Dear.ohNames) (d := HandSHeadRun.topDef Dear.ohR.prog 212) (kwd := []) (Oh.ob_eq Dear.ohAs Dear.ohPs) (by kernel_rfl) (fun s => by kernel_rfl) Dear.ohRun (by kernel_rfl) (by kernel_rfl) (by kernel_rfl) (by rfl) (by first | assumption | decide +kernel) (by decide +kernel) ⟨rfl, rfl, rfl, rfl, rfl, by decide +kernel⟩ ?hw hc
  case hw => w_witness2


namespace Dear
open PySem PySem.Spec PyProof.Rows L2
/-! ### a def of the text, and a def with its promise -/
def Df (K : PySem.W.Frag) (mg : Str → Option Value) (x : Str) (st : Stmt) (ps : List Str) : Prop :=
  ∃ (f : Addr) (fd : FuncData), mg x = some (.ref f) ∧ Fun K x x st f fd ∧ Binds K fd ps []
/-- a def that the text calls by another name -/
def DfA (K : PySem.W.Frag) (mg : Str → Option Value) (y x : Str) (st : Stmt) (ps : List Str) : Prop :=
  ∃ (f : Addr) (fd : FuncData), mg y = some (.ref f) ∧ Fun K x x st f fd ∧ Binds K fd ps []
def OkF (P : Program) (w : World) (K : PySem.W.Frag) (mg : Str → Option Value) (base : Heap) (CX : CXT) (k : Nat) (x : Str) (ps : List Str) (sp : Sp) : Prop :=
  ∃ (f : Addr) (fd : FuncData), mg x = some (.ref f) ∧ PySem.W.keepIn K (.ref f) = true ∧ Binds K fd ps [] ∧ FnOk P w K mg base CX k f fd ps sp
section
variable {P : Program} {w : World} {K : PySem.W.Frag} {mg : Str → Option Value} {base : Heap}
theorem DfA.ok {y x : Str} {st : Stmt} {N ps : List Str} {k : Nat} {sp : Sp} (D : DfA K mg y x st ps) (S : FnScope N ps (defScope st)) (len : ∀ vs H Q E, sp vs H Q E → vs.length = ps.length)
    (hbody : ∀ (f : Addr) (cdv : Value) (A : Around) (outer : List Env) (s : Shared) (H : Hp) (vs : List V) (Q : VK) (E : XK), Room k (A.deeper (envOfC x (defScope st) s.heap.objs.size f cdv)) → sp vs H Q E →
      ∃ t, PSs (cxOf CX0 P w K mg base N x (defScope st) f cdv A outer s H E).nox (defBody st) t ∧ t { nx := fun _ H' => Q .non H', rt := Q } (start N vs) H) : OkF P w K mg base CX0 (k + 1) y ps sp := by
  obtain ⟨f, fd, hm, F, hb⟩ := D
  exact ⟨f, fd, hm, F.kp, hb, F.ok S len (hbody f)⟩
theorem Df.ok {x : Str} {st : Stmt} {N ps : List Str} {k : Nat} {sp : Sp} (D : Df K mg x st ps) (S : FnScope N ps (defScope st)) (len : ∀ vs H Q E, sp vs H Q E → vs.length = ps.length)
    (hbody : ∀ (f : Addr) (cdv : Value) (A : Around) (outer : List Env) (s : Shared) (H : Hp) (vs : List V) (Q : VK) (E : XK), Room k (A.deeper (envOfC x (defScope st) s.heap.objs.size f cdv)) → sp vs H Q E →
      ∃ t, PSs (cxOf CX0 P w K mg base N x (defScope st) f cdv A outer s H E).nox (defBody st) t ∧ t { nx := fun _ H' => Q .non H', rt := Q } (start N vs) H) : OkF P w K mg base CX0 (k + 1) x ps sp := by
  obtain ⟨f, fd, hm, F, hb⟩ := D
  exact ⟨f, fd, hm, F.kp, hb, F.ok S len (hbody f)⟩
end
section
variable {X : Cx}
theorem pe_c {k k' : Nat} {x : Str} {ps : List Str} {sp : Sp} {e : Expr} {es : List Expr} {t : TA} {p pos : Pos} (O : OkF X.prog X.w X.K X.mg X.base CX0 k x ps sp) (hr : Room k' X.A) (ha : PA X (e :: es) t) (hk : k ≤ k' := by decide) (hg : Gl X x := by rfl)
    (hdb : (x == ("__debug__" : Str)) = false := by decide) (he : starEach (e :: es) X.env = (false, eval e X.env) :: starEach es X.env := by rfl) (hpl : (backTo pos (starEach es X.env)).any (·.1) = false := by rfl) :
    PE X (.Call (.Name x p) (e :: es) [] pos) (tCall sp [] E0 t) := by
  obtain ⟨f, fd, hm, hkp, hb, F⟩ := O
  exact pe_call F (hr.mono hk) hg hm hkp hb .nil pass0 ha hdb he hpl
theorem pe_gi {x : Str} {i : Int} {pos : Pos} (h : ∃ t, X.mg x = some (.int i t)) (hg : Gl X x := by rfl) (hd : (x == ("__debug__" : Str)) = false := by decide) : PE X (.Name x pos) (tC (.int i)) := by
  obtain ⟨t, h⟩ := h
  exact pe_glob hg h ⟨_, rfl⟩ hd
theorem pe_gs {x : Str} {z : Str} {pos : Pos} (h : ∃ t, X.mg x = some (.str z t)) (hg : Gl X x := by rfl) (hd : (x == ("__debug__" : Str)) = false := by decide) : PE X (.Name x pos) (tC (.str z)) := by
  obtain ⟨t, h⟩ := h
  exact pe_glob hg h ⟨_, rfl⟩ hd
end
/-! ### the rules with the written part K named -/
section
variable {X : Cx} (K : PySem.W.Frag)
def rLen : List V → Hp → VK → Prop := fun xs H Q => ∃ p ys, xs = [.ref p] ∧ (SqL K H p ys ∨ SqT K H p ys) ∧ Q (.int ys.length) H
def rListOf : List V → Hp → VK → Prop := fun xs H Q => ∃ p ys, xs = [.ref p] ∧ (SqL K H p ys ∨ SqT K H p ys) ∧ ∀ l, H l = none → Q (.ref l) (upd H l (.lst ys))
def rTupOf : List V → Hp → VK → Prop := fun xs H Q => ∃ p ys, xs = [.ref p] ∧ ((SqL K H p ys ∧ ∀ l, H l = none → Q (.ref l) (upd H l (.tup ys))) ∨ (SqT K H p ys ∧ Q (.ref p) H))
theorem call_tuple_of_k (h : X.K = K := by rfl) : CallR X (.type "tuple") (rTupOf K) := h ▸ call_tuple_of
theorem cr_sum_k (hc : X.calm = true) (h : X.K = K := by rfl) : CallR X (.builtin "sum") (rSum K) := h ▸ cr_sum hc
theorem cr_all_k (hc : X.calm = true) (h : X.K = K := by rfl) : CallR X (.builtin "all") (rAll K) := h ▸ cr_all hc
theorem call_isi_k (h : X.K = K := by rfl) : CallR X (.builtin "isinstance") (rIsi K) := h ▸ call_isi
def rDictP : List V → Hp → VK → Prop := fun xs H Q => ∃ (a : Addr) (ps : List Addr) (kvs : List (Key × V)), xs = [.ref a] ∧ SqL K H a (ps.map V.ref) ∧ Paired (fun p kv => SqT K H p [kV kv.1, kv.2]) ps kvs ∧
    ∀ p, H p = none → Q (.ref p) (upd H p (.dK (mergeK [] kvs)))
theorem call_dictP_k (hc : X.calm = true) (h : X.K = K := by rfl) : CallR X (.type "dict") (rDictP K) := h ▸ call_dictP hc
theorem u1 {n : Nat} (h : n + 64 < cLine) : n + 1 < cLine := by omega
def rJoin : V → List V → Hp → VK → Prop := fun x xs H Q => ∃ a p, ∃ ys : List Str, x = .str a ∧ xs = [.ref p] ∧ (SqL K H p (ys.map V.str) ∨ SqT K H p (ys.map V.str)) ∧ (ys.map (·.length)).sum + ys.length * a.length ≤ 16777216 ∧ Q (.str (Txt.join a ys)) H
end
/-! ### heaps -/
/-- all that was tracked, but for what stands at l, is as it was -/
def But (l : Addr) (H H' : Hp) : Prop := ∀ b o, H b = some o → b ≠ l → H' b = some o
theorem But.refl (l : Addr) (H : Hp) : But l H H := fun _ _ h _ => h
theorem But.trans {l : Addr} {H H1 H2 : Hp} (a : But l H H1) (b : But l H1 H2) : But l H H2 := fun c o h n => b c o (a c o h n) n
theorem But.of {l : Addr} {H H1 : Hp} (a : Same H H1) : But l H H1 := fun c o h _ => a c o h
theorem But.upd {l : Addr} {H : Hp} {o : HO} : But l H (upd H l o) := fun b _ h n => by rw [upd_ne n]; exact h
theorem Same.upd {H : Hp} {l : Addr} {o : HO} (h : H l = none) : Same H (upd H l o) := fun b u e => by
  rw [upd_ne (ne_of_none e h)]
  exact e
theorem But.new {l : Addr} {H H1 : Hp} {p : Addr} {o : HO} (a : But l H H1) (h : H1 p = none) : But l H (L2.upd H1 p o) := a.trans (.of (Same.upd h))
theorem Same.new {H H1 : Hp} {p : Addr} {o : HO} (a : Same H H1) (h : H1 p = none) : Same H (L2.upd H1 p o) := a.trans (Same.upd h)
/-! ### readings, step by step -/
section
variable {σ : L2.St} {H : Hp} {D : Ends} {t1 t2 : TS} {te : TE} {i : Nat} {c : TT}
end
end Dear

namespace Dear
open PySem PySem.Spec PyProof.Rows L2
/-! ### an exception that is caught, kept in a name, and asked behind the suite -/
/-- a kept exception at a: its class, its own dict -/
def ExK (cls : Value) (d : Option Addr) (a : Addr) : HO := .ext fun h => ∃ (oe : Obj) (vs : Array Value), h.get? a = some oe ∧ Zc cls d oe ∧ oe.data = .fields vs
section
variable {X : Cx} {pins : List (Addr × Obj)} {σ : L2.St} {H : Hp} {s : Shared}
end
/-- what «except x as n: y = n» wishes of an exception of the body: n's slot is i, y's is j; behind it the exception stands tracked -/
def wKept (K : PySem.W.Frag) (c : Value) (i j : Nat) (Wout : WX) (D : Ends) : WX := fun cls d σ H =>
  ∃ b, PySem.W.exmOne K cls c = some b ∧ (b = true → ∀ a, H a = none → D.nx (((σ.set i (some (.ref a))).set j (some (.ref a))).set i none) (upd H a (ExK cls d a))) ∧ (b = false → Wout cls d σ H)
section
variable {X : Cx} {x n y : Str} {c : Value} {i j : Nat} {body : List Stmt} {np pos pos2 p3 p4 p5 : Pos} {tb : WX → TS} {Wout : WX}
end
/-! ### isinstance of a kept exception -/
def rIsX (K : PySem.W.Frag) : List V → Hp → VK → Prop := fun xs H Q => ∃ (a D : Addr) (c : V) (u : Value) (b : Bool), xs = [.ref a, c] ∧ H a = some (ExK (.ref D) none a) ∧ ExcC K D ∧ ClsV c u ∧ PySem.W.kitOne K (.ref D) u = some b ∧ Q (.bl b) H
def rIsXT (K : PySem.W.Frag) : List V → Hp → VK → Prop := fun xs H Q => ∃ (a D tp : Addr) (cs : List V) (us : List Value) (b : Bool), xs = [.ref a, .ref tp] ∧ H a = some (ExK (.ref D) none a) ∧ ExcC K D ∧ H tp = some (.tup cs) ∧ Paired ClsV cs us ∧ PySem.W.kitAny K (.ref D) us = some b ∧ Q (.bl b) H
section
variable {X : Cx} (K : PySem.W.Frag)
end
/-! ### facts of own exception classes, calls of defs that raise, defs with defaults -/
/-- an own exception class over ValueError, without an own __init__ -/
structure ExOwn (K : PySem.W.Frag) (mg : Str → Option Value) (x : Str) (C : Addr) : Prop where
  g : mg x = some (.ref C)
  x : PySem.W.excIn K C [.type "ValueError", .type "Exception", .type "BaseException", .type "object"] "ValueError.__new__" = true
  k : PySem.W.keepIn K (.ref C) = true
  b : PySem.W.subIn K (.ref C) (.type "BaseException") = some true
  t : PySem.W.typeIn K (.ref C) = some (.type "type")
  c : ExcC K C
/-- a def with defaults dvs, and with its promise -/
def DfD (K : PySem.W.Frag) (mg : Str → Option Value) (x : Str) (st : Stmt) (ps : List Str) (dvs : List V) : Prop :=
  ∃ (f : Addr) (fd : FuncData), mg x = some (.ref f) ∧ FunD K x x (defArgs st) (defBody st) (defScope st) dvs [] f fd ∧ (∃ ds, Vals dvs ds ∧ Binds K fd ps ds) ∧ Binds K fd ps []
def OkD (P : Program) (w : World) (K : PySem.W.Frag) (mg : Str → Option Value) (base : Heap) (CX : CXT) (k : Nat) (x : Str) (ps : List Str) (dvs : List V) (sp : Sp) : Prop :=
  ∃ (f : Addr) (fd : FuncData), mg x = some (.ref f) ∧ PySem.W.keepIn K (.ref f) = true ∧ (∃ ds, Vals dvs ds ∧ Binds K fd ps ds) ∧ Binds K fd ps [] ∧ FnOk P w K mg base CX k f fd ps sp
section
variable {P : Program} {w : World} {K : PySem.W.Frag} {mg : Str → Option Value} {base : Heap}
theorem DfD.ok {CX : CXT} {x : Str} {st : Stmt} {N ps : List Str} {dvs : List V} {k : Nat} {sp : Sp} (D : DfD K mg x st ps dvs) (S : FnScope N ps (defScope st)) (len : ∀ vs H Q E, sp vs H Q E → vs.length = ps.length)
    (hbody : ∀ (f : Addr) (cdv : Value) (A : Around) (outer : List Env) (s : Shared) (H : Hp) (vs : List V) (Q : VK) (E : XK), Room k (A.deeper (envOfC x (defScope st) s.heap.objs.size f cdv)) → sp vs H Q E →
      ∃ t, PSs (cxOf CX P w K mg base N x (defScope st) f cdv A outer s H E) (defBody st) t ∧ t { nx := fun _ H' => Q .non H', rt := Q } (start N vs) H) : OkD P w K mg base CX (k + 1) x ps dvs sp := by
  obtain ⟨f, fd, hm, F, hb, hb0⟩ := D
  exact ⟨f, fd, hm, F.kp, hb, hb0, F.ok S len (hbody f)⟩
/-- a def that may raise -/
theorem Df.okX {x : Str} {st : Stmt} {N ps : List Str} {k : Nat} {sp : Sp} (D : Df K mg x st ps) (S : FnScope N ps (defScope st)) (len : ∀ vs H Q E, sp vs H Q E → vs.length = ps.length)
    (hbody : ∀ (f : Addr) (cdv : Value) (A : Around) (outer : List Env) (s : Shared) (H : Hp) (vs : List V) (Q : VK) (E : XK), Room k (A.deeper (envOfC x (defScope st) s.heap.objs.size f cdv)) → sp vs H Q E →
      ∃ t, PSs (cxOf (L2.CX P w) P w K mg base N x (defScope st) f cdv A outer s H E) (defBody st) t ∧ t { nx := fun _ H' => Q .non H', rt := Q } (start N vs) H) : OkF P w K mg base (L2.CX P w) (k + 1) x ps sp := by
  obtain ⟨f, fd, hm, F, hb⟩ := D
  exact ⟨f, fd, hm, F.kp, hb, F.okX S len (hbody f)⟩
end
section
variable {X : Cx} {k k' : Nat} {x : Str} {ps : List Str} {sp : Sp} {e : Expr} {es : List Expr} {t : TA} {p pos : Pos} {W : WX} {dvs : List V}
/-- f(e, ..) where f may raise -/
theorem pe_cx (O : OkF X.prog X.w X.K X.mg X.base (L2.CX X.prog X.w) k x ps sp) (hr : Room k' X.A) (tk : Takes X W) (ha : PA X (e :: es) t) (hk : k ≤ k' := by decide) (hg : Gl X x := by rfl)
    (hdb : (x == ("__debug__" : Str)) = false := by decide) (he : starEach (e :: es) X.env = (false, eval e X.env) :: starEach es X.env := by rfl) (hpl : (backTo pos (starEach es X.env)).any (·.1) = false := by rfl) :
    PE X (.Call (.Name x p) (e :: es) [] pos) (tCallS sp (WE W) t) := by
  obtain ⟨f, fd, hm, hkp, hb, F⟩ := O
  exact pe_callS F (hr.mono hk) hg hm hkp hb (fun σ => passAt tk σ) ha hdb he hpl
/-- the same, the defaults fill up -/
def tCallD (sp : Sp) (dvs : List V) (E : L2.St → XK) (t : TA) : TE := fun σ H Q => t σ H fun vs H1 => sp (vs ++ dvs) H1 Q (E σ)
end
end Dear

namespace Dear
open PySem PySem.Spec PyProof.Rows L2
/-! ### own exceptions with an own __init__: X(DearError), DearError.__init__(self, f'..{f}'), self.f = f -/
/-- what may stand in such a field -/
def FmtV (v : V) : Prop := v = .non ∨ (∃ y : Str, v = .str y ∧ y.length ≤ 900) ∨ ∃ i : Int, v = .int i ∧ i.natAbs < 2 ^ 64
theorem int_len {i : Int} (h : i.natAbs < 2 ^ 64) : (Str.ofString (toString i)).length ≤ 900 ∧ i.natAbs.log2 < 1920 := by
  constructor
  · have e := int_text_length_le10 (k := 30) (a := i) (by decide) (Nat.lt_of_lt_of_le h (by decide))
    rw [PySem.ofString_length]
    omega
  · have e : i.natAbs.log2 < 64 := PySem.Flt.log2_lt_of (by decide) h
    omega
section
variable {X : Cx}
/-- {x} of None, a text, a number: some short text -/
def tFmtN (te : TE) : TE := fun σ H Q => te σ H fun x H1 => FmtV x ∧ ∀ z : Str, z.length ≤ 900 → Q (.str z) H1
theorem pe_fmtN {e : Expr} {te : TE} {pos : Pos} (he : PE X e te) : PE X (.FormattedValue e (-1) none pos) (tFmtN te) := by
  refine ⟨fun pins s σ H Q I h => wpAny_FormattedValue_plain (thn (he.run pins s σ H _ I h) fun v s1 hv => ?_)⟩
  obtain ⟨x, H1, J, r, hx, q⟩ := hv
  rcases hx with e | ⟨y, e, hy⟩ | ⟨i, e, hi⟩
  · subst e
    cases (show v = Value.none from r)
    exact wpAny_formatField_none ⟨.str "None", H1, (J.tok _), ⟨_, rfl⟩, q _ (by decide +kernel)⟩
  · subst e
    obtain ⟨t, e⟩ := r
    subst e
    have q' := q y hy
    exact wpAny_formatField_str ⟨.str y, H1, J, ⟨t, rfl⟩, q'⟩ ⟨.str y, H1, J.tok _, ⟨_, rfl⟩, q'⟩ (Nat.le_trans hy (by decide))
  · subst e
    obtain ⟨t, e⟩ := r
    subst e
    exact wpAny_formatField_int (int_len hi).2 ⟨.str (Str.ofString (toString i)), H1, J.tok _, ⟨_, rfl⟩, q _ (int_len hi).1⟩
end
/-- C.__init__ of an own exception class without an own one is ValueError's -/
structure DrI (K : PySem.W.Frag) (mg : Str → Option Value) (x : Str) (C : Addr) : Prop where
  g : mg x = some (.ref C)
  s : PySem.W.specialIn K (.ref C) "__getattribute__" = some (some (.builtin "type.__getattribute__"))
  r : PySem.W.readsIn K C (.type "type") = true
  v : PySem.W.findCls K (.ref C) (.type "type") "__init__" = some (.val (.builtin "ValueError.__init__"))
section
variable {X : Cx}
theorem pe_drinit {e : Expr} {es : List Expr} {ta : TA} {x : Str} {C0 : Addr} {pl : Sem Bool} {p1 p2 pos : Pos} (T : DrI X.K X.mg x C0) (ha : PA X (e :: es) ta) (hg : Gl X x := by rfl) (hdb : (x == ("__debug__" : Str)) = false := by decide)
    (hc : eval (.Call (.Attribute (.Name x p1) "__init__" p2) (e :: es) [] pos) X.env = (do
      let o9 ← eval (.Name x p1) X.env
      standAt p2.atName
      let (f9, r9) ← holding [o9] (getMethod o9 "__init__" pl)
      callWith pos f9 r9 (backTo pos (starEach (e :: es) X.env)) (backToKw pos (keywordEach [] X.env))) := by rfl)
    (he : starEach (e :: es) X.env = (false, eval e X.env) :: starEach es X.env := by rfl) (hpl : (backTo pos (starEach es X.env)).any (·.1) = false := by rfl) :
    PE X (.Call (.Attribute (.Name x p1) "__init__" p2) (e :: es) [] pos) (tVeI X.K ta) := by
  refine ⟨fun pins s σ H Q I h => PySem.W.methodCall_KW (ld_glob I hg T.g ?_ hdb) hc⟩
  refine PySem.W.method_cls I.kIn T.s (PySem.W.cls_value I.kIn T.r T.v (by decide +kernel) ?_)
  show wpAny (model X.prog X.w) X.A (callWith pos (Value.builtin "ValueError.__init__") [] (backTo pos (starEach (e :: es) X.env)) []) _ _ _
  refine PyProof.Rows.callWith_method1 (thn (ha.run pos pins _ σ H _ (I.tok _) h) fun us s1 hh => ?_) he hpl
  obtain ⟨vs, H1, J, r, a, C, ws, ev, hl, O, ea, q⟩ := hh
  subst ev
  cases r with
  | @cons _ u0 _ ur ra rr =>
    cases (show u0 = Value.ref a from ra)
    exact oinit_ok O J ea (by rw [← Paired.length rr]; exact Nat.le_trans hl (by decide)) fun s' J' => ⟨.non, H1, J', rfl, q⟩
end
/-- the promise of such an __init__ -/
def spExI (f : Str) (K : PySem.W.Frag) : Sp := fun vs H Q _ => ∃ (a C : Addr) (v : V), vs = [.ref a, v] ∧ OexC K C ∧ PySem.W.findIn K (.ref C) f = some none ∧ H a = some (exo a C none) ∧ FmtV v ∧
  ∀ dx, H dx = none → dx ≠ a → Q .non (upd (upd H dx (exd dx [(f, v)])) a (exo a C (some dx)))
/-- what the written part says of the class at C -/
structure ExInit (K : PySem.W.Frag) (mg : Str → Option Value) (x f : Str) (C : Addr) : Prop where
  g : mg x = some (.ref C)
  o : OexC K C
  n : PySem.W.findIn K (.ref C) f = some none
  c : ExcC K C
def OkI (P : Program) (w : World) (K : PySem.W.Frag) (mg : Str → Option Value) (base : Heap) (x f : Str) (C : Addr) : Prop :=
  ∃ (fI : Addr) (fd : FuncData), PySem.W.findIn K (.ref C) "__init__" = some (some (.ref fI)) ∧ PySem.W.typeIn K (.ref fI) = some (.type "function") ∧ FnOk P w K mg base CX0 1 fI fd ["self", f] (spExI f K) ∧ Binds K fd ["self", f] [] ∧ ExInit K mg x f C
/-- the def __init__ of the class at C -/
def DfI (K : PySem.W.Frag) (C : Addr) (q : Str) (st : Stmt) (f : Str) : Prop := ∃ (fI : Addr) (fd : FuncData), PySem.W.findIn K (.ref C) "__init__" = some (some (.ref fI)) ∧ PySem.W.typeIn K (.ref fI) = some (.type "function") ∧ Fun K "__init__" q st fI fd ∧ Binds K fd ["self", f] []
section
variable {X : Cx}
theorem pmk_i {k' : Nat} {x f : Str} {C : Addr} {e : Expr} {ta : TA} {p pos : Pos} (O : OkI X.prog X.w X.K X.mg X.base x f C) (hr : Room k' X.A) (ha : PA X [e] ta) (hk : 2 ≤ k' := by decide) (hg : Gl X x := by rfl) (hdb : (x == ("__debug__" : Str)) = false := by decide)
    (he : starEach [e] X.env = (false, eval e X.env) :: starEach [] X.env := by rfl) (hpl : (backTo pos (starEach [] X.env)).any (·.1) = false := by rfl) : PMk X (.Call (.Name x p) [e] [] pos) (tMkO C (spExI f X.K) [] ta) := by
  obtain ⟨fI, fd, h1, h2, F, b, T⟩ := O
  exact pmk_oex T.o h1 h2 F (hr.mono hk) b .nil pass0 hg T.g ha hdb he hpl
end
/-- making it, at its reading -/
theorem mkx {K : PySem.W.Frag} {mg : Str → Option Value} {x f : Str} {C : Addr} {H : Hp} {v : V} {Q : XK} (T : ExInit K mg x f C) (fv : FmtV v) (q : ∀ d, H d = none → Q (.ref C) (some d) (upd H d (.xd [(f, v)]))) :
    [v].length ≤ 1000 ∧ ∀ a, H a = none → spExI f K (.ref a :: ([v] ++ [])) (upd H a (exo a C none)) (fun u H2 => u = .non ∧ ∃ (d : Addr) (fs : List (Str × V)), H2 a = some (exo a C (some d)) ∧ H2 d = some (exd d fs) ∧ H d = none ∧ Q (.ref C) (some d) (upd (del H2 a) d (.xd fs))) (fun _ _ _ => False) := by
  refine ⟨(by decide : 1 ≤ 1000), fun a ha => ⟨a, C, v, rfl, T.o, T.n, upd_same, fv, fun dx hd ne => ⟨rfl, dx, [(f, v)], upd_same, ?_, ?_, ?_⟩⟩⟩
  · rw [upd_ne ne, upd_same]
  · rw [upd_ne ne] at hd
    exact hd
  · rw [upd_ne ne] at hd
    have e : upd (del (upd (upd (upd H a (exo a C none)) dx (exd dx [(f, v)])) a (exo a C (some dx))) a) dx (.xd [(f, v)]) = upd H dx (.xd [(f, v)]) := by
      funext b
      by_cases h1 : b = dx
      · subst h1
        rw [upd_same, upd_same]
      · rw [upd_ne h1, upd_ne h1]
        by_cases h2 : b = a
        · subst h2
          rw [del_same, ha]
        · rw [del_ne h2, upd_ne h2, upd_ne h1, upd_ne h2]
    rw [e]
    exact q dx hd
/-! ### a kept exception with a dict: isinstance, its field -/
/-- the exception of the class D at a, with its dict or without -/
def ExAt (H : Hp) (D a : Addr) : Prop := H a = some (ExK (.ref D) none a) ∨ ∃ (dd : Addr) (fs : List (Str × V)), H a = some (ExK (.ref D) (some dd) a) ∧ H dd = some (.xd fs)
section
variable {prog : Program} {w : World} {A : Around} {E : Value → Shared → Prop} {s : Shared} {K : PySem.W.Frag} {x D : Addr} {ox : Obj} {od : Option Obj}
end
def rIsY (K : PySem.W.Frag) : List V → Hp → VK → Prop := fun xs H Q => ∃ (a D : Addr) (c : V) (u : Value) (b : Bool), xs = [.ref a, c] ∧ ExAt H D a ∧ ExcC K D ∧ ClsV c u ∧ PySem.W.kitOne K (.ref D) u = some b ∧ Q (.bl b) H
def rIsYT (K : PySem.W.Frag) : List V → Hp → VK → Prop := fun xs H Q => ∃ (a D tp : Addr) (cs : List V) (us : List Value) (b : Bool), xs = [.ref a, .ref tp] ∧ ExAt H D a ∧ ExcC K D ∧ H tp = some (.tup cs) ∧ Paired ClsV cs us ∧ PySem.W.kitAny K (.ref D) us = some b ∧ Q (.bl b) H
section
variable {X : Cx} {pins : List (Addr × Obj)} {σ : L2.St} {H : Hp} {s : Shared}
end
section
variable {X : Cx} (K : PySem.W.Frag)
/-- e.f, e a kept exception -/
def tXfK (K : PySem.W.Frag) (f : Str) (te : TE) : TE := fun σ H Q => te σ H fun x H1 => ∃ (a C dd : Addr) (fs : List (Str × V)) (v : V), x = .ref a ∧ H1 a = some (ExK (.ref C) (some dd) a) ∧ H1 dd = some (.xd fs) ∧ ExcC K C ∧ PySem.W.findIn K (.ref C) f = some none ∧ fs.lookup f = some v ∧ Q v H1
end
end Dear

namespace Dear
open PySem PySem.Spec PyProof.Rows L2
/-! ### own classes: making an object, its methods; both may raise -/
def DfM (K : PySem.W.Frag) (C : Addr) (m q : Str) (st : Stmt) (ps : List Str) : Prop := ∃ (f : Addr) (fd : FuncData), Meth K C m f ∧ Fun K m q st f fd ∧ Binds K fd ps []
def DfC (K : PySem.W.Frag) (mg : Str → Option Value) (x : Str) (C : Addr) (q : Str) (st : Stmt) (ps : List Str) : Prop := mg x = some (.ref C) ∧ ∃ (f : Addr) (fd : FuncData), L2.Mk K C f ∧ Fun K "__init__" q st f fd ∧ Binds K fd ps []
def OkM (P : Program) (w : World) (K : PySem.W.Frag) (mg : Str → Option Value) (base : Heap) (CX : CXT) (k : Nat) (C : Addr) (m : Str) (ps : List Str) (sp : Sp) : Prop :=
  ∃ (f : Addr) (fd : FuncData), Meth K C m f ∧ Binds K fd ps [] ∧ FnOk P w K mg base CX k f fd ps sp
def OkC (P : Program) (w : World) (K : PySem.W.Frag) (mg : Str → Option Value) (base : Heap) (CX : CXT) (k : Nat) (x : Str) (C : Addr) (ps : List Str) (sp : Sp) : Prop :=
  mg x = some (.ref C) ∧ ∃ (f : Addr) (fd : FuncData), L2.Mk K C f ∧ Binds K fd ps [] ∧ FnOk P w K mg base CX k f fd ps sp
/-- the same for an __init__ with defaults, all arguments written -/
def DfCD (K : PySem.W.Frag) (mg : Str → Option Value) (x : Str) (C : Addr) (q : Str) (st : Stmt) (ps : List Str) (dvs : List V) : Prop := mg x = some (.ref C) ∧ ∃ (f : Addr) (fd : FuncData), L2.Mk K C f ∧ FunD K "__init__" q (defArgs st) (defBody st) (defScope st) dvs [] f fd ∧ Binds K fd ps []
section
variable {P : Program} {w : World} {K : PySem.W.Frag} {mg : Str → Option Value} {base : Heap} {C : Addr} {x m q : Str} {st : Stmt} {N ps : List Str} {k : Nat} {sp : Sp}
theorem DfM.ok (D : DfM K C m q st ps) (S : FnScope N ps (defScope st)) (len : ∀ vs H Q E, sp vs H Q E → vs.length = ps.length)
    (body : ∀ (f : Addr) (cdv : Value) (A : Around) (outer : List Env) (s : Shared) (H : Hp) (vs : List V) (Q : VK) (E : XK), Room k (A.deeper (envOfC q (defScope st) s.heap.objs.size f cdv)) → sp vs H Q E →
      ∃ t, PSs (cxOf CX0 P w K mg base N q (defScope st) f cdv A outer s H E).nox (defBody st) t ∧ t { nx := fun _ H' => Q .non H', rt := Q } (start N vs) H) : OkM P w K mg base CX0 (k + 1) C m ps sp := by
  obtain ⟨f, fd, hm, F, hb⟩ := D
  exact ⟨f, fd, hm, hb, F.ok S len (body f)⟩
theorem DfM.okX (D : DfM K C m q st ps) (S : FnScope N ps (defScope st)) (len : ∀ vs H Q E, sp vs H Q E → vs.length = ps.length)
    (body : ∀ (f : Addr) (cdv : Value) (A : Around) (outer : List Env) (s : Shared) (H : Hp) (vs : List V) (Q : VK) (E : XK), Room k (A.deeper (envOfC q (defScope st) s.heap.objs.size f cdv)) → sp vs H Q E →
      ∃ t, PSs (cxOf (L2.CX P w) P w K mg base N q (defScope st) f cdv A outer s H E) (defBody st) t ∧ t { nx := fun _ H' => Q .non H', rt := Q } (start N vs) H) : OkM P w K mg base (L2.CX P w) (k + 1) C m ps sp := by
  obtain ⟨f, fd, hm, F, hb⟩ := D
  exact ⟨f, fd, hm, hb, F.okX S len (body f)⟩
theorem DfC.okX (D : DfC K mg x C q st ps) (S : FnScope N ps (defScope st)) (len : ∀ vs H Q E, sp vs H Q E → vs.length = ps.length)
    (body : ∀ (f : Addr) (cdv : Value) (A : Around) (outer : List Env) (s : Shared) (H : Hp) (vs : List V) (Q : VK) (E : XK), Room k (A.deeper (envOfC q (defScope st) s.heap.objs.size f cdv)) → sp vs H Q E →
      ∃ t, PSs (cxOf (L2.CX P w) P w K mg base N q (defScope st) f cdv A outer s H E) (defBody st) t ∧ t { nx := fun _ H' => Q .non H', rt := Q } (start N vs) H) : OkC P w K mg base (L2.CX P w) (k + 1) x C ps sp := by
  obtain ⟨g, f, fd, hm, F, hb⟩ := D
  exact ⟨g, f, fd, hm, hb, F.okX S len (body f)⟩
theorem DfCD.okX {dvs : List V} (D : DfCD K mg x C q st ps dvs) (S : FnScope N ps (defScope st)) (len : ∀ vs H Q E, sp vs H Q E → vs.length = ps.length)
    (body : ∀ (f : Addr) (cdv : Value) (A : Around) (outer : List Env) (s : Shared) (H : Hp) (vs : List V) (Q : VK) (E : XK), Room k (A.deeper (envOfC q (defScope st) s.heap.objs.size f cdv)) → sp vs H Q E →
      ∃ t, PSs (cxOf (L2.CX P w) P w K mg base N q (defScope st) f cdv A outer s H E) (defBody st) t ∧ t { nx := fun _ H' => Q .non H', rt := Q } (start N vs) H) : OkC P w K mg base (L2.CX P w) (k + 1) x C ps sp := by
  obtain ⟨g, f, fd, hm, F, hb⟩ := D
  exact ⟨g, f, fd, hm, hb, F.ok S len (body f)⟩
theorem DfC.ok (D : DfC K mg x C q st ps) (S : FnScope N ps (defScope st)) (len : ∀ vs H Q E, sp vs H Q E → vs.length = ps.length)
    (body : ∀ (f : Addr) (cdv : Value) (A : Around) (outer : List Env) (s : Shared) (H : Hp) (vs : List V) (Q : VK) (E : XK), Room k (A.deeper (envOfC q (defScope st) s.heap.objs.size f cdv)) → sp vs H Q E →
      ∃ t, PSs (cxOf CX0 P w K mg base N q (defScope st) f cdv A outer s H E).nox (defBody st) t ∧ t { nx := fun _ H' => Q .non H', rt := Q } (start N vs) H) : OkC P w K mg base CX0 (k + 1) x C ps sp := by
  obtain ⟨g, f, fd, hm, F, hb⟩ := D
  exact ⟨g, f, fd, hm, hb, F.ok S len (body f)⟩
end
/-- o.m(..), the way out for a raise told at the names' values -/
def tMethX (C : Addr) (m : Str) (sp : Sp) (E : L2.St → XK) (ta : TE) (t : TA) : TE := fun σ H Q => ta σ H fun x H1 => ∃ a dx fs, x = .ref a ∧ H1 a = some (.ins C dx fs) ∧ fs.lookup m = none ∧ t σ H1 fun vs H2 => sp (x :: vs) H2 Q (E σ)
def tMakeX (C : Addr) (sp : Sp) (E : L2.St → XK) (t : TA) : TE := fun σ H Q => t σ H fun vs H1 => ∀ x dx, H1 x = none → H1 dx = none → dx ≠ x → sp (.ref x :: vs) (upd (upd H1 dx (.own x)) x (.ins C dx [])) (fun v H2 => v = .non ∧ Q (.ref x) H2) (E σ)
section
variable {X : Cx} {k k' : Nat} {C : Addr} {x m : Str} {ps : List Str} {sp : Sp} {o e : Expr} {es : List Expr} {ta : TE} {t : TA} {p pos apos : Pos} {W : WX}
/-- o.m(e, ..) -/
theorem pe_m {pl : Sem Bool} (O : OkM X.prog X.w X.K X.mg X.base CX0 k C m ps sp) (c : Cls X.K C) (hr : Room k' X.A) (he : PE X o ta) (ha : PA X (e :: es) t) (hk : k ≤ k' := by decide)
    (hst : starEach (e :: es) X.env = (false, eval e X.env) :: starEach es X.env := by rfl) (hpl : (backTo pos (starEach es X.env)).any (·.1) = false := by rfl)
    (ht : eval (.Call (.Attribute o m apos) (e :: es) [] pos) X.env = (do
      let u ← eval o X.env
      standAt apos.atName
      let (g, fst) ← holding [u] (getMethod u m pl)
      callWith pos g fst (backTo pos (starEach (e :: es) X.env)) (backToKw pos (keywordEach [] X.env))) := by rfl) : PE X (.Call (.Attribute o m apos) (e :: es) [] pos) (tMeth C m sp [] E0 ta t) := by
  obtain ⟨f, fd, hm, hb, F⟩ := O
  exact pe_meth he c hm F (hr.mono hk) hb .nil pass0 ha hst hpl ht
theorem pe_mz {pl : Sem Bool} (O : OkM X.prog X.w X.K X.mg X.base CX0 k C m ps sp) (c : Cls X.K C) (hr : Room k' X.A) (he : PE X o ta) (hk : k ≤ k' := by decide)
    (ht : eval (.Call (.Attribute o m apos) [] [] pos) X.env = (do
      let u ← eval o X.env
      standAt apos.atName
      let (g, fst) ← holding [u] (getMethod u m pl)
      callWith pos g fst (backTo pos (starEach [] X.env)) (backToKw pos (keywordEach [] X.env))) := by rfl) : PE X (.Call (.Attribute o m apos) [] [] pos) (tMeth C m sp [] E0 ta tNil) := by
  obtain ⟨f, fd, hm, hb, F⟩ := O
  exact pe_meth0 he c hm F (hr.mono hk) hb .nil pass0 ht
/-- C(e, ..) whose __init__ may raise -/
theorem pe_mkx (O : OkC X.prog X.w X.K X.mg X.base (L2.CX X.prog X.w) k x C ps sp) (hr : Room k' X.A) (tk : Takes X W) (ha : PA X (e :: es) t) (hk : k + 1 ≤ k' := by decide) (hg : Gl X x := by rfl)
    (hdb : (x == ("__debug__" : Str)) = false := by decide) (he : starEach (e :: es) X.env = (false, eval e X.env) :: starEach es X.env := by rfl) (hpl : (backTo pos (starEach es X.env)).any (·.1) = false := by rfl) :
    PE X (.Call (.Name x p) (e :: es) [] pos) (tMakeX C sp (WE W) t) := by
  obtain ⟨hm, f, fd, M, hb, F⟩ := O
  refine ⟨fun pins s σ H Q I h => ?_⟩
  refine wpAny_Call_Name_kw (ld_glob I hg hm ?_ hdb)
  refine PySem.W.callWith_K (h₀ := X.base) I.ok.mod.kin M.kp (thn (ha.run pos pins s σ H _ I h) fun us s1 ⟨vs, H1, I1, r, q⟩ => ⟨I1.kIn, ?_⟩) he hpl
  have q1 := q (s1.heap.objs.size + 1) s1.heap.objs.size (I1.hok.fresh (Nat.le_succ _)) (I1.hok.fresh (Nat.le_refl _)) (Nat.ne_of_lt (Nat.lt_succ_self _))
  have J := Inv.made (C := C) I1
  have r1 : Vals (V.ref (s1.heap.objs.size + 1) :: vs) (Value.ref (s1.heap.objs.size + 1) :: us) := .cons rfl r
  have ln : (Value.ref (s1.heap.objs.size + 1) :: us ++ []).length = ps.length := by
    rw [List.append_nil, ← r1.length]
    exact F.len _ _ _ _ q1
  have b := hb _ (Value.ref (s1.heap.objs.size + 1) :: us) J.kIn ln
  rw [List.append_nil] at b
  refine wpAny_call (make_map (f := f) I1.kIn M.makes M.init (beq_iff_eq.mp M.fn) (codeAny_mono (F.run _ X.stack _ _ ⟨Value.ref (s1.heap.objs.size + 1) :: us, []⟩ _ _ _ (WE W σ) ((hr.mono hk).make C us [])
    (J.env0.make C us []) b r1 q1) fun rr s2 hq => ?_))
  cases rr with
  | error er => exact passAt tk σ pins _ _ er s2 J hq
  | ok fl =>
    cases fl with
    | ret u =>
      obtain ⟨v, H3, I3, rv, ev, q3⟩ := J.after hq
      subst ev
      exact ⟨rv, ⟨V.ref (s1.heap.objs.size + 1), H3, I3, rfl, q3⟩⟩
    | next => exact False.elim hq
    | brk => exact False.elim hq
    | cont => exact False.elim hq
end
/-- text += text, on an attribute -/
def rAddT : V → V → Hp → VK → Prop := fun x y H Q => ∃ i j, x = .str i ∧ y = .str j ∧ i.length + j.length ≤ sizeLine ∧ Q (.str (i ++ j)) H
end Dear

namespace Dear
open PySem PySem.Spec PyProof.Rows L2
/-! ### the set of a list of texts (any number), and how many it has -/
def dd1 (m : List Str) (v : Str) : List Str := if v ∈ m then m else m ++ [v]
def dd (xs : List Str) : List Str := xs.foldl dd1 []
theorem dd_le : ∀ (xs m : List Str), (xs.foldl dd1 m).length ≤ m.length + xs.length
  | [], m => by simp
  | v :: r, m => by
    rw [List.foldl_cons]
    have h1 := dd_le r (dd1 m v)
    have h2 : (dd1 m v).length ≤ m.length + 1 := by
      unfold dd1
      split
      · omega
      · simp
    rw [List.length_cons]
    omega
theorem dd_more {xs : List Str} {i : Nat} {v : Str} (h : xs[i]? = some v) : dd (xs.take (i + 1)) = dd1 (dd (xs.take i)) v := by
  unfold dd
  rw [List.take_succ, h, List.foldl_append]
  rfl
/-- unlike ones: as many as there are -/
theorem dd_nodup : ∀ {xs : List Str} (m : List Str), (m ++ xs).Nodup → xs.foldl dd1 m = m ++ xs
  | [], m, _ => by simp
  | v :: r, m, h => by
    have hv : ¬ v ∈ m := fun z => by
      have := List.nodup_append.mp h
      exact this.2.2 v z v List.mem_cons_self rfl
    rw [List.foldl_cons]
    have e : dd1 m v = m ++ [v] := if_neg hv
    rw [e, dd_nodup (m ++ [v]) (by rw [List.append_assoc]; exact h), List.append_assoc]
    rfl
/-- just unlike ones come to as many -/
theorem dd_full {xs : List Str} (h : (dd xs).length = xs.length) : xs.Nodup := by
  have key : ∀ (ys m : List Str), m.Nodup → (ys.foldl dd1 m).length = m.length + ys.length → (m ++ ys).Nodup := by
    intro ys
    induction ys with
    | nil => intro m hm _; simpa using hm
    | cons v r ih =>
      intro m hm e
      rw [List.foldl_cons] at e
      have hv : ¬ v ∈ m := fun z => by
        have e1 : dd1 m v = m := if_pos z
        rw [e1] at e
        have := dd_le r m
        rw [List.length_cons] at e
        omega
      have e1 : dd1 m v = m ++ [v] := if_neg hv
      rw [e1] at e
      have hm2 : (m ++ [v]).Nodup := by
        rw [List.nodup_append]
        exact ⟨hm, by simp, fun a ha b hb e2 => by
          have : b = v := by simpa using hb
          exact hv (this ▸ e2 ▸ ha)⟩
      have := ih (m ++ [v]) hm2 (by rw [e, List.length_append, List.length_cons]; simp; omega)
      rw [List.append_assoc] at this
      exact this
  have := key xs [] List.nodup_nil (by rw [List.length_nil, Nat.zero_add]; exact h)
  simpa using this
/-! ### a set of texts that can be walked -/
def signE (e : Int × Value) : Str := match e.2 with | .str z _ => z | _ => Str.empty
def TextE (P : Program) (w : World) (e : Int × Value) : Prop := ∃ z tk, e.2 = Value.str z tk ∧ e.1 = (PySem.strKind P w).hash z
/-- at a lies the set of the texts m -/
def SetW (P : Program) (w : World) (h : Heap) (a : Addr) (m : List Str) : Prop :=
  ∃ ob ms n tb, h.get? a = some ob ∧ ob.ExactSet ∧ ob.data = .set ms n tb ∧ (∀ e ∈ ms.toList, TextE P w e) ∧ (ms.toList.map signE).Perm m ∧
    ms.size < scanBound ∧ tb.fits ms.size = true ∧ Ris tb.place.toList ∧ (w.params.followText "set-order" = true ∨ tb.led = true)
section
variable {P : Program} {w : World} {A : Around} {E : Value → Shared → Prop} {s : Shared} {a : Addr} {m : List Str}
theorem text_elems {l : List (Int × Value)} (g : ∀ e ∈ l, TextE P w e) : ElemsOf (PySem.strKind P w) l := fun e he => by
  obtain ⟨z, tk, e1, e2⟩ := g e he
  exact ⟨⟨z, by rw [e1]; exact strKind_is P w z tk, e2⟩, by rw [e1]; rfl⟩
theorem text_is {e : Int × Value} (g : TextE P w e) (z : Str) : (PySem.strKind P w).is z e.2 = true ↔ signE e = z := by
  obtain ⟨y, tk, e1, _⟩ := g
  unfold signE
  rw [e1]
  show ((y == z) = true) ↔ y = z
  exact beq_iff_eq
/-- behind the laying: the table may be laid anew -/
theorem add_rest {gave : Bool → Sem Unit} (hg : ∀ (b : Bool) (s1 : Shared) (Q1 : Unit → Shared → Prop), Q1 () s1 → wpAny (model P w) A (gave b) Q1 E s1)
    {ob : Obj} {ms : Array (Int × Value)} {n : Nat} {tb : SetTable} (at0 : s.heap.get? a = some ob) (ex : ob.ExactSet) (da : ob.data = .set ms n tb)
    {ms1 : Array (Int × Value)} {tb1 : SetTable} (te : ∀ e ∈ ms1.toList, TextE P w e) (pm1 : (ms1.toList.map signE).Perm m)
    (few : ms1.size < scanBound) (fit : tb1.fits ms1.size = true) (ris : Ris tb1.place.toList) (led : w.params.followText "set-order" = true ∨ tb1.led = true) {dum : Bool} {R : Option Bool → Shared → Prop}
    (hR : ∀ h1, Heap.SameBut a s.heap h1 → SetW P w h1 a m → R (some true) { s with heap := h1 }) :
    wpAny (model P w) A (do
        storeSet a ms1 tb1
        if (!dum && tb1.tooFull) = true then do
            gave (relayAll tb1 ms1 (SetTable.grown ms1.size)).2.2
            storeSet a (relayAll tb1 ms1 (SetTable.grown ms1.size)).1 (relayAll tb1 ms1 (SetTable.grown ms1.size)).2.1
            pure (some true)
          else pure (some true)) R E s := by
  refine wpAny_bind (wpAny_storeSet_of at0 da ?_ (fits_of_scanBound few))
  have at1 := store_at (es' := ms1) (t' := tb1) at0 da
  have same1 := Heap.SameBut.update s.heap a (Obj.putSet ms1 tb1)
  split
  · have q1 := relayAll_perm tb1 ms1 (SetTable.grown ms1.size)
    have q2 := relayAll_fits tb1 ms1 (SetTable.grown ms1.size)
    have q3 := relayAll_ris tb1 ms1 (SetTable.grown ms1.size)
    have q4 := relayAll_led tb1 ms1 (SetTable.grown ms1.size)
    generalize relayAll tb1 ms1 (SetTable.grown ms1.size) = Z at q1 q2 q3 q4 ⊢
    obtain ⟨ms2, tb2, gv⟩ := Z
    dsimp only at q1 q2 q3 q4 ⊢
    have sz : ms2.size = ms1.size := by rw [← Array.length_toList, q1.length_eq, Array.length_toList]
    have few2 : ms2.size < scanBound := by rw [sz]; exact few
    refine wpAny_bind (hg _ _ _ ?_)
    refine wpAny_bind (wpAny_storeSet_of at1 rfl ?_ (fits_of_scanBound few2))
    have at2 := store_at (es' := ms2) (t' := tb2) at1 rfl
    refine wpAny_pure (hR _ (same1.trans (Heap.SameBut.update _ a _)) ?_)
    exact ⟨_, ms2, _, tb2, at2, ex, rfl, fun e he => te e (q1.mem_iff.mp he), (q1.map signE).trans pm1, few2, q2, q3, led.imp id fun z => by rw [q4]; exact z⟩
  · exact wpAny_pure (hR _ same1 ⟨_, ms1, _, tb1, at1, ex, rfl, te, pm1, few, fit, ris, led⟩)
theorem setW_add {k : Str} {tk : Tok} {Q : Bool → Shared → Prop} (W : SetW P w s.heap a m) (room : m.length + 1 < scanBound)
    (hQ : ∀ h1 b, Heap.SameBut a s.heap h1 → SetW P w h1 a (dd1 m k) → Q b { s with heap := h1 }) :
    wpAny (model P w) A (setAddHashed a (.str k tk) ((PySem.strKind P w).hash k)) Q E s := by
  obtain ⟨ob, ms, n, tb, at0, ex, da, te, pm, few, fit, ris, led⟩ := W
  have isk : (PySem.strKind P w).is k (.str k tk) = true := strKind_is P w k tk
  have sc : (Value.str k tk).scannable = true := rfl
  have el : ElemsOf (PySem.strKind P w) ms.toList := text_elems te
  unfold setAddHashed setAddHashedIn
  refine wpAny_holding (wpAny_bind (wpAny_setState_of at0 da fit ?_))
  dsimp only
  rw [byScan_of sc few el]
  simp only [↓reduceIte]
  unfold setAddByScan
  refine wpAny_bind (wpAny_bind (wpAny_rule (wpAny_bind (wpAny_setScan_of isk at0 da fit el ?_))))
  cases found : List.findIdx? (fun e => (PySem.strKind P w).is k e.2) ms.toList with
  | some j =>
    dsimp only
    obtain ⟨lt, ej, _⟩ := List.findIdx?_eq_some_iff_getElem.mp found
    have km : k ∈ m := pm.mem_iff.mp (List.mem_map.mpr ⟨_, List.getElem_mem lt, (text_is (te _ (List.getElem_mem lt)) k).mp ej⟩)
    refine wpAny_pure (wpAny_pure ?_)
    refine hQ s.heap _ (Heap.SameBut.refl a s.heap) ⟨ob, ms, n, tb, at0, ex, da, te, ?_, few, fit, ris, led⟩
    unfold dd1
    rw [if_pos km]
    exact pm
  | none =>
    dsimp only
    have km : k ∉ m := fun z => by
      obtain ⟨e, he, q⟩ := List.mem_map.mp (pm.mem_iff.mpr z)
      have c := List.findIdx?_eq_none_iff.mp found e he
      rw [(text_is (te e he) k).mpr q] at c
      cases c
    have q1 := layNew_perm tb ms ((PySem.strKind P w).hash k) (.str k tk)
    have q2 := layNew_fits tb ms ((PySem.strKind P w).hash k) (.str k tk)
    have q3 := layNew_ris tb ms ((PySem.strKind P w).hash k) (.str k tk) ris
    have q4 := layNew_led tb ms ((PySem.strKind P w).hash k) (.str k tk)
    generalize layNew tb ms ((PySem.strKind P w).hash k) (.str k tk) = Z at q1 q2 q3 q4 ⊢
    obtain ⟨ms1, tb1, dum, gv⟩ := Z
    dsimp only at q1 q2 q3 q4 ⊢
    rw [Array.toList_push] at q1
    have te1 : ∀ e ∈ ms1.toList, TextE P w e := fun e he => by
      rcases List.mem_append.mp (q1.mem_iff.mp he) with z | z
      · exact te e z
      · rw [List.mem_singleton.mp z]
        exact ⟨k, tk, rfl, rfl⟩
    have pm1 : (ms1.toList.map signE).Perm (dd1 m k) := by
      have q := q1.map signE
      rw [List.map_append] at q
      unfold dd1
      rw [if_neg km]
      exact q.trans (pm.append_right _)
    have sz : ms1.size = m.length + 1 := by
      rw [← Array.length_toList, q1.length_eq, List.length_append, ← pm.length_eq, List.length_map]
      rfl
    have few1 : ms1.size < scanBound := by rw [sz]; exact room
    have led1 : w.params.followText "set-order" = true ∨ tb1.led = true := led.imp id fun z => by rw [q4]; exact z
    refine wpAny_bind (?_ : wpAny _ _ (match gv with | true => rule "set.scan.the-table-gave-way" | false => pure ()) _ _ _)
    have hgv : ∀ (b : Bool) {s1 : Shared} {Q1 : Unit → Shared → Prop}, Q1 () s1 → wpAny (model P w) A (match b with | true => rule "set.scan.the-table-gave-way" | false => pure ()) Q1 E s1 := fun b s1 Q1 q => by
      cases b
      · exact wpAny_pure q
      · exact wpAny_rule q
    refine hgv _ ?_
    split
    · refine wpAny_bind ?_
      rw [hashByValue_scannable 8 sc]
      refine wpAny_pure ?_
      refine add_rest ?_ at0 ex da te1 pm1 few1 ?_ ?_ ?_ ?_
      · intro b s1 Q1 q; cases b <;> first | exact wpAny_pure q | exact wpAny_rule q
      · first | (split <;> first | exact q2 | exact SetTable.fits_plain_off q2) | exact q2
      · first | (split <;> exact q3) | exact q3
      · first | (split <;> exact led1) | exact led1
      · intro h1 sb r; dsimp only; exact wpAny_pure (hQ h1 _ sb r)
    · refine wpAny_bind (wpAny_pure ?_)
      simp only [↓reduceIte]
      refine add_rest ?_ at0 ex da te1 pm1 few1 q2 q3 led1 ?_
      · intro b s1 Q1 q; cases b <;> first | exact wpAny_pure q | exact wpAny_rule q
      · intro h1 sb r; dsimp only; exact wpAny_pure (hQ h1 _ sb r)
/-- a new set -/
theorem new_set (x : Value) {Q1 : Value → Shared → Prop}
    (q : ∀ tb : SetTable, tb = .fresh 0 0 (!w.params.followText "set-order") → Q1 (.ref s.heap.objs.size) { s with heap := s.heap.push { cls := .type "set", dict := none, data := .set #[] 0 tb } }) :
    codeAny (model P w) A (.call (.builtin "set.__new__") ⟨[.type "set", x], []⟩) (wants Q1 E) s := by
  refine codeAny_of_tree (?_ : wpAny _ A.in1 (do checkBuiltinCall "set.__new__" ⟨[.type "set", x], []⟩; again (.builtin "set.__new__" ⟨[.type "set", x], []⟩)) _ _ s)
  refine wpAny_bind (wpAny_of_eq (PySem.F.newCall_set_1 x) (wpAny_pure ⟨plainId_quiet PySem.F.plain_set_new _, codeAny_builtin PySem.F.entry_set_new (?_ : wpAny _ _ _ _ _ s)⟩))
  rw [Around.under_plainId PySem.F.plain_set_new _]
  have below := sub_set_self
  unfold Builtin.«set.__new__» Builtin.Frozenset.newClass
  obtain ⟨h0, g0, d0, t0, o0⟩ := s
  dsimp only
  wp_walk
  refine wpAny_askSetting (wpAny_pure ?_)
  dsimp only
  simp only [newObj]
  exact wpAny_bind (wpAny_alloc (wpAny_pure (wpAny_pure (q _ rfl))))
theorem setW_fresh {h : Heap} (g : h.get? a = some { cls := .type "set", dict := none, data := .set #[] 0 (.fresh 0 0 (!w.params.followText "set-order")) }) : SetW P w h a [] := by
  refine ⟨_, #[], 0, _, g, ⟨rfl, rfl, rfl⟩, rfl, (fun e he => by simp at he), (by simp), (by decide), (by rfl), List.Pairwise.nil, ?_⟩
  show _ ∨ (!w.params.followText "set-order") = true
  cases w.params.followText "set-order"
  · exact .inr rfl
  · exact .inl rfl
end
section
variable {prog : Program} {w : World} {A : Around} {R : Result → Shared → Prop} {I : Addr} {fp wr : List Addr} {G : Array GenState → Array GenState → Prop} {n : Nat} {Pn : Nat → Value → Prop} {St : Nat → Shared → Prop}
/-- S holds the unlike ones of the first i -/
def SetAtS (prog : Program) (w : World) (h : Heap) (S : Addr) (xs : List Str) : Prop := SetW prog w h S (dd xs)
theorem set_loop (W : WalksS prog w A.in1 I fp wr G n Pn St) (S : Addr) (out : S ∉ fp) (xs : List Str) (size : xs.length = n) (room : n + 1 < scanBound)
    (vals : ∀ i v, Pn i v → ∃ t, v = .str (xs.getD i Str.empty) t) :
    ∀ (m i : Nat) (s : Shared), i + m = n → St i s → SetAtS prog w s.heap S (xs.take i) →
      (∀ s', Moved (S :: wr) G s s' → SetAtS prog w s'.heap S xs → R (.ok (.ret .none)) s') →
      codeAny (model prog w) A (.builtin "set.update.loop" ⟨[.ref S, .ref I], []⟩) R s := by
  have outw : S ∉ wr := fun z => out (W.sub _ z)
  have more : ∀ b ∈ wr, b ∈ S :: wr := fun b z => List.mem_cons_of_mem _ z
  have stay : ∀ {s s' : Shared} {ys : List Str}, Moved wr G s s' → SetAtS prog w s.heap S ys → SetAtS prog w s'.heap S ys := fun mv hS => by
    obtain ⟨o, es, ep, tb, ho, rest⟩ := hS
    exact ⟨o, es, ep, tb, mv.heap S _ outw ho, rest⟩
  intro m
  induction m with
  | zero =>
    intro i s im hst hS hR
    have ei : i = n := by omega
    subst ei
    rw [← size, List.take_length] at hS
    refine codeAny_builtin PyProof.Rows.F.entry_set_update_loop (?_ : wpAny _ _ _ _ _ s)
    rw [Around.under_plainId PyProof.Rows.F.plain_set_update_loop _]
    show wpAny _ A.in1 (pyNext (.ref I) >>= _) _ _ s
    exact wpAny_bind (W.done s _ _ hst fun s' mv => wpAny_pure (hR s' (mv.mono more) (stay mv hS)))
  | succ m ih =>
    intro i s im hst hS hR
    have lt : i < n := by omega
    refine codeAny_builtin PyProof.Rows.F.entry_set_update_loop (?_ : wpAny _ _ _ _ _ s)
    rw [Around.under_plainId PyProof.Rows.F.plain_set_update_loop _]
    show wpAny _ A.in1 (pyNext (.ref I) >>= _) _ _ s
    refine wpAny_bind (W.item i s _ _ lt hst fun v s1 pv st1 mv => ?_)
    obtain ⟨t, rfl⟩ := vals i v pv
    have e : xs[i]? = some (xs.getD i Str.empty) := by
      rw [List.getD_eq_getElem?_getD, List.getElem?_eq_getElem (by omega)]
      rfl
    generalize xs.getD i Str.empty = x at e
    have hS1 := stay mv hS
    show wpAny _ A.in1 (holding [Value.str x t] (setAdd S (.str x t)) >>= _) _ _ s1
    refine wpAny_bind (wpAny_holding ?_)
    unfold setAdd
    refine wpAny_holding (wpAny_bind ((PySem.strKind prog w).pyHash (k := x) (strKind_is _ _ _ _) ?_))
    have few : (dd (xs.take i)).length + 1 < scanBound := by
      have := dd_le (xs.take i) []
      have h2 : (xs.take i).length ≤ n := by rw [List.length_take]; omega
      have h3 : (dd (xs.take i)).length ≤ (xs.take i).length := by simpa [dd] using this
      omega
    refine setW_add (s := { s1 with toks := s1.toks + 1 }) hS1 few fun h2 _ same hS2 => ?_
    have next : SetAtS prog w h2 S (xs.take (i + 1)) := by
      unfold SetAtS
      rw [dd_more e]
      exact hS2
    refine wpAny_pure ⟨plainId_quiet PyProof.Rows.F.plain_set_update_loop _, ih (i + 1) _ (by omega) (W.frame _ s1 _ _ st1 (Nat.le_succ _) fun b hb o z => ?_) next fun s3 mv3 hS3 => hR s3 (Moved.trans W.gtrans ((mv.mono more).then_heap (Nat.le_succ _) fun b o hb z => ?_) mv3) hS3⟩
    · rw [same.2 b fun q => out (q ▸ hb)]
      exact z
    · rw [same.2 b fun q => hb (q ▸ List.mem_cons_self)]
      exact z
end
section
variable {prog : Program} {w : World} {A : Around} {E : Value → Shared → Prop} {s : Shared}
/-- an empty set, new -/
abbrev set0 (led : Bool) : Obj := { cls := .type "set", dict := none, data := .set #[] 0 (.fresh 0 0 led) }
set_option maxHeartbeats 3200000 in
/-- set(xs), xs a list of texts -/
theorem set_of_list {l : Addr} {its : Array Value} {xs : List Str} {Q : Value → Shared → Prop} (calm : A.handled = none) (hl : s.heap.IsList l its) (hi : StrsAre its.toList xs) (room : xs.length + 1 < scanBound)
    (q : ∀ (h2 : Heap) (tk : Nat), SetAtS prog w h2 s.heap.objs.size xs → (∀ b o, b < s.heap.objs.size → s.heap.get? b = some o → h2.get? b = some o) → Q (.ref s.heap.objs.size) { s with heap := h2, toks := tk }) :
    wpAny (model prog w) A (call (.type "set") [.ref l]) Q E s := by
  obtain ⟨_, _, way⟩ := PySem.F.called_set.mro
  have f1 := PySem.F.called_set.made
  have f2 := PySem.F.called_set.sub
  have f3 := PySem.F.called_set.notType
  have f4 := PySem.F.called_set.canCreate
  have f5 := PySem.F.typeCall_set_1 (.ref l)
  refine wpAny_call (codeAny_of_tree (?_ : wpAny _ _ (callAny (.type "set") _) _ _ _))
  refine wpAny_pure ⟨Code.quiet_builtin _ (by decide +kernel), codeAny_builtin PySem.F.entry_type_call (?_ : wpAny _ _ _ _ _ _)⟩
  rw [Around.under_plain (weight_type_call_type "set" [.ref l] []) rfl]
  repeat (any_goals (first | assumption | wp_step))
  refine codeAny_mono (new_set (.ref l) (E := E) (Q1 := fun u s1 => ∃ led : Bool, u = .ref s.heap.objs.size ∧ s1 = { s with heap := s.heap.push (set0 led) } ∧ led = !w.params.followText "set-order") fun tb e => ⟨_, rfl, by rw [e], rfl⟩) fun r s1 hr => ?_
  cases r with
  | error e => exact hr
  | ok fl =>
    cases fl with
    | next => exact hr.elim
    | brk => exact hr.elim
    | cont => exact hr.elim
    | ret u =>
      obtain ⟨led, rfl, rfl, eled⟩ := hr
      have g0 : (s.heap.push (set0 led)).get? s.heap.objs.size = some (set0 led) := Heap.get?_push_size _ rfl
      have ty : Shared.TypeIs { s with heap := s.heap.push (set0 led) } (.ref s.heap.objs.size) "set" := ⟨_, g0, rfl⟩
      have f6 := PySem.F.called_set.init.lookup
      have f7 := PySem.F.called_set.init.bind (.ref s.heap.objs.size)
      repeat (any_goals (first | assumption | wp_step))
      refine codeAny_mono (codeAny_call_builtin (R := wants (fun r s2 => r = .none ∧ ∃ h2 tk, s2 = { s with heap := h2, toks := tk } ∧ SetAtS prog w h2 s.heap.objs.size xs ∧ (∀ b o, b < s.heap.objs.size → s.heap.get? b = some o → h2.get? b = some o)) E)
        PySem.F.called_set.init.plain PySem.F.entry_set_init (check_set_init_1 ty ?_)) fun r2 s2 hr2 => ?_
      · obtain ⟨⟨c, d, da, sl⟩, ol, cl, nl, dl⟩ := hl
        simp only at cl dl
        subst cl dl
        have ol1 : (s.heap.push (set0 led)).get? l = some { cls := .type "list", dict := d, data := .seq its nl, slots := sl } := Heap.get?_push_of_some _ ol
        have f8 := PySem.F.sub_list_set
        have f9 := PySem.F.sub_list_frozenset
        have f10 : (Value.type "list" == Value.type "dict") = false := by decide
        have hl1 : (s.heap.push (set0 led)).IsList l its := ⟨_, ol1, rfl, nl, rfl⟩
        unfold Builtin.«set.__init__» noKeywords Builtin.Frozenset.updateFrom
        generalize hPI : pyIter = PI
        wp_walk
        subst hPI
        refine wpAny_pyIter_list hl1 (wpAny_bind (wpAny_runValue ?_))
        have below : l < s.heap.objs.size := Heap.lt_size ol
        have sz1 : (s.heap.push (set0 led)).objs.size = s.heap.objs.size + 1 := Heap.size_push _ _
        have n1 : l ≠ (s.heap.push (set0 led)).objs.size := by
          rw [sz1]
          exact Nat.ne_of_lt (Nat.lt_succ_of_lt below)
        have out : s.heap.objs.size ∉ [(s.heap.push (set0 led)).objs.size, l] := by
          rw [sz1]
          simp only [List.mem_cons, List.not_mem_nil, or_false, not_or]
          exact ⟨Nat.ne_of_lt (Nat.lt_succ_self _), Nat.ne_of_gt below⟩
        have size : xs.length = its.size := by rw [← StrsAre.len_eq hi, Array.length_toList]
        have vals : ∀ (i : Nat) (v : Value), its[i]? = some v → ∃ t, v = .str (xs.getD i Str.empty) t := fun i v z => SS.strs_at hi i v (by rw [Array.getElem?_toList]; exact z)
        refine set_loop ((Walks.list (show A.in1.in1.in1.handled = none by simp [calm]) _ l n1 its).toS) s.heap.objs.size out xs size (by rw [← size]; exact room) vals its.size 0 _ (by omega) ⟨⟨_, Heap.get?_push_size _ rfl, rfl, rfl⟩, (hl1.push _)⟩ ?start ?stop
        case start =>
          have g1 : ((s.heap.push (set0 led)).push { cls := .type "list_iterator", data := .fields #[.ref l, .int 0 0] }).get? s.heap.objs.size = some (set0 led) := Heap.get?_push_of_some _ g0
          exact setW_fresh (g1.trans (by rw [eled]))
        case stop =>
          rintro ⟨h2, g2, d2, tk2, os2⟩ mv hS
          obtain rfl : g2 = s.gens := mv.gens
          obtain rfl : d2 = s.drawn := mv.drawn
          obtain rfl : os2 = s.os := mv.os
          refine wpAny_pure (?_ : wpAny _ _ (ret Value.none) _ _ _)
          refine wpAny_pure ⟨rfl, h2, tk2, rfl, hS, fun b o hb z => mv.heap b o ?_ (Heap.get?_push_of_some _ (Heap.get?_push_of_some _ z))⟩
          simp only [List.mem_cons, List.not_mem_nil, or_false, not_or]
          exact ⟨Nat.ne_of_lt hb, by rw [sz1]; exact Nat.ne_of_lt (Nat.lt_succ_of_lt hb)⟩
      · cases r2 with
        | error e => exact hr2
        | ok fl2 =>
          cases fl2 with
          | next => exact hr2.elim
          | brk => exact hr2.elim
          | cont => exact hr2.elim
          | ret r =>
            obtain ⟨rfl, h2, tk, rfl, hS, keep⟩ := hr2
            repeat (any_goals (first | assumption | wp_step))
            exact q _ _ hS keep
end
/-- len(set(xs)) -/
def tLenSetS (K : PySem.W.Frag) (ta : TE) : TE := fun σ H Q => ta σ H fun x H1 => ∃ (l : Addr) (xs : List Str), x = .ref l ∧ SqL K H1 l (xs.map V.str) ∧ xs.length ≤ 1000 ∧ Q (.int ((dd xs).length : Nat)) H1
theorem pe_lenSetS {X : Cx} (K : PySem.W.Frag) {a : Expr} {ta : TE} {p p2 q pos : Pos} (hc : X.calm = true) (hm : X.mg "len" = none) (hm2 : X.mg "set" = none) (ha : PE X a ta) (hk : X.K = K := by rfl) (hg : Gl X "len" := by rfl) (hg2 : Gl X "set" := by rfl)
    (na : starEach [a] X.env = (false, eval a X.env) :: starEach [] X.env := by rfl) : PE X (.Call (.Name "len" p) [.Call (.Name "set" p2) [a] [] q] [] pos) (tLenSetS K ta) := by
  subst hk
  refine ⟨fun pins s σ H Q I h => ?_⟩
  refine Call_ (ld_blt I hg hm boot_len (PyProof.Rows.callWith_builtin1 (PyProof.Rows.args_cons ?_ rfl) rfl rfl))
  refine Call_ (ld_blt I hg2 hm2 boot_set ?_)
  refine PyProof.Rows.callWith_type1 (PyProof.Rows.args_cons (thn (ha.run pins s σ H _ I h) fun v s1 ⟨x, H1, I1, r1, q1⟩ => PyProof.Rows.args_nil ?_) na) na rfl
  obtain ⟨l, xs, rfl, hq, small, q1⟩ := q1
  cases r1
  obtain ⟨its, r, pl, hz⟩ := I1.list hq
  refine set_of_list (I1.ok.hd hc) pl.isList (by simpa using strsAre_of r) (by unfold scanBound; omega) fun h2 tk hS keep => PyProof.Rows.args_nil ?_
  obtain ⟨o, es, ep, t, ho, hex, hd, _, pm, _, hf, _⟩ := hS
  have hn : es.size = (dd xs).length := by rw [← pm.length_eq, List.length_map, Array.length_toList]
  have I2 : Inv X pins σ H1 { s1 with heap := h2, toks := tk } := I1.kept fun b o e => keep b o (Heap.lt_size e) e
  have few := dd_le xs []
  have few2 : (dd xs).length ≤ xs.length := by simpa [dd] using few
  exact call_len_set ho hex hd hf (by rw [hn]; omega) ⟨.int ((dd xs).length : Nat), H1, I2.tok _, ⟨_, by rw [hn]⟩, q1⟩
/-- sorted(set(xs)) -/
def tSortSetS (K : PySem.W.Frag) (ta : TE) : TE := fun σ H Q => ta σ H fun x H1 => ∃ (l : Addr) (xs : List Str), x = .ref l ∧ SqL K H1 l (xs.map V.str) ∧ xs.length < 64 ∧
  ∀ (ys : List Str) (p : Addr), ys.Perm (dd xs) → sortedS ys = true → H1 p = none → Q (.ref p) (upd H1 p (.lst (ys.map V.str)))
end Dear

namespace Dear
open PySem PySem.Spec PyProof.Rows L2
theorem sz_lit {n : Nat} (h : n ≤ 1000) : n ≤ sizeLine := Nat.le_of_lt (small1000 h)
theorem strOk_asc {z : Str} (h : ∀ c ∈ z.cps.toList, c < 128) : PyData.strOk z = true := by
  unfold PyData.strOk
  rw [Array.all_eq_true']
  intro c hc
  have := h c (by simpa using hc)
  simp
  omega
end Dear

namespace Dear
open PySem PySem.Spec PyProof.Rows L2
/-! ### slices of texts -/
def sgn (c : Nat) : Str := ⟨#[c]⟩
/-- the text of these code points -/
def txt (l : List Nat) : Str := ⟨l.toArray⟩
theorem txt_list (l : List Nat) : (txt l).cps.toList = l := List.toList_toArray ..
theorem txt_length (l : List Nat) : (txt l).length = l.length := List.size_toArray ..
theorem txt_of (z : Str) : z = txt z.cps.toList := by
  cases z
  rfl
theorem str_len (a b : Str) : (a ++ b).length = a.length + b.length := by
  show (a.cps ++ b.cps).size = _
  exact Array.size_append
theorem txt_inj {a b : List Nat} (h : txt a = txt b) : a = b := by
  have := congrArg (fun z : Str => z.cps.toList) h
  simpa [txt_list] using this
/-- the sign ahead of the j-th one -/
def aheadOf (l : List Nat) (j : Nat) : Str := cutS (cutS (txt l) none (some (j : Int))) (some (-1)) none
end Dear

namespace Dear
open PySem PySem.Spec PyProof.Rows L2
/-! ### text * number -/
theorem fold_rep (a : Array Nat) : ∀ (k : Nat) (acc : Array Nat), ((List.replicate k a).foldl (· ++ ·) acc).toList = acc.toList ++ (List.replicate k a.toList).flatten
  | 0, acc => by simp
  | k + 1, acc => by
    rw [List.replicate_succ, List.replicate_succ, List.foldl_cons, fold_rep a k, List.flatten_cons, Array.toList_append, List.append_assoc]
def repT (l : List Nat) (k : Nat) : List Nat := (List.replicate k l).flatten
theorem repT_len (l : List Nat) (k : Nat) : (repT l k).length = k * l.length := by
  unfold repT
  simp
def rRepS : R2 := fun x y H Q => ∃ (l : List Nat) (n : Int), x = .str (txt l) ∧ y = .int n ∧ 0 ≤ n ∧ n ≤ 1000 ∧ l.length ≤ 1000 ∧ Q (.str (txt (repT l n.toNat))) H
theorem op_repS {X : Cx} : OpR X (binaryOp .Mult) rRepS := by
  intro pins s σ H x y v u Q I rx ry h
  obtain ⟨l, n, rfl, rfl, h0, h1, hl, q⟩ := h
  obtain ⟨t, rfl⟩ := rx
  obtain ⟨t', rfl⟩ := ry
  have ln := txt_length l
  have big : l.length * n.toNat ≤ 1000 * 1000 := Nat.mul_le_mul hl (by omega)
  refine PySem.P.mul_str (x := txt l) (by rw [decide_eq_false (by omega), decide_eq_false (by omega)]; rfl) (fun h2 _ => ?_) (fun _ _ => ?_) ?_
  · have h3 : 0 < n := by omega
    have h4 : ((txt l).length : Int) ≤ (2 ^ 63 - 1) / n := by
      rw [Int.le_ediv_iff_mul_le h3, ln]
      have e : ((l.length * n.toNat : Nat) : Int) = (l.length : Int) * n := by
        rw [Int.natCast_mul, Int.toNat_of_nonneg h0]
      rw [← e]
      omega
    omega
  · unfold Builtin.Str.tooLong
    rw [ln]
    refine decide_eq_false ?_
    have := sz_lit (n := 0) (by decide)
    rw [sizeLine_eq]
    omega
  · by_cases e1 : n < 1
    · rw [if_pos e1]
      have e2 : n = 0 := by omega
      subst e2
      exact ⟨by decide, .str (txt (repT l 0)), H, I.tok _, ⟨_, rfl⟩, q⟩
    · rw [if_neg e1]
      by_cases e2 : (n == 1 || (txt l).length == 0) = true
      · rw [if_pos e2]
        have e3 : repT l n.toNat = l := by
          rw [ln] at e2
          simp only [Bool.or_eq_true, beq_iff_eq] at e2
          rcases e2 with e2 | e2
          · subst e2
            simp [repT]
          · have e3 : l = [] := List.length_eq_zero_iff.mp e2
            subst e3
            simp [repT]
        rw [e3] at q
        exact ⟨.str (txt l), H, I, ⟨_, rfl⟩, q⟩
      · rw [if_neg e2]
        have e3 : (⟨(List.replicate n.toNat (txt l).cps).foldl (· ++ ·) #[]⟩ : Str) = txt (repT l n.toNat) := by
          rw [txt_of ⟨(List.replicate n.toNat (txt l).cps).foldl (· ++ ·) #[]⟩]
          congr 1
          show ((List.replicate n.toNat (txt l).cps).foldl (· ++ ·) #[]).toList = _
          rw [fold_rep, txt_list]
          rfl
        rw [e3]
        refine ⟨?_, .str (txt (repT l n.toNat)), H, I.tok _, ⟨_, rfl⟩, q⟩
        rw [txt_length, repT_len, Nat.mul_comm, sizeLine_eq]
        omega
end Dear

namespace Du
open PySem PySem.Spec PyProof.Rows L2
abbrev St := L2.St
/-! ### data: what values stand for; the layer of functions (see NOTES, «u») -/
inductive D where
  | non | bl (b : Bool) | int (i : Int) | str (z : Str) | lst (ds : List D) | tup (ds : List D) | scr (ns : List Int)
  | dct (t : Bool) (kvs : List (D × D))
  | exc (c : Str) (fs : List (Str × D))
noncomputable instance : DecidableEq D := fun a b => Classical.propDecidable (a = b)
/-- flat keys -/
def keyD : Key → D
  | .inl i => .int i
  | .inr x => .str x
def keysD (ks : List Key) : D := .tup (ks.map keyD)
/-- a tuple of the module's top -/
def KTp (K : PySem.W.Frag) (a : Addr) (xs : List V) : Prop := ∃ (o : Obj) (its : Array Value) (n : Nat), K.lookup a = some o ∧ o.cls = .type "tuple" ∧ o.data = .seq its n ∧ its.size ≤ sizeLine ∧ Vals xs its.toList
theorem keyD_inj {a b : Key} (h : keyD a = keyD b) : a = b := by
  cases a <;> cases b <;> simp [keyD] at h <;> subst h <;> rfl
mutual
inductive Dt (K : PySem.W.Frag) (F : Hp) : V → D → Prop
  | non : Dt K F .non .non
  | bl (b : Bool) : Dt K F (.bl b) (.bl b)
  | int (i : Int) : Dt K F (.int i) (.int i)
  | str (z : Str) : Dt K F (.str z) (.str z)
  | lst {a : Addr} {xs : List V} {ds : List D} : F a = some (.lst xs) → DtAll K F xs ds → Dt K F (.ref a) (.lst ds)
  | scr {a : Addr} {ns : List Int} : SqL K F a (ns.map V.int) → Dt K F (.ref a) (.scr ns)
  | tup {a : Addr} {xs : List V} {ds : List D} : F a = some (.tup xs) → DtAll K F xs ds → Dt K F (.ref a) (.tup ds)
  | tk {a : Addr} {xs : List V} {ds : List D} : KTp K a xs → DtAll K F xs ds → Dt K F (.ref a) (.tup ds)
  | dk {a : Addr} {kvs : List (Key × V)} {ds : List (D × D)} : Rd F a (.dK kvs) → DtAll K F (kvs.map (·.2)) (ds.map (·.2)) → ds.map (·.1) = kvs.map (fun p => keyD p.1) → Dt K F (.ref a) (.dct false ds)
  | dt {a : Addr} {kvs : List (List Key × V)} {ds : List (D × D)} : F a = some (.dT kvs) → DtAll K F (kvs.map (·.2)) (ds.map (·.2)) → ds.map (·.1) = kvs.map (fun p => keysD p.1) → Dt K F (.ref a) (.dct true ds)
inductive DtAll (K : PySem.W.Frag) (F : Hp) : List V → List D → Prop
  | nil : DtAll K F [] []
  | cons {v : V} {vs : List V} {d : D} {ds : List D} : Dt K F v d → DtAll K F vs ds → DtAll K F (v :: vs) (d :: ds)
end
/-- what is told of F holds of G, too (G may have locked what F has) -/
def Below (F G : Hp) : Prop := ∀ a o, F a = some o → G a = some o ∨ ∃ kvs ob, o = .dK kvs ∧ G a = some (.frz ob o)
theorem Below.refl (F : Hp) : Below F F := fun _ _ h => .inl h
theorem Below.of {F G : Hp} (s : Same F G) : Below F G := fun a o h => .inl (s a o h)
theorem Below.rd {F G : Hp} {a : Addr} {u : HO} (s : Below F G) (h : Rd F a u) : Rd G a u := by
  rcases h with h | ⟨ob, h⟩
  · rcases s _ _ h with h | ⟨_, ob, rfl, h⟩
    · exact .inl h
    · exact .inr ⟨ob, h⟩
  · rcases s _ _ h with h | ⟨_, _, n, h⟩
    · exact .inr ⟨ob, h⟩
    · cases n
section
variable {K : PySem.W.Frag} {F G : Hp}
theorem Below.lst {a : Addr} {xs : List V} (s : Below F G) (h : F a = some (.lst xs)) : G a = some (.lst xs) := by
  rcases s _ _ h with h | ⟨_, _, n, _⟩
  · exact h
  · cases n
theorem Below.tup {a : Addr} {xs : List V} (s : Below F G) (h : F a = some (.tup xs)) : G a = some (.tup xs) := by
  rcases s _ _ h with h | ⟨_, _, n, _⟩
  · exact h
  · cases n
theorem Below.dt {a : Addr} {xs : List (List Key × V)} (s : Below F G) (h : F a = some (.dT xs)) : G a = some (.dT xs) := by
  rcases s _ _ h with h | ⟨_, _, n, _⟩
  · exact h
  · cases n
theorem Below.sql {a : Addr} {xs : List V} (s : Below F G) (h : SqL K F a xs) : SqL K G a xs := by
  rcases h with h | h
  · exact .inl (s.rd h)
  · exact .inr h
theorem Below.sqt {a : Addr} {xs : List V} (s : Below F G) (h : SqT K F a xs) : SqT K G a xs := by
  rcases h with h | h
  · exact .inl (s.rd h)
  · exact .inr h
mutual
theorem Dt.mv (s : Below F G) : ∀ {v : V} {d : D}, Dt K F v d → Dt K G v d
  | _, _, .non => .non
  | _, _, .bl b => .bl b
  | _, _, .int i => .int i
  | _, _, .str z => .str z
  | _, _, .lst h a => .lst (s.lst h) (DtAll.mv s a)
  | _, _, .scr h => .scr (s.sql h)
  | _, _, .tup h a => .tup (s.tup h) (DtAll.mv s a)
  | _, _, .tk h a => .tk h (DtAll.mv s a)
  | _, _, .dk h a e => .dk (s.rd h) (DtAll.mv s a) e
  | _, _, .dt h a e => .dt (s.dt h) (DtAll.mv s a) e
theorem DtAll.mv (s : Below F G) : ∀ {vs : List V} {ds : List D}, DtAll K F vs ds → DtAll K G vs ds
  | _, _, .nil => .nil
  | _, _, .cons a b => .cons (Dt.mv s a) (DtAll.mv s b)
end
theorem Dt.same (s : Same F G) {v : V} {d : D} (h : Dt K F v d) : Dt K G v d := h.mv (.of s)
theorem DtAll.same (s : Same F G) {v : List V} {d : List D} (h : DtAll K F v d) : DtAll K G v d := h.mv (.of s)
theorem DtAll.length : ∀ {vs : List V} {ds : List D}, DtAll K F vs ds → vs.length = ds.length
  | _, _, .nil => rfl
  | _, _, .cons _ b => by rw [List.length_cons, List.length_cons, DtAll.length b]
theorem DtAll.get : ∀ {vs : List V} {ds : List D} {i : Nat} {v : V}, DtAll K F vs ds → vs[i]? = some v → ∃ d, ds[i]? = some d ∧ Dt K F v d
  | _, _, _, _, .nil, e => by simp at e
  | _, _, 0, _, .cons a _, e => by
    simp at e
    subst e
    exact ⟨_, rfl, a⟩
  | _, _, i + 1, v, .cons _ b, e => by
    obtain ⟨d, h1, h2⟩ := DtAll.get (i := i) (v := v) b (by simpa using e)
    exact ⟨d, by simpa using h1, h2⟩
theorem DtAll.at : ∀ {vs : List V} {ds : List D} {i : Nat} {d : D}, DtAll K F vs ds → ds[i]? = some d → ∃ v, vs[i]? = some v ∧ Dt K F v d
  | _, _, _, _, .nil, e => by simp at e
  | _, _, 0, _, .cons a _, e => by
    simp at e
    subst e
    exact ⟨_, rfl, a⟩
  | _, _, i + 1, d, .cons _ b, e => by
    obtain ⟨v, h1, h2⟩ := DtAll.at (i := i) (d := d) b (by simpa using e)
    exact ⟨v, by simpa using h1, h2⟩
theorem DtAll.app : ∀ {vs us : List V} {ds es : List D}, DtAll K F vs ds → DtAll K F us es → DtAll K F (vs ++ us) (ds ++ es)
  | _, _, _, _, .nil, s => s
  | _, _, _, _, .cons a b, s => .cons a (DtAll.app b s)
theorem DtAll.take : ∀ (n : Nat) {vs : List V} {ds : List D}, DtAll K F vs ds → DtAll K F (vs.take n) (ds.take n)
  | 0, _, _, _ => .nil
  | _ + 1, _, _, .nil => .nil
  | n + 1, _, _, .cons a b => .cons a (DtAll.take n b)
theorem DtAll.drop : ∀ (n : Nat) {vs : List V} {ds : List D}, DtAll K F vs ds → DtAll K F (vs.drop n) (ds.drop n)
  | 0, _, _, h => h
  | _ + 1, _, _, .nil => .nil
  | n + 1, _, _, .cons _ b => DtAll.drop n b
theorem DtAll.set {v : V} {d : D} (h : Dt K F v d) : ∀ {vs : List V} {ds : List D} (i : Nat), DtAll K F vs ds → DtAll K F (vs.set i v) (ds.set i d)
  | _, _, _, .nil => .nil
  | _, _, 0, .cons _ t => .cons h t
  | _, _, i + 1, .cons q t => .cons q (DtAll.set h i t)
theorem Dt.intE {v : V} {i : Int} (h : Dt K F v (.int i)) : v = .int i := by cases h; rfl
theorem Dt.strE {v : V} {z : Str} (h : Dt K F v (.str z)) : v = .str z := by cases h; rfl
theorem Dt.blE {v : V} {b : Bool} (h : Dt K F v (.bl b)) : v = .bl b := by cases h; rfl
theorem Dt.nonE {v : V} (h : Dt K F v .non) : v = .non := by cases h; rfl
theorem Dt.lstE {v : V} {ds : List D} (h : Dt K F v (.lst ds)) : ∃ a xs, v = .ref a ∧ F a = some (.lst xs) ∧ DtAll K F xs ds := by
  cases h with
  | lst h a => exact ⟨_, _, rfl, h, a⟩
theorem Dt.tupE {v : V} {ds : List D} (h : Dt K F v (.tup ds)) : ∃ a xs, v = .ref a ∧ SqT K F a xs ∧ DtAll K F xs ds := by
  cases h with
  | tup h a => exact ⟨_, _, rfl, .inl (.inl h), a⟩
  | tk h a => exact ⟨_, _, rfl, .inr h, a⟩
theorem Dt.ints {F : Hp} : ∀ (ns : List Int), DtAll K F (ns.map V.int) (ns.map D.int)
  | [] => .nil
  | n :: r => .cons (.int n) (Dt.ints r)
theorem DtAll.intsE : ∀ {vs : List V} {ns : List Int}, DtAll K F vs (ns.map D.int) → vs = ns.map V.int
  | _, [], .nil => rfl
  | _, n :: ns, .cons a b => by
    rw [a.intE, DtAll.intsE b]
    rfl
theorem DtAll.strsE : ∀ {vs : List V} {ns : List Str}, DtAll K F vs (ns.map D.str) → vs = ns.map V.str
  | _, [], .nil => rfl
  | _, n :: ns, .cons a b => by
    rw [a.strE, DtAll.strsE b]
    rfl
end
/-! no list, no dict within -/
mutual
def imm : D → Bool
  | .lst _ => false
  | .scr _ => false
  | .dct _ _ => false
  | .exc _ _ => false
  | .tup ds => imms ds
  | _ => true
def imms : List D → Bool
  | [] => true
  | d :: ds => imm d && imms ds
end
/-- behind Same F G, without a list or a dict: tuples alone are borne -/
def Tups (F G : Hp) : Prop := ∀ a xs, F a = some (.tup xs) → G a = some (.tup xs)
mutual
theorem Dt.tups {K : PySem.W.Frag} {F G : Hp} (s : Tups F G) : ∀ {v : V} {d : D}, imm d = true → Dt K F v d → Dt K G v d
  | _, _, _, .non => .non
  | _, _, _, .bl b => .bl b
  | _, _, _, .int i => .int i
  | _, _, _, .str z => .str z
  | _, _, i, .lst _ _ => by cases i
  | _, _, i, .scr _ => by cases i
  | _, _, i, .tup h a => .tup (s _ _ h) (DtAll.tups s i a)
  | _, _, i, .tk h a => .tk h (DtAll.tups s i a)
  | _, _, i, .dk _ _ _ => by cases i
  | _, _, i, .dt _ _ _ => by cases i
theorem DtAll.tups {K : PySem.W.Frag} {F G : Hp} (s : Tups F G) : ∀ {vs : List V} {ds : List D}, imms ds = true → DtAll K F vs ds → DtAll K G vs ds
  | _, _, _, .nil => .nil
  | _, _, i, .cons a b => by
    simp only [imms, Bool.and_eq_true] at i
    exact .cons (Dt.tups s i.1 a) (DtAll.tups s i.2 b)
end
/-! ### results -/
structure Ex where
  cls : Str
  fs : List (Str × D)
inductive Res (α : Type) where
  | ok (a : α)
  | exc (x : Ex)
  | bad
def Res.bind {α β : Type} (r : Res α) (f : α → Res β) : Res β :=
  match r with
  | .ok a => f a
  | .exc x => .exc x
  | .bad => .bad
def Res.map {α β : Type} (r : Res α) (f : α → β) : Res β := r.bind fun a => .ok (f a)
section
variable {α β : Type}
@[simp] theorem Res.bind_ok (a : α) (f : α → Res β) : (Res.ok a).bind f = f a := rfl
@[simp] theorem Res.bind_exc (x : Ex) (f : α → Res β) : (Res.exc x).bind f = .exc x := rfl
@[simp] theorem Res.bind_bad (f : α → Res β) : (Res.bad : Res α).bind f = .bad := rfl
@[simp] theorem Res.map_ok (a : α) (f : α → β) : (Res.ok a).map f = .ok (f a) := rfl
theorem Res.bind_assoc {γ : Type} (r : Res α) (f : α → Res β) (g : β → Res γ) : (r.bind f).bind g = r.bind fun a => (f a).bind g := by cases r <;> rfl
end
/-- a list's length is within the line -/
def fit (n : Nat) : Bool := Nat.ble n 16777215
theorem fit_line {n : Nat} (h : fit n = true) : n < sizeLine := by
  rw [sizeLine_eq]
  have := Nat.le_of_ble_eq_true h
  omega
theorem fit_of {n : Nat} (h : n ≤ 16777215) : fit n = true := Nat.ble_eq_true_of_le h
def guard' (b : Bool) : Res Unit := if b = true then .ok () else .bad
end Du

namespace Du
open PySem PySem.Spec PyProof.Rows L2
/-! ### what grows: H the heap, F the part that is told of -/
structure Gr (F H F' H' : Hp) : Prop where
  hh : Same H H'
  ff : Same F F'
  fh : Same F' H'
  nw : ∀ a o, F' a = some o → F a = some o ∨ H a = none
section
variable {F H F1 H1 F2 H2 : Hp}
theorem Gr.refl (s : Same F H) : Gr F H F H := ⟨.refl _, .refl _, s, fun _ _ h => .inl h⟩
theorem Gr.trans (a : Gr F H F1 H1) (b : Gr F1 H1 F2 H2) : Gr F H F2 H2 := ⟨a.hh.trans b.hh, a.ff.trans b.ff, b.fh, fun p o h => by
  rcases b.nw p o h with h | h
  · exact a.nw p o h
  · exact .inr (a.hh.free h)⟩
theorem sm_upd {H : Hp} {l : Addr} {o : HO} (h : H l = none) : Same H (upd H l o) := fun b u e => by
  rw [upd_ne (ne_of_none e h)]
  exact e
theorem sm_upd2 {F H : Hp} {l : Addr} {o : HO} (s : Same F H) : Same (upd F l o) (upd H l o) := fun b u e => by
  by_cases h : b = l
  · subst h
    rw [upd_same] at e ⊢
    exact e
  · rw [upd_ne h] at e ⊢
    exact s _ _ e
theorem Gr.new {p : Addr} {o : HO} (s : Same F H) (hp : H p = none) : Gr F H (upd F p o) (upd H p o) := ⟨sm_upd hp, sm_upd (s.free hp), sm_upd2 s, fun a u e => by
  by_cases h : a = p
  · subst h
    exact .inr hp
  · rw [upd_ne h] at e
    exact .inl e⟩
/-- new, but not told of -/
theorem Gr.hid {p : Addr} {o : HO} (s : Same F H) (hp : H p = none) : Gr F H F (upd H p o) := ⟨sm_upd hp, .refl _, s.trans (sm_upd hp), fun _ _ h => .inl h⟩
end
/-! ### slots as data -/
abbrev VEnv := List (Option D)
structure Vw (K : PySem.W.Frag) (F : Hp) (σ : St) (ρ : VEnv) : Prop where
  len : σ.length = ρ.length
  get : ∀ (i : Nat) (d : D), ρ[i]? = some (some d) → ∃ v, σ[i]? = some (some v) ∧ Dt K F v d
theorem Vw.same {K : PySem.W.Frag} {F G : Hp} {σ : St} {ρ : VEnv} (h : Vw K F σ ρ) (s : Same F G) : Vw K G σ ρ := ⟨h.len, fun i d e => by
  obtain ⟨v, h1, h2⟩ := h.get i d e
  exact ⟨v, h1, h2.same s⟩⟩
/-! ### exceptions: the wish behind them -/
/-- an exception as the law's text sees it: its class, its own dict -/
def ExIs (K : PySem.W.Frag) (mg : Str → Option Value) (x : Ex) (F : Hp) (C : Value) (dd : Option Addr) : Prop :=
  mg x.cls = some C ∧ match x.fs with
    | [] => dd = none
    | [(f, d)] => ∃ a v, dd = some a ∧ F a = some (.xd [(f, v)]) ∧ Dt K F v d
    | _ => False
structure XM where
  mg : Str → Option Value
  W : WX
abbrev XMo := Option XM
def Xw (K : PySem.W.Frag) (xm : XMo) (σ : St) (F H : Hp) (x : Ex) : Prop := match xm with
  | none => False
  | some m => ∀ C dd F' H', Gr F H F' H' → ExIs K m.mg x F' C dd → m.W C dd σ H'
theorem Xw.mono {K : PySem.W.Frag} {xm : XMo} {σ : St} {F H F1 H1 : Hp} {x : Ex} (h : Xw K xm σ F H x) (g : Gr F H F1 H1) : Xw K xm σ F1 H1 x := by
  cases xm with
  | none => exact h.elim
  | some m => exact fun C dd F' H' g' => h C dd F' H' (g.trans g')
/-! ### what a reading has to give -/
def Po {α ω : Type} (R : Hp → ω → α → Prop) (K : PySem.W.Frag) (xm : XMo) (σ : St) (F H : Hp) (r : Res α) (Q : ω → Hp → Prop) : Prop := match r with
  | .ok a => ∀ w F' H', Gr F H F' H' → R F' w a → Q w H'
  | .exc x => Xw K xm σ F H x
  | .bad => False
section
variable {α β ω ω' : Type} {R : Hp → ω → α → Prop} {R' : Hp → ω' → β → Prop} {K : PySem.W.Frag} {xm : XMo} {σ : St} {F H F1 H1 : Hp}
theorem Po.mono {r : Res α} {Q : ω → Hp → Prop} (h : Po R K xm σ F H r Q) (g : Gr F H F1 H1) : Po R K xm σ F1 H1 r Q := by
  cases r with
  | ok a => exact fun w F' H' g' => h w F' H' (g.trans g')
  | exc x => exact Xw.mono h g
  | bad => exact h
theorem Po.seq {r : Res α} {f : α → Res β} {Q : ω' → Hp → Prop} {W : ω → Hp → Prop} (k : Po R' K xm σ F H (r.bind f) Q) (n : ∀ a w F1 H1, Gr F H F1 H1 → R F1 w a → Po R' K xm σ F1 H1 (f a) Q → W w H1) : Po R K xm σ F H r W := by
  cases r with
  | ok a => exact fun w F1 H1 g d => n a w F1 H1 g d (Po.mono k g)
  | exc x => exact k
  | bad => exact k
theorem Po.done {a : α} {w : ω} {Q : ω → Hp → Prop} (k : Po R K xm σ F H (.ok a) Q) (s : Same F H) (h : R F w a) : Q w H := k w F H (.refl s) h
theorem Po.new {a : α} {w : ω} {Q : ω → Hp → Prop} {p : Addr} {o : HO} (k : Po R K xm σ F H (.ok a) Q) (s : Same F H) (hp : H p = none) (h : R (upd F p o) w a) : Q w (upd H p o) := k w _ _ (.new s hp) h
end
abbrev RD (K : PySem.W.Frag) : Hp → V → D → Prop := fun F v d => Dt K F v d
abbrev RL (K : PySem.W.Frag) : Hp → List V → List D → Prop := fun F v d => DtAll K F v d
abbrev RB : Hp → Bool → Bool → Prop := fun _ b c => b = c
/-! ### readings by functions -/
def tF (K : PySem.W.Frag) (xm : XMo) (f : VEnv → Res D) : TE := fun σ H Q => ∃ F ρ, Same F H ∧ Vw K F σ ρ ∧ Po (RD K) K xm σ F H (f ρ) Q
def bF (K : PySem.W.Frag) (xm : XMo) (f : VEnv → Res Bool) : TT := fun σ H Q => ∃ F ρ, Same F H ∧ Vw K F σ ρ ∧ Po RB K xm σ F H (f ρ) Q
def aF (K : PySem.W.Frag) (xm : XMo) (f : VEnv → Res (List D)) : TA := fun σ H Q => ∃ F ρ, Same F H ∧ Vw K F σ ρ ∧ Po (RL K) K xm σ F H (f ρ) Q
theorem PE.to {X : Cx} {e : Expr} {t t' : TE} (h : PE X e t) (m : ∀ σ H Q, t' σ H Q → t σ H Q) : PE X e t' := ⟨fun pins s σ H Q I q => h.run pins s σ H Q I (m _ _ _ q)⟩
theorem PT.to {X : Cx} {e : Expr} {t t' : TT} (h : PT X e t) (m : ∀ σ H Q, t' σ H Q → t σ H Q) : PT X e t' := ⟨fun pins s σ H Q I q => h.run pins s σ H Q I (m _ _ _ q)⟩
theorem PW.to {X : Cx} {e : Expr} {t t' : TT} (h : PW X e t) (m : ∀ σ H Q, t' σ H Q → t σ H Q) : PW X e t' := ⟨fun wh pins s σ H Q I q => h.run wh pins s σ H Q I (m _ _ _ q)⟩
theorem PA.to {X : Cx} {e : List Expr} {t t' : TA} (h : PA X e t) (m : ∀ σ H Q, t' σ H Q → t σ H Q) : PA X e t' := ⟨fun pos pins s σ H Q I q => h.run pos pins s σ H Q I (m _ _ _ q)⟩
theorem PS.to {X : Cx} {e : Stmt} {t t' : TS} (h : PS X e t) (m : ∀ D σ H, t' D σ H → t D σ H) : PS X e t' := ⟨fun pins s σ H D I q => h.run pins s σ H D I (m _ _ _ q)⟩
theorem PSs.to {X : Cx} {e : List Stmt} {t t' : TS} (h : PSs X e t) (m : ∀ D σ H, t' D σ H → t D σ H) : PSs X e t' := ⟨fun pins s σ H D I q => h.run pins s σ H D I (m _ _ _ q)⟩
/-- FE: the expression e computes f -/
abbrev FE (K : PySem.W.Frag) (xm : XMo) (X : Cx) (e : Expr) (f : VEnv → Res D) : Prop := PE X e (tF K xm f)
abbrev FT (K : PySem.W.Frag) (xm : XMo) (X : Cx) (e : Expr) (f : VEnv → Res Bool) : Prop := PT X e (bF K xm f)
abbrev FW (K : PySem.W.Frag) (xm : XMo) (X : Cx) (e : Expr) (f : VEnv → Res Bool) : Prop := PW X e (bF K xm f)
abbrev FA (K : PySem.W.Frag) (xm : XMo) (X : Cx) (e : List Expr) (f : VEnv → Res (List D)) : Prop := PA X e (aF K xm f)
/-! ### names, constants -/
def eVar (i : Nat) : VEnv → Res D := fun ρ => match ρ[i]? with
  | some (some d) => .ok d
  | _ => .bad
def eC (d : D) : VEnv → Res D := fun _ => .ok d
section
variable {K : PySem.W.Frag} {xm : XMo} {X : Cx}
theorem tF.var {i : Nat} {σ : St} {H : Hp} {Q : VK} (h : tF K xm (eVar i) σ H Q) : tVar i σ H Q := by
  obtain ⟨F, ρ, sF, vw, k⟩ := h
  unfold eVar at k
  split at k
  · rename_i d e
    obtain ⟨v, h1, h2⟩ := vw.get i d e
    exact ⟨v, h1, k.done sF h2⟩
  · exact k.elim
theorem fe_var (i : Nat) {x : Str} {pos : Pos} (hN : X.N[i]? = some x := by rfl) (hv : Vis X.env.scope x := by first | exact Or.inl rfl | exact Or.inr (Or.inl rfl) | exact Or.inr (Or.inr rfl)) (hd : (x == ("__debug__" : Str)) = false := by decide)
    (hcd : (x == ("__classdict__" : Str)) = false := by decide) : FE K xm X (.Name x pos) (eVar i) := PE.to (pv i hN hv hd hcd) fun _ _ _ h => h.var
theorem fe_cst {e : Expr} {v : V} {d : D} (h : PE X e (tC v)) (hd : ∀ F, Dt K F v d) : FE K xm X e (eC d) := PE.to h fun σ H Q ⟨F, ρ, sF, vw, k⟩ => k.done sF (hd F)
theorem fe_int {i : Int} {j : Nat} {pos : Pos} : FE K xm X (.Constant (.int i) j pos) (eC (.int i)) := fe_cst pe_int fun _ => .int _
theorem fe_bl {i : Bool} {j : Nat} {pos : Pos} : FE K xm X (.Constant (.bool i) j pos) (eC (.bl i)) := fe_cst pe_bl fun _ => .bl _
theorem fe_non {j : Nat} {pos : Pos} : FE K xm X (.Constant .none j pos) (eC .non) := fe_cst pe_non fun _ => .non
theorem fe_str {x : Str} {j : Nat} {pos : Pos} : FE K xm X (.Constant (.str x) j pos) (eC (.str x)) := fe_cst pe_str fun _ => .str _
theorem fe_gi {x : Str} {i : Int} {pos : Pos} (h : ∃ t, X.mg x = some (.int i t)) (hg : Gl X x := by rfl) (hd : (x == ("__debug__" : Str)) = false := by decide) : FE K xm X (.Name x pos) (eC (.int i)) := fe_cst (Dear.pe_gi h hg hd) fun _ => .int _
theorem fe_gs {x : Str} {i : Str} {pos : Pos} (h : ∃ t, X.mg x = some (.str i t)) (hg : Gl X x := by rfl) (hd : (x == ("__debug__" : Str)) = false := by decide) : FE K xm X (.Name x pos) (eC (.str i)) := fe_cst (Dear.pe_gs h hg hd) fun _ => .str _
/-! ### operators by values -/
/-- the rule r does what g says -/
def OpD (K : PySem.W.Frag) (r : R2) (g : D → D → Res D) : Prop := ∀ (xm : XMo) σ F H x y a b Q, Same F H → Dt K F x a → Dt K F y b → Po (RD K) K xm σ F H (g a b) Q → r x y H Q
def UnD (K : PySem.W.Frag) (r : V → Hp → VK → Prop) (g : D → Res D) : Prop := ∀ (xm : XMo) σ F H x a Q, Same F H → Dt K F x a → Po (RD K) K xm σ F H (g a) Q → r x H Q
def CallD (K : PySem.W.Frag) (r : List V → Hp → VK → Prop) (g : List D → Res D) : Prop := ∀ (xm : XMo) σ F H xs ds Q, Same F H → DtAll K F xs ds → Po (RD K) K xm σ F H (g ds) Q → r xs H Q
def eOp (g : D → D → Res D) (fa fb : VEnv → Res D) : VEnv → Res D := fun ρ => (fa ρ).bind fun a => (fb ρ).bind fun b => g a b
def eUn (g : D → Res D) (fa : VEnv → Res D) : VEnv → Res D := fun ρ => (fa ρ).bind g
theorem tF.op {r : R2} {g : D → D → Res D} {fa fb : VEnv → Res D} (h : OpD K r g) {σ : St} {H : Hp} {Q : VK} (k : tF K xm (eOp g fa fb) σ H Q) : tOp r (tF K xm fa) (tF K xm fb) σ H Q := by
  obtain ⟨F, ρ, sF, vw, k⟩ := k
  refine ⟨F, ρ, sF, vw, Po.seq k fun a x F1 H1 g1 d1 k1 => ⟨F1, ρ, g1.fh, vw.same g1.ff, Po.seq k1 fun b y F2 H2 g2 d2 k2 => h xm σ F2 H2 x y a b Q g2.fh (Dt.same g2.ff d1) d2 k2⟩⟩
theorem tF.un {r : V → Hp → VK → Prop} {g : D → Res D} {fa : VEnv → Res D} (h : UnD K r g) {σ : St} {H : Hp} {Q : VK} (k : tF K xm (eUn g fa) σ H Q) : tUn r (tF K xm fa) σ H Q := by
  obtain ⟨F, ρ, sF, vw, k⟩ := k
  exact ⟨F, ρ, sF, vw, Po.seq k fun a x F1 H1 g1 d1 k1 => h xm σ F1 H1 x a Q g1.fh d1 k1⟩
theorem fe_op {a b : Expr} {op : Operator} {pos : Pos} {r : R2} {g : D → D → Res D} {fa fb : VEnv → Res D} (ho : OpR X (binaryOp op) r) (h : OpD K r g) (ha : FE K xm X a fa) (hb : FE K xm X b fb) : FE K xm X (.BinOp a op b pos) (eOp g fa fb) :=
  PE.to (pe_op ho ha hb) fun _ _ _ k => k.op h
theorem fe_cmp {a b : Expr} {op : CmpOp} {pos : Pos} {r : R2} {g : D → D → Res D} {fa fb : VEnv → Res D} (ho : OpR X (compareOp op) r) (h : OpD K r g) (ha : FE K xm X a fa) (hb : FE K xm X b fb) (hm : behindInMarks op b = false := by first | exact nomark _ | rfl) :
    FE K xm X (.Compare a [op] [b] pos) (eOp g fa fb) := PE.to (pe_cmpR ho ha hb hm) fun _ _ _ k => k.op h
theorem fe_un {a : Expr} {op : UnaryOp} {pos : Pos} {r : V → Hp → VK → Prop} {g : D → Res D} {fa : VEnv → Res D} (ho : UnR X (unaryOp op) r) (h : UnD K r g) (ha : FE K xm X a fa) : FE K xm X (.UnaryOp op a pos) (eUn g fa) := PE.to (pe_un ho ha) fun _ _ _ k => k.un h
/-- two rules for one operator -/
theorem OpR.or {f : Value → Value → Sem Value} {r1 r2 : R2} (h1 : OpR X f r1) (h2 : OpR X f r2) : OpR X f (fun x y H Q => r1 x y H Q ∨ r2 x y H Q) := fun pins s σ H x y u v Q I rx ry h => h.elim (h1 pins s σ H x y u v Q I rx ry) (h2 pins s σ H x y u v Q I rx ry)
theorem CallR.or {f : Value} {r1 r2 : List V → Hp → VK → Prop} (h1 : CallR X f r1) (h2 : CallR X f r2) : CallR X f (fun x H Q => r1 x H Q ∨ r2 x H Q) := fun pins s σ H x u Q I rx h => h.elim (h1 pins s σ H x u Q I rx) (h2 pins s σ H x u Q I rx)
end
end Du

namespace Du
open PySem PySem.Spec PyProof.Rows L2
section
variable {X : Cx} (K : PySem.W.Frag)
def rAddA : R2 := fun x y H Q => (((rI0 fun i j => .int (i + j)) x y H Q ∨ (fun x y H Q => ∃ i j, x = .str i ∧ y = .str j ∧ i.length + j.length ≤ sizeLine ∧ Q (.str (i ++ j)) H) x y H Q) ∨ rCat x y H Q) ∨ rCatA K x y H Q
theorem op_addA (h : X.K = K := by rfl) : OpR X (binaryOp .Add) (rAddA K) := OpR.or (OpR.or (OpR.or op_add op_add_str) op_cat) (h ▸ op_catA)
end
def dAdd : D → D → Res D
  | .int a, .int b => .ok (.int (a + b))
  | .str a, .str b => if fit (a.length + b.length) = true then .ok (.str (a ++ b)) else .bad
  | .lst a, .lst b => if fit (a.length + b.length) = true then .ok (.lst (a ++ b)) else .bad
  | .tup a, .tup b => if fit (a.length + b.length) = true then .ok (.tup (a ++ b)) else .bad
  | _, _ => .bad
theorem DtAll.nilE {K : PySem.W.Frag} {F : Hp} {ds : List D} (h : DtAll K F [] ds) : ds = [] := by cases h; rfl
theorem Po.ite {α ω : Type} {R : Hp → ω → α → Prop} {K : PySem.W.Frag} {xm : XMo} {σ : St} {F H : Hp} {b : Bool} {r : Res α} {Q : ω → Hp → Prop} (k : Po R K xm σ F H (if b = true then r else .bad) Q) : b = true ∧ Po R K xm σ F H r Q := by
  cases b with
  | true => exact ⟨rfl, by rwa [if_pos rfl] at k⟩
  | false =>
    rw [if_neg Bool.false_ne_true] at k
    exact k.elim
theorem Po.iteP {α ω : Type} {R : Hp → ω → α → Prop} {K : PySem.W.Frag} {xm : XMo} {σ : St} {F H : Hp} {b : Prop} [Decidable b] {r : Res α} {Q : ω → Hp → Prop} (k : Po R K xm σ F H (if b then r else .bad) Q) : b ∧ Po R K xm σ F H r Q := by
  by_cases h : b
  · exact ⟨h, by rwa [if_pos h] at k⟩
  · rw [if_neg h] at k
    exact k.elim
section
variable {K : PySem.W.Frag}
theorem opd_add : OpD K (rAddA K) dAdd := by
  intro xm σ F H x y a b Q s hx hy k
  unfold dAdd at k
  split at k
  · rw [hx.intE, hy.intE]
    exact .inl (.inl (.inl ⟨_, _, rfl, rfl, k.done s (.int _)⟩))
  · obtain ⟨f, k⟩ := Po.ite k
    rw [hx.strE, hy.strE]
    exact .inl (.inl (.inr ⟨_, _, rfl, rfl, Nat.le_of_lt (fit_line f), k.done s (.str _)⟩))
  · obtain ⟨f, k⟩ := Po.ite k
    obtain ⟨p, xs, rfl, h1, h2⟩ := hx.lstE
    obtain ⟨q, ys, rfl, h3, h4⟩ := hy.lstE
    refine .inl (.inr ⟨_, _, _, _, rfl, rfl, s _ _ h1, s _ _ h3, by rw [h2.length, h4.length]; exact Nat.le_of_lt (fit_line f), fun r hr => ?_⟩)
    have w := sm_upd (o := .lst (xs ++ ys)) (s.free hr)
    exact k.new s hr (.lst upd_same ((h2.same w).app (h4.same w)))
  · obtain ⟨f, k⟩ := Po.ite k
    obtain ⟨p, xs, rfl, h1, h2⟩ := hx.tupE
    obtain ⟨q, ys, rfl, h3, h4⟩ := hy.tupE
    refine .inr ⟨_, _, _, _, rfl, rfl, (Below.of s).sqt h1, (Below.of s).sqt h3, by rw [h2.length, h4.length]; exact Nat.le_of_lt (fit_line f), fun e => ?_, fun _ e => ?_, fun _ _ r hr => ?_⟩
    · subst e
      rw [h2.nilE] at k
      exact k.done s hy
    · subst e
      rw [h4.nilE, List.append_nil] at k
      exact k.done s hx
    · have w := sm_upd (o := .tup (xs ++ ys)) (s.free hr)
      exact k.new s hr (.tup upd_same ((h2.same w).app (h4.same w)))
  · exact k.elim
/-! ### whole numbers -/
def dI (c : Int → Int → Prop) [∀ i j, Decidable (c i j)] (g : Int → Int → Int) : D → D → Res D
  | .int a, .int b => if c a b then .ok (.int (g a b)) else .bad
  | _, _ => .bad
theorem opd_i {c : Int → Int → Prop} [∀ i j, Decidable (c i j)] {C : Int → Int → Prop} {g : Int → Int → Int} (h : ∀ i j, c i j → C i j) : OpD K (rI C fun i j => .int (g i j)) (dI c g) := by
  intro xm σ F H x y a b Q s hx hy k
  unfold dI at k
  split at k
  · obtain ⟨f, k⟩ := Po.iteP k
    rw [hx.intE, hy.intE]
    exact ⟨_, _, rfl, rfl, h _ _ f, k.done s (.int _)⟩
  · exact k.elim
def dSub : D → D → Res D
  | .int a, .int b => .ok (.int (a - b))
  | _, _ => .bad
instance : ∀ i j, Decidable (CMulW i j) := fun i j => inferInstanceAs (Decidable (_ < _))
instance : ∀ i j, Decidable (CDivW i j) := fun i j => inferInstanceAs (Decidable (_ ∧ _))
instance : ∀ i j, Decidable (CPow i j) := fun i j => inferInstanceAs (Decidable (_ ∧ _ ∧ _))
abbrev dDiv := dI CDivW fun i j => i / j
abbrev dMod := dI (fun _ j => 0 < j) fun i j => i % j
abbrev dPow := dI CPow fun i j => i ^ j.toNat
theorem opd_div : OpD K (rI CDivW fun i j => .int (i / j)) dDiv := opd_i fun _ _ h => h
theorem opd_mod : OpD K (rI (fun _ j => 0 < j) fun i j => .int (i % j)) dMod := opd_i fun _ _ h => h
theorem opd_pow : OpD K (rI CPow fun i j => .int (i ^ j.toNat)) dPow := opd_i fun _ _ h => h
end
/-! ### times: whole numbers, a list or a text by a number -/
section
variable {X : Cx}
def rMulA : R2 := fun x y H Q => (((rI CMulW fun i j => .int (i * j)) x y H Q ∨ (rI CMul fun i j => .int (i * j)) x y H Q) ∨ Dear.rRepS x y H Q) ∨ rRep x y H Q
theorem op_mulA : OpR X (binaryOp .Mult) rMulA := OpR.or (OpR.or (OpR.or op_mulW op_mul) Dear.op_repS) op_rep
end
/-- few figures together, or one factor small -/
def CMulA (i j : Int) : Prop := CMulW i j ∨ CMul i j
instance : ∀ i j, Decidable (CMul i j) := fun i j => inferInstanceAs (Decidable (_ ∨ _))
instance : ∀ i j, Decidable (CMulA i j) := fun i j => inferInstanceAs (Decidable (_ ∨ _))
def dMul : D → D → Res D
  | .int a, .int b => if CMulA a b then .ok (.int (a * b)) else .bad
  | .str a, .int b => if 0 ≤ b ∧ b ≤ 1000 ∧ a.length ≤ 1000 then .ok (.str (Dear.txt (Dear.repT a.cps.toList b.toNat))) else .bad
  | .lst a, .int b => if -1000000 ≤ b ∧ b ≤ 1000000 ∧ fit a.length = true ∧ fit (a.length * b.toNat) = true then .ok (.lst (List.replicate b.toNat a).flatten) else .bad
  | _, _ => .bad
theorem DtAll.rep {K : PySem.W.Frag} {F : Hp} {vs : List V} {ds : List D} (h : DtAll K F vs ds) : ∀ n : Nat, DtAll K F (List.replicate n vs).flatten (List.replicate n ds).flatten
  | 0 => .nil
  | n + 1 => by
    rw [List.replicate_succ, List.replicate_succ, List.flatten_cons, List.flatten_cons]
    exact h.app (DtAll.rep h n)
theorem opd_mul {K : PySem.W.Frag} : OpD K rMulA dMul := by
  intro xm σ F H x y a b Q s hx hy k
  unfold dMul at k
  split at k
  · obtain ⟨f, k⟩ := Po.iteP k
    rw [hx.intE, hy.intE]
    rcases f with f | f
    · exact .inl (.inl (.inl ⟨_, _, rfl, rfl, f, k.done s (.int _)⟩))
    · exact .inl (.inl (.inr ⟨_, _, rfl, rfl, f, k.done s (.int _)⟩))
  · rename_i a b
    obtain ⟨⟨f1, f2, f3⟩, k⟩ := Po.iteP k
    rw [hx.strE, hy.intE]
    have e : a = Dear.txt a.cps.toList := Dear.txt_of a
    exact .inl (.inr ⟨a.cps.toList, b, congrArg V.str e, rfl, f1, f2, by rw [Array.length_toList]; exact f3, k.done s (.str _)⟩)
  · rename_i a b
    obtain ⟨⟨f0, f1, f2, f3⟩, k⟩ := Po.iteP k
    obtain ⟨p, xs, rfl, h1, h2⟩ := hx.lstE
    rw [hy.intE]
    refine .inr ⟨_, _, _, rfl, rfl, s _ _ h1, by omega, by omega, by rw [h2.length]; exact Nat.le_of_lt (fit_line f3), fun r hr => ?_⟩
    exact k.new s hr (.lst upd_same ((h2.same (sm_upd (s.free hr))).rep _))
  · exact k.elim
/-- [..] * n -/
def eRep (fa : VEnv → Res (List D)) (fb : VEnv → Res D) : VEnv → Res D := fun ρ => (fa ρ).bind fun a => if fit a.length = true then (fb ρ).bind fun b => match b with
  | .int b => if -1000000 ≤ b ∧ b ≤ 1000000 ∧ fit (a.length * b.toNat) = true then .ok (.lst (List.replicate b.toNat a).flatten) else .bad
  | _ => .bad else .bad
end Du

namespace Du
open PySem PySem.Spec PyProof.Rows L2
/-! ### data as the library's -/
mutual
def py : D → PyData
  | .non => .none
  | .bl b => .bool b
  | .int i => .int i
  | .str z => .str z
  | .lst ds => .list (pyAll ds)
  | .tup ds => .tuple (pyAll ds)
  | _ => .none
def pyAll : List D → List PyData
  | [] => []
  | d :: ds => py d :: pyAll ds
end
mutual
/-- texts, numbers, truths, None, lists and tuples of such; the texts plain -/
def okD : D → Bool
  | .non => true
  | .bl _ => true
  | .int _ => true
  | .str z => z.cps.toList.all fun c => decide (c < 128)
  | .lst ds => okAll ds
  | .tup ds => okAll ds
  | _ => false
def okAll : List D → Bool
  | [] => true
  | d :: ds => okD d && okAll ds
end
mutual
def dep : D → Nat
  | .lst ds => depAll ds + 1
  | .tup ds => depAll ds + 1
  | _ => 0
def depAll : List D → Nat
  | [] => 0
  | d :: ds => max (dep d) (depAll ds)
end
/-- may be compared -/
def lay (d : D) : Bool := okD d && decide (dep d ≤ 60)
mutual
def pyEq : D → D → Bool
  | .non, .non => true
  | .bl a, .bl b => a == b
  | .bl a, .int j => (if a then 1 else 0) == j
  | .int i, .bl b => i == (if b then 1 else 0)
  | .int i, .int j => decide (i = j)
  | .str x, .str y => decide (x = y)
  | .lst xs, .lst ys => pyEqAll xs ys
  | .tup xs, .tup ys => pyEqAll xs ys
  | _, _ => false
def pyEqAll : List D → List D → Bool
  | [], [] => true
  | x :: xs, y :: ys => pyEq x y && pyEqAll xs ys
  | _, _ => false
end
mutual
theorem Dt.dp {K : PySem.W.Frag} {H : Hp} : ∀ {v : V} {d : D}, okD d = true → Dt K H v d → Dp K H v (py d)
  | _, _, _, .non => .non
  | _, _, _, .bl b => .bl b
  | _, _, _, .int i => .int i
  | _, _, _, .str z => .str z
  | _, _, n, .lst h a => .lst (SqL.of h) (DtAll.dp n a)
  | _, _, n, .tup h a => .tup (.inl (.inl h)) (DtAll.dp n a)
  | _, _, n, .tk h a => .tup (.inr h) (DtAll.dp n a)
  | _, _, n, .scr _ => by cases n
  | _, _, n, .dk _ _ _ => by cases n
  | _, _, n, .dt _ _ _ => by cases n
theorem DtAll.dp {K : PySem.W.Frag} {H : Hp} : ∀ {vs : List V} {ds : List D}, okAll ds = true → DtAll K H vs ds → DpAll K H vs (pyAll ds)
  | _, _, _, .nil => .nil
  | _, _, n, .cons a b => by
    simp only [okAll, Bool.and_eq_true] at n
    exact .cons (Dt.dp n.1 a) (DtAll.dp n.2 b)
end
mutual
theorem lay_py : ∀ {d : D}, okD d = true → PyData.canLay0 (py d) = true
  | .non, _ => rfl
  | .bl _, _ => rfl
  | .int _, _ => rfl
  | .str z, o => Dear.strOk_asc fun c hc => by
    have := List.all_eq_true.mp (show (z.cps.toList.all fun c => decide (c < 128)) = true from o) c hc
    simpa using this
  | .lst _, o => layAll_py o
  | .tup _, o => layAll_py o
  | .scr _, o => by cases o
  | .dct _ _, o => by cases o
  | .exc _ _, o => by cases o
theorem layAll_py : ∀ {ds : List D}, okAll ds = true → PyData.canLayAll0 (pyAll ds) = true
  | [], _ => rfl
  | d :: ds, o => by
    simp only [okAll, Bool.and_eq_true] at o
    show (PyData.canLay0 (py d) && PyData.canLayAll0 (pyAll ds)) = true
    rw [lay_py o.1, layAll_py o.2]
    rfl
end
mutual
theorem dep_py : ∀ d : D, PyData.depth (py d) = dep d
  | .non => rfl
  | .bl _ => rfl
  | .int _ => rfl
  | .str _ => rfl
  | .lst ds => congrArg (· + 1) (depAll_py ds)
  | .tup ds => congrArg (· + 1) (depAll_py ds)
  | .scr _ => rfl
  | .dct _ _ => rfl
  | .exc _ _ => rfl
theorem depAll_py : ∀ ds : List D, PyData.depthAll (pyAll ds) = depAll ds
  | [] => rfl
  | d :: ds => by
    show max (PyData.depth (py d)) (PyData.depthAll (pyAll ds)) = max (dep d) (depAll ds)
    rw [dep_py d, depAll_py ds]
end
mutual
theorem Dp.mono {K : PySem.W.Frag} {F H : Hp} (s : Same F H) : ∀ {v : V} {d : PyData}, Dp K F v d → Dp K H v d
  | _, _, .non => .non
  | _, _, .bl b => .bl b
  | _, _, .int i => .int i
  | _, _, .str z => .str z
  | _, _, .lst h a => .lst ((Below.of s).sql h) (DpAll.mono s a)
  | _, _, .tup h a => .tup ((Below.of s).sqt h) (DpAll.mono s a)
theorem DpAll.mono {K : PySem.W.Frag} {F H : Hp} (s : Same F H) : ∀ {v : List V} {d : List PyData}, DpAll K F v d → DpAll K H v d
  | _, _, .nil => .nil
  | _, _, .cons a b => .cons (Dp.mono s a) (DpAll.mono s b)
end
theorem lay_ok {d : D} (h : lay d = true) : okD d = true := (Bool.and_eq_true_iff.mp h).1
theorem lay_shaped {d : D} (h : lay d = true) : SeqAt.shaped (py d) = true := by
  unfold lay at h
  rw [Bool.and_eq_true, decide_eq_true_eq] at h
  show (PyData.canLay0 (py d) && decide (PyData.depth (py d) ≤ 64)) = true
  rw [lay_py h.1, dep_py, decide_eq_true (by omega)]
  rfl
mutual
theorem eqv_py : ∀ {a b : D}, okD a = true → okD b = true → PyData.eqv (py a) (py b) = pyEq a b := by
  intro a b ha hb
  cases a <;> cases b <;> first
    | rfl
    | (exfalso; revert ha; simp [okD]; done)
    | (exfalso; revert hb; simp [okD]; done)
    | (simp only [py, PyData.eqv, pyEq]; done)
    | (simp only [py, PyData.eqv, pyEq]; exact eqvAll_py ha hb)
    | skip
theorem eqvAll_py : ∀ {a b : List D}, okAll a = true → okAll b = true → PyData.eqvAll (pyAll a) (pyAll b) = pyEqAll a b
  | [], [], _, _ => rfl
  | [], _ :: _, _, _ => rfl
  | _ :: _, [], _, _ => rfl
  | x :: xs, y :: ys, ha, hb => by
    simp only [okAll, Bool.and_eq_true] at ha hb
    show (PyData.eqv (py x) (py y) && PyData.eqvAll (pyAll xs) (pyAll ys)) = (pyEq x y && pyEqAll xs ys)
    rw [eqv_py ha.1 hb.1, eqvAll_py ha.2 hb.2]
end
/-! ### == and != -/
/-- pairs of which == asks no more -/
def scalD : D → D → Bool
  | .non, .non => true | .non, .int _ => true | .int _, .non => true | .non, .bl _ => true | .bl _, .non => true | .non, .str _ => true | .str _, .non => true
  | .int _, .int _ => true | .bl _, .bl _ => true | .str _, .str _ => true
  | .int _, .str _ => true | .str _, .int _ => true | .bl _, .str _ => true | .str _, .bl _ => true
  | _, _ => false
theorem scal_of {K : PySem.W.Frag} {F : Hp} {x y : V} {a b : D} (h : scalD a b = true) (hx : Dt K F x a) (hy : Dt K F y b) : scal x y = true ∧ decide (x = y) = pyEq a b := by
  cases hx <;> cases hy <;> first
    | (exfalso; revert h; simp [scalD]; done)
    | (refine ⟨rfl, ?_⟩; simp [pyEq]; done)
    | skip
  · refine ⟨rfl, ?_⟩
    simp only [pyEq, V.bl.injEq]
    rename_i a b
    cases a <;> cases b <;> rfl
def dEq (a b : D) : Res D := if (scalD a b || (lay a && lay b)) = true then .ok (.bl (pyEq a b)) else .bad
def dNe (a b : D) : Res D := if (scalD a b || (lay a && lay b)) = true then .ok (.bl (!pyEq a b)) else .bad
section
variable {K : PySem.W.Frag} {X : Cx}
def rEqA (K : PySem.W.Frag) : R2 := fun x y H Q => rEq x y H Q ∨ rEqD K x y H Q
def rNeA (K : PySem.W.Frag) : R2 := fun x y H Q => rNe x y H Q ∨ rNeD K x y H Q
theorem op_eqA (hu : X.A.units + 64 < cLine) (h : X.K = K := by rfl) : OpR X (compareOp .Eq) (rEqA K) := OpR.or op_eq (h ▸ op_eqD hu)
theorem op_neA (hu : X.A.units + 64 < cLine) (h : X.K = K := by rfl) : OpR X (compareOp .NotEq) (rNeA K) := OpR.or op_ne (h ▸ op_neD hu)
theorem opd_eq : OpD K (rEqA K) dEq := by
  intro xm σ F H x y a b Q s hx hy k
  obtain ⟨f, k⟩ := Po.ite k
  rcases Bool.or_eq_true_iff.mp f with f | f
  · obtain ⟨h1, h2⟩ := scal_of f hx hy
    exact .inl ⟨h1, by rw [h2]; exact k.done s (.bl _)⟩
  · rw [Bool.and_eq_true] at f
    refine .inr ⟨_, _, Dp.mono s (Dt.dp (lay_ok f.1) hx), Dp.mono s (Dt.dp (lay_ok f.2) hy), lay_shaped f.1, lay_shaped f.2, ?_⟩
    rw [eqv_py (lay_ok f.1) (lay_ok f.2)]
    exact k.done s (.bl _)
theorem opd_ne : OpD K (rNeA K) dNe := by
  intro xm σ F H x y a b Q s hx hy k
  obtain ⟨f, k⟩ := Po.ite k
  rcases Bool.or_eq_true_iff.mp f with f | f
  · obtain ⟨h1, h2⟩ := scal_of f hx hy
    exact .inl ⟨h1, by rw [h2]; exact k.done s (.bl _)⟩
  · rw [Bool.and_eq_true] at f
    refine .inr ⟨_, _, Dp.mono s (Dt.dp (lay_ok f.1) hx), Dp.mono s (Dt.dp (lay_ok f.2) hy), lay_shaped f.1, lay_shaped f.2, ?_⟩
    rw [eqv_py (lay_ok f.1) (lay_ok f.2)]
    exact k.done s (.bl _)
/-! ### <, <=, >, >= of whole numbers -/
def dCmp (p : Int → Int → Bool) : D → D → Res D
  | .int a, .int b => .ok (.bl (p a b))
  | _, _ => .bad
theorem opd_cmp {p : Int → Int → Bool} : OpD K (rI0 fun i j => .bl (p i j)) (dCmp p) := by
  intro xm σ F H x y a b Q s hx hy k
  unfold dCmp at k
  split at k
  · rw [hx.intE, hy.intE]
    exact ⟨_, _, rfl, rfl, k.done s (.bl _)⟩
  · exact k.elim
abbrev dLt := dCmp fun i j => decide (i < j)
abbrev dLe := dCmp fun i j => decide (i ≤ j)
abbrev dGt := dCmp fun i j => decide (j < i)
abbrev dGe := dCmp fun i j => decide (j ≤ i)
theorem opd_lt : OpD K (rI0 fun i j => .bl (decide (i < j))) dLt := opd_cmp
theorem opd_le : OpD K (rI0 fun i j => .bl (decide (i ≤ j))) dLe := opd_cmp
theorem opd_gt : OpD K (rI0 fun i j => .bl (decide (j < i))) dGt := opd_cmp
theorem opd_ge : OpD K (rI0 fun i j => .bl (decide (j ≤ i))) dGe := opd_cmp
/-! ### is None -/
def isNon : D → Bool
  | .non => true
  | _ => false
theorem isNon_of {F : Hp} {v : V} {d : D} (h : Dt K F v d) : decide (v = .non) = isNon d := by
  cases h <;> first
    | rfl
    | (refine decide_eq_false ?_; intro e; cases e)
def dIsN (a b : D) : Res D := if isNon b = true then .ok (.bl (isNon a)) else .bad
def dNotN (a b : D) : Res D := if isNon b = true then .ok (.bl (!isNon a)) else .bad
theorem isNonE {F : Hp} {v : V} {d : D} (h : Dt K F v d) (e : isNon d = true) : v = .non := by
  have := isNon_of h
  rw [e] at this
  exact of_decide_eq_true this
theorem opd_isN : OpD K (fun x y H Q => y = .non ∧ Q (.bl (decide (x = .non))) H) dIsN := by
  intro xm σ F H x y a b Q s hx hy k
  obtain ⟨f, k⟩ := Po.ite k
  exact ⟨isNonE hy f, by rw [isNon_of hx]; exact k.done s (.bl _)⟩
end
end Du

namespace Du
open PySem PySem.Spec PyProof.Rows L2
section
variable {K : PySem.W.Frag} {X : Cx}
/-! ### dicts with flat keys, as data -/
noncomputable def dGet (kvs : List (D × D)) (k : D) : Option D := (kvs.find? fun p => decide (p.1 = k)).map (·.2)
def dKeyOk : D → Bool
  | .int _ => true
  | .str _ => true
  | _ => false
theorem keyE {F : Hp} {v : V} {d : D} (h : Dt K F v d) (o : dKeyOk d = true) : ∃ k : Key, v = kV k ∧ d = keyD k := by
  cases d with
  | int i => exact ⟨.inl i, h.intE, rfl⟩
  | str z => exact ⟨.inr z, h.strE, rfl⟩
  | _ => cases o
theorem dGet_of {F : Hp} : ∀ {kvs : List (Key × V)} {ds : List (D × D)} {k : Key}, DtAll K F (kvs.map (·.2)) (ds.map (·.2)) → ds.map (·.1) = kvs.map (fun p => keyD p.1) →
    (∀ d, dGet ds (keyD k) = some d → ∃ v, valV kvs k = some v ∧ Dt K F v d) ∧ (dGet ds (keyD k)).isSome = (valV kvs k).isSome
  | [], [], _, _, _ => ⟨(fun _ e => nomatch e), rfl⟩
  | [], _ :: _, _, _, e => by simp at e
  | _ :: _, [], _, _, e => by simp at e
  | p :: kvs, q :: ds, k, h, e => by
    simp only [List.map_cons] at h e
    cases h with
    | cons h1 h2 =>
      injection e with e1 e2
      obtain ⟨i1, i2⟩ := dGet_of (k := k) h2 e2
      by_cases c : p.1 = k
      · have c' : q.1 = keyD k := by rw [e1, c]
        rw [valV_pos c]
        have g : dGet (q :: ds) (keyD k) = some q.2 := by simp [dGet, List.find?_cons, c']
        rw [g]
        exact ⟨fun d e => by cases e; exact ⟨_, rfl, h1⟩, rfl⟩
      · have c' : ¬ q.1 = keyD k := fun z => c (keyD_inj (by rw [← e1, z]))
        rw [valV_neg c]
        have g : dGet (q :: ds) (keyD k) = dGet ds (keyD k) := by simp [dGet, List.find?_cons, c']
        rw [g]
        exact ⟨i1, i2⟩
/-! ### in, not in -/
def rInDk (neg : Bool) : R2 := fun y x H Q => ∃ a o, x = .ref a ∧ DGet H a y o ∧ Q (.bl (if neg then !o.isSome else o.isSome)) H
theorem op_inDk (hu : X.A.units + 1 < cLine) : OpR X (compareOp .In) (rInDk false) := by
  intro pins s σ H y x u v Q I ry rx h
  obtain ⟨a, o, rfl, g, q⟩ := h
  cases (show v = Value.ref a from rx)
  exact d_in hu I g ry fun s' I' => ⟨.bl o.isSome, H, I', rfl, q⟩
def rInA (K : PySem.W.Frag) : R2 := fun x y H Q => (((fun x y H Q => ∃ (c : Nat) (z : Str), x = .str ⟨#[c]⟩ ∧ y = .str z ∧ Q (.bl (decide (c ∈ z.cps.toList))) H) x y H Q ∨ rIn K false x y H Q) ∨ rInD K x y H Q) ∨ rInDk false x y H Q
def rNotInA (K : PySem.W.Frag) : R2 := fun x y H Q => (((fun x y H Q => ∃ (c : Nat) (z : Str), x = .str ⟨#[c]⟩ ∧ y = .str z ∧ Q (.bl (!decide (c ∈ z.cps.toList))) H) x y H Q ∨ rIn K true x y H Q) ∨ rNotInD K x y H Q) ∨ rInDk true x y H Q
theorem op_inA (hu : X.A.units + 64 + 1 < cLine) (h : X.K = K := by rfl) : OpR X (compareOp .In) (rInA K) := OpR.or (OpR.or (OpR.or op_in_sign (h ▸ op_in_seq)) (h ▸ op_inD hu)) (op_inDk (by omega))
def flatD : D → Bool
  | .non => true
  | .bl _ => true
  | .int _ => true
  | .str _ => true
  | _ => false
theorem flat_of {F : Hp} {v : V} {d : D} (h : Dt K F v d) (f : flatD d = true) : flatV v = true := by
  cases h <;> first | rfl | cases f
theorem flats_of {F : Hp} : ∀ {vs : List V} {ds : List D}, DtAll K F vs ds → ds.all flatD = true → vs.all flatV = true
  | _, _, .nil, _ => rfl
  | _, _, .cons a b, f => by
    rw [List.all_cons, Bool.and_eq_true] at f
    rw [List.all_cons, flat_of a f.1, flats_of b f.2]
    rfl
theorem eqV_of {F : Hp} {x y : V} {a b : D} (hx : Dt K F x a) (hy : Dt K F y b) (fa : flatD a = true) (fb : flatD b = true) : eqV x y = pyEq a b := by
  cases hx <;> cases hy <;> first
    | rfl
    | (cases fa; done)
    | (cases fb; done)
    | skip
/-- one of a list equals d -/
def inL (d : D) (ds : List D) : Bool := ds.any fun e => pyEq e d
theorem inV_of {F : Hp} {x : V} {d : D} (hx : Dt K F x d) (fx : flatD d = true) : ∀ {vs : List V} {ds : List D}, DtAll K F vs ds → ds.all flatD = true → inV x vs = inL d ds
  | _, _, .nil, _ => rfl
  | _, _, .cons a b, f => by
    rw [List.all_cons, Bool.and_eq_true] at f
    have ih := inV_of hx fx b f.2
    unfold inV inL at ih ⊢
    rw [List.any_cons, List.any_cons, eqV_of a hx f.1 fx, ih]
theorem inD_of {d : D} (o : okD d = true) : ∀ {ds : List D}, okAll ds = true → (pyAll ds).any (fun e => PyData.eqv e (py d)) = inL d ds
  | [], _ => rfl
  | e :: ds, h => by
    simp only [okAll, Bool.and_eq_true] at h
    have ih := inD_of o h.2
    unfold inL at ih ⊢
    show ((PyData.eqv (py e) (py d)) || (pyAll ds).any fun e => PyData.eqv e (py d)) = _
    rw [List.any_cons, eqv_py h.1 o, ih]
noncomputable def dIn (neg : Bool) : D → D → Res D
  | .str a, .str b => match a.cps.toList with
    | [c] => .ok (.bl (neg ^^ decide (c ∈ b.cps.toList)))
    | _ => .bad
  | d, .lst ds => if (flatD d && ds.all flatD) || (lay d && lay (.lst ds)) then .ok (.bl (neg ^^ inL d ds)) else .bad
  | d, .tup ds => if (flatD d && ds.all flatD) then .ok (.bl (neg ^^ inL d ds)) else .bad
  | d, .dct false kvs => if dKeyOk d then .ok (.bl (neg ^^ (dGet kvs d).isSome)) else .bad
  | _, _ => .bad
theorem one_sign {a : Str} {c : Nat} (h : a.cps.toList = [c]) : a = ⟨#[c]⟩ := by
  obtain ⟨⟨l⟩⟩ := a
  simp only at h
  subst h
  rfl
theorem opd_in (neg : Bool) : OpD K (if neg then rNotInA K else rInA K) (dIn neg) := by
  intro xm σ F H x y a b Q s hx hy k
  unfold dIn at k
  split at k
  · split at k
    · rename_i c e
      rw [hx.strE, hy.strE, one_sign e]
      have q := k.done s (.bl _)
      cases neg
      · exact .inl (.inl (.inl ⟨c, _, rfl, rfl, by simpa using q⟩))
      · exact .inl (.inl (.inl ⟨c, _, rfl, rfl, by simpa using q⟩))
    · exact k.elim
  · obtain ⟨f, k⟩ := Po.ite k
    obtain ⟨p, xs, rfl, h1, h2⟩ := hy.lstE
    have q := k.done s (.bl _)
    rcases Bool.or_eq_true_iff.mp f with f | f
    · rw [Bool.and_eq_true] at f
      rw [← inV_of hx f.1 h2 f.2] at q
      cases neg
      · exact .inl (.inl (.inr ⟨p, xs, rfl, .inl (SqL.of (s _ _ h1)), flat_of hx f.1, flats_of h2 f.2, by simpa using q⟩))
      · exact .inl (.inl (.inr ⟨p, xs, rfl, .inl (SqL.of (s _ _ h1)), flat_of hx f.1, flats_of h2 f.2, by simpa using q⟩))
    · rw [Bool.and_eq_true] at f
      have ok2 := lay_ok f.2
      rw [← inD_of (lay_ok f.1) (show okAll _ = true from ok2)] at q
      have d1 := Dp.mono s (Dt.dp (lay_ok f.1) hx)
      have d2 := Dp.mono s (Dt.dp ok2 hy)
      cases neg
      · exact .inl (.inr ⟨_, _, d1, d2, lay_shaped f.1, lay_shaped f.2, by simpa using q⟩)
      · exact .inl (.inr ⟨_, _, d1, d2, lay_shaped f.1, lay_shaped f.2, by simpa using q⟩)
  · obtain ⟨f, k⟩ := Po.ite k
    obtain ⟨p, xs, rfl, h1, h2⟩ := hy.tupE
    have q := k.done s (.bl _)
    rw [Bool.and_eq_true] at f
    rw [← inV_of hx f.1 h2 f.2] at q
    cases neg
    · exact .inl (.inl (.inr ⟨p, xs, rfl, .inr ((Below.of s).sqt h1), flat_of hx f.1, flats_of h2 f.2, by simpa using q⟩))
    · exact .inl (.inl (.inr ⟨p, xs, rfl, .inr ((Below.of s).sqt h1), flat_of hx f.1, flats_of h2 f.2, by simpa using q⟩))
  · obtain ⟨f, k⟩ := Po.ite k
    obtain ⟨key, rfl, rfl⟩ := keyE hx f
    have q := k.done s (.bl _)
    cases hy with
    | dk h1 h2 h3 =>
      rw [(dGet_of h2 h3).2] at q
      have g : DGet H _ (kV key) _ := .inl ⟨_, key, (Below.of s).rd h1, rfl, rfl⟩
      cases neg
      · exact .inr ⟨_, _, rfl, g, by simpa using q⟩
      · exact .inr ⟨_, _, rfl, g, by simpa using q⟩
  · exact k.elim
theorem opd_inF : OpD K (rInA K) (dIn false) := opd_in false
/-! ### subscripts -/
def rIxDk : R2 := fun x y H Q => ∃ a v, x = .ref a ∧ DGet H a y (some v) ∧ Q v H
theorem ix_dk (hu : X.A.units + 1 < cLine) : IxR X rIxDk := by
  intro value slice pins s σ H x y v u Q I rx ry h hs
  obtain ⟨a, w, rfl, g, q⟩ := h
  cases (show v = Value.ref a from rx)
  have hT := dict_typeIs I g
  unfold subscriptTail
  refine wpAny_bind ?_
  rw [getitemInPython_of_ne hT.not_modules]
  refine wpAny_bind (wpAny_specialOf hT PySem.F.slot_dict_getitem.lookup ?_)
  have fin : wpAny (model X.prog X.w) X.A (subscripted slice false (.ref a) u) (fun r s₃ => wpAny (model X.prog X.w) X.A (letTemporaryGo value (.ref a) r >>= fun _ => pure r) (EP X pins σ Q) X.xe s₃) X.xe s := by
    rw [hs]
    exact wpAny_operating (wpAny_mono (d_getItem hu I g ry fun w' s' I' r' => ⟨w, H, I', r', q⟩) (fun r s₃ h₃ => wpAny_bind (wpAny_letTemporaryGo (wpAny_pure h₃))) fun _ _ x => x)
  first
    | exact wpAny_pure (wpAny_bind fin)
    | exact wpAny_bind (wpAny_pure (wpAny_bind fin))
    | exact wpAny_bind fin
def rIxA (K : PySem.W.Frag) : R2 := fun x y H Q => ((rIxL K x y H Q ∨ rIxT K x y H Q) ∨ rIxS x y H Q) ∨ rIxDk x y H Q
theorem ix_A (hu : X.A.units + 1 < cLine) (h : X.K = K := by rfl) : IxR X (rIxA K) := IxR.or (IxR.or (IxR.or (h ▸ ix_list) (h ▸ ix_tup)) ix_str) (ix_dk hu)
noncomputable def dIx : D → D → Res D
  | .lst ds, .int i => match atI ds i with
    | some d => .ok d
    | none => .bad
  | .tup ds, .int i => match atI ds i with
    | some d => .ok d
    | none => .bad
  | .scr ns, .int i => match atI ns i with
    | some n => .ok (.int n)
    | none => .bad
  | .str z, .int i => if fit z.length = true then match atI z.cps.toList i with
    | some c => .ok (.str ⟨#[c]⟩)
    | none => .bad else .bad
  | .dct false kvs, k => if dKeyOk k = true then match dGet kvs k with
    | some d => .ok d
    | none => .bad else .bad
  | _, _ => .bad
theorem DtAll.atI {F : Hp} {vs : List V} {ds : List D} {i : Int} {d : D} (h : DtAll K F vs ds) (e : atI ds i = some d) : ∃ v, L2.atI vs i = some v ∧ Dt K F v d := by
  unfold L2.atI at e ⊢
  rw [h.length]
  obtain ⟨j, e1, e2⟩ := Option.bind_eq_some_iff.mp e
  obtain ⟨v, e3, e4⟩ := DtAll.at h e2
  exact ⟨v, by rw [e1]; exact e3, e4⟩
theorem atI_map {α β : Type} {f : α → β} {xs : List α} {i : Int} {a : α} (e : atI xs i = some a) : atI (xs.map f) i = some (f a) := by
  unfold L2.atI at e ⊢
  rw [List.length_map]
  obtain ⟨j, e1, e2⟩ := Option.bind_eq_some_iff.mp e
  rw [e1]
  show (xs.map f)[j]? = _
  rw [List.getElem?_map, e2]
  rfl
theorem opd_ix : OpD K (rIxA K) dIx := by
  intro xm σ F H x y a b Q s hx hy k
  unfold dIx at k
  split at k
  · split at k
    · rename_i d e
      obtain ⟨p, xs, rfl, h1, h2⟩ := hx.lstE
      obtain ⟨v, e1, e2⟩ := h2.atI e
      rw [hy.intE]
      exact .inl (.inl (.inl ⟨_, _, _, _, rfl, rfl, SqL.of (s _ _ h1), e1, k.done s e2⟩))
    · exact k.elim
  · split at k
    · rename_i d e
      obtain ⟨p, xs, rfl, h1, h2⟩ := hx.tupE
      obtain ⟨v, e1, e2⟩ := h2.atI e
      rw [hy.intE]
      exact .inl (.inl (.inr ⟨_, _, _, _, rfl, rfl, (Below.of s).sqt h1, e1, k.done s e2⟩))
    · exact k.elim
  · split at k
    · rename_i d e
      rw [hy.intE]
      cases hx with
      | scr h1 => exact .inl (.inl (.inl ⟨_, _, _, _, rfl, rfl, (Below.of s).sql h1, atI_map e, k.done s (.int _)⟩))
    · exact k.elim
  · obtain ⟨f, k⟩ := Po.ite k
    split at k
    · rename_i c e
      rw [hx.strE, hy.intE]
      exact .inl (.inr ⟨_, _, _, rfl, rfl, Nat.le_of_lt (fit_line f), e, k.done s (.str _)⟩)
    · exact k.elim
  · obtain ⟨f, k1⟩ := Po.ite k
    clear k
    split at k1
    · rename_i d e
      obtain ⟨key, rfl, rfl⟩ := keyE hy f
      cases hx with
      | dk h1 h2 h3 =>
        obtain ⟨v, e1, e2⟩ := (dGet_of h2 h3).1 _ e
        exact .inr ⟨_, v, rfl, .inl ⟨_, key, (Below.of s).rd h1, rfl, e1.symm⟩, k1.done s e2⟩
    · exact k1.elim
  · exact k.elim
theorem fe_ix {xm : XMo} {a b : Expr} {pos : Pos} {r : R2} {g : D → D → Res D} {fa fb : VEnv → Res D} (hr : IxR X r) (h : OpD K r g) (ha : FE K xm X a fa) (hb : FE K xm X b fb) (hs : PlainIx b := by intro _ _; rfl) : FE K xm X (.Subscript a b pos) (eOp g fa fb) :=
  PE.to (pe_ix hr ha hb hs) fun _ _ _ k => k.op h
/-! ### slices -/
def dPart : D → Res (Option Int)
  | .int i => .ok (some i)
  | _ => .bad
def pNo : VEnv → Res (Option Int) := fun _ => .ok none
def pYes (f : VEnv → Res D) : VEnv → Res (Option Int) := fun ρ => (f ρ).bind dPart
def cutD {α : Type} (xs : List α) (lo hi : Option Int) : List α := (xs.drop (HT.sIx xs.length 0 lo)).take (HT.sIx xs.length xs.length hi - HT.sIx xs.length 0 lo)
def dSl : D → Option Int → Option Int → Res D
  | .lst ds, lo, hi => .ok (.lst (cutD ds lo hi))
  | .tup ds, lo, hi => .ok (.tup (cutD ds lo hi))
  | .scr ns, lo, hi => .ok (.lst ((cutD ns lo hi).map D.int))
  | .str z, lo, hi => if fit z.length = true then .ok (.str (cutS z lo hi)) else .bad
  | _, _, _ => .bad
def eSl (fe : VEnv → Res D) (fl fh : VEnv → Res (Option Int)) : VEnv → Res D := fun ρ => (fe ρ).bind fun a => (fl ρ).bind fun l => (fh ρ).bind fun h => dSl a l h
abbrev RO : Hp → Option Int → Option Int → Prop := fun _ b c => b = c
def oF (K : PySem.W.Frag) (xm : XMo) (f : VEnv → Res (Option Int)) : TO := fun σ H Q => ∃ F ρ, Same F H ∧ Vw K F σ ρ ∧ Po RO K xm σ F H (f ρ) Q
abbrev FO (K : PySem.W.Frag) (xm : XMo) (X : Cx) (e : Option Expr) (f : VEnv → Res (Option Int)) : Prop := PO X e (oF K xm f)
theorem PO.to {e : Option Expr} {t t' : TO} (h : PO X e t) (m : ∀ σ H Q, t' σ H Q → t σ H Q) : PO X e t' := ⟨fun pins s σ H Q I q => h.run pins s σ H Q I (m _ _ _ q)⟩
theorem fo_no {xm : XMo} : FO K xm X none pNo := PO.to po_none fun σ H Q ⟨F, ρ, sF, vw, k⟩ => k.done sF rfl
theorem fo_yes {xm : XMo} {e : Expr} {f : VEnv → Res D} (h : FE K xm X e f) : FO K xm X (some e) (pYes f) := PO.to (po_some h) fun σ H Q ⟨F, ρ, sF, vw, k⟩ => ⟨F, ρ, sF, vw, Po.seq k fun a x F1 H1 g1 d1 k1 => by
  unfold dPart at k1
  split at k1
  · rw [d1.intE]
    exact ⟨_, rfl, k1.done g1.fh rfl⟩
  · exact k1.elim⟩
def rSlAll (K : PySem.W.Frag) : V → Option Int → Option Int → Hp → VK → Prop := fun x lo hi H Q => (rSlL K x lo hi H Q ∨ rSlA K x lo hi H Q) ∨ rSlS x lo hi H Q
theorem sl_all (h : X.K = K := by rfl) : SlR X (rSlAll K) := SlR.or (SlR.or (h ▸ sl_list) (h ▸ sl_tupA)) sl_str
theorem DtAll.cut {F : Hp} {vs : List V} {ds : List D} (h : DtAll K F vs ds) (lo hi : Option Int) : DtAll K F (cutV vs lo hi) (cutD ds lo hi) := by
  unfold cutV cutD
  rw [h.length]
  exact (h.drop _).take _
theorem cut_map {α β : Type} (f : α → β) (xs : List α) (lo hi : Option Int) : cutD (xs.map f) lo hi = (cutD xs lo hi).map f := by
  unfold cutD
  rw [List.length_map, List.map_take, List.map_drop]
theorem cutV_map {α : Type} (f : α → V) (xs : List α) (lo hi : Option Int) : cutV (xs.map f) lo hi = (cutD xs lo hi).map f := cut_map f xs lo hi
theorem cut_whole {α : Type} {xs : List α} {lo hi : Option Int} (h : HT.sIx xs.length 0 lo = 0 ∧ HT.sIx xs.length xs.length hi = xs.length) : cutD xs lo hi = xs := by
  unfold cutD
  rw [h.1, h.2]
  simp
theorem fe_sl {xm : XMo} {e : Expr} {lo hi : Option Expr} {p2 pos : Pos} {fe : VEnv → Res D} {fl fh : VEnv → Res (Option Int)} (he : FE K xm X e fe) (hl : FO K xm X lo fl) (hh : FO K xm X hi fh) (hk : X.K = K := by rfl) :
    FE K xm X (.Subscript e (.Slice lo hi none p2) pos) (eSl fe fl fh) := PE.to (pe_slice (sl_all hk) he hl hh) fun σ H Q ⟨F, ρ, sF, vw, k⟩ => ⟨F, ρ, sF, vw, Po.seq k fun a x F1 H1 g1 d1 k1 =>
  ⟨F1, ρ, g1.fh, vw.same g1.ff, Po.seq k1 fun l l' F2 H2 g2 d2 k2 => ⟨F2, ρ, g2.fh, vw.same (g1.ff.trans g2.ff), Po.seq k2 fun h h' F3 H3 g3 d3 k3 => by
    subst d2 d3
    have s := g3.fh
    have d := (d1.same g2.ff).same g3.ff
    unfold dSl at k3
    split at k3
    · obtain ⟨p, xs, rfl, h1, h2⟩ := d.lstE
      exact .inl (.inl ⟨p, xs, rfl, SqL.of (s _ _ h1), fun q hq => k3.new s hq (.lst upd_same ((h2.cut l' h').same (sm_upd (s.free hq))))⟩)
    · obtain ⟨p, xs, rfl, h1, h2⟩ := d.tupE
      refine .inl (.inr ⟨p, xs, rfl, (Below.of s).sqt h1, fun w => ?_, fun _ q hq => k3.new s hq (.tup upd_same ((h2.cut l' h').same (sm_upd (s.free hq))))⟩)
      rw [h2.length] at w
      rw [cut_whole w] at k3
      exact k3.done s d
    · cases d with
      | scr h1 => exact .inl (.inl ⟨_, _, rfl, (Below.of s).sql h1, fun q hq => k3.new s hq (.lst upd_same (by rw [cutV_map]; exact Dt.ints _))⟩)
    · obtain ⟨f, k3⟩ := Po.ite k3
      rw [d.strE]
      exact .inr ⟨_, rfl, Nat.le_of_lt (fit_line f), k3.done s (.str _)⟩
    · exact k3.elim⟩⟩⟩
end
end Du

namespace Du
open PySem PySem.Spec PyProof.Rows L2
section
variable {K : PySem.W.Frag} {xm : XMo} {X : Cx}
/-! ### arguments, displays -/
def aNil : VEnv → Res (List D) := fun _ => .ok []
def aCons (f : VEnv → Res D) (g : VEnv → Res (List D)) : VEnv → Res (List D) := fun ρ => (f ρ).bind fun a => (g ρ).bind fun as => .ok (a :: as)
theorem fa_nil : FA K xm X [] aNil := PA.to pa_nil fun σ H Q ⟨F, ρ, sF, vw, k⟩ => k.done sF .nil
theorem fa_cons {e : Expr} {es : List Expr} {f : VEnv → Res D} {g : VEnv → Res (List D)} (h : FE K xm X e f) (r : FA K xm X es g) (hs : starEach (e :: es) X.env = (false, eval e X.env) :: starEach es X.env := by rfl) : FA K xm X (e :: es) (aCons f g) :=
  PA.to (pa_cons h r hs) fun σ H Q ⟨F, ρ, sF, vw, k⟩ => ⟨F, ρ, sF, vw, Po.seq k fun a x F1 H1 g1 d1 k1 => ⟨F1, ρ, g1.fh, vw.same g1.ff, Po.seq k1 fun b y F2 H2 g2 d2 k2 =>
    k2.done g2.fh (.cons (d1.same g2.ff) d2)⟩⟩
def eTup (f : VEnv → Res (List D)) : VEnv → Res D := fun ρ => (f ρ).bind fun as => if fit as.length = true then .ok (.tup as) else .bad
def eLst (f : VEnv → Res (List D)) : VEnv → Res D := fun ρ => (f ρ).bind fun as => if fit as.length = true then .ok (.lst as) else .bad
theorem fe_tup {es : List Expr} {kk : Nat} {pos : Pos} {f : VEnv → Res (List D)} (h : FA K xm X es f) : FE K xm X (.Tuple es kk pos) (eTup f) :=
  PE.to (pe_tup h) fun σ H Q ⟨F, ρ, sF, vw, k⟩ => ⟨F, ρ, sF, vw, Po.seq k fun a xs F1 H1 g1 d1 k1 => by
    obtain ⟨f, k1⟩ := Po.ite k1
    exact ⟨by rw [d1.length]; exact Nat.le_of_lt (fit_line f), fun p hp => k1.new g1.fh hp (.tup upd_same (d1.same (sm_upd (g1.fh.free hp))))⟩⟩
theorem fe_lst {es : List Expr} {pos : Pos} {f : VEnv → Res (List D)} (h : FA K xm X es f) : FE K xm X (.List es pos) (eLst f) :=
  PE.to (pe_lst h) fun σ H Q ⟨F, ρ, sF, vw, k⟩ => ⟨F, ρ, sF, vw, Po.seq k fun a xs F1 H1 g1 d1 k1 => by
    obtain ⟨f, k1⟩ := Po.ite k1
    exact ⟨by rw [d1.length]; exact Nat.le_of_lt (fit_line f), fun p hp => k1.new g1.fh hp (.lst upd_same (d1.same (sm_upd (g1.fh.free hp))))⟩⟩
def eDct0 : VEnv → Res D := fun _ => .ok (.dct false [])
theorem fe_dct0 {pos : Pos} : FE K xm X (.Dict [] [] pos) eDct0 := PE.to pe_dnewK fun σ H Q ⟨F, ρ, sF, vw, k⟩ p hp => k.new sF hp (.dk (.inl upd_same) .nil rfl)
/-! ### truth, tests -/
def dTru : D → Res Bool
  | .non => .ok false
  | .bl b => .ok b
  | .int i => .ok (i != 0)
  | .str z => if fit z.length = true then .ok ((z.length : Int) != 0) else .bad
  | .lst ds => .ok (!ds.isEmpty)
  | .tup ds => .ok (!ds.isEmpty)
  | _ => .bad
theorem isEmpty_all {F : Hp} {vs : List V} {ds : List D} (h : DtAll K F vs ds) : vs.isEmpty = ds.isEmpty := by cases h <;> rfl
theorem tru_of {F H : Hp} {v : V} {d : D} {b : Bool} (s : Same F H) (h : Dt K F v d) (e : dTru d = .ok b) : TruV K v H b := by
  unfold dTru at e
  split at e
  · cases e; rw [h.nonE]; exact rfl
  · cases e; rw [h.blE]; exact rfl
  · cases e; rw [h.intE]; exact rfl
  · rename_i z
    by_cases f : fit z.length = true
    · rw [if_pos f] at e; cases e; rw [h.strE]; exact ⟨Nat.le_of_lt (fit_line f), rfl⟩
    · rw [if_neg f] at e; cases e
  · cases e
    obtain ⟨p, xs, rfl, h1, h2⟩ := h.lstE
    exact .inl ⟨xs, SqL.of (s _ _ h1), by rw [isEmpty_all h2]⟩
  · cases e
    obtain ⟨p, xs, rfl, h1, h2⟩ := h.tupE
    exact .inr (.inl ⟨xs, (Below.of s).sqt h1, by rw [isEmpty_all h2]⟩)
  · cases e
theorem tru_exc {d : D} {x : Ex} : dTru d ≠ .exc x := by
  unfold dTru
  split <;> first
    | (intro e; cases e; done)
    | (split <;> intro e <;> cases e)
theorem Po.tru {α ω : Type} {R : Hp → ω → α → Prop} {σ : St} {F H : Hp} {d : D} {g : Bool → Res α} {Q : ω → Hp → Prop} (k : Po R K xm σ F H ((dTru d).bind g) Q) : ∃ b, dTru d = .ok b ∧ Po R K xm σ F H (g b) Q := by
  cases e : dTru d with
  | ok b => exact ⟨b, rfl, by rw [e] at k; exact k⟩
  | exc x => exact absurd e tru_exc
  | bad => rw [e] at k; exact k.elim
def bT (f : VEnv → Res D) : VEnv → Res Bool := fun ρ => (f ρ).bind dTru
theorem ft_tru {e : Expr} {f : VEnv → Res D} (h : FE K xm X e f) (hk : X.K = K := by rfl) (he : ∀ whole, isTrue e X.env whole = (do let v ← whole; standAt e.pos; holding [v] (truthy v)) := by intro _; rfl) : FT K xm X e (bT f) := by
  subst hk
  exact PT.to (pt_truth h he) fun σ H Q ⟨F, ρ, sF, vw, k⟩ => ⟨F, ρ, sF, vw, Po.seq k fun a x F1 H1 g1 d1 k1 => by
    cases e : dTru a with
    | ok b =>
      rw [e] at k1
      exact ⟨b, tru_of g1.fh d1 e, k1.done g1.fh rfl⟩
    | exc x => exact absurd e tru_exc
    | bad => rw [e] at k1; exact k1.elim⟩
theorem po_bl {σ : St} {F H : Hp} {r : Res D} {Q : Bool → Hp → Prop} (nb : ∀ d, r = .ok d → ∃ b, d = .bl b) (k : Po RB K xm σ F H (r.bind dTru) Q) : Po (RD K) K xm σ F H r fun v H' => ∃ c, v = V.bl c ∧ Q c H' := by
  cases e : r with
  | ok d =>
    obtain ⟨c, rfl⟩ := nb _ e
    rw [e] at k
    intro w F3 H3 g3 d3
    exact ⟨c, d3.blE, k c F3 H3 g3 rfl⟩
  | exc x => rw [e] at k; exact k
  | bad => rw [e] at k; exact k
/-- the operator tells a truth -/
def Bls (K : PySem.W.Frag) (r : R2) : Prop := ∀ x y H Q, r x y H Q → r x y H fun v H' => (∃ b, v = .bl b) ∧ Q v H'
theorem ft_cmp {a b : Expr} {op : CmpOp} {pos : Pos} {r : R2} {g : D → D → Res D} {fa fb : VEnv → Res D} (ho : OpR X (compareOp op) r) (h : OpD K r g) (hg : ∀ x y d, g x y = .ok d → ∃ b, d = .bl b) (ha : FE K xm X a fa) (hb : FE K xm X b fb)
    (hm : behindInMarks op b = false := by first | exact nomark _ | rfl) : FT K xm X (.Compare a [op] [b] pos) (bT (eOp g fa fb)) := PT.to (pt_cmpR ho ha hb hm) fun σ H Q ⟨F, ρ, sF, vw, k⟩ => by
  unfold bT eOp at k
  rw [Res.bind_assoc] at k
  refine ⟨F, ρ, sF, vw, Po.seq k fun a x F1 H1 g1 d1 k1 => ⟨F1, ρ, g1.fh, vw.same g1.ff, ?_⟩⟩
  rw [Res.bind_assoc] at k1
  refine Po.seq k1 fun b y F2 H2 g2 d2 k2 => h xm σ F2 H2 x y a b _ g2.fh (d1.same g2.ff) d2 ?_
  exact po_bl (fun d e => hg _ _ _ e) k2
def bNot (f : VEnv → Res Bool) : VEnv → Res Bool := fun ρ => (f ρ).bind fun b => .ok (!b)
def bAnd (f g : VEnv → Res Bool) : VEnv → Res Bool := fun ρ => (f ρ).bind fun b => if b = true then g ρ else .ok false
def bOr (f g : VEnv → Res Bool) : VEnv → Res Bool := fun ρ => (f ρ).bind fun b => if b = true then .ok true else g ρ
theorem ft_not {a : Expr} {pos : Pos} {f : VEnv → Res Bool} (h : FT K xm X a f) : FT K xm X (.UnaryOp .Not a pos) (bNot f) := PT.to (pt_not h) fun σ H Q ⟨F, ρ, sF, vw, k⟩ => ⟨F, ρ, sF, vw, Po.seq k fun a x F1 H1 g1 d1 k1 => by
  subst d1
  exact k1.done g1.fh rfl⟩
theorem fw_and1 {a : Expr} {pos : Pos} {f : VEnv → Res Bool} (h : FT K xm X a f) : FW K xm X (.BoolOp .And [a] pos) f := pw_and1 h
theorem fw_or1 {a : Expr} {pos : Pos} {f : VEnv → Res Bool} (h : FT K xm X a f) : FW K xm X (.BoolOp .Or [a] pos) f := pw_or1 h
theorem fw_and {a b : Expr} {rest : List Expr} {pos : Pos} {f g : VEnv → Res Bool} (h : FT K xm X a f) (r : FW K xm X (.BoolOp .And (b :: rest) pos) g) : FW K xm X (.BoolOp .And (a :: b :: rest) pos) (bAnd f g) :=
  PW.to (pw_and h r) fun σ H Q ⟨F, ρ, sF, vw, k⟩ => ⟨F, ρ, sF, vw, Po.seq k fun a x F1 H1 g1 d1 k1 => by
    subst d1
    cases x with
    | true =>
      rw [if_pos rfl] at k1
      exact iteT ⟨F1, ρ, g1.fh, vw.same g1.ff, k1⟩
    | false =>
      rw [if_neg Bool.false_ne_true] at k1
      exact iteF (k1.done g1.fh rfl)⟩
theorem fw_or {a b : Expr} {rest : List Expr} {pos : Pos} {f g : VEnv → Res Bool} (h : FT K xm X a f) (r : FW K xm X (.BoolOp .Or (b :: rest) pos) g) : FW K xm X (.BoolOp .Or (a :: b :: rest) pos) (bOr f g) :=
  PW.to (pw_or h r) fun σ H Q ⟨F, ρ, sF, vw, k⟩ => ⟨F, ρ, sF, vw, Po.seq k fun a x F1 H1 g1 d1 k1 => by
    subst d1
    cases x with
    | true =>
      rw [if_pos rfl] at k1
      exact iteT (k1.done g1.fh rfl)
    | false =>
      rw [if_neg Bool.false_ne_true] at k1
      exact iteF ⟨F1, ρ, g1.fh, vw.same g1.ff, k1⟩⟩
theorem ft_w {a : Expr} {f : VEnv → Res Bool} (h : FW K xm X a f) : FT K xm X a f := PW.pt h
/-! ### and, or, not as values; a if t else b -/
def eAnd (f g : VEnv → Res D) : VEnv → Res D := fun ρ => (f ρ).bind fun a => (dTru a).bind fun b => if b = true then g ρ else .ok a
def eOr (f g : VEnv → Res D) : VEnv → Res D := fun ρ => (f ρ).bind fun a => (dTru a).bind fun b => if b = true then .ok a else g ρ
def eNot (f : VEnv → Res D) : VEnv → Res D := fun ρ => (f ρ).bind fun a => (dTru a).bind fun b => .ok (.bl (!b))
theorem fe_one {op : BoolOp} {a : Expr} {pos : Pos} {f : VEnv → Res D} (h : FE K xm X a f) : FE K xm X (.BoolOp op [a] pos) f := pe_one h
theorem fe_and {a b : Expr} {rest : List Expr} {pos : Pos} {f g : VEnv → Res D} (h : FE K xm X a f) (r : FE K xm X (.BoolOp .And (b :: rest) pos) g) (hk : X.K = K := by rfl) : FE K xm X (.BoolOp .And (a :: b :: rest) pos) (eAnd f g) := by
  subst hk
  exact PE.to (pe_andT h r) fun σ H Q ⟨F, ρ, sF, vw, k⟩ => ⟨F, ρ, sF, vw, Po.seq k fun a x F1 H1 g1 d1 k1 => by
    obtain ⟨b, e, k2⟩ := Po.tru k1
    refine ⟨b, tru_of g1.fh d1 e, ?_⟩
    cases b with
    | true => exact iteT ⟨F1, ρ, g1.fh, vw.same g1.ff, by rwa [if_pos rfl] at k2⟩
    | false =>
      rw [if_neg Bool.false_ne_true] at k2
      exact iteF (k2.done g1.fh d1)⟩
theorem fe_or {a b : Expr} {rest : List Expr} {pos : Pos} {f g : VEnv → Res D} (h : FE K xm X a f) (r : FE K xm X (.BoolOp .Or (b :: rest) pos) g) (hk : X.K = K := by rfl) : FE K xm X (.BoolOp .Or (a :: b :: rest) pos) (eOr f g) := by
  subst hk
  exact PE.to (pe_orT h r) fun σ H Q ⟨F, ρ, sF, vw, k⟩ => ⟨F, ρ, sF, vw, Po.seq k fun a x F1 H1 g1 d1 k1 => by
    obtain ⟨b, e, k2⟩ := Po.tru k1
    refine ⟨b, tru_of g1.fh d1 e, ?_⟩
    cases b with
    | true =>
      rw [if_pos rfl] at k2
      exact iteT (k2.done g1.fh d1)
    | false => exact iteF ⟨F1, ρ, g1.fh, vw.same g1.ff, by rwa [if_neg Bool.false_ne_true] at k2⟩⟩
theorem fe_not {a : Expr} {pos : Pos} {f : VEnv → Res D} (h : FE K xm X a f) (hk : X.K = K := by rfl) : FE K xm X (.UnaryOp .Not a pos) (eNot f) := by
  subst hk
  exact PE.to (pe_notT h) fun σ H Q ⟨F, ρ, sF, vw, k⟩ => ⟨F, ρ, sF, vw, Po.seq k fun a x F1 H1 g1 d1 k1 => by
    obtain ⟨b, e, k2⟩ := Po.tru k1
    exact ⟨b, tru_of g1.fh d1 e, k2.done g1.fh (.bl _)⟩⟩
def eIf (c : VEnv → Res Bool) (f g : VEnv → Res D) : VEnv → Res D := fun ρ => (c ρ).bind fun b => if b = true then f ρ else g ρ
/-! ### a < b < c -/
def dBl : D → Res Bool
  | .bl b => .ok b
  | _ => .bad
def eChain (g g' : D → D → Res D) (fa fb fc : VEnv → Res D) : VEnv → Res D := fun ρ => (fa ρ).bind fun a => (fb ρ).bind fun b => (g a b).bind fun z => (dBl z).bind fun k => if k = true then (fc ρ).bind fun c => g' b c else .ok (.bl false)
theorem tF.chain {r r' : R2} {g g' : D → D → Res D} {fa fb fc : VEnv → Res D} (h : OpD K r g) (h' : OpD K r' g') {σ : St} {H : Hp} {Q : VK} (k : tF K xm (eChain g g' fa fb fc) σ H Q) : tChain r r' (tF K xm fa) (tF K xm fb) (tF K xm fc) σ H Q := by
  obtain ⟨F, ρ, sF, vw, k⟩ := k
  refine ⟨F, ρ, sF, vw, Po.seq k fun a x F1 H1 g1 d1 k1 => ⟨F1, ρ, g1.fh, vw.same g1.ff, Po.seq k1 fun b y F2 H2 g2 d2 k2 => h xm σ F2 H2 x y a b _ g2.fh (d1.same g2.ff) d2 (Po.seq k2 fun z v F3 H3 g3 d3 k3 => ?_)⟩⟩
  unfold dBl at k3
  cases z with
  | bl c =>
    refine ⟨c, d3.blE, ?_⟩
    cases c with
    | true =>
      refine iteT ⟨F3, ρ, g3.fh, vw.same ((g1.ff.trans g2.ff).trans g3.ff), ?_⟩
      have k4 : Po (RD K) K xm σ F3 H3 ((fc ρ).bind fun c => g' b c) Q := k3
      exact Po.seq k4 fun c w F4 H4 g4 d4 k5 => h' xm σ F4 H4 y w b c Q g4.fh ((d2.same g3.ff).same g4.ff) d4 k5
    | false => exact iteF (Po.done (R := RD K) (a := D.bl false) k3 g3.fh (.bl _))
  | _ => exact k3.elim
theorem fe_chain {a b c : Expr} {op op' : CmpOp} {pos : Pos} {r r' : R2} {g g' : D → D → Res D} {fa fb fc : VEnv → Res D} (ho : OpR X (compareOp op) r) (h : OpD K r g) (ho' : OpR X (compareOp op') r') (h' : OpD K r' g') (ha : FE K xm X a fa) (hb : FE K xm X b fb) (hc : FE K xm X c fc)
    (hm : lastMarks [op, op'] [b, c] = false := by with_unfolding_all rfl) : FE K xm X (.Compare a [op, op'] [b, c] pos) (eChain g g' fa fb fc) := PE.to (pe_chain ho ho' ha hb hc hm) fun _ _ _ k => k.chain h h'
theorem ft_chain {a b c : Expr} {op op' : CmpOp} {pos : Pos} {r r' : R2} {g g' : D → D → Res D} {fa fb fc : VEnv → Res D} (ho : OpR X (compareOp op) r) (h : OpD K r g) (ho' : OpR X (compareOp op') r') (h' : OpD K r' g') (hg : ∀ x y d, g' x y = .ok d → ∃ b, d = .bl b)
    (ha : FE K xm X a fa) (hb : FE K xm X b fb) (hc : FE K xm X c fc) (hm : lastMarks [op, op'] [b, c] = false := by with_unfolding_all rfl) : FT K xm X (.Compare a [op, op'] [b, c] pos) (bT (eChain g g' fa fb fc)) :=
  PT.to (pt_chain ho ho' ha hb hc hm) fun σ H Q ⟨F, ρ, sF, vw, k⟩ => by
    refine tF.chain h h' ⟨F, ρ, sF, vw, ?_⟩
    unfold bT at k
    have nb : ∀ d, eChain g g' fa fb fc ρ = .ok d → ∃ b, d = .bl b := fun d e => by
      unfold eChain at e
      cases e1 : fa ρ with
      | ok a =>
        rw [e1, Res.bind_ok] at e
        cases e2 : fb ρ with
        | ok b =>
          rw [e2, Res.bind_ok] at e
          cases e3 : g a b with
          | ok z =>
            rw [e3, Res.bind_ok] at e
            cases e4 : dBl z with
            | ok k =>
              rw [e4, Res.bind_ok] at e
              cases k with
              | true =>
                rw [if_pos rfl] at e
                cases e5 : fc ρ with
                | ok c => rw [e5, Res.bind_ok] at e; exact hg _ _ _ e
                | exc x => rw [e5] at e; cases e
                | bad => rw [e5] at e; cases e
              | false =>
                rw [if_neg Bool.false_ne_true] at e
                cases e
                exact ⟨_, rfl⟩
            | exc x => rw [e4] at e; cases e
            | bad => rw [e4] at e; cases e
          | exc x => rw [e3] at e; cases e
          | bad => rw [e3] at e; cases e
        | exc x => rw [e2] at e; cases e
        | bad => rw [e2] at e; cases e
      | exc x => rw [e1] at e; cases e
      | bad => rw [e1] at e; cases e
    exact po_bl nb k
/-! ### calls of built-ins -/
def eCall (g : List D → Res D) (fa : VEnv → Res (List D)) : VEnv → Res D := fun ρ => (fa ρ).bind g
theorem fe_callB {x : Str} {id : String} {r : List V → Hp → VK → Prop} {g : List D → Res D} {e : Expr} {es : List Expr} {p pos : Pos} {fa : VEnv → Res (List D)} (hc : CallR X (.builtin id) r) (h : CallD K r g) (hm : X.mg x = none) (ha : FA K xm X (e :: es) fa) (hg : Gl X x := by rfl) (hv : bootBuiltins x = some (.builtin id) := by decide +kernel)
    (hn : x ≠ "__name__" := by decide) (hdb : (x == ("__debug__" : Str)) = false := by decide) (he : starEach (e :: es) X.env = (false, eval e X.env) :: starEach es X.env := by rfl) (hpl : (backTo pos (starEach es X.env)).any (·.1) = false := by rfl) :
    FE K xm X (.Call (.Name x p) (e :: es) [] pos) (eCall g fa) := PE.to (pe_callB hc hg hm hv ha hn hdb he hpl) fun σ H Q ⟨F, ρ, sF, vw, k⟩ => ⟨F, ρ, sF, vw, Po.seq k fun ds vs F1 H1 g1 d1 k1 => h xm σ F1 H1 vs ds Q g1.fh d1 k1⟩
theorem fe_callT {x : Str} {id : String} {r : List V → Hp → VK → Prop} {g : List D → Res D} {e : Expr} {es : List Expr} {p pos : Pos} {fa : VEnv → Res (List D)} (hc : CallR X (.type id) r) (h : CallD K r g) (hm : X.mg x = none) (ha : FA K xm X (e :: es) fa) (hg : Gl X x := by rfl) (hv : bootBuiltins x = some (.type id) := by decide +kernel)
    (hn : x ≠ "__name__" := by decide) (hdb : (x == ("__debug__" : Str)) = false := by decide) (he : starEach (e :: es) X.env = (false, eval e X.env) :: starEach es X.env := by rfl) (hpl : (backTo pos (starEach es X.env)).any (·.1) = false := by rfl) :
    FE K xm X (.Call (.Name x p) (e :: es) [] pos) (eCall g fa) := PE.to (pe_callTy hc hg hm hv ha hn hdb he hpl) fun σ H Q ⟨F, ρ, sF, vw, k⟩ => ⟨F, ρ, sF, vw, Po.seq k fun ds vs F1 H1 g1 d1 k1 => h xm σ F1 H1 vs ds Q g1.fh d1 k1⟩
/-! ### promises of defs that compute a function -/
/-- no exception leaves -/
def sp0 (K : PySem.W.Frag) (f : List D → Res D) : Sp := fun vs H Q _ => ∃ ds G, Same G H ∧ DtAll K G vs ds ∧ ∃ d, f ds = .ok d ∧ ∀ v G' H', Gr G H G' H' → Dt K G' v d → Q v H'
/-- an exception may leave -/
def spX (K : PySem.W.Frag) (mg : Str → Option Value) (f : List D → Res D) : Sp := fun vs H Q E => ∃ ds G, Same G H ∧ DtAll K G vs ds ∧ match f ds with
  | .ok d => ∀ v G' H', Gr G H G' H' → Dt K G' v d → Q v H'
  | .exc x => ∀ C dd G' H', Gr G H G' H' → ExIs K mg x G' C dd → E C dd H'
  | .bad => False
theorem fe_call {x : Str} {k k' : Nat} {ps : List Str} {f : List D → Res D} {e : Expr} {es : List Expr} {p pos : Pos} {fa : VEnv → Res (List D)} (O : Dear.OkF X.prog X.w X.K X.mg X.base CX0 k x ps (sp0 K f)) (hr : Room k' X.A) (ha : FA K none X (e :: es) fa) (hk : k ≤ k' := by decide) (hg : Gl X x := by rfl)
    (hdb : (x == ("__debug__" : Str)) = false := by decide) (he : starEach (e :: es) X.env = (false, eval e X.env) :: starEach es X.env := by rfl) (hpl : (backTo pos (starEach es X.env)).any (·.1) = false := by rfl) : FE K none X (.Call (.Name x p) (e :: es) [] pos) (eCall f fa) :=
  PE.to (Dear.pe_c O hr ha hk hg hdb he hpl) fun σ H Q ⟨F, ρ, sF, vw, k⟩ => ⟨F, ρ, sF, vw, Po.seq k fun ds vs F1 H1 g1 d1 k1 => by
    refine ⟨ds, F1, g1.fh, by rw [List.append_nil]; exact d1, ?_⟩
    cases e : f ds with
    | ok d => rw [e] at k1; exact ⟨d, rfl, k1⟩
    | exc x => rw [e] at k1; exact k1.elim
    | bad => rw [e] at k1; exact k1.elim⟩
/-- f's exceptions are none that the caller waits for: they are as no answer -/
def nx (f : List D → Res D) : List D → Res D := fun ds => match f ds with
  | .ok d => .ok d
  | _ => .bad
theorem fe_call1 {x : Str} {k k' : Nat} {ps : List Str} {f : List D → Res D} {e : Expr} {es : List Expr} {p pos : Pos} {fa : VEnv → Res (List D)} (O : Dear.OkF X.prog X.w X.K X.mg X.base CX0 k x ps (sp0 K f)) (hr : Room k' X.A) (ha : FA K xm X (e :: es) fa) (hk : k ≤ k' := by decide) (hg : Gl X x := by rfl)
    (hdb : (x == ("__debug__" : Str)) = false := by decide) (he : starEach (e :: es) X.env = (false, eval e X.env) :: starEach es X.env := by rfl) (hpl : (backTo pos (starEach es X.env)).any (·.1) = false := by rfl) : FE K xm X (.Call (.Name x p) (e :: es) [] pos) (eCall (nx f) fa) :=
  PE.to (Dear.pe_c O hr ha hk hg hdb he hpl) fun σ H Q ⟨F, ρ, sF, vw, k⟩ => ⟨F, ρ, sF, vw, Po.seq k fun ds vs F1 H1 g1 d1 k1 => by
    refine ⟨ds, F1, g1.fh, by rw [List.append_nil]; exact d1, ?_⟩
    unfold nx at k1
    cases e : f ds with
    | ok d => rw [e] at k1; exact ⟨d, rfl, k1⟩
    | exc x => rw [e] at k1; exact k1.elim
    | bad => rw [e] at k1; exact k1.elim⟩
theorem fe_callX {mg : Str → Option Value} {W : WX} {x : Str} {k k' : Nat} {ps : List Str} {f : List D → Res D} {e : Expr} {es : List Expr} {p pos : Pos} {fa : VEnv → Res (List D)} (O : Dear.OkF X.prog X.w X.K X.mg X.base (L2.CX X.prog X.w) k x ps (spX K mg f)) (hr : Room k' X.A) (tk : Takes X W) (ha : FA K (some ⟨mg, W⟩) X (e :: es) fa)
    (hk : k ≤ k' := by decide) (hg : Gl X x := by rfl) (hdb : (x == ("__debug__" : Str)) = false := by decide) (he : starEach (e :: es) X.env = (false, eval e X.env) :: starEach es X.env := by rfl) (hpl : (backTo pos (starEach es X.env)).any (·.1) = false := by rfl) : FE K (some ⟨mg, W⟩) X (.Call (.Name x p) (e :: es) [] pos) (eCall f fa) :=
  PE.to (Dear.pe_cx O hr tk ha hk hg hdb he hpl) fun σ H Q ⟨F, ρ, sF, vw, k⟩ => ⟨F, ρ, sF, vw, Po.seq k fun ds vs F1 H1 g1 d1 k1 => by
    refine ⟨ds, F1, g1.fh, d1, ?_⟩
    cases e : f ds with
    | ok d => rw [e] at k1; exact k1
    | exc x => rw [e] at k1; exact k1
    | bad => rw [e] at k1; exact k1.elim⟩
end
end Du

namespace Du
open PySem PySem.Spec PyProof.Rows L2
section
variable {K : PySem.W.Frag} {xm : XMo} {X : Cx}
/-! ### what is walked, as data -/
structure Yl (K : PySem.W.Frag) (F : Hp) (J : It) (ds : List D) : Prop where
  go : ∀ i H, i < ds.length → Same F H → J.go i H
  yld : ∀ i d F1 H x H', ds[i]? = some d → Same F F1 → Same F1 H → J.yld i H x H' → ∃ F2, Gr F1 H F2 H' ∧ Dt K F2 x d
  stop : ∀ H, Same F H → J.stop ds.length H
theorem Yl.same {F G : Hp} {J : It} {ds : List D} (y : Yl K F J ds) (s : Same F G) : Yl K G J ds :=
  ⟨fun i H h q => y.go i H h (s.trans q), fun i d F1 H x H' e q => y.yld i d F1 H x H' e (s.trans q), fun H q => y.stop H (s.trans q)⟩
def iF (K : PySem.W.Frag) (xm : XMo) (f : VEnv → Res (List D)) : TI := fun σ H R => ∃ F ρ, Same F H ∧ Vw K F σ ρ ∧ Po (fun F' J ds => Yl K F' J ds) K xm σ F H (f ρ) R
abbrev FI (K : PySem.W.Frag) (xm : XMo) (X : Cx) (tg e : Expr) (f : VEnv → Res (List D)) : Prop := PI X tg e (iF K xm f)
theorem PI.to {tg e : Expr} {t t' : TI} (h : PI X tg e t) (m : ∀ σ H R, t' σ H R → t σ H R) : PI X tg e t' := ⟨fun pins s σ H R I q => h.run pins s σ H R I (m _ _ _ q)⟩
theorem PI.or {tg e : Expr} {t t' : TI} (h : PI X tg e t) (h' : PI X tg e t') : PI X tg e fun σ H R => t σ H R ∨ t' σ H R := ⟨fun pins s σ H R I q => q.elim (h.run pins s σ H R I) (h'.run pins s σ H R I)⟩
theorem yl_list {F : Hp} {a : Addr} {xs : List V} {ds : List D} (h : ∀ H, Same F H → SqL K H a xs) (d : DtAll K F xs ds) : Yl K F (Itl K a) ds := by
  have l := d.length
  refine ⟨fun i H hi s => ⟨xs, xs[i], h H s, by rw [List.getElem?_eq_getElem (by omega)]⟩, fun i e F1 H x H' he s s1 y => ?_, fun H s => ⟨xs, h H s, by omega⟩⟩
  obtain ⟨rfl, y⟩ := y
  obtain ⟨v, e1, e2⟩ := d.at he
  have := y xs (h H' (s.trans s1))
  rw [e1] at this
  cases this
  exact ⟨F1, .refl s1, e2.same s⟩
theorem yl_tup {F : Hp} {a : Addr} {xs : List V} {ds : List D} (h : ∀ H, Same F H → SqT K H a xs) (d : DtAll K F xs ds) : Yl K F (Itt K a) ds := by
  have l := d.length
  refine ⟨fun i H hi s => ⟨xs, xs[i], h H s, by rw [List.getElem?_eq_getElem (by omega)]⟩, fun i e F1 H x H' he s s1 y => ?_, fun H s => ⟨xs, h H s, by omega⟩⟩
  obtain ⟨rfl, y⟩ := y
  obtain ⟨v, e1, e2⟩ := d.at he
  have := y xs (h H' (s.trans s1))
  rw [e1] at this
  cases this
  exact ⟨F1, .refl s1, e2.same s⟩
/-- the signs of a text -/
def signs (z : Str) : List D := z.cps.toList.map fun c => .str ⟨#[c]⟩
theorem yl_str {F : Hp} (z : Str) : Yl K F (Its z) (signs z) := by
  have l : (signs z).length = z.cps.size := by unfold signs; rw [List.length_map, Array.length_toList]
  refine ⟨fun i H hi s => (by rw [l] at hi; exact hi), fun i e F1 H x H' he s s1 y => ?_, fun H s => (by rw [l]; exact Nat.le_refl _)⟩
  obtain ⟨rfl, c, hc, rfl⟩ := y
  unfold signs at he
  rw [List.getElem?_map, Array.getElem?_toList, hc] at he
  cases he
  exact ⟨F1, .refl s1, .str _⟩
/-- for x in e: a list, a tuple, the script, a text -/
def dItems : D → Res (List D)
  | .lst ds => .ok ds
  | .tup ds => .ok ds
  | .scr ns => .ok (ns.map D.int)
  | .str z => .ok (signs z)
  | _ => .bad
def iAny (f : VEnv → Res D) : VEnv → Res (List D) := fun ρ => (f ρ).bind dItems
theorem fi_any {tg e : Expr} {f : VEnv → Res D} (h : FE K xm X e f) (hk : X.K = K := by rfl) : FI K xm X tg e (iAny f) := by
  subst hk
  refine PI.to (PI.or (PI.or (pi_list h) (pi_tup h)) (pi_str h)) fun σ H R ⟨F, ρ, sF, vw, k⟩ => ?_
  unfold iAny at k
  cases e : f ρ with
  | exc x =>
    rw [e] at k
    exact .inl (.inl ⟨F, ρ, sF, vw, by rw [e]; exact k⟩)
  | bad => rw [e] at k; exact k.elim
  | ok d =>
    rw [e] at k
    cases d with
    | lst ds =>
      refine .inl (.inl ⟨F, ρ, sF, vw, ?_⟩)
      rw [e]
      intro x F1 H1 g1 d1
      obtain ⟨p, xs, rfl, h1, h2⟩ := d1.lstE
      exact ⟨p, rfl, ⟨xs, SqL.of (g1.fh _ _ h1)⟩, k _ F1 H1 g1 (yl_list (fun H s => SqL.of (s _ _ h1)) h2)⟩
    | scr ns =>
      refine .inl (.inl ⟨F, ρ, sF, vw, ?_⟩)
      rw [e]
      intro x F1 H1 g1 d1
      cases d1 with
      | scr h1 => exact ⟨_, rfl, ⟨_, (Below.of g1.fh).sql h1⟩, k _ F1 H1 g1 (yl_list (fun H s => (Below.of s).sql h1) (Dt.ints ns))⟩
    | tup ds =>
      refine .inl (.inr ⟨F, ρ, sF, vw, ?_⟩)
      rw [e]
      intro x F1 H1 g1 d1
      obtain ⟨p, xs, rfl, h1, h2⟩ := d1.tupE
      exact ⟨p, rfl, ⟨xs, (Below.of g1.fh).sqt h1⟩, k _ F1 H1 g1 (yl_tup (fun H s => (Below.of s).sqt h1) h2)⟩
    | str z =>
      refine .inr ⟨F, ρ, sF, vw, ?_⟩
      rw [e]
      intro x F1 H1 g1 d1
      exact ⟨z, d1.strE, k _ F1 H1 g1 (yl_str z)⟩
    | _ => exact k.elim
/-! ### range -/
def rangeD (lo : Int) (n : Nat) : List D := (List.range n).map fun i => .int (lo + (i : Nat))
def inR (i : Int) : Bool := decide (-(2 ^ 62) ≤ i ∧ i < 2 ^ 62)
def dRange : List D → Res (List D)
  | [.int j] => if inR j = true then .ok (rangeD 0 j.toNat) else .bad
  | [.int i, .int j] => if (inR i && inR j) = true then .ok (rangeD i (j - i).toNat) else .bad
  | [.int i, .int j, .int (-1)] => if (inR i && inR j) = true then .ok ((List.range (i - j).toNat).map fun k => .int (i - (k : Nat))) else .bad
  | [.int i, .int j, .int 2] => if (inR i && inR j) = true then .ok ((List.range ((j - i + 1) / 2).toNat).map fun k => .int (i + 2 * (k : Nat))) else .bad
  | _ => .bad
def iRange (f : VEnv → Res (List D)) : VEnv → Res (List D) := fun ρ => (f ρ).bind dRange
theorem DtAll.one {F : Hp} {vs : List V} {d : D} (h : DtAll K F vs [d]) : ∃ v, vs = [v] ∧ Dt K F v d := by
  cases h with
  | cons a b => cases b; exact ⟨_, rfl, a⟩
theorem DtAll.two {F : Hp} {vs : List V} {d e : D} (h : DtAll K F vs [d, e]) : ∃ v w, vs = [v, w] ∧ Dt K F v d ∧ Dt K F w e := by
  cases h with
  | cons a b =>
    obtain ⟨w, rfl, c⟩ := b.one
    exact ⟨_, w, rfl, a, c⟩
theorem len1 {f : VEnv → Res D} : ∀ ρ ds, aCons f aNil ρ = .ok ds → ds.length = 1 := fun ρ ds e => by
  unfold aCons aNil at e
  cases h : f ρ with
  | ok a => rw [h] at e; cases e; rfl
  | exc x => rw [h] at e; cases e
  | bad => rw [h] at e; cases e
/-! ### enumerate, zip: pairs in new tuples -/
def numbered : Nat → List D → List D
  | _, [] => []
  | n, d :: ds => .tup [.int n, d] :: numbered (n + 1) ds
theorem numbered_len : ∀ (n : Nat) (ds : List D), (numbered n ds).length = ds.length
  | _, [] => rfl
  | n, _ :: ds => by rw [numbered, List.length_cons, numbered_len (n + 1) ds, List.length_cons]
theorem numbered_get : ∀ {n i : Nat} {ds : List D} {d : D}, (numbered n ds)[i]? = some d → ∃ e, ds[i]? = some e ∧ d = .tup [.int ((n + i : Nat) : Int), e]
  | n, i, [], d, h => by simp [numbered] at h
  | n, 0, x :: ds, d, h => by
    rw [numbered] at h
    simp at h
    exact ⟨x, rfl, h.symm⟩
  | n, i + 1, x :: ds, d, h => by
    rw [numbered] at h
    obtain ⟨e, h1, h2⟩ := numbered_get (n := n + 1) (i := i) (ds := ds) (by simpa using h)
    exact ⟨e, by simpa using h1, by rw [h2]; congr 4; omega⟩
def dEnum : List D → Res (List D)
  | [.lst ds] => .ok (numbered 0 ds)
  | [.scr ns] => .ok (numbered 0 (ns.map D.int))
  | _ => .bad
def iEnumD (f : VEnv → Res (List D)) : VEnv → Res (List D) := fun ρ => (f ρ).bind dEnum
theorem yl_enum {F : Hp} {a : Addr} {xs : List V} {ds : List D} (h : ∀ H, Same F H → SqL K H a xs) (d : DtAll K F xs ds) : Yl K F (Ite K a) (numbered 0 ds) := by
  have l := d.length
  refine ⟨fun i H hi s => ⟨xs, xs[i]'(by rw [numbered_len] at hi; omega), h H s, by rw [List.getElem?_eq_getElem]⟩, fun i e F1 H x H' he s s1 y => ?_, fun H s => ⟨xs, h H s, by rw [numbered_len]; omega⟩⟩
  obtain ⟨T, x, rfl, hT, rfl, y⟩ := y
  obtain ⟨e, hb, rfl⟩ := numbered_get he
  obtain ⟨v, e1, e2⟩ := d.at hb
  have := y xs (h H (s.trans s1))
  rw [e1] at this
  cases this
  have w := sm_upd (o := .tup [.int (i : Nat), x]) (s1.free hT)
  refine ⟨_, .new s1 hT, .tup upd_same (.cons ?_ (.cons ((e2.same s).same w) .nil))⟩
  rw [Nat.zero_add]
  exact .int _
theorem fi_enum {e : Expr} {p pos tpos : Pos} {elts : List Expr} {kk : Nat} {f : VEnv → Res (List D)} (hm : X.mg "enumerate" = none) (h : FA K xm X [e] f) (h1 : ∀ ρ ds, f ρ = .ok ds → ds.length = 1) (hk : X.K = K := by rfl) (hg : Gl X "enumerate" := by rfl) (hs : starEach [e] X.env = [(false, eval e X.env)] := by rfl) :
    FI K xm X (.Tuple elts kk tpos) (.Call (.Name "enumerate" p) [e] [] pos) (iEnumD f) := by
  subst hk
  refine PI.to (pi_enum hg hm h hs) fun σ H R ⟨F, ρ, sF, vw, k⟩ => ?_
  unfold iEnumD at k
  cases e : f ρ with
  | exc x => rw [e] at k; exact ⟨F, ρ, sF, vw, by rw [e]; exact k⟩
  | bad => rw [e] at k; exact k.elim
  | ok ds =>
    rw [e] at k
    refine ⟨F, ρ, sF, vw, ?_⟩
    rw [e]
    intro vs F1 H1 g1 d1
    match ds, h1 ρ ds e with
    | [d], _ =>
      obtain ⟨v, rfl, q⟩ := d1.one
      cases d with
      | lst ds =>
        obtain ⟨p, xs, rfl, h1, h2⟩ := q.lstE
        exact ⟨p, xs, rfl, SqL.of (g1.fh _ _ h1), k _ F1 H1 g1 (yl_enum (fun H s => SqL.of (s _ _ h1)) h2)⟩
      | scr ns =>
        cases q with
        | scr h1 => exact ⟨_, _, rfl, (Below.of g1.fh).sql h1, k _ F1 H1 g1 (yl_enum (fun H s => (Below.of s).sql h1) (Dt.ints ns))⟩
      | _ => exact k.elim
def pairs : List D → List D → List D
  | a :: as, b :: bs => .tup [a, b] :: pairs as bs
  | _, _ => []
def dZip : List D → Res (List D)
  | [.lst as, .lst bs] => .ok (pairs as bs)
  | [.tup as, .tup bs] => .ok (pairs as bs)
  | _ => .bad
def iZipD (f : VEnv → Res (List D)) : VEnv → Res (List D) := fun ρ => (f ρ).bind dZip
end
end Du

namespace Du
open PySem PySem.Spec PyProof.Rows L2
/-! ### targets: which slots get what -/
def setAll (σ : St) : List (Nat × V) → St
  | [] => σ
  | p :: ps => setAll (σ.set p.1 (some p.2)) ps
def setAllD (ρ : VEnv) : List (Nat × D) → VEnv
  | [] => ρ
  | p :: ps => setAllD (ρ.set p.1 (some p.2)) ps
theorem setAll_app (σ : St) : ∀ a b : List (Nat × V), setAll σ (a ++ b) = setAll (setAll σ a) b
  | [], _ => rfl
  | p :: a, b => setAll_app (σ.set p.1 (some p.2)) a b
abbrev As (K : PySem.W.Frag) (F : Hp) : List (Nat × V) → List (Nat × D) → Prop := Paired fun p q => p.1 = q.1 ∧ Dt K F p.2 q.2
abbrev Tgt := D → Res (List (Nat × D))
def tgN (i : Nat) : Tgt := fun d => .ok [(i, d)]
def tgL : List Tgt → List D → Res (List (Nat × D))
  | [], [] => .ok []
  | t :: ts, d :: ds => (t d).bind fun a => (tgL ts ds).bind fun b => .ok (a ++ b)
  | _, _ => .bad
def tgT (ts : List Tgt) : Tgt := fun d => match d with
  | .tup ds => tgL ts ds
  | _ => .bad
def gF (K : PySem.W.Frag) (g : Tgt) : TG := fun v σ H Q => ∃ F d as, Same F H ∧ Dt K F v d ∧ g d = .ok as ∧ ∀ bs, As K F bs as → Q (setAll σ bs) H
def gsF (K : PySem.W.Frag) (g : List Tgt) : TGs := fun vs σ H Q => ∃ F ds as, Same F H ∧ DtAll K F vs ds ∧ tgL g ds = .ok as ∧ ∀ bs, As K F bs as → Q (setAll σ bs) H
abbrev FG (K : PySem.W.Frag) (X : Cx) (tg : Expr) (g : Tgt) : Prop := PG X tg (gF K g)
abbrev FGs (K : PySem.W.Frag) (X : Cx) (tg : List Expr) (g : List Tgt) : Prop := PGs X tg (gsF K g)
theorem tgL_len : ∀ {ts : List Tgt} {ds : List D} {as : List (Nat × D)}, tgL ts ds = .ok as → ds.length = ts.length
  | [], [], _, _ => rfl
  | [], _ :: _, _, h => by cases h
  | _ :: _, [], _, h => by cases h
  | t :: ts, d :: ds, as, h => by
    unfold tgL at h
    cases e : t d with
    | ok a =>
      rw [e, Res.bind_ok] at h
      cases e2 : tgL ts ds with
      | ok b => rw [List.length_cons, List.length_cons, tgL_len e2]
      | exc x => rw [e2] at h; cases h
      | bad => rw [e2] at h; cases h
    | exc x => rw [e] at h; cases h
    | bad => rw [e] at h; cases h
section
variable {K : PySem.W.Frag} {xm : XMo} {X : Cx}
theorem PG.to {e : Expr} {t t' : TG} (h : PG X e t) (m : ∀ v σ H Q, t' v σ H Q → t v σ H Q) : PG X e t' := ⟨fun pins s σ H v u Q I r q => h.run pins s σ H v u Q I r (m _ _ _ _ q)⟩
theorem PGs.to {e : List Expr} {t t' : TGs} (h : PGs X e t) (m : ∀ v σ H Q, t' v σ H Q → t v σ H Q) : PGs X e t' := ⟨fun pins s σ H v u Q I r q => h.run pins s σ H v u Q I r (m _ _ _ _ q)⟩
theorem fg_name (i : Nat) {x : Str} {pos : Pos} (hN : X.N.Nodup) (hi : X.N[i]? = some x := by rfl) (hx : Loc X.env.scope x := by first | exact Or.inl rfl | exact Or.inr rfl) (hf : X.fn x = true ∨ X.env.scope.names.lookup x = some .local := by first | exact .inl rfl | exact .inr rfl | assumption) : FG K X (.Name x pos) (tgN i) :=
  PG.to (pg_name hN hi hx hf) fun v σ H Q ⟨F, d, as, s, h, e, q⟩ => by
    cases e
    exact q [(i, v)] (.cons ⟨rfl, h⟩ .nil)
theorem fgs_nil : FGs K X [] [] := PGs.to pgs_nil fun v σ H Q ⟨F, d, as, s, h, e, q⟩ => by
  cases h with
  | nil => cases e; exact ⟨rfl, q [] .nil⟩
  | cons a b => cases e
theorem As.app {F : Hp} : ∀ {a b : List (Nat × V)} {c d : List (Nat × D)}, As K F a c → As K F b d → As K F (a ++ b) (c ++ d)
  | _, _, _, _, .nil, h => h
  | _, _, _, _, .cons x y, h => .cons x (As.app y h)
theorem fgs_cons {e : Expr} {es : List Expr} {g : Tgt} {gs : List Tgt} (h : FG K X e g) (r : FGs K X es gs) (hs : (assignEach (e :: es) X.env).map (·.2) = assign e X.env :: (assignEach es X.env).map (·.2) := by rfl) : FGs K X (e :: es) (g :: gs) :=
  PGs.to (pgs_cons h r hs) fun v σ H Q ⟨F, ds, as, s, hd, e, q⟩ => by
    cases hd with
    | nil => cases e
    | @cons v vs d ds a b =>
      unfold tgL at e
      cases e1 : g d with
      | exc x => rw [e1] at e; cases e
      | bad => rw [e1] at e; cases e
      | ok c =>
        rw [e1, Res.bind_ok] at e
        cases e2 : tgL gs ds with
        | exc x => rw [e2] at e; cases e
        | bad => rw [e2] at e; cases e
        | ok c' =>
          rw [e2] at e
          cases e
          exact ⟨v, vs, rfl, F, d, c, s, a, e1, fun bs hb => ⟨F, ds, c', s, b, e2, fun bs' hb' => by
            rw [← setAll_app]
            exact q _ (hb.app hb')⟩⟩
theorem fg_tup {es : List Expr} {kk : Nat} {pos : Pos} {gs : List Tgt} (h : FGs K X es gs) (hc : X.calm = true := by rfl) (hk : X.K = K := by rfl) (hn : (assignEach es X.env).length = gs.length := by rfl) (hst : (assignEach es X.env).findIdx? (·.1) = none := by rfl) : FG K X (.Tuple es kk pos) (tgT gs) := by
  subst hk
  refine PG.to (pg_tup hc h hn hst) fun v σ H Q ⟨F, d, as, s, hd, e, q⟩ => ?_
  unfold tgT at e
  split at e
  · obtain ⟨p, xs, rfl, h1, h2⟩ := hd.tupE
    exact ⟨p, xs, rfl, (Below.of s).sqt h1, by rw [h2.length, tgL_len e], F, _, as, s, h2, e, q⟩
  · cases e
end
/-! ### slots forgotten -/
def wipeD (ρ : VEnv) : List Nat → VEnv
  | [] => ρ
  | v :: vs => (wipeD ρ vs).set v none
theorem wipe_get (σ : St) (j : Nat) : ∀ vs : List Nat, (wipe σ vs)[j]? = if j ∈ vs then σ[j]?.map (fun _ => none) else σ[j]?
  | [] => by simp [wipe]
  | v :: vs => by
    unfold wipe
    rw [List.getElem?_set]
    by_cases h : v = j
    · subst h
      rw [if_pos rfl, if_pos List.mem_cons_self, wipe_length]
      by_cases hl : v < σ.length
      · rw [if_pos hl, List.getElem?_eq_getElem hl]; rfl
      · rw [if_neg hl, List.getElem?_eq_none (by omega)]; rfl
    · rw [if_neg h, wipe_get σ j vs]
      have : (j ∈ v :: vs) ↔ j ∈ vs := ⟨fun q => (List.mem_cons.mp q).elim (fun e => absurd e.symm h) id, List.mem_cons_of_mem _⟩
      by_cases hj : j ∈ vs
      · rw [if_pos hj, if_pos (this.mpr hj)]
      · rw [if_neg hj, if_neg fun q => hj (this.mp q)]
theorem wipeD_get (σ : VEnv) (j : Nat) : ∀ vs : List Nat, (wipeD σ vs)[j]? = if j ∈ vs then σ[j]?.map (fun _ => none) else σ[j]?
  | [] => by simp [wipeD]
  | v :: vs => by
    unfold wipeD
    have wl : ∀ vs : List Nat, (wipeD σ vs).length = σ.length := by
      intro vs
      induction vs with
      | nil => rfl
      | cons a r ih => unfold wipeD; rw [List.length_set, ih]
    rw [List.getElem?_set]
    by_cases h : v = j
    · subst h
      rw [if_pos rfl, if_pos List.mem_cons_self, wl]
      by_cases hl : v < σ.length
      · rw [if_pos hl, List.getElem?_eq_getElem hl]; rfl
      · rw [if_neg hl, List.getElem?_eq_none (by omega)]; rfl
    · rw [if_neg h, wipeD_get σ j vs]
      have : (j ∈ v :: vs) ↔ j ∈ vs := ⟨fun q => (List.mem_cons.mp q).elim (fun e => absurd e.symm h) id, List.mem_cons_of_mem _⟩
      by_cases hj : j ∈ vs
      · rw [if_pos hj, if_pos (this.mpr hj)]
      · rw [if_neg hj, if_neg fun q => hj (this.mp q)]
theorem wipe_set {σ : St} {i : Nat} {x : Option V} {vs : List Nat} (h : i ∈ vs) : wipe (σ.set i x) vs = wipe σ vs := by
  refine List.ext_getElem? fun j => ?_
  rw [wipe_get, wipe_get]
  by_cases hj : j ∈ vs
  · rw [if_pos hj, if_pos hj, List.getElem?_set]
    by_cases e : i = j
    · subst e
      rw [if_pos rfl]
      by_cases hl : i < σ.length
      · rw [if_pos hl, List.getElem?_eq_getElem hl]; rfl
      · rw [if_neg hl, List.getElem?_eq_none (by omega)]
    · rw [if_neg e]
  · rw [if_neg hj, if_neg hj, List.getElem?_set_ne fun e => hj (by rw [← e]; exact h)]
theorem wipe_wipe (σ : St) (vs : List Nat) : wipe (wipe σ vs) vs = wipe σ vs := by
  refine List.ext_getElem? fun j => ?_
  rw [wipe_get, wipe_get]
  by_cases hj : j ∈ vs
  · rw [if_pos hj, if_pos hj, Option.map_map]; rfl
  · rw [if_neg hj]
theorem wipe_setAll {vs : List Nat} : ∀ {bs : List (Nat × V)} {σ : St}, (∀ b ∈ bs, b.1 ∈ vs) → wipe (setAll σ bs) vs = wipe σ vs
  | [], _, _ => rfl
  | b :: bs, σ, h => by
    show wipe (setAll (σ.set b.1 (some b.2)) bs) vs = _
    rw [wipe_setAll fun x hx => h x (List.mem_cons_of_mem _ hx), wipe_set (h b List.mem_cons_self)]
section
variable {K : PySem.W.Frag} {xm : XMo} {X : Cx}
theorem wipeD_len (σ : VEnv) : ∀ vs : List Nat, (wipeD σ vs).length = σ.length
  | [] => rfl
  | a :: r => by unfold wipeD; rw [List.length_set, wipeD_len σ r]
theorem Vw.wipe {F : Hp} {σ : St} {ρ : VEnv} (h : Vw K F σ ρ) (vs : List Nat) : Vw K F (L2.wipe σ vs) (wipeD ρ vs) := ⟨by rw [wipe_length, wipeD_len, h.len], fun i d e => by
  rw [wipeD_get] at e
  by_cases hj : i ∈ vs
  · rw [if_pos hj] at e
    obtain ⟨a, h1, h2⟩ := Option.map_eq_some_iff.mp e
    cases h2
  · rw [if_neg hj] at e
    obtain ⟨v, h1, h2⟩ := h.get i d e
    exact ⟨v, by rw [wipe_get, if_neg hj]; exact h1, h2⟩⟩
theorem Vw.set {F : Hp} {σ : St} {ρ : VEnv} (h : Vw K F σ ρ) {i : Nat} {v : V} {d : D} (hd : Dt K F v d) : Vw K F (σ.set i (some v)) (ρ.set i (some d)) := ⟨by rw [List.length_set, List.length_set, h.len], fun j e he => by
  have hl := h.len
  rw [List.getElem?_set] at he
  by_cases q : i = j
  · subst q
    rw [if_pos rfl] at he
    by_cases hi : i < ρ.length
    · rw [if_pos hi] at he
      cases he
      exact ⟨v, by rw [List.getElem?_set, if_pos rfl, if_pos (by omega)], hd⟩
    · rw [if_neg hi] at he; cases he
  · rw [if_neg q] at he
    obtain ⟨w, h1, h2⟩ := h.get j e he
    exact ⟨w, by rw [List.getElem?_set_ne q]; exact h1, h2⟩⟩
theorem Vw.setAll {F : Hp} : ∀ {bs : List (Nat × V)} {as : List (Nat × D)} {σ : St} {ρ : VEnv}, Vw K F σ ρ → As K F bs as → Vw K F (Du.setAll σ bs) (setAllD ρ as)
  | _, _, _, _, h, .nil => h
  | _, _, σ, ρ, h, .cons (a := a) (b := b) x y => Vw.setAll (σ := σ.set a.1 (some a.2)) (ρ := ρ.set b.1 (some b.2)) (by
      rw [x.1]
      exact h.set x.2) y
theorem As.slots {F : Hp} {vs : List Nat} : ∀ {bs : List (Nat × V)} {as : List (Nat × D)}, As K F bs as → as.all (fun p => vs.contains p.1) = true → ∀ b ∈ bs, b.1 ∈ vs
  | _, _, .nil, _ => fun b hb => by cases hb
  | _, _, .cons x y, h => fun b hb => by
    rw [List.all_cons, Bool.and_eq_true] at h
    rcases List.mem_cons.mp hb with rfl | hb
    · rw [x.1]
      simpa using h.1
    · exact As.slots y h.2 b hb
theorem As.same {F G : Hp} (s : Same F G) : ∀ {bs : List (Nat × V)} {as : List (Nat × D)}, As K F bs as → As K G bs as
  | _, _, .nil => .nil
  | _, _, .cons x y => .cons ⟨x.1, x.2.same s⟩ (As.same s y)
/-! ### [e for x in xs if c] -/
def compL (tg : Tgt) (c : VEnv → Res Bool) (f : VEnv → Res D) (ρ : VEnv) (vs : List Nat) : List D → Res (List D)
  | [] => .ok []
  | d :: ds => (tg d).bind fun as => if as.all (fun p => vs.contains p.1) = true then (c (setAllD ρ as)).bind fun b => if b = true then (f (setAllD ρ as)).bind fun e => (compL tg c f ρ vs ds).bind fun es => .ok (e :: es) else compL tg c f ρ vs ds else .bad
def okOf {α : Type} : Res α → Res α
  | .ok a => .ok a
  | _ => .bad
def eComp (vs : List Nat) (it : VEnv → Res (List D)) (tg : Tgt) (c : VEnv → Res Bool) (f : VEnv → Res D) : VEnv → Res D := fun ρ => (it ρ).bind fun ds => if fit ds.length = true then (okOf (compL tg c f (wipeD ρ vs) vs ds)).bind fun es => .ok (.lst es) else .bad
def bYes : VEnv → Res Bool := fun _ => .ok true
abbrev FTs (K : PySem.W.Frag) (X : Cx) (ifs : List Expr) (c : VEnv → Res Bool) : Prop := PTs X ifs (bF K none c)
theorem PTs.to {e : List Expr} {t t' : TT} (h : PTs X e t) (m : ∀ σ H Q, t' σ H Q → t σ H Q) : PTs X e t' := ⟨fun pins s σ H Q I q => h.run pins s σ H Q I (m _ _ _ q)⟩
theorem fts_nil : FTs K X [] bYes := PTs.to pts_nil fun σ H Q ⟨F, ρ, sF, vw, k⟩ => k.done sF rfl
theorem comp_loop {J : It} {tg : Tgt} {c : VEnv → Res Bool} {f : VEnv → Res D} {ρ : VEnv} {vs : List Nat} {ds es : List D} {σ : St} {F H : Hp} {p : Addr} {Q : VK} (sF : Same F H) (vw : Vw K F σ ρ) (y : Yl K F J ds) (hp : H p = none) (hz : fit ds.length = true)
    (hc : compL tg c f (wipeD ρ vs) vs ds = .ok es) (k : ∀ F' H' acc, Gr F H F' H' → F' p = none → H' p = some (.lst acc) → DtAll K F' acc es → Q (.ref p) H') :
    ∃ W : Nat → Nat → Hp → Prop, (∃ m, W 0 m (upd H p (.lst []))) ∧ ∀ i m H, W i m H →
      (J.stop i H ∧ Q (.ref p) H) ∨ (J.go i H ∧ ∃ Nx : Hp → Prop, (∀ H', Nx H' → ∃ m', m' < m ∧ W (i + 1) m' H') ∧ ∀ x H', J.yld i H x H' → gF K tg x (wipe σ vs) H' fun σ2 H2 => wipe σ2 vs = wipe σ vs ∧ bF K none c σ2 H2 fun b H3 =>
        if b = true then tF K none f σ2 H3 fun y H4 => ∃ acc, H4 p = some (.lst acc) ∧ acc.length < sizeLine ∧ Nx (upd H4 p (.lst (acc ++ [y]))) else Nx H3) := by
  let St' : Nat → Hp → Prop := fun i H2 => ∃ F2 acc da rest, Gr F H F2 H2 ∧ F2 p = none ∧ H2 p = some (.lst acc) ∧ DtAll K F2 acc da ∧ acc.length ≤ i ∧ compL tg c f (wipeD ρ vs) vs (ds.drop i) = .ok rest ∧ da ++ rest = es
  refine ⟨fun i m H2 => m = ds.length - i ∧ i ≤ ds.length ∧ St' i H2, ⟨ds.length, by simp, Nat.zero_le _, F, [], [], es, .hid sF hp, sF.free hp, upd_same, .nil, Nat.le_refl _, hc, rfl⟩, ?_⟩
  rintro i m H2 ⟨rfl, hi, F2, acc, da, rest, g, fp, ep, dd, la, hr, he⟩
  by_cases hlt : i < ds.length
  · refine .inr ⟨y.go i H2 hlt (g.ff.trans g.fh), St' (i + 1), fun H' p' => ⟨ds.length - (i + 1), by omega, rfl, hlt, p'⟩, fun x H3 yx => ?_⟩
    obtain ⟨F3, g3, dx⟩ := y.yld i ds[i] F2 H2 x H3 (List.getElem?_eq_getElem hlt) g.ff g.fh yx
    rw [List.drop_eq_getElem_cons hlt] at hr
    unfold compL at hr
    cases e1 : tg ds[i] with
    | exc x => rw [e1] at hr; cases hr
    | bad => rw [e1] at hr; cases hr
    | ok as =>
      rw [e1, Res.bind_ok] at hr
      by_cases ha : as.all (fun p => vs.contains p.1) = true
      · rw [if_pos ha] at hr
        refine ⟨F3, ds[i], as, g3.fh, dx, e1, fun bs hb => ⟨?_, ?_⟩⟩
        · rw [wipe_setAll (hb.slots ha), wipe_wipe]
        · have vw3 : Vw K F3 (Du.setAll (wipe σ vs) bs) (setAllD (wipeD ρ vs) as) := Vw.setAll ((vw.wipe vs).same (g.ff.trans g3.ff)) hb
          have fp3 : F3 p = none := by
            cases q : F3 p with
            | none => rfl
            | some o =>
              rcases g3.nw p o q with z | z
              · rw [fp] at z; cases z
              · rw [ep] at z; cases z
          have ep3 := g3.hh _ _ ep
          have keep : ∀ {F4 H4 : Hp}, Gr F3 H3 F4 H4 → F4 p = none ∧ H4 p = some (.lst acc) ∧ DtAll K F4 acc da := fun {F4 H4} g4 => by
            refine ⟨?_, g4.hh _ _ ep3, dd.same (g3.ff.trans g4.ff)⟩
            cases q : F4 p with
            | none => rfl
            | some o =>
              rcases g4.nw p o q with z | z
              · rw [fp3] at z; cases z
              · rw [ep3] at z; cases z
          cases e2 : c (setAllD (wipeD ρ vs) as) with
          | exc x => rw [e2] at hr; cases hr
          | bad => rw [e2] at hr; cases hr
          | ok b =>
            rw [e2, Res.bind_ok] at hr
            refine ⟨F3, _, g3.fh, vw3, ?_⟩
            rw [e2]
            intro b' F4 H4 g4 hb'
            subst hb'
            cases b' with
            | false =>
              rw [if_neg Bool.false_ne_true] at hr
              obtain ⟨k1, k2, k3⟩ := keep g4
              exact iteF ⟨F4, acc, da, rest, (g.trans g3).trans g4, k1, k2, k3, by omega, hr, he⟩
            | true =>
              rw [if_pos rfl] at hr
              cases e3 : f (setAllD (wipeD ρ vs) as) with
              | exc x => rw [e3] at hr; cases hr
              | bad => rw [e3] at hr; cases hr
              | ok e =>
                rw [e3, Res.bind_ok] at hr
                cases e4 : compL tg c f (wipeD ρ vs) vs (ds.drop (i + 1)) with
                | exc x => rw [e4] at hr; cases hr
                | bad => rw [e4] at hr; cases hr
                | ok r =>
                  rw [e4] at hr
                  cases hr
                  refine iteT ⟨F4, _, g4.fh, vw3.same g4.ff, ?_⟩
                  rw [e3]
                  intro v F5 H5 g5 dv
                  obtain ⟨k1, k2, k3⟩ := keep (g4.trans g5)
                  have lz : acc.length < sizeLine := Nat.lt_of_lt_of_le (by omega) (Nat.le_of_lt (fit_line hz))
                  have s5 : Same F5 (upd H5 p (.lst (acc ++ [v]))) := fun b o hb => by
                    rw [upd_ne fun z => by rw [z, k1] at hb; cases hb]
                    exact g5.fh _ _ hb
                  have gt := ((g.trans g3).trans g4).trans g5
                  refine ⟨acc, k2, lz, F5, acc ++ [v], da ++ [e], r, ⟨fun b o hb => ?_, gt.ff, s5, gt.nw⟩, k1, upd_same, k3.app (.cons dv .nil), by rw [List.length_append, List.length_singleton]; omega, e4, by rw [List.append_assoc]; exact he⟩
                  rw [upd_ne fun z => by rw [z, hp] at hb; cases hb]
                  exact gt.hh _ _ hb
      · rw [if_neg ha] at hr; cases hr
  · have e : i = ds.length := by omega
    subst e
    rw [List.drop_length] at hr
    cases hr
    rw [List.append_nil] at he
    subst he
    exact .inl ⟨y.stop H2 (g.ff.trans g.fh), k F2 H2 acc g fp ep dd⟩
/-- a new thing is frozen -/
theorem Gr.freeze {F H F' H' : Hp} {p : Addr} {o : HO} (g : Gr F H F' H') (hp : H p = none) (fp : F' p = none) (e : H' p = some o) : Gr F H (upd F' p o) H' := ⟨g.hh, fun b u hb => by
    rw [upd_ne fun z => by
      have z2 := g.ff _ _ hb
      rw [z, fp] at z2; cases z2]
    exact g.ff _ _ hb, fun b u hb => by
    by_cases z : b = p
    · subst z
      rw [upd_same] at hb
      cases hb
      exact e
    · rw [upd_ne z] at hb
      exact g.fh _ _ hb, fun b u hb => by
    by_cases z : b = p
    · subst z
      exact .inr hp
    · rw [upd_ne z] at hb
      exact g.nw _ _ hb⟩
theorem fe_comp {elt tg iter : Expr} {ifs : List Expr} {scope : Scope} {pos : Pos} (own : List (Str × Nat)) {it : VEnv → Res (List D)} {g : Tgt} {c : VEnv → Res Bool} {f : VEnv → Res D} (hN : X.N.Nodup) (hi : FI K xm X tg iter it)
    (hg : ∀ (s : Shared) (H : Hp) (C : Addr) (cl : List (Str × Addr)) (fp : List Addr), FG K (X.blk s H scope (compEnvC scope cl C X.env) fp) tg g) (ht : ∀ (s : Shared) (H : Hp) (C : Addr) (cl : List (Str × Addr)) (fp : List Addr), FTs K (X.blk s H scope (compEnvC scope cl C X.env) fp) ifs c)
    (he : ∀ (s : Shared) (H : Hp) (C : Addr) (cl : List (Str × Addr)) (fp : List Addr), FE K none (X.blk s H scope (compEnvC scope cl C X.env) fp) elt f)
    (ok : BlkOk X.N X.env.scope scope own) (hc : X.calm = true := by rfl) (hs : ∀ x, foldedSetIterable iter X.env x = pure x := by intro _; rfl) :
    FE K xm X (.ListComp elt [⟨tg, iter, ifs, 0⟩] scope pos) (eComp (own.map (·.2)) it g c f) :=
  PE.to (pe_lc hc hN hi ok hg ht he hs) fun σ H Q ⟨F, ρ, sF, vw, k⟩ => ⟨F, ρ, sF, vw, Po.seq k fun ds J F1 H1 g1 y k1 p hp => by
    obtain ⟨hz, k2⟩ := Po.ite k1
    cases e : compL g c f (wipeD ρ (own.map (·.2))) (own.map (·.2)) ds with
    | exc x => rw [e] at k2; exact k2.elim
    | bad => rw [e] at k2; exact k2.elim
    | ok es =>
      rw [e] at k2
      exact comp_loop g1.fh (vw.same g1.ff) y hp hz e fun F' H' acc g fp ep dd => k2 _ (upd F' p (.lst acc)) H' (g.freeze hp fp ep) (.lst upd_same (dd.same (sm_upd fp)))⟩
end
end Du

namespace Du
open PySem PySem.Spec PyProof.Rows L2
/-! ### slots at statements: what a def made itself and nobody else holds is its own (it may be changed), all else is frozen -/
inductive Slot where
  | frz (d : D)
  | own (t : Bool) (d : D)
abbrev Env := List (Option Slot)
def viewS (b : Bool) : Option Slot → Option D
  | some (.frz d) => some d
  | some (.own _ d) => if b = true then some d else none
  | none => none
def viewI (L : List Nat) : Nat → Env → VEnv
  | _, [] => []
  | i, s :: r => viewS (L.contains i) s :: viewI L (i + 1) r
/-- the slots as an expression sees them that reads the own ones of L -/
def view (L : List Nat) (ρ : Env) : VEnv := viewI L 0 ρ
def shutS (b : Bool) : Option Slot → Option Slot
  | some (.own t d) => if b = true then some (.frz d) else some (.own t d)
  | s => s
def shutI (L : List Nat) : Nat → Env → Env
  | _, [] => []
  | i, s :: r => shutS (L.contains i) s :: shutI L (i + 1) r
/-- the own ones of L are frozen from now on -/
def shut (L : List Nat) (ρ : Env) : Env := shutI L 0 ρ
theorem viewI_get (L : List Nat) : ∀ (n : Nat) (ρ : Env) (i : Nat), (viewI L n ρ)[i]? = (ρ[i]?).map (viewS (L.contains (n + i)))
  | n, [], i => by simp [viewI]
  | n, s :: r, 0 => by simp [viewI]
  | n, s :: r, i + 1 => by
    rw [viewI, List.getElem?_cons_succ, List.getElem?_cons_succ, viewI_get L (n + 1) r i]
    congr 3
    omega
theorem shutI_get (L : List Nat) : ∀ (n : Nat) (ρ : Env) (i : Nat), (shutI L n ρ)[i]? = (ρ[i]?).map (shutS (L.contains (n + i)))
  | n, [], i => by simp [shutI]
  | n, s :: r, 0 => by simp [shutI]
  | n, s :: r, i + 1 => by
    rw [shutI, List.getElem?_cons_succ, List.getElem?_cons_succ, shutI_get L (n + 1) r i]
    congr 3
    omega
theorem viewI_len (L : List Nat) : ∀ (n : Nat) (ρ : Env), (viewI L n ρ).length = ρ.length
  | _, [] => rfl
  | n, s :: r => by rw [viewI, List.length_cons, viewI_len L (n + 1) r, List.length_cons]
theorem shutI_len (L : List Nat) : ∀ (n : Nat) (ρ : Env), (shutI L n ρ).length = ρ.length
  | _, [] => rfl
  | n, s :: r => by rw [shutI, List.length_cons, shutI_len L (n + 1) r, List.length_cons]
theorem view_get (L : List Nat) (ρ : Env) (i : Nat) : (view L ρ)[i]? = (ρ[i]?).map (viewS (L.contains i)) := by
  unfold view
  rw [viewI_get, Nat.zero_add]
theorem shut_get (L : List Nat) (ρ : Env) (i : Nat) : (shut L ρ)[i]? = (ρ[i]?).map (shutS (L.contains i)) := by
  unfold shut
  rw [shutI_get, Nat.zero_add]
/-- an own thing at p -/
def Ow (K : PySem.W.Frag) (F H : Hp) (p : Addr) : D → Prop
  | .lst ds => ∃ xs, H p = some (.lst xs) ∧ DtAll K F xs ds
  | .dct false ds => ∃ kvs, H p = some (.dK kvs) ∧ DtAll K F (kvs.map (·.2)) (ds.map (·.2)) ∧ ds.map (·.1) = kvs.map (fun p => keyD p.1)
  | .dct true ds => ∃ kvs, H p = some (.dT kvs) ∧ DtAll K F (kvs.map (·.2)) (ds.map (·.2)) ∧ ds.map (·.1) = kvs.map (fun p => keysD p.1)
  | _ => False
/-- what has to stay: all of b; of b only what g has may be told of; pin: where the thing stands that was handed in to be changed -/
structure Bs where
  b : Hp
  g : Hp
  pin : Addr := 0
structure Rl (K : PySem.W.Frag) (B : Bs) (σ : St) (H : Hp) (ρ : Env) (F : Hp) : Prop where
  fh : Same F H
  bh : Same B.b H
  zf : ∀ a o u, B.b a = some o → F a = some u → ∃ v, B.g a = some v
  len : σ.length = ρ.length
  fz : ∀ (i : Nat) (d : D), ρ[i]? = some (some (.frz d)) → ∃ v, σ[i]? = some (some v) ∧ Dt K F v d
  ow : ∀ (i : Nat) (t : Bool) (d : D), ρ[i]? = some (some (.own t d)) → ∃ p, σ[i]? = some (some (.ref p)) ∧ F p = none ∧ B.b p = none ∧ Ow K F H p d
  dj : ∀ (i j : Nat) (t u : Bool) (d e : D) (p : Addr), ρ[i]? = some (some (.own t d)) → ρ[j]? = some (some (.own u e)) → σ[i]? = some (some (.ref p)) → σ[j]? = some (some (.ref p)) → i = j
  pn : ∀ (i : Nat) (d : D) (p : Addr), ρ[i]? = some (some (.own true d)) → σ[i]? = some (some (.ref p)) → p = B.pin
section
variable {K : PySem.W.Frag} {B : Bs} {F H : Hp} {σ : St} {ρ : Env}
theorem Ow.mono {F' H' : Hp} {p : Addr} {d : D} (h : Ow K F H p d) (s : Same F F') (e : ∀ o, H p = some o → H' p = some o) : Ow K F' H' p d := by
  unfold Ow at h ⊢
  split at h
  · obtain ⟨xs, h1, h2⟩ := h
    exact ⟨xs, e _ h1, h2.same s⟩
  · obtain ⟨kvs, h1, h2, h3⟩ := h
    exact ⟨kvs, e _ h1, h2.same s, h3⟩
  · obtain ⟨kvs, h1, h2, h3⟩ := h
    exact ⟨kvs, e _ h1, h2.same s, h3⟩
  · exact h.elim
theorem Ow.some {p : Addr} {d : D} (h : Ow K F H p d) : ∃ o, H p = Option.some o := by
  unfold Ow at h
  split at h
  · obtain ⟨xs, h1, h2⟩ := h
    exact ⟨_, h1⟩
  · obtain ⟨kvs, h1, h2, h3⟩ := h
    exact ⟨_, h1⟩
  · obtain ⟨kvs, h1, h2, h3⟩ := h
    exact ⟨_, h1⟩
  · exact h.elim
theorem Ow.notup {p : Addr} {d : D} (h : Ow K F H p d) (xs : List V) : H p ≠ Option.some (.tup xs) ∧ ∀ o, H p ≠ Option.some (.frz o (.tup xs)) := by
  unfold Ow at h
  split at h
  · obtain ⟨ys, h1, h2⟩ := h
    exact ⟨fun e => (by rw [h1] at e; cases e), fun o e => (by rw [h1] at e; cases e)⟩
  · obtain ⟨kvs, h1, h2, h3⟩ := h
    exact ⟨fun e => (by rw [h1] at e; cases e), fun o e => (by rw [h1] at e; cases e)⟩
  · obtain ⟨kvs, h1, h2, h3⟩ := h
    exact ⟨fun e => (by rw [h1] at e; cases e), fun o e => (by rw [h1] at e; cases e)⟩
  · exact h.elim
/-- it is frozen: told of -/
theorem Ow.dt {G : Hp} {p : Addr} {d : D} (h : Ow K F H p d) (s : Same F G) (e : ∀ o, H p = Option.some o → G p = Option.some o) : Dt K G (.ref p) d := by
  unfold Ow at h
  split at h
  · obtain ⟨xs, h1, h2⟩ := h
    exact .lst (e _ h1) (h2.same s)
  · obtain ⟨kvs, h1, h2, h3⟩ := h
    exact .dk (.inl (e _ h1)) (h2.same s) h3
  · obtain ⟨kvs, h1, h2, h3⟩ := h
    exact .dt (e _ h1) (h2.same s) h3
  · exact h.elim
/-- a is the cell of an own slot of L -/
def Cell (σ : St) (ρ : Env) (L : List Nat) (a : Addr) : Prop := ∃ (i : Nat) (t : Bool) (d : D), i ∈ L ∧ ρ[i]? = some (some (.own t d)) ∧ σ[i]? = some (some (.ref a))
open Classical in
/-- what an expression sees that reads the own ones of L -/
noncomputable def lend (σ : St) (ρ : Env) (L : List Nat) (F H : Hp) : Hp := fun a => if Cell σ ρ L a then H a else F a
open Classical in
noncomputable def unlend (σ : St) (ρ : Env) (L : List Nat) (F : Hp) : Hp := fun a => if Cell σ ρ L a then none else F a
theorem Rl.lend_fh (r : Rl K B σ H ρ F) (L : List Nat) : Same (lend σ ρ L F H) H := fun a o e => by
  unfold lend at e
  split at e
  · exact e
  · exact r.fh _ _ e
theorem Rl.lend_ff (r : Rl K B σ H ρ F) (L : List Nat) : Same F (lend σ ρ L F H) := fun a o e => by
  unfold lend
  split
  · exact r.fh _ _ e
  · exact e
theorem Rl.view (r : Rl K B σ H ρ F) (L : List Nat) : Vw K (lend σ ρ L F H) σ (view L ρ) := ⟨by
  unfold Du.view
  rw [viewI_len, r.len], fun i d e => by
  rw [view_get] at e
  obtain ⟨s, h1, h2⟩ := Option.map_eq_some_iff.mp e
  cases s with
  | none => cases h2
  | some s =>
    cases s with
    | frz e =>
      cases h2
      obtain ⟨v, q1, q2⟩ := r.fz i _ h1
      exact ⟨v, q1, q2.same (r.lend_ff L)⟩
    | own t e =>
      unfold viewS at h2
      dsimp only at h2
      by_cases c : L.contains i = true
      · rw [if_pos c] at h2
        cases h2
        obtain ⟨p, q1, q2, q3, q4⟩ := r.ow i _ _ h1
        refine ⟨_, q1, q4.dt (r.lend_ff L) fun o ho => ?_⟩
        have : Cell σ ρ L p := ⟨i, _, _, by simpa using c, h1, q1⟩
        unfold lend
        rw [if_pos this]
        exact ho
      · rw [if_neg c] at h2
        cases h2⟩
theorem Rl.own_new (r : Rl K B σ H ρ F) {L : List Nat} {F' H' : Hp} (g : Gr (lend σ ρ L F H) H F' H') {i : Nat} {t : Bool} {d : D} {p : Addr} (hi : ρ[i]? = some (some (.own t d))) (hp : σ[i]? = some (some (.ref p))) (hL : i ∉ L) : F' p = none := by
  obtain ⟨p', q1, q2, q3, q4⟩ := r.ow i _ _ hi
  rw [hp] at q1
  cases q1
  cases e : F' p with
  | none => rfl
  | some o =>
    exfalso
    rcases g.nw p o e with z | z
    · unfold lend at z
      split at z
      · rename_i c
        obtain ⟨j, t', d', hj, h1, h2⟩ := c
        exact hL (r.dj i j _ _ _ _ p hi h1 hp h2 ▸ hj)
      · rw [q2] at z; cases z
    · obtain ⟨o', h⟩ := q4.some
      rw [h] at z; cases z
theorem Rl.zf2 (r : Rl K B σ H ρ F) {L : List Nat} {F' H' : Hp} (g : Gr (lend σ ρ L F H) H F' H') {a : Addr} {o u : HO} (e1 : B.b a = some o) (e2 : F' a = some u) : ∃ v, B.g a = some v := by
  rcases g.nw _ _ e2 with z | z
  · unfold lend at z
    split at z
    · rename_i c
      obtain ⟨i, t, d, _, h1, h2⟩ := c
      obtain ⟨p, q1, _, q3, _⟩ := r.ow i _ d h1
      rw [h2] at q1
      cases q1
      rw [q3] at e1
      cases e1
    · exact r.zf _ _ _ e1 z
  · rw [r.bh _ _ e1] at z
    cases z
theorem Rl.back_ff (r : Rl K B σ H ρ F) {L : List Nat} {F' H' : Hp} (g : Gr (lend σ ρ L F H) H F' H') : Same F (unlend σ ρ L F') := fun a o e => by
  unfold unlend
  rw [if_neg ?_]
  · exact g.ff _ _ (r.lend_ff L _ _ e)
  · rintro ⟨i, t, d, _, h1, h2⟩
    obtain ⟨p, q1, q2, _⟩ := r.ow i _ d h1
    rw [h2] at q1
    cases q1
    rw [q2] at e
    cases e
/-- behind an expression whose value holds no list: all is as it was -/
theorem Rl.back (r : Rl K B σ H ρ F) {L : List Nat} {F' H' : Hp} (g : Gr (lend σ ρ L F H) H F' H') : Rl K B σ H' ρ (unlend σ ρ L F') := by
  have ff := r.back_ff g
  refine ⟨fun a o e => ?_, r.bh.trans g.hh, fun a o u e1 e2 => ?_, r.len, fun i d e => ?_, fun i t d e => ?_, r.dj, r.pn⟩
  · unfold unlend at e
    split at e
    · cases e
    · exact g.fh _ _ e
  · unfold unlend at e2
    split at e2
    · cases e2
    · exact r.zf2 g e1 e2
  · obtain ⟨v, h1, h2⟩ := r.fz i d e
    exact ⟨v, h1, h2.same ff⟩
  · obtain ⟨p, q1, q2, q3, q4⟩ := r.ow i _ d e
    refine ⟨p, q1, ?_, q3, q4.mono ff fun o ho => g.hh _ _ ho⟩
    unfold unlend
    by_cases c : Cell σ ρ L p
    · rw [if_pos c]
    · rw [if_neg c]
      exact r.own_new g e q1 fun hL => c ⟨i, t, d, hL, e, q1⟩
theorem Rl.back_dts (r : Rl K B σ H ρ F) {L : List Nat} {F' H' : Hp} (g : Gr (lend σ ρ L F H) H F' H') : Tups F' (unlend σ ρ L F') := fun a xs hr => by
  have nc : ¬ Cell σ ρ L a := by
    rintro ⟨j, t, e, _, h1, h2⟩
    obtain ⟨p, q1, _, _, q4⟩ := r.ow j _ e h1
    rw [h2] at q1
    cases q1
    obtain ⟨n1, n2⟩ := Ow.notup (q4.mono (F' := F) (H' := H') (.refl _) fun o ho => g.hh _ _ ho) xs
    exact n1 (g.fh _ _ hr)
  have e : unlend σ ρ L F' a = F' a := by
    unfold unlend
    rw [if_neg nc]
  exact e.trans hr
theorem Rl.back_dt (r : Rl K B σ H ρ F) {L : List Nat} {F' H' : Hp} (g : Gr (lend σ ρ L F H) H F' H') {v : V} {d : D} (i : imm d = true) (h : Dt K F' v d) : Dt K (unlend σ ρ L F') v d := Dt.tups (r.back_dts g) i h
/-- behind an expression whose value may hold the own ones of L: they are frozen -/
theorem Rl.shutted (r : Rl K B σ H ρ F) {L : List Nat} {F' H' : Hp} (g : Gr (lend σ ρ L F H) H F' H') : Rl K B σ H' (shut L ρ) F' := by
  have ff : Same F F' := (r.lend_ff L).trans g.ff
  have old : ∀ {i : Nat} {t : Bool} {d : D}, (shut L ρ)[i]? = some (some (.own t d)) → ρ[i]? = some (some (.own t d)) ∧ i ∉ L := fun {i t d} e => by
    rw [shut_get] at e
    obtain ⟨s, h1, h2⟩ := Option.map_eq_some_iff.mp e
    cases s with
    | none => cases h2
    | some s =>
      cases s with
      | frz e => cases h2
      | own t e =>
        unfold shutS at h2
        dsimp only at h2
        by_cases c : L.contains i = true
        · rw [if_pos c] at h2; cases h2
        · rw [if_neg c] at h2
          cases h2
          exact ⟨h1, fun z => c (by simpa using z)⟩
  refine ⟨g.fh, r.bh.trans g.hh, fun a o u e1 e2 => r.zf2 g e1 e2, by unfold shut; rw [shutI_len, r.len], fun i d e => ?_, fun i t d e => ?_, fun i j t u d e p h1 h2 => r.dj i j t u d e p (old h1).1 (old h2).1, fun i d p h => r.pn i d p (old h).1⟩
  · rw [shut_get] at e
    obtain ⟨s, h1, h2⟩ := Option.map_eq_some_iff.mp e
    cases s with
    | none => cases h2
    | some s =>
      cases s with
      | frz e =>
        cases h2
        obtain ⟨v, q1, q2⟩ := r.fz i _ h1
        exact ⟨v, q1, q2.same ff⟩
      | own t e =>
        unfold shutS at h2
        dsimp only at h2
        by_cases c : L.contains i = true
        · rw [if_pos c] at h2
          cases h2
          obtain ⟨p, q1, q2, q3, q4⟩ := r.ow i _ _ h1
          refine ⟨_, q1, q4.dt ff fun o ho => g.ff _ _ ?_⟩
          have : Cell σ ρ L p := ⟨i, _, _, by simpa using c, h1, q1⟩
          unfold lend
          rw [if_pos this]
          exact ho
        · rw [if_neg c] at h2; cases h2
  · obtain ⟨h1, h2⟩ := old e
    obtain ⟨p, q1, q2, q3, q4⟩ := r.ow i _ d h1
    exact ⟨p, q1, r.own_new g h1 q1 h2, q3, q4.mono ff fun o ho => g.hh _ _ ho⟩
/-- the slots behind an expression that gave d -/
def aft (L : List Nat) (d : D) (ρ : Env) : Env := if imm d = true then ρ else shut L ρ
theorem Rl.aft (r : Rl K B σ H ρ F) {L : List Nat} {F' H' : Hp} (g : Gr (lend σ ρ L F H) H F' H') {v : V} {d : D} (h : Dt K F' v d) : ∃ F2, Rl K B σ H' (aft L d ρ) F2 ∧ Dt K F2 v d ∧ Same F F2 := by
  unfold Du.aft
  by_cases i : imm d = true
  · rw [if_pos i]
    exact ⟨_, r.back g, r.back_dt g i h, r.back_ff g⟩
  · rw [if_neg i]
    exact ⟨_, r.shutted g, h, (r.lend_ff L).trans g.ff⟩
/-- the slots behind an expression whose value is taken apart: ds are its parts -/
def aftL (L : List Nat) (ds : List D) (ρ : Env) : Env := if imms ds = true then ρ else shut L ρ
theorem Rl.aftL (r : Rl K B σ H ρ F) {L : List Nat} {F' H' : Hp} (g : Gr (lend σ ρ L F H) H F' H') {vs : List V} {ds : List D} (h : DtAll K F' vs ds) : ∃ F2, Rl K B σ H' (aftL L ds ρ) F2 ∧ DtAll K F2 vs ds ∧ Same F F2 ∧ ∀ p, F' p = none → F2 p = none := by
  unfold Du.aftL
  by_cases i : imms ds = true
  · rw [if_pos i]
    refine ⟨_, r.back g, DtAll.tups (r.back_dts g) i h, r.back_ff g, fun p hp => ?_⟩
    unfold unlend
    split
    · rfl
    · exact hp
  · rw [if_neg i]
    exact ⟨_, r.shutted g, h, (r.lend_ff L).trans g.ff, fun _ h => h⟩
end
/-! ### what a statement comes to -/
inductive Out where
  | nx (ρ : Env)
  | bk (ρ : Env)
  | ct (ρ : Env)
  | rt (d : D) (ρ : Env)
  | ro (d : D) (ρ : Env)
  | ex (x : Ex) (ρ : Env)
  | bad
def So (K : PySem.W.Frag) (xm : XMo) (B : Bs) (Dn : Ends) : Out → Prop
  | .nx ρ => ∀ σ H F, Rl K B σ H ρ F → Dn.nx σ H
  | .bk ρ => ∀ σ H F, Rl K B σ H ρ F → Dn.bk σ H
  | .ct ρ => ∀ σ H F, Rl K B σ H ρ F → Dn.ct σ H
  | .rt d ρ => ∀ v σ H F, Rl K B σ H ρ F → Dt K F v d → Dn.rt v H
  | .ro d ρ => ∀ p σ H F, Rl K B σ H ρ F → F p = none → B.b p = none → Ow K F H p d → Dn.rt (.ref p) H
  | .ex x ρ => match xm with
    | none => False
    | some m => ∀ C dd σ H F, Rl K B σ H ρ F → ExIs K m.mg x F C dd → m.W C dd σ H
  | .bad => False
def sF (K : PySem.W.Frag) (xm : XMo) (g : Env → Out) : TS := fun Dn σ H => ∃ B ρ F, Rl K B σ H ρ F ∧ So K xm B Dn (g ρ)
abbrev FS (K : PySem.W.Frag) (xm : XMo) (X : Cx) (st : Stmt) (g : Env → Out) : Prop := PS X st (sF K xm g)
abbrev FSs (K : PySem.W.Frag) (xm : XMo) (X : Cx) (st : List Stmt) (g : Env → Out) : Prop := PSs X st (sF K xm g)
/-- a pure expression at a statement: its value, and the slots behind it -/
def eAt {α : Type} (L : List Nat) (f : VEnv → Res α) (ρ : Env) (k : α → Out) : Out := match f (view L ρ) with
  | .ok a => k a
  | .exc x => .ex x (shut L ρ)
  | .bad => .bad
section
variable {K : PySem.W.Frag} {xm : XMo} {X : Cx} {B : Bs} {F H : Hp} {σ : St} {ρ : Env} {Dn : Ends}
theorem exc_at {L : List Nat} {x : Ex} (r : Rl K B σ H ρ F) (k : So K xm B Dn (.ex x (shut L ρ))) : Xw K xm σ (lend σ ρ L F H) H x := by
  cases xm with
  | none => exact k.elim
  | some m => exact fun C dd F' H' g e => k C dd σ H' F' (r.shutted g) e
theorem tF.at {L : List Nat} {f : VEnv → Res D} {k : D → Out} {Q : VK} (r : Rl K B σ H ρ F) (h : So K xm B Dn (eAt L f ρ k)) (n : ∀ d v H' F', f (view L ρ) = .ok d → Rl K B σ H' (aft L d ρ) F' → Dt K F' v d → Same F F' → Same H H' → So K xm B Dn (k d) → Q v H') : tF K xm f σ H Q := by
  refine ⟨_, _, r.lend_fh L, r.view L, ?_⟩
  unfold eAt at h
  cases e : f (view L ρ) with
  | ok d =>
    rw [e] at h
    intro v F' H' g hd
    obtain ⟨F2, r2, h2, h3⟩ := r.aft g hd
    exact n d v H' F2 e r2 h2 h3 g.hh h
  | exc x =>
    rw [e] at h
    exact exc_at r h
  | bad => rw [e] at h; exact h.elim
theorem bF.at {L : List Nat} {f : VEnv → Res Bool} {k : Bool → Out} {Q : Bool → Hp → Prop} (r : Rl K B σ H ρ F) (h : So K xm B Dn (eAt L f ρ k)) (n : ∀ b H' F', f (view L ρ) = .ok b → Rl K B σ H' ρ F' → So K xm B Dn (k b) → Q b H') : bF K xm f σ H Q := by
  refine ⟨_, _, r.lend_fh L, r.view L, ?_⟩
  unfold eAt at h
  cases e : f (view L ρ) with
  | ok d =>
    rw [e] at h
    intro v F' H' g hd
    subst hd
    exact n v H' _ e (r.back g) h
  | exc x =>
    rw [e] at h
    exact exc_at r h
  | bad => rw [e] at h; exact h.elim
end
end Du

namespace Du
open PySem PySem.Spec PyProof.Rows L2
section
variable {K : PySem.W.Frag} {xm : XMo} {X : Cx} {B B' : Bs} {F H : Hp} {σ : St} {ρ : Env} {Dn : Ends}
structure Bs.Le (B B' : Bs) : Prop where
  b : Same B.b B'.b
  g : ∀ a o u, B.b a = some o → B'.g a = some u → ∃ v, B.g a = some v
  pin : B'.pin = B.pin
theorem Bs.Le.refl (B : Bs) : B.Le B := ⟨.refl _, fun _ _ _ _ e => ⟨_, e⟩, rfl⟩
theorem Rl.unbase (r : Rl K B' σ H ρ F) (s : B.Le B') : Rl K B σ H ρ F := ⟨r.fh, s.b.trans r.bh, fun a o u e1 e2 => by
  obtain ⟨v, h⟩ := r.zf a o u (s.b _ _ e1) e2
  exact s.g a o v e1 h, r.len, r.fz, fun i t d e => by
  obtain ⟨p, q1, q2, q3, q4⟩ := r.ow i _ d e
  exact ⟨p, q1, q2, s.b.free q3, q4⟩, r.dj, fun i d p h1 h2 => (r.pn i d p h1 h2).trans s.pin⟩
theorem So.weak {o : Out} (h : So K xm B Dn o) (s : B.Le B') : So K xm B' Dn o := by
  cases o with
  | nx ρ => exact fun σ H F r => h σ H F (r.unbase s)
  | bk ρ => exact fun σ H F r => h σ H F (r.unbase s)
  | ct ρ => exact fun σ H F r => h σ H F (r.unbase s)
  | rt d ρ => exact fun v σ H F r => h v σ H F (r.unbase s)
  | ro d ρ => exact fun p σ H F r f b => h p σ H F (r.unbase s) f (s.b.free b)
  | ex x ρ =>
    cases xm with
    | none => exact h
    | some m => exact fun C dd σ H F r => h C dd σ H F (r.unbase s)
  | bad => exact h
/-- both of two parts of a heap -/
def both (F G : Hp) : Hp := fun a => match F a with | some o => some o | none => G a
theorem both_l {F G : Hp} : Same F (both F G) := fun a o e => by
  show (match F a with | some o => some o | none => G a) = some o
  rw [e]
theorem both_r {F G H : Hp} (s : Same F H) (t : Same G H) : Same G (both F G) := fun a o e => by
  show (match F a with | some o => some o | none => G a) = some o
  cases q : F a with
  | none => exact e
  | some u => exact (s _ _ q).symm.trans (t _ _ e)
theorem both_in {F G H : Hp} (s : Same F H) (t : Same G H) : Same (both F G) H := fun a o e => by
  have e : (match F a with | some o => some o | none => G a) = some o := e
  cases q : F a with
  | none =>
    rw [q] at e
    exact t _ _ e
  | some u =>
    rw [q] at e
    cases e
    exact s _ _ q
theorem both_cases {F G : Hp} {a : Addr} {o : HO} (e : both F G a = some o) : F a = some o ∨ G a = some o := by
  have e : (match F a with | some o => some o | none => G a) = some o := e
  cases q : F a with
  | none => rw [q] at e; exact .inr e
  | some u => rw [q] at e; cases e; exact .inl rfl
theorem both_none {F G : Hp} {a : Addr} (e : F a = none) (e2 : G a = none) : both F G a = none := by
  show (match F a with | some o => some o | none => G a) = none
  rw [e]
  exact e2
/-- what is frozen is kept, too -/
theorem Rl.base (r : Rl K B σ H ρ F) : ∃ B' : Bs, B.Le B' ∧ Same F B'.b ∧ Same F B'.g ∧ Rl K B' σ H ρ F := by
  refine ⟨⟨both F B.b, both F B.g, B.pin⟩, ⟨both_r r.fh r.bh, fun a o u e1 e2 => ?_, rfl⟩, both_l, both_l, r.fh, both_in r.fh r.bh, fun a o u e1 e2 => ⟨u, both_l _ _ e2⟩, r.len, r.fz, fun i t d e => ?_, r.dj, r.pn⟩
  · rcases both_cases e2 with z | z
    · exact r.zf _ _ _ e1 z
    · exact ⟨_, z⟩
  · obtain ⟨p, q1, q2, q3, q4⟩ := r.ow i _ d e
    exact ⟨p, q1, q2, both_none q2 q3, q4⟩
theorem Rl.grow {F' H' : Hp} (r : Rl K B σ H ρ F) (g : Gr F H F' H') : Rl K B σ H' ρ F' := ⟨g.fh, r.bh.trans g.hh, fun a o u e1 e2 => by
  exact (g.nw _ _ e2).elim (fun z => r.zf _ _ _ e1 z) (fun z => by rw [r.bh _ _ e1] at z; cases z), r.len, fun i d e => by
  obtain ⟨v, h1, h2⟩ := r.fz i d e
  exact ⟨v, h1, h2.same g.ff⟩, fun i t d e => by
  obtain ⟨p, q1, q2, q3, q4⟩ := r.ow i _ d e
  refine ⟨p, q1, ?_, q3, q4.mono g.ff fun o ho => g.hh _ _ ho⟩
  cases q : F' p with
  | none => rfl
  | some o =>
    exfalso
    exact (g.nw p o q).elim (fun z => by rw [q2] at z; cases z) (fun z => by
      obtain ⟨o', h⟩ := q4.some
      rw [h] at z; cases z), r.dj, r.pn⟩
theorem set_cases {α : Type} {l : List α} {i j : Nat} {a b : α} (h : (l.set i a)[j]? = some b) : (i = j ∧ b = a ∧ i < l.length) ∨ (i ≠ j ∧ l[j]? = some b) := by
  rw [List.getElem?_set] at h
  by_cases q : i = j
  · rw [if_pos q] at h
    subst q
    by_cases hi : i < l.length
    · rw [if_pos hi] at h
      cases h
      exact .inl ⟨rfl, rfl, hi⟩
    · rw [if_neg hi] at h; cases h
  · rw [if_neg q] at h
    exact .inr ⟨q, h⟩
theorem Rl.set (r : Rl K B σ H ρ F) {i : Nat} {v : V} {d : D} (h : Dt K F v d) : Rl K B (σ.set i (some v)) H (ρ.set i (some (.frz d))) F := ⟨r.fh, r.bh, r.zf, by rw [List.length_set, List.length_set, r.len], fun j e he => by
  rcases set_cases he with ⟨rfl, q, hi⟩ | ⟨hj, q⟩
  · cases q
    exact ⟨v, by rw [List.getElem?_set, if_pos rfl, if_pos (by rw [r.len]; exact hi)], h⟩
  · obtain ⟨w, h1, h2⟩ := r.fz j e q
    exact ⟨w, by rw [List.getElem?_set_ne hj]; exact h1, h2⟩, fun j t e he => by
  rcases set_cases he with ⟨rfl, q, hi⟩ | ⟨hj, q⟩
  · cases q
  · obtain ⟨p, q1, q2, q3, q4⟩ := r.ow j _ e q
    exact ⟨p, by rw [List.getElem?_set_ne hj]; exact q1, q2, q3, q4⟩, fun j k t u d1 d2 p h1 h2 h3 h4 => by
  rcases set_cases h1 with ⟨rfl, q, hi⟩ | ⟨hj, q⟩
  · cases q
  · rcases set_cases h2 with ⟨rfl, q', hi⟩ | ⟨hj', q'⟩
    · cases q'
    · rw [List.getElem?_set_ne hj] at h3
      rw [List.getElem?_set_ne hj'] at h4
      exact r.dj j k t u d1 d2 p q q' h3 h4, fun j d p h1 h2 => by
  rcases set_cases h1 with ⟨rfl, q, hi⟩ | ⟨hj, q⟩
  · cases q
  · rw [List.getElem?_set_ne hj] at h2
    exact r.pn j d p q h2⟩
/-- a slot is forgotten -/
theorem Rl.drop (r : Rl K B σ H ρ F) (i : Nat) : Rl K B σ H (ρ.set i none) F := ⟨r.fh, r.bh, r.zf, by rw [List.length_set, r.len], fun j e he => by
  rcases set_cases he with ⟨rfl, q, hi⟩ | ⟨hj, q⟩
  · cases q
  · exact r.fz j e q, fun j t e he => by
  rcases set_cases he with ⟨rfl, q, hi⟩ | ⟨hj, q⟩
  · cases q
  · exact r.ow j t e q, fun j k t u d1 d2 p h1 h2 h3 h4 => by
  rcases set_cases h1 with ⟨rfl, q, hi⟩ | ⟨hj, q⟩
  · cases q
  · rcases set_cases h2 with ⟨rfl, q', hi⟩ | ⟨hj', q'⟩
    · cases q'
    · exact r.dj j k t u d1 d2 p q q' h3 h4, fun j d p h1 h2 => by
  rcases set_cases h1 with ⟨rfl, q, hi⟩ | ⟨hj, q⟩
  · cases q
  · exact r.pn j d p q h2⟩
def clr : List Nat → Env → Env
  | [], ρ => ρ
  | i :: l, ρ => clr l (ρ.set i none)
theorem Rl.clr (r : Rl K B σ H ρ F) : ∀ l : List Nat, Rl K B σ H (Du.clr l ρ) F := fun l => by
  induction l generalizing ρ with
  | nil => exact r
  | cons i l ih => exact ih (r.drop i)
def setS (ρ : Env) : List (Nat × D) → Env
  | [] => ρ
  | p :: ps => setS (ρ.set p.1 (some (.frz p.2))) ps
theorem Rl.setAll : ∀ {bs : List (Nat × V)} {as : List (Nat × D)} {σ : St} {ρ : Env}, Rl K B σ H ρ F → As K F bs as → Rl K B (Du.setAll σ bs) H (setS ρ as) F
  | _, _, _, _, h, .nil => h
  | _, _, σ, ρ, h, .cons (a := a) (b := b) x y => Rl.setAll (σ := σ.set a.1 (some a.2)) (ρ := ρ.set b.1 (some (.frz b.2))) (by
      rw [x.1]
      exact h.set x.2) y
/-- a new thing of one's own -/
theorem Rl.setOwn (r : Rl K B σ H ρ F) {i : Nat} {p : Addr} {d : D} (h : Ow K F H p d) (fp : F p = none) (bp : B.b p = none) (np : ∀ (j : Nat) (t : Bool) (e : D), ρ[j]? = some (some (.own t e)) → σ[j]? = some (some (.ref p)) → j = i) : Rl K B (σ.set i (some (.ref p))) H (ρ.set i (some (.own false d))) F := ⟨r.fh, r.bh, r.zf, by rw [List.length_set, List.length_set, r.len], fun j e he => by
  rcases set_cases he with ⟨rfl, q, hi⟩ | ⟨hj, q⟩
  · cases q
  · obtain ⟨w, h1, h2⟩ := r.fz j e q
    exact ⟨w, by rw [List.getElem?_set_ne hj]; exact h1, h2⟩, fun j t e he => by
  rcases set_cases he with ⟨rfl, q, hi⟩ | ⟨hj, q⟩
  · cases q
    exact ⟨p, by rw [List.getElem?_set, if_pos rfl, if_pos (by rw [r.len]; exact hi)], fp, bp, h⟩
  · obtain ⟨p', q1, q2, q3, q4⟩ := r.ow j _ e q
    exact ⟨p', by rw [List.getElem?_set_ne hj]; exact q1, q2, q3, q4⟩, fun j k t u d1 d2 p' h1 h2 h3 h4 => by
  rcases set_cases h1 with ⟨rfl, q, hi⟩ | ⟨hj, q⟩
  · rcases set_cases h2 with ⟨rfl, q', hi'⟩ | ⟨hk, q'⟩
    · rfl
    · rw [List.getElem?_set, if_pos rfl, if_pos (by rw [r.len]; exact hi)] at h3
      cases h3
      rw [List.getElem?_set_ne hk] at h4
      exact absurd (np k _ _ q' h4).symm hk
  · rcases set_cases h2 with ⟨rfl, q', hi'⟩ | ⟨hk, q'⟩
    · rw [List.getElem?_set, if_pos rfl, if_pos (by rw [r.len]; exact hi')] at h4
      cases h4
      rw [List.getElem?_set_ne hj] at h3
      exact absurd (np j _ _ q h3).symm hj
    · rw [List.getElem?_set_ne hj] at h3
      rw [List.getElem?_set_ne hk] at h4
      exact r.dj j k t u d1 d2 p' q q' h3 h4, fun j e p' h1 h2 => by
  rcases set_cases h1 with ⟨rfl, q, hi⟩ | ⟨hj, q⟩
  · cases q
  · rw [List.getElem?_set_ne hj] at h2
    exact r.pn j e p' q h2⟩
/-- an own thing is changed -/
theorem Rl.write (r : Rl K B σ H ρ F) {i : Nat} {t : Bool} {p : Addr} {d d' : D} {o : HO} (hi : ρ[i]? = some (some (.own t d))) (hp : σ[i]? = some (some (.ref p))) (h : Ow K F (upd H p o) p d') : Rl K B σ (upd H p o) (ρ.set i (some (.own t d'))) F := by
  obtain ⟨p', q1, q2, q3, q4⟩ := r.ow i _ d hi
  rw [hp] at q1
  cases q1
  refine ⟨fun a u e => ?_, fun a u e => ?_, r.zf, by rw [List.length_set, r.len], fun j e he => ?_, fun j t2 e he => ?_, fun j k t1 t2 d1 d2 p' h1 h2 h3 h4 => ?_, fun j e p' h1 h2 => ?_⟩
  · rw [upd_ne fun z => by rw [z, q2] at e; cases e]
    exact r.fh _ _ e
  · rw [upd_ne fun z => by rw [z, q3] at e; cases e]
    exact r.bh _ _ e
  · rcases set_cases he with ⟨rfl, q, _⟩ | ⟨hj, q⟩
    · cases q
    · exact r.fz j e q
  · rcases set_cases he with ⟨rfl, q, _⟩ | ⟨hj, q⟩
    · cases q
      exact ⟨p, hp, q2, q3, h⟩
    · obtain ⟨p', w1, w2, w3, w4⟩ := r.ow j _ e q
      refine ⟨p', w1, w2, w3, w4.mono (.refl _) fun u hu => ?_⟩
      rw [upd_ne fun z => hj (by
        subst z
        exact r.dj i j _ _ _ _ _ hi q hp w1)]
      exact hu
  · rcases set_cases h1 with ⟨rfl, q, _⟩ | ⟨hj, q⟩
    · rcases set_cases h2 with ⟨rfl, q', _⟩ | ⟨hk, q'⟩
      · rfl
      · exact r.dj _ k _ _ _ _ p' hi q' h3 h4
    · rcases set_cases h2 with ⟨rfl, q', _⟩ | ⟨hk, q'⟩
      · exact r.dj j _ _ _ _ _ p' q hi h3 h4
      · exact r.dj j k _ _ _ _ p' q q' h3 h4
  · rcases set_cases h1 with ⟨rfl, q, _⟩ | ⟨hj, q⟩
    · cases q
      exact r.pn _ _ _ hi h2
    · exact r.pn j e p' q h2
/-! ### small statements, blocks -/
def sPass : Env → Out := fun ρ => .nx ρ
def sBreak : Env → Out := fun ρ => .bk ρ
def sCont : Env → Out := fun ρ => .ct ρ
def sSeq (g h : Env → Out) : Env → Out := fun ρ => match g ρ with
  | .nx ρ' => h ρ'
  | o => o
theorem fss_nil : FSs K xm X [] sPass := PSs.to pss_nil fun Dn σ H ⟨B, ρ, F, r, k⟩ => k σ H F r
theorem fss_one {st : Stmt} {g : Env → Out} (h : FS K xm X st g) : FSs K xm X [st] g := pss_one h
theorem fss_cons {st : Stmt} {rest : List Stmt} {g h : Env → Out} (h1 : FS K xm X st g) (h2 : FSs K xm X rest h) : FSs K xm X (st :: rest) (sSeq g h) :=
  PSs.to (pss_cons h1 h2) fun Dn σ H ⟨B, ρ, F, r, k⟩ => ⟨B, ρ, F, r, by
    unfold sSeq at k
    cases e : g ρ with
    | nx ρ' =>
      rw [e] at k
      exact fun σ' H' F' r' => ⟨B, ρ', F', r', k⟩
    | bk ρ' => rw [e] at k; exact k
    | ct ρ' => rw [e] at k; exact k
    | rt d ρ' => rw [e] at k; exact k
    | ro d ρ' => rw [e] at k; exact k
    | ex x ρ' =>
      rw [e] at k
      cases xm with
      | none => exact k
      | some m => exact k
    | bad => rw [e] at k; exact k⟩
/-- x = e, a, b = e -/
def sAsg (L : List Nat) (f : VEnv → Res D) (tg : Tgt) : Env → Out := fun ρ => eAt L f ρ fun d => match tg d with
  | .ok as => .nx (setS (aft L d ρ) as)
  | _ => .bad
theorem fs_asg {tg e : Expr} {L : List Nat} {f : VEnv → Res D} {g : Tgt} {pos : Pos} (he : FE K xm X e f) (hg : FG K X tg g) (hs : swapsWithSole [tg] e pos.line X.env = pure false := by rfl) (hw : swappedStores [tg] e X.env = pure none := by rfl)
    (h1 : (assignEach [tg] X.env).map (·.2) = [assign tg X.env] := by rfl) : FS K xm X (.Assign [tg] e pos) (sAsg L f g) :=
  PS.to (ps_asg he hg hs hw h1) fun Dn σ H ⟨B, ρ, F, r, k⟩ => tF.at r k fun d v H' F' _ r' dv _ _ k' => by
    cases e : g d with
    | ok as =>
      rw [e] at k'
      exact ⟨F', d, as, r'.fh, dv, e, fun bs hb => k' _ _ _ (r'.setAll hb)⟩
    | exc x => rw [e] at k'; exact k'.elim
    | bad => rw [e] at k'; exact k'.elim
/-- e as a statement -/
def sExpr (L : List Nat) (f : VEnv → Res D) : Env → Out := fun ρ => eAt L f ρ fun d => .nx (aft L d ρ)
theorem fs_expr {e : Expr} {L : List Nat} {f : VEnv → Res D} {pos : Pos} (he : FE K xm X e f) (hs : swapsWith e none pos.line X.env = pure false := by rfl) : FS K xm X (.Expr e pos) (sExpr L f) :=
  PS.to (ps_expr he hs) fun Dn σ H ⟨B, ρ, F, r, k⟩ => tF.at r k fun d v H' F' _ r' dv _ _ k' => k' _ _ _ r'
def sRet (L : List Nat) (f : VEnv → Res D) : Env → Out := fun ρ => eAt L f ρ fun d => .rt d (aft L d ρ)
theorem fs_ret {e : Expr} {L : List Nat} {f : VEnv → Res D} {pos : Pos} (he : FE K xm X e f) : FS K xm X (.Return (some e) pos) (sRet L f) :=
  PS.to (ps_ret he) fun Dn σ H ⟨B, ρ, F, r, k⟩ => tF.at r k fun d v H' F' _ r' dv _ _ k' => k' _ _ _ _ r' dv
def sRetN : Env → Out := fun ρ => .rt .non ρ
def sIf (L : List Nat) (c : VEnv → Res Bool) (g h : Env → Out) : Env → Out := fun ρ => eAt L c ρ fun b => if b = true then g ρ else h ρ
theorem fs_if {c : Expr} {a b : List Stmt} {L : List Nat} {fc : VEnv → Res Bool} {g h : Env → Out} {pos : Pos} (hc : FT K xm X c fc) (ha : FSs K xm X a g) (hb : FSs K xm X b h) : FS K xm X (.If c a b pos) (sIf L fc g h) :=
  PS.to (ps_if hc ha hb) fun Dn σ H ⟨B, ρ, F, r, k⟩ => bF.at r k fun b H' F' _ r' k' => by
    cases b with
    | true => exact iteT ⟨B, ρ, F', r', by rwa [if_pos rfl] at k'⟩
    | false => exact iteF ⟨B, ρ, F', r', by rwa [if_neg Bool.false_ne_true] at k'⟩
/-! ### while -/
def loopO (k : Env → Out) : Out → Out
  | .nx ρ => k ρ
  | .ct ρ => k ρ
  | .bk ρ => .nx ρ
  | o => o
def whileN (L : List Nat) (c : VEnv → Res Bool) (g : Env → Out) : Nat → Env → Out
  | 0, _ => .bad
  | n + 1, ρ => eAt L c ρ fun b => if b = true then loopO (whileN L c g n) (g ρ) else .nx ρ
theorem whileN_mono (L : List Nat) (c : VEnv → Res Bool) (g : Env → Out) : ∀ (n : Nat) (ρ : Env), whileN L c g n ρ ≠ .bad → whileN L c g (n + 1) ρ = whileN L c g n ρ
  | 0, ρ, h => absurd rfl h
  | n + 1, ρ, h => by
    have ih := whileN_mono L c g n
    unfold whileN at h ⊢
    unfold eAt at h ⊢
    cases e : c (Du.view L ρ) with
    | ok b =>
      rw [e] at h
      dsimp only at h ⊢
      cases b with
      | true =>
        rw [if_pos rfl] at h ⊢
        rw [if_pos rfl]
        cases e2 : g ρ with
        | nx ρ' => rw [e2] at h; exact ih ρ' h
        | ct ρ' => rw [e2] at h; exact ih ρ' h
        | bk ρ' => rfl
        | rt d ρ' => rfl
        | ro d ρ' => rfl
        | ex x ρ' => rfl
        | bad => rfl
      | false => rfl
    | exc x => rfl
    | bad => rfl
theorem whileN_le (L : List Nat) (c : VEnv → Res Bool) (g : Env → Out) (n m : Nat) (ρ : Env) (h : whileN L c g n ρ ≠ .bad) (le : n ≤ m) : whileN L c g m ρ = whileN L c g n ρ := by
  induction m with
  | zero => rw [show n = 0 by omega]
  | succ m ih =>
    by_cases e : n = m + 1
    · rw [e]
    · have := ih (by omega)
      rw [whileN_mono L c g m ρ (by rw [this]; exact h), this]
open Classical in
noncomputable def sWhile (L : List Nat) (c : VEnv → Res Bool) (g : Env → Out) : Env → Out := fun ρ => if h : ∃ n, whileN L c g n ρ ≠ .bad then whileN L c g h.choose ρ else .bad
theorem sWhile_of {L : List Nat} {c : VEnv → Res Bool} {g : Env → Out} {n : Nat} {ρ : Env} (h : whileN L c g n ρ ≠ .bad) : sWhile L c g ρ = whileN L c g n ρ := by
  unfold sWhile
  have ex : ∃ n, whileN L c g n ρ ≠ .bad := ⟨n, h⟩
  rw [dif_pos ex]
  have q := ex.choose_spec
  rcases Nat.le_total n ex.choose with l | l
  · exact whileN_le L c g n _ ρ h l
  · exact (whileN_le L c g _ n ρ q l).symm
theorem sWhile_eq (L : List Nat) (c : VEnv → Res Bool) (g : Env → Out) (ρ : Env) : sWhile L c g ρ = eAt L c ρ fun b => if b = true then loopO (sWhile L c g) (g ρ) else .nx ρ := by
  have key : ∀ o : Out, o ≠ .bad → (sWhile L c g ρ = o ↔ (eAt L c ρ fun b => if b = true then loopO (sWhile L c g) (g ρ) else .nx ρ) = o) := fun o ho => by
    constructor
    · intro h
      have ex : ∃ n, whileN L c g n ρ ≠ .bad := by
        apply Classical.byContradiction
        intro q
        unfold sWhile at h
        rw [dif_neg q] at h
        exact ho h.symm
      obtain ⟨n, hn⟩ := ex
      rw [sWhile_of hn] at h
      cases n with
      | zero => exact absurd rfl hn
      | succ n =>
        unfold whileN at h hn
        unfold eAt at h hn ⊢
        cases e : c (Du.view L ρ) with
        | ok b =>
          rw [e] at h hn
          dsimp only at h hn ⊢
          cases b with
          | true =>
            rw [if_pos rfl] at h hn ⊢
            cases e2 : g ρ with
            | nx ρ' =>
              rw [e2] at h hn
              exact (sWhile_of hn).trans h
            | ct ρ' =>
              rw [e2] at h hn
              exact (sWhile_of hn).trans h
            | bk ρ' => rw [e2] at h; exact h
            | rt d ρ' => rw [e2] at h; exact h
            | ro d ρ' => rw [e2] at h; exact h
            | ex x ρ' => rw [e2] at h; exact h
            | bad => rw [e2] at h; exact h
          | false => exact h
        | exc x => rw [e] at h; exact h
        | bad => rw [e] at h; exact h
    · intro h
      have nb : ∀ ρ', sWhile L c g ρ' ≠ .bad → ∃ n, whileN L c g n ρ' ≠ .bad ∧ sWhile L c g ρ' = whileN L c g n ρ' := fun ρ' hb => by
        have ex : ∃ n, whileN L c g n ρ' ≠ .bad := by
          apply Classical.byContradiction
          intro q
          unfold sWhile at hb
          rw [dif_neg q] at hb
          exact hb rfl
        obtain ⟨n, hn⟩ := ex
        exact ⟨n, hn, sWhile_of hn⟩
      have ex : ∃ n, whileN L c g n ρ = o := by
        unfold eAt at h
        cases e : c (Du.view L ρ) with
        | ok b =>
          rw [e] at h
          dsimp only at h
          cases b with
          | true =>
            rw [if_pos rfl] at h
            have step : ∀ n, whileN L c g (n + 1) ρ = loopO (whileN L c g n) (g ρ) := fun n => by
              rw [whileN]
              unfold eAt
              rw [e]
              rfl
            cases e2 : g ρ with
            | nx ρ' =>
              rw [e2] at h
              obtain ⟨n, h1, h2⟩ := nb ρ' (by rw [show sWhile L c g ρ' = o from h]; exact ho)
              exact ⟨n + 1, by rw [step, e2]; exact h2.symm.trans h⟩
            | ct ρ' =>
              rw [e2] at h
              obtain ⟨n, h1, h2⟩ := nb ρ' (by rw [show sWhile L c g ρ' = o from h]; exact ho)
              exact ⟨n + 1, by rw [step, e2]; exact h2.symm.trans h⟩
            | bk ρ' => rw [e2] at h; exact ⟨1, by rw [step, e2]; exact h⟩
            | rt d ρ' => rw [e2] at h; exact ⟨1, by rw [step, e2]; exact h⟩
            | ro d ρ' => rw [e2] at h; exact ⟨1, by rw [step, e2]; exact h⟩
            | ex x ρ' => rw [e2] at h; exact ⟨1, by rw [step, e2]; exact h⟩
            | bad => rw [e2] at h; exact ⟨1, by rw [step, e2]; exact h⟩
          | false => exact ⟨1, by rw [whileN]; unfold eAt; rw [e]; exact h⟩
        | exc x => rw [e] at h; exact ⟨1, by rw [whileN]; unfold eAt; rw [e]; exact h⟩
        | bad => rw [e] at h; exact absurd h.symm ho
      obtain ⟨n, hn⟩ := ex
      rw [sWhile_of (n := n) (by rw [hn]; exact ho), hn]
  by_cases h : sWhile L c g ρ = .bad
  · by_cases h2 : (eAt L c ρ fun b => if b = true then loopO (sWhile L c g) (g ρ) else .nx ρ) = .bad
    · rw [h, h2]
    · exact ((key _ h2).mpr rfl)
  · exact ((key _ h).mp rfl).symm
theorem fs_while {c : Expr} {body : List Stmt} {L : List Nat} {fc : VEnv → Res Bool} {g : Env → Out} {pos : Pos} (hp : PassesOwn (model X.prog X.w) X.A X.env X.xe) (hc : FT K xm X c fc) (hb : FSs K xm X body g) : FS K xm X (.While c body [] pos) (sWhile L fc g) :=
  PS.to (ps_while hp hc hb) fun Dn σ H ⟨B, ρ, F, r, k⟩ => by
    have ex : ∃ n, whileN L fc g n ρ ≠ .bad := by
      apply Classical.byContradiction
      intro q
      unfold sWhile at k
      rw [dif_neg q] at k
      exact k
    obtain ⟨n, hn⟩ := ex
    rw [sWhile_of hn] at k
    refine ⟨fun m σ H => ∃ ρ F, Rl K B σ H ρ F ∧ So K xm B Dn (whileN L fc g m ρ), ⟨n, ρ, F, r, k⟩, ?_⟩
    rintro m σ H ⟨ρ, F, r, k⟩
    cases m with
    | zero => exact k.elim
    | succ m =>
      unfold whileN at k
      refine bF.at r k fun b H' F' _ r' k' => ?_
      cases b with
      | false => exact iteF (by rw [if_neg Bool.false_ne_true] at k'; exact k' _ _ _ r')
      | true =>
        rw [if_pos rfl] at k'
        refine iteT ⟨fun σ H => ∃ ρ F, Rl K B σ H ρ F ∧ So K xm B Dn (whileN L fc g m ρ), fun σ' H' q => ⟨m, Nat.lt_succ_self m, q⟩, B, ρ, F', r', ?_⟩
        cases e : g ρ with
        | nx ρ' => rw [e] at k'; exact fun σ H F r => ⟨ρ', F, r, k'⟩
        | ct ρ' => rw [e] at k'; exact fun σ H F r => ⟨ρ', F, r, k'⟩
        | bk ρ' => rw [e] at k'; exact k'
        | rt d ρ' => rw [e] at k'; exact k'
        | ro d ρ' => rw [e] at k'; exact k'
        | ex x ρ' =>
          rw [e] at k'
          cases xm with
          | none => exact k'
          | some m => exact k'
        | bad => rw [e] at k'; exact k'
/-! ### for -/
def forL (tg : Tgt) (g : Env → Out) (l : List Nat) : List D → Env → Out
  | [], ρ => .nx ρ
  | d :: ds, ρ => match tg d with
    | .ok as => loopO (fun ρ' => forL tg g l ds (clr l ρ')) (g (setS ρ as))
    | _ => .bad
def sFor (L : List Nat) (it : VEnv → Res (List D)) (tg : Tgt) (g : Env → Out) (l : List Nat) : Env → Out := fun ρ => eAt L it ρ fun ds => forL tg g l ds (shut L ρ)
theorem for_loop {gt : Tgt} {g : Env → Out} {l : List Nat} {tb : TS} {J : It} {ds : List D} (ht : tb = sF K xm g) (r : Rl K B σ H ρ F) (y : Yl K F J ds) (k : So K xm B Dn (forL gt g l ds ρ)) :
    ∃ W : Nat → Nat → St → Hp → Prop, (∃ m, W 0 m σ H) ∧ ∀ i m σ H, W i m σ H →
      (J.stop i H ∧ Dn.nx σ H) ∨ (J.go i H ∧ ∃ N : St → Hp → Prop, (∀ σ' H', N σ' H' → ∃ m', m' < m ∧ W (i + 1) m' σ' H') ∧ ∀ x H', J.yld i H x H' → gF K gt x σ H' fun σ2 H2 => tb { Dn with nx := N, ct := N, bk := Dn.nx } σ2 H2) := by
  subst ht
  obtain ⟨B1, sB, sF1, sF2, r1⟩ := r.base
  let St' : Nat → St → Hp → Prop := fun i σ2 H2 => ∃ ρ2 F2, Rl K B1 σ2 H2 ρ2 F2 ∧ So K xm B Dn (forL gt g l (ds.drop i) ρ2)
  refine ⟨fun i m σ2 H2 => m = ds.length - i ∧ i ≤ ds.length ∧ St' i σ2 H2, ⟨ds.length, by simp, Nat.zero_le _, ρ, F, r1, k⟩, ?_⟩
  rintro i m σ2 H2 ⟨rfl, hi, ρ2, F2, r2, k2⟩
  -- what was told of at the start is told of now
  obtain ⟨F3, s23, s13, r3⟩ : ∃ F3, Same F2 F3 ∧ Same F F3 ∧ Rl K B1 σ2 H2 ρ2 F3 := by
    have sFH : Same F H2 := sF1.trans r2.bh
    refine ⟨both F2 F, both_l, both_r r2.fh sFH, both_in r2.fh sFH, r2.bh, fun a o u e1 e2 => ?_, r2.len, fun j d e => ?_, fun j t d e => ?_, r2.dj, r2.pn⟩
    · rcases both_cases e2 with z | z
      · exact r2.zf _ _ _ e1 z
      · exact ⟨_, sF2 _ _ z⟩
    · obtain ⟨v, q1, q2⟩ := r2.fz j d e
      exact ⟨v, q1, q2.same both_l⟩
    · obtain ⟨p, q1, q2, q3, q4⟩ := r2.ow j _ d e
      exact ⟨p, q1, both_none q2 (sF1.free q3), q3, q4.mono both_l fun _ h => h⟩
  by_cases hlt : i < ds.length
  · refine .inr ⟨y.go i H2 hlt (s13.trans r3.fh), St' (i + 1), fun σ' H' p' => ⟨ds.length - (i + 1), by omega, rfl, hlt, p'⟩, fun x H3 yx => ?_⟩
    obtain ⟨F4, g4, dx⟩ := y.yld i ds[i] F3 H2 x H3 (List.getElem?_eq_getElem hlt) s13 r3.fh yx
    rw [List.drop_eq_getElem_cons hlt] at k2
    unfold forL at k2
    cases e1 : gt ds[i] with
    | exc x => rw [e1] at k2; exact k2.elim
    | bad => rw [e1] at k2; exact k2.elim
    | ok as =>
      rw [e1] at k2
      have k2 : So K xm B Dn (loopO (fun ρ' => forL gt g l (ds.drop (i + 1)) (clr l ρ')) (g (setS ρ2 as))) := k2
      have r4 := r3.grow g4
      refine ⟨F4, ds[i], as, r4.fh, dx, e1, fun bs hb => ⟨B1, setS ρ2 as, F4, r4.setAll hb, ?_⟩⟩
      cases e2 : g (setS ρ2 as) with
      | nx ρ' => rw [e2] at k2; exact fun σ H F r => ⟨_, F, r.clr l, k2⟩
      | ct ρ' => rw [e2] at k2; exact fun σ H F r => ⟨_, F, r.clr l, k2⟩
      | bk ρ' => rw [e2] at k2; exact fun σ H F r => k2 σ H F (r.unbase sB)
      | rt d ρ' => rw [e2] at k2; exact fun v σ H F r => k2 v σ H F (r.unbase sB)
      | ro d ρ' => rw [e2] at k2; exact fun p σ H F r f b => k2 p σ H F (r.unbase sB) f (sB.b.free b)
      | ex x ρ' =>
        rw [e2] at k2
        exact So.weak (o := .ex x ρ') (by cases xm with
          | none => exact k2
          | some m => exact k2) sB
      | bad => rw [e2] at k2; exact k2
  · have e : i = ds.length := by omega
    subst e
    rw [List.drop_length] at k2
    exact .inl ⟨y.stop H2 (s13.trans r3.fh), k2 _ _ _ (r2.unbase sB)⟩
theorem fs_for {tg iter : Expr} {body : List Stmt} {L : List Nat} {it : VEnv → Res (List D)} {gt : Tgt} {g : Env → Out} {pos : Pos} (l : List Nat) (hp : PassesOwn (model X.prog X.w) X.A X.env X.xe) (hi : FI K xm X tg iter it) (hg : FG K X tg gt) (hb : FSs K xm X body g) (hc : X.calm = true := by rfl)
    (hs : ∀ x, foldedSetIterable iter X.env x = pure x := by intro _; rfl) : FS K xm X (.For tg iter body [] pos) (sFor L it gt g l) :=
  PS.to (ps_for hp hc hi hg hb hs) fun Dn σ H ⟨B, ρ, F, r, k⟩ => by
    refine ⟨_, _, r.lend_fh L, r.view L, ?_⟩
    unfold sFor eAt at k
    cases e : it (view L ρ) with
    | ok ds =>
      rw [e] at k
      intro J F' H' g y
      exact for_loop rfl (r.shutted g) y k
    | exc x => rw [e] at k; exact exc_at r k
    | bad => rw [e] at k; exact k.elim
end
end Du

namespace Du
open PySem PySem.Spec PyProof.Rows L2
section
variable {K : PySem.W.Frag} {xm : XMo} {X : Cx} {B : Bs} {F H : Hp} {σ : St} {ρ : Env} {Dn : Ends}
/-! ### expressions that make a new list, a new dict: the def's own -/
def PoW (K : PySem.W.Frag) (xm : XMo) (σ : St) (F H : Hp) (r : Res D) (Q : VK) : Prop := match r with
  | .ok d => ∀ p F' H', Gr F H F' H' → H p = none → F' p = none → Ow K F' H' p d → Q (.ref p) H'
  | .exc x => Xw K xm σ F H x
  | .bad => False
def tW (K : PySem.W.Frag) (xm : XMo) (f : VEnv → Res D) : TE := fun σ H Q => ∃ F ρ, Same F H ∧ Vw K F σ ρ ∧ PoW K xm σ F H (f ρ) Q
abbrev FW' (K : PySem.W.Frag) (xm : XMo) (X : Cx) (e : Expr) (f : VEnv → Res D) : Prop := PE X e (tW K xm f)
theorem PoW.mono {F1 H1 : Hp} {r : Res D} {Q : VK} (h : PoW K xm σ F H r Q) (g : Gr F H F1 H1) : PoW K xm σ F1 H1 r Q := by
  cases r with
  | ok a => exact fun p F' H' g' hp => h p F' H' (g.trans g') (g.hh.free hp)
  | exc x => exact Xw.mono h g
  | bad => exact h
theorem PoW.seq {α ω : Type} {R : Hp → ω → α → Prop} {r : Res α} {f : α → Res D} {Q : VK} {W : ω → Hp → Prop} (k : PoW K xm σ F H (r.bind f) Q) (n : ∀ a w F1 H1, Gr F H F1 H1 → R F1 w a → PoW K xm σ F1 H1 (f a) Q → W w H1) : Po R K xm σ F H r W := by
  cases r with
  | ok a => exact fun w F1 H1 g d => n a w F1 H1 g d (PoW.mono k g)
  | exc x => exact k
  | bad => exact k
theorem PoW.ite {b : Bool} {r : Res D} {Q : VK} (k : PoW K xm σ F H (if b = true then r else .bad) Q) : b = true ∧ PoW K xm σ F H r Q := by
  cases b with
  | true => exact ⟨rfl, by rwa [if_pos rfl] at k⟩
  | false =>
    rw [if_neg Bool.false_ne_true] at k
    exact k.elim
theorem PoW.new {d : D} {Q : VK} {p : Addr} {o : HO} (k : PoW K xm σ F H (.ok d) Q) (s : Same F H) (hp : H p = none) (h : Ow K F (upd H p o) p d) : Q (.ref p) (upd H p o) := k p F _ (.hid s hp) hp (s.free hp) h
theorem fw_lst {es : List Expr} {pos : Pos} {f : VEnv → Res (List D)} (h : FA K xm X es f) : FW' K xm X (.List es pos) (eLst f) :=
  PE.to (pe_lst h) fun σ H Q ⟨F, ρ, sF, vw, k⟩ => ⟨F, ρ, sF, vw, PoW.seq k fun a xs F1 H1 g1 d1 k1 => by
    obtain ⟨f, k1⟩ := PoW.ite k1
    exact ⟨by rw [d1.length]; exact Nat.le_of_lt (fit_line f), fun p hp => k1.new g1.fh hp ⟨xs, upd_same, d1⟩⟩⟩
theorem fw_dct0 {pos : Pos} : FW' K xm X (.Dict [] [] pos) eDct0 := PE.to pe_dnewK fun σ H Q ⟨F, ρ, sF, vw, k⟩ p hp => PoW.new k sF hp ⟨[], upd_same, .nil, rfl⟩
def dCat : D → D → Res D
  | .lst a, .lst b => if fit (a.length + b.length) = true then .ok (.lst (a ++ b)) else .bad
  | _, _ => .bad
/-! ### x = e, e new -/
def immO : D → Bool
  | .lst ds => imms ds
  | .dct _ ds => imms (ds.map (·.2))
  | _ => false
def aftO (L : List Nat) (d : D) (ρ : Env) : Env := if immO d = true then ρ else shut L ρ
theorem Ow.tups {F' : Hp} {p : Addr} {d : D} (s : Tups F F') (i : immO d = true) (h : Ow K F H p d) : Ow K F' H p d := by
  unfold Ow at h ⊢
  split at h
  · obtain ⟨xs, h1, h2⟩ := h
    exact ⟨xs, h1, DtAll.tups s i h2⟩
  · obtain ⟨kvs, h1, h2, h3⟩ := h
    exact ⟨kvs, h1, DtAll.tups s i h2, h3⟩
  · obtain ⟨kvs, h1, h2, h3⟩ := h
    exact ⟨kvs, h1, DtAll.tups s i h2, h3⟩
  · exact h.elim
theorem Rl.aftO (r : Rl K B σ H ρ F) {L : List Nat} {F' H' : Hp} (g : Gr (lend σ ρ L F H) H F' H') {p : Addr} {d : D} (fp : F' p = none) (h : Ow K F' H' p d) : ∃ F2, Rl K B σ H' (aftO L d ρ) F2 ∧ Ow K F2 H' p d ∧ F2 p = none := by
  unfold Du.aftO
  by_cases i : immO d = true
  · rw [if_pos i]
    refine ⟨_, r.back g, Ow.tups (r.back_dts g) i h, ?_⟩
    unfold unlend
    split
    · rfl
    · exact fp
  · rw [if_neg i]
    exact ⟨_, r.shutted g, h, fp⟩
theorem aftO_own {L : List Nat} {d e : D} {t : Bool} {i : Nat} (h : (aftO L d ρ)[i]? = some (some (.own t e))) : ρ[i]? = some (some (.own t e)) := by
  unfold aftO at h
  split at h
  · exact h
  · rw [shut_get] at h
    obtain ⟨s, h1, h2⟩ := Option.map_eq_some_iff.mp h
    cases s with
    | none => cases h2
    | some s =>
      cases s with
      | frz e => cases h2
      | own t e =>
        unfold shutS at h2
        dsimp only at h2
        by_cases c : L.contains i = true
        · rw [if_pos c] at h2; cases h2
        · rw [if_neg c] at h2
          cases h2
          exact h1
theorem tW.at {L : List Nat} {f : VEnv → Res D} {k : D → Out} {Q : VK} (r : Rl K B σ H ρ F) (h : So K xm B Dn (eAt L f ρ k)) (n : ∀ d p H' F', H p = none → Rl K B σ H' (aftO L d ρ) F' → Ow K F' H' p d → F' p = none → So K xm B Dn (k d) → Q (.ref p) H') : tW K xm f σ H Q := by
  refine ⟨_, _, r.lend_fh L, r.view L, ?_⟩
  unfold eAt at h
  cases e : f (view L ρ) with
  | ok d =>
    rw [e] at h
    intro p F' H' g hp fp ow
    obtain ⟨F2, r2, h2, h3⟩ := r.aftO g fp ow
    exact n d p H' F2 hp r2 h2 h3 h
  | exc x =>
    rw [e] at h
    exact exc_at r h
  | bad => rw [e] at h; exact h.elim
def sOwn (i : Nat) (L : List Nat) (f : VEnv → Res D) : Env → Out := fun ρ => eAt L f ρ fun d => .nx ((aftO L d ρ).set i (some (.own false d)))
theorem own_set {L : List Nat} {d : D} {p : Addr} {F' H' : Hp} {i : Nat} (r0 : Rl K B σ H ρ F) (hp : H p = none) (r : Rl K B σ H' (aftO L d ρ) F') (ow : Ow K F' H' p d) (fp : F' p = none) : Rl K B (σ.set i (some (.ref p))) H' ((aftO L d ρ).set i (some (.own false d))) F' := by
  refine r.setOwn ow fp (r0.bh.free hp) fun j t e h1 h2 => ?_
  have h3 := aftO_own h1
  obtain ⟨p', q1, q2, q3, q4⟩ := r0.ow j _ e h3
  rw [h2] at q1
  cases q1
  obtain ⟨o, ho⟩ := q4.some
  rw [hp] at ho
  cases ho
theorem fs_own {x : Str} {e : Expr} {L : List Nat} {f : VEnv → Res D} {p1 pos : Pos} (i : Nat) (he : FW' K xm X e f) (hN : X.N.Nodup) (hi : X.N[i]? = some x := by rfl) (hx : Loc X.env.scope x := by first | exact Or.inl rfl | exact Or.inr rfl) (hf : X.fn x = true ∨ X.env.scope.names.lookup x = some .local := by first | exact .inl rfl | exact .inr rfl)
    (hs : swapsWithSole [.Name x p1] e pos.line X.env = pure false := by rfl) (hw : swappedStores [.Name x p1] e X.env = pure none := by rfl) (h1 : (assignEach [.Name x p1] X.env).map (·.2) = [assign (.Name x p1) X.env] := by rfl) : FS K xm X (.Assign [.Name x p1] e pos) (sOwn i L f) :=
  PS.to (ps_asg he (pg_name hN hi hx hf) hs hw h1) fun Dn σ H ⟨B, ρ, F, r, k⟩ => tW.at r k fun d p H' F' hp r' ow fp k' => k' _ _ _ (own_set r hp r' ow fp)
/-- return e, e new -/
def sRetO (L : List Nat) (f : VEnv → Res D) : Env → Out := fun ρ => eAt L f ρ fun d => .ro d (aftO L d ρ)
/-- return x, x an own one -/
def sRetS (i : Nat) : Env → Out := fun ρ => match ρ[i]? with
  | some (some (.own _ d)) => .ro d (ρ.set i none)
  | _ => .bad
/-- x = [e for ..], on one line, x no cell -/
theorem fs_ownLc {y : Str} {py : Pos} {elt tg iter : Expr} {ifs : List Expr} {scope : Scope} {pos spos : Pos} {L : List Nat} {it : VEnv → Res (List D)} {g : Tgt} {c : VEnv → Res Bool} {f : VEnv → Res D} (i : Nat) (own : List (Str × Nat)) (hN : X.N.Nodup) (hi : FI K xm X tg iter it)
    (hg : ∀ (s : Shared) (H : Hp) (C : Addr) (cl : List (Str × Addr)) (fp : List Addr), FG K (X.blk s H scope (compEnvC scope cl C X.env) fp) tg g) (ht : ∀ (s : Shared) (H : Hp) (C : Addr) (cl : List (Str × Addr)) (fp : List Addr), FTs K (X.blk s H scope (compEnvC scope cl C X.env) fp) ifs c)
    (he : ∀ (s : Shared) (H : Hp) (C : Addr) (cl : List (Str × Addr)) (fp : List Addr), FE K none (X.blk s H scope (compEnvC scope cl C X.env) fp) elt f)
    (ok : BlkOk X.N X.env.scope scope own) (hsw : swapsWith (.ListComp elt [⟨tg, iter, ifs, 0⟩] scope pos) (some (.Name y py)) spos.line X.env = pure true) (hy : X.N[i]? = some y := by rfl) (hyl : X.env.scope.names.lookup y = some .local := by rfl) (hc : X.calm = true := by rfl) (hs : ∀ x, foldedSetIterable iter X.env x = pure x := by intro _; rfl) :
    FS K xm X (.Assign [.Name y py] (.ListComp elt [⟨tg, iter, ifs, 0⟩] scope pos) spos) (sOwn i L (eComp (own.map (·.2)) it g c f)) :=
  PS.to (ps_setLc (i := i) hc hN hy hyl hsw hi ok hg ht he hs) fun Dn σ H ⟨B, ρ, F, r, k⟩ => by
    have m : ∀ σ H Q, tW K xm (eComp (own.map (·.2)) it g c f) σ H Q → tLc (iF K xm it) (gF K g) (bF K none c) (tF K none f) (own.map (·.2)) σ H Q := fun σ H Q ⟨F, ρ, sF, vw, k⟩ => ⟨F, ρ, sF, vw, PoW.seq k fun ds J F1 H1 g1 y k1 p hp => by
      obtain ⟨hz, k2⟩ := PoW.ite k1
      cases e : compL g c f (wipeD ρ (own.map (·.2))) (own.map (·.2)) ds with
      | exc x => rw [e] at k2; exact k2.elim
      | bad => rw [e] at k2; exact k2.elim
      | ok es =>
        rw [e] at k2
        exact comp_loop g1.fh (vw.same g1.ff) y hp hz e fun F' H' acc g fp ep dd => k2 p F' H' g hp fp ⟨acc, ep, dd⟩⟩
    exact m _ _ _ (tW.at r k fun d p H' F' hp r' ow fp k' => k' _ _ _ (own_set r hp r' ow fp))
/-! ### methods that change an own list -/
def ownL (ρ : Env) (i : Nat) : Option (Bool × List D) := match ρ[i]? with
  | some (some (.own t (.lst ds))) => some (t, ds)
  | _ => none
theorem ownL_of {ρ : Env} {i : Nat} {t : Bool} {ds : List D} (h : ownL ρ i = some (t, ds)) : ρ[i]? = some (some (.own t (.lst ds))) := by
  unfold ownL at h
  split at h
  · rename_i e
    cases h
    exact e
  · cases h
def oNx (o : Option Env) : Out := match o with
  | some ρ => .nx ρ
  | none => .bad
/-- the own list at slot i becomes f of it -/
def chg (ρ : Env) (i : Nat) (f : List D → Option (List D)) : Out := match ownL ρ i with
  | some (t, ds) => match f ds with
    | some es => .nx (ρ.set i (some (.own t (.lst es))))
    | none => .bad
  | none => .bad
def sApp (i : Nat) (L : List Nat) (f : VEnv → Res D) : Env → Out := fun ρ => eAt L f ρ fun d => chg (aft L d ρ) i fun ds => if fit ds.length = true then some (ds ++ [d]) else none
theorem So.chgE {i : Nat} {f : List D → Option (List D)} (k : So K xm B Dn (chg ρ i f)) : ∃ t ds es, ρ[i]? = some (some (.own t (.lst ds))) ∧ f ds = some es ∧ So K xm B Dn (.nx (ρ.set i (some (.own t (.lst es))))) := by
  unfold chg at k
  cases e : ownL ρ i with
  | none => rw [e] at k; exact k.elim
  | some td =>
    obtain ⟨t, ds⟩ := td
    rw [e] at k
    dsimp only at k
    cases e2 : f ds with
    | none => rw [e2] at k; exact k.elim
    | some es => rw [e2] at k; exact ⟨t, ds, es, ownL_of e, e2, k⟩
/-- an own list at slot i, else nothing -/
def need (i : Nat) (g : Env → Out) : Env → Out := fun ρ => match ownL ρ i with
  | some _ => g ρ
  | none => .bad
theorem So.needE {i : Nat} {g : Env → Out} (k : So K xm B Dn (need i g ρ)) : (∃ t ds, ρ[i]? = some (some (.own t (.lst ds)))) ∧ So K xm B Dn (g ρ) := by
  unfold need at k
  cases e : ownL ρ i with
  | none => rw [e] at k; exact k.elim
  | some td => rw [e] at k; exact ⟨⟨td.1, td.2, ownL_of e⟩, k⟩
theorem Rl.ownAt (r : Rl K B σ H ρ F) {i : Nat} {t : Bool} {ds : List D} (h : ρ[i]? = some (some (.own t (.lst ds)))) : ∃ p xs, σ[i]? = some (some (.ref p)) ∧ H p = some (.lst xs) ∧ DtAll K F xs ds ∧ F p = none := by
  obtain ⟨p, q1, q2, q3, xs, q4, q5⟩ := r.ow i _ _ h
  exact ⟨p, xs, q1, q4, q5, q2⟩
theorem fs_app {x : Str} {e : Expr} {L : List Nat} {f : VEnv → Res D} {p1 apos cpos pos : Pos} (i : Nat) (he : FE K xm X e f) (hN : X.N[i]? = some x := by rfl) (hv : Vis X.env.scope x := by first | exact Or.inl rfl | exact Or.inr (Or.inl rfl) | exact Or.inr (Or.inr rfl)) (hd : (x == ("__debug__" : Str)) = false := by decide)
    (hcd : (x == ("__classdict__" : Str)) = false := by decide) (hbase : attributeBase (.Name x p1) "append" X.env (eval (.Name x p1) X.env) = eval (.Name x p1) X.env := by rfl)
    (hfew : ((backTo cpos (starEach [e] X.env)).all (fun x => !x.1) && (backToKw cpos (keywordEach [] X.env)).all (fun x => x.1.isSome) && decide (([e] : List Expr).length + ([] : List Keyword).length + (if ([] : List Keyword).isEmpty then 0 else 1) < 30)) = true := by rfl)
    (hline : (apos.endLine == cpos.line) = true := by rfl) (hs : starEach [e] X.env = (false, eval e X.env) :: starEach [] X.env := by rfl) (hplain : (backTo cpos (starEach [] X.env)).any (·.1) = false := by rfl)
    (hsw : swapsWith (.Call (.Attribute (.Name x p1) "append" apos) [e] [] cpos) none pos.line X.env = pure false := by rfl) : FS K xm X (.Expr (.Call (.Attribute (.Name x p1) "append" apos) [e] [] cpos) pos) (need i (sApp i L f)) :=
  PS.to (ps_expr (pe_bm PySem.F.plainAttrs_list PySem.F.slot_list_append PySem.F.type_list_append mt_append (pv i hN hv hd hcd) (pa_cons he pa_nil hs) hbase hfew hline hs hplain) hsw) fun Dn σ H ⟨B, ρ, F, r, k⟩ => by
    obtain ⟨⟨t, ds, hi⟩, k⟩ := k.needE
    obtain ⟨p, xs, q1, q2, q3, q4⟩ := r.ownAt hi
    refine ⟨.ref p, q1, .inl ⟨rfl, _, SqL.of q2⟩, tF.at r k fun d v H' F' _ r' dv ff hh k' => ?_⟩
    obtain ⟨t', ds', es, h1, h2, k2⟩ := k'.chgE
    obtain ⟨p', xs', w1, w2, w3, w4⟩ := r'.ownAt h1
    rw [q1] at w1
    cases w1
    by_cases f : fit ds'.length = true
    · rw [if_pos f] at h2
      cases h2
      refine ⟨p, xs', v, rfl, rfl, w2, by rw [w3.length]; exact fit_line f, k2 _ _ _ (r'.write h1 q1 ⟨_, upd_same, w3.app (.cons dv .nil)⟩)⟩
    · rw [if_neg f] at h2
      cases h2
end
end Du

namespace Du
open PySem PySem.Spec PyProof.Rows L2
section
variable {K : PySem.W.Frag} {xm : XMo} {X : Cx} {B : Bs} {F H : Hp} {σ : St} {ρ : Env} {Dn : Ends}
/-! ### x.extend(e) -/
def dLst : D → Res (List D)
  | .lst ds => .ok ds
  | _ => .bad
def eLs (f : VEnv → Res D) : VEnv → Res (List D) := fun ρ => (f ρ).bind dLst
def sExt (i : Nat) (L : List Nat) (f : VEnv → Res D) : Env → Out := fun ρ => eAt L (eLs f) ρ fun es => chg (aftL L es ρ) i fun ds => if fit (ds.length + es.length) = true then some (ds ++ es) else none
/-! ### x.clear(), y = x.pop() -/
def sClr (i : Nat) : Env → Out := fun ρ => chg ρ i fun _ => some []
def sPop (i : Nat) (tg : Tgt) : Env → Out := fun ρ => match ownL ρ i with
  | some (t, ds) => match ds[ds.length - 1]? with
    | some d => match tg d with
      | .ok as => .nx (setS (ρ.set i (some (.own t (.lst ds.dropLast)))) as)
      | _ => .bad
    | none => .bad
  | none => .bad
theorem DtAll.dropLast {F : Hp} {vs : List V} {ds : List D} (h : DtAll K F vs ds) : DtAll K F vs.dropLast ds.dropLast := by
  rw [List.dropLast_eq_take, List.dropLast_eq_take, h.length]
  exact h.take _
/-! ### x.insert(i, e) -/
def sIns (i : Nat) (L : List Nat) (f : VEnv → Res (List D)) : Env → Out := fun ρ => eAt L f ρ fun as => match as with
  | [.int n, d] => chg (aftL L as ρ) i fun ds => if (fit ds.length && decide (0 ≤ n ∧ n ≤ ds.length)) = true then some (ds.take n.toNat ++ d :: ds.drop n.toNat) else none
  | _ => .bad
theorem aF.at {L : List Nat} {f : VEnv → Res (List D)} {k : List D → Out} {Q : List V → Hp → Prop} (r : Rl K B σ H ρ F) (h : So K xm B Dn (eAt L f ρ k)) (n : ∀ ds vs H' F', Rl K B σ H' (aftL L ds ρ) F' → DtAll K F' vs ds → Same F F' → So K xm B Dn (k ds) → Q vs H') : aF K xm f σ H Q := by
  refine ⟨_, _, r.lend_fh L, r.view L, ?_⟩
  unfold eAt at h
  cases e : f (view L ρ) with
  | ok d =>
    rw [e] at h
    intro v F' H' g hd
    obtain ⟨F2, r2, h2, h3, _⟩ := r.aftL g hd
    exact n d v H' F2 r2 h2 h3 h
  | exc x =>
    rw [e] at h
    exact exc_at r h
  | bad => rw [e] at h; exact h.elim
/-! ### a, b = e1, e2 -/
def sPar (i j : Nat) (L : List Nat) (f : VEnv → Res (List D)) : Env → Out := fun ρ => eAt L f ρ fun as => match as with
  | [a, b] => .nx (((aftL L as ρ).set i (some (.frz a))).set j (some (.frz b)))
  | _ => .bad
theorem fs_par {x y : Str} {a b : Expr} {L : List Nat} {f : VEnv → Res (List D)} {px py pt pos : Pos} {kt k2 pt2} (i j : Nat) (hN : X.N.Nodup) (ha : FA K xm X [a, b] f) (hi : X.N[i]? = some x := by rfl) (hj : X.N[j]? = some y := by rfl) (hij : i ≠ j := by decide) (hc : X.calm = true := by rfl)
    (hx : X.env.scope.names.lookup x = some .local := by rfl) (hy : X.env.scope.names.lookup y = some .local := by rfl) (hw : swappedStores [.Tuple [.Name x px, .Name y py] kt pt] (.Tuple [a, b] k2 pt2) X.env = pure (some [x, y]) := by rfl)
    (hs : swapsWithSole [.Tuple [.Name x px, .Name y py] kt pt] (.Tuple [a, b] k2 pt2) pos.line X.env = pure false := by rfl) : FS K xm X (.Assign [.Tuple [.Name x px, .Name y py] kt pt] (.Tuple [a, b] k2 pt2) pos) (sPar i j L f) :=
  PS.to (ps_par hc hN hi hj hij hx hy ha hw hs) fun Dn σ H ⟨B, ρ, F, r, k⟩ => aF.at r k fun ds vs H' F' r' dv _ k' => by
    split at k'
    · obtain ⟨v, w, rfl, d1, d2⟩ := dv.two
      exact ⟨v, w, rfl, k' _ _ _ ((r'.set d1).set d2)⟩
    · exact k'.elim
/-! ### x[k] = e: an own list, an own dict -/
def sPutL (i : Nat) (L : List Nat) (fv fk : VEnv → Res D) : Env → Out := fun ρ => eAt L fv ρ fun d => need i (fun ρ' => eAt [] fk ρ' fun n => match n with
  | .int n => chg ρ' i fun ds => match ixN ds.length n with
    | some j => some (ds.set j d)
    | none => none
  | _ => .bad) (aft L d ρ)
theorem shut_nil : ∀ (n : Nat) (ρ : Env), shutI [] n ρ = ρ
  | _, [] => rfl
  | n, none :: r => by rw [shutI, shut_nil (n + 1) r]; rfl
  | n, some (.frz d) :: r => by rw [shutI, shut_nil (n + 1) r]; rfl
  | n, some (.own t d) :: r => by rw [shutI, shut_nil (n + 1) r]; rfl
theorem aft_nil (d : D) (ρ : Env) : aft [] d ρ = ρ := by
  unfold aft shut
  rw [shut_nil, ite_self]
/-! dicts -/
noncomputable def dPut (kvs : List (D × D)) (k v : D) : List (D × D) := if (dGet kvs k).isSome = true then kvs.map (fun p => if p.1 = k then (p.1, v) else p) else kvs ++ [(k, v)]
def ownD (ρ : Env) (i : Nat) : Option (Bool × List (D × D)) := match ρ[i]? with
  | some (some (.own t (.dct false ds))) => some (t, ds)
  | _ => none
theorem ownD_of {ρ : Env} {i : Nat} {t : Bool} {ds : List (D × D)} (h : ownD ρ i = some (t, ds)) : ρ[i]? = some (some (.own t (.dct false ds))) := by
  unfold ownD at h
  split at h
  · rename_i e
    cases h
    exact e
  · cases h
def needD (i : Nat) (g : Env → Out) : Env → Out := fun ρ => match ownD ρ i with
  | some _ => g ρ
  | none => .bad
theorem So.needDE {i : Nat} {g : Env → Out} (k : So K xm B Dn (needD i g ρ)) : (∃ t ds, ρ[i]? = some (some (.own t (.dct false ds)))) ∧ So K xm B Dn (g ρ) := by
  unfold needD at k
  cases e : ownD ρ i with
  | none => rw [e] at k; exact k.elim
  | some td => rw [e] at k; exact ⟨⟨td.1, td.2, ownD_of e⟩, k⟩
def chgD (ρ : Env) (i : Nat) (f : List (D × D) → Option (List (D × D))) : Out := match ownD ρ i with
  | some (t, ds) => match f ds with
    | some es => .nx (ρ.set i (some (.own t (.dct false es))))
    | none => .bad
  | none => .bad
theorem So.chgDE {i : Nat} {f : List (D × D) → Option (List (D × D))} (k : So K xm B Dn (chgD ρ i f)) : ∃ t ds es, ρ[i]? = some (some (.own t (.dct false ds))) ∧ f ds = some es ∧ So K xm B Dn (.nx (ρ.set i (some (.own t (.dct false es))))) := by
  unfold chgD at k
  cases e : ownD ρ i with
  | none => rw [e] at k; exact k.elim
  | some td =>
    obtain ⟨t, ds⟩ := td
    rw [e] at k
    dsimp only at k
    cases e2 : f ds with
    | none => rw [e2] at k; exact k.elim
    | some es => rw [e2] at k; exact ⟨t, ds, es, ownD_of e, e2, k⟩
theorem Rl.ownDAt (r : Rl K B σ H ρ F) {i : Nat} {t : Bool} {ds : List (D × D)} (h : ρ[i]? = some (some (.own t (.dct false ds)))) : ∃ p kvs, σ[i]? = some (some (.ref p)) ∧ H p = some (.dK kvs) ∧ DtAll K F (kvs.map (·.2)) (ds.map (·.2)) ∧ ds.map (·.1) = kvs.map (fun p => keyD p.1) := by
  obtain ⟨p, q1, q2, q3, kvs, q4, q5, q6⟩ := r.ow i _ _ h
  exact ⟨p, kvs, q1, q4, q5, q6⟩
theorem repl_of {F : Hp} {k : Key} {v : V} {d : D} (hd : Dt K F v d) : ∀ {kvs : List (Key × V)} {ds : List (D × D)}, DtAll K F (kvs.map (·.2)) (ds.map (·.2)) → ds.map (·.1) = kvs.map (fun p => keyD p.1) →
    DtAll K F ((kvs.map fun kv => if kv.1 = k then (kv.1, v) else kv).map (·.2)) ((ds.map fun p => if p.1 = keyD k then (p.1, d) else p).map (·.2)) ∧ (ds.map fun p => if p.1 = keyD k then (p.1, d) else p).map (·.1) = (kvs.map fun kv => if kv.1 = k then (kv.1, v) else kv).map (fun p => keyD p.1)
  | [], [], _, _ => ⟨.nil, rfl⟩
  | [], _ :: _, _, e => by simp at e
  | _ :: _, [], _, e => by simp at e
  | p :: kvs, q :: ds, h, e => by
    simp only [List.map_cons] at h e
    cases h with
    | cons h1 h2 =>
      injection e with e1 e2
      obtain ⟨i1, i2⟩ := repl_of hd h2 e2
      simp only [List.map_cons]
      by_cases c : p.1 = k
      · have c' : q.1 = keyD k := by rw [e1, c]
        rw [if_pos c, if_pos c']
        exact ⟨.cons hd i1, by rw [i2, e1]⟩
      · have c' : ¬ q.1 = keyD k := fun z => c (keyD_inj (by rw [← e1, z]))
        rw [if_neg c, if_neg c']
        exact ⟨.cons h1 i1, by rw [i2, e1]⟩
theorem put_of {F : Hp} {k : Key} {v : V} {d : D} {kvs : List (Key × V)} {ds : List (D × D)} (hd : Dt K F v d) (h : DtAll K F (kvs.map (·.2)) (ds.map (·.2))) (e : ds.map (·.1) = kvs.map (fun p => keyD p.1)) :
    DtAll K F ((putK kvs k v).map (·.2)) ((dPut ds (keyD k) d).map (·.2)) ∧ (dPut ds (keyD k) d).map (·.1) = (putK kvs k v).map (fun p => keyD p.1) := by
  have g := (dGet_of (k := k) h e).2
  unfold dPut putK
  have v2 := valV_any k kvs
  by_cases c : (dGet ds (keyD k)).isSome = true
  · rw [if_pos c]
    rw [g, ← v2] at c
    rw [if_pos c]
    exact repl_of hd h e
  · rw [if_neg c]
    rw [g, ← v2] at c
    rw [if_neg c, List.map_append, List.map_append, List.map_append, List.map_append, e]
    exact ⟨h.app (.cons hd .nil), rfl⟩
noncomputable def sPutD (i : Nat) (L : List Nat) (fv fk : VEnv → Res D) : Env → Out := fun ρ => eAt L fv ρ fun d => needD i (fun ρ' => eAt [] fk ρ' fun n => chgD ρ' i fun ds => if (dKeyOk n && fit ds.length) = true then some (dPut ds n d) else none) (aft L d ρ)
theorem fs_putD {x : Str} {e ik : Expr} {L : List Nat} {fv fk : VEnv → Res D} {p1 p2 pos : Pos} (i : Nat) (hu : X.A.units + 1 < cLine) (he : FE K xm X e fv) (hk : FE K xm X ik fk) (hN : X.N[i]? = some x := by rfl) (hv : Vis X.env.scope x := by first | exact Or.inl rfl | exact Or.inr (Or.inl rfl) | exact Or.inr (Or.inr rfl)) (hd : (x == ("__debug__" : Str)) = false := by decide)
    (hcd : (x == ("__classdict__" : Str)) = false := by decide) (hs : swapsWith e (some (.Subscript (.Name x p1) ik p2)) pos.line X.env = pure false := by rfl) : FS K xm X (.Assign [.Subscript (.Name x p1) ik p2] e pos) (sPutD i L fv fk) :=
  PS.to (ps_dput hu (pv i hN hv hd hcd) hk he hs) fun Dn σ H ⟨B, ρ, F, r, k⟩ => tF.at r k fun d v H' F' _ r' dv _ _ k' => by
    obtain ⟨⟨t, ds, hi⟩, k'⟩ := k'.needDE
    obtain ⟨p, kvs, q1, q2, q3, q4⟩ := r'.ownDAt hi
    refine ⟨.ref p, q1, tF.at r' k' fun n w H2 F2 _ r2 dw f2 h2 k2 => ?_⟩
    rw [aft_nil] at r2
    obtain ⟨t', ds', es, h1, h3, k3⟩ := k2.chgDE
    obtain ⟨p', kvs', w1, w2, w3, w4⟩ := r2.ownDAt h1
    rw [q1] at w1
    cases w1
    by_cases c : (dKeyOk n && fit ds'.length) = true
    · rw [if_pos c] at h3
      cases h3
      rw [Bool.and_eq_true] at c
      obtain ⟨key, rfl, rfl⟩ := keyE dw c.1
      have lk : kvs'.length = ds'.length := by
        have := congrArg List.length w4
        rw [List.length_map, List.length_map] at this
        exact this.symm
      obtain ⟨z1, z2⟩ := put_of (k := key) (dv.same f2) w3 w4
      exact ⟨p, _, rfl, .k w2 (by rw [lk]; exact fit_line c.2), k3 _ _ _ (r2.write h1 q1 ⟨_, upd_same, z1, z2⟩)⟩
    · rw [if_neg c] at h3
      cases h3
/-! ### raise -/
def sRaise (x : Ex) : Env → Out := fun ρ => .ex x ρ
/-- raise C("..."), C an own class without an own __init__ -/
theorem fs_raiseN {mg : Str → Option Value} {W : WX} {c : Str} {C : Addr} {m : Str} {j : Nat} {p p2 pos ps : Pos} (tk : Takes X W) (T : Dear.ExOwn X.K X.mg c C) (hmg : X.mg = mg := by rfl) (hc : X.calm = true := by rfl) (hg : Gl X c := by rfl) (hdb : (c == ("__debug__" : Str)) = false := by decide) :
    FS K (some ⟨mg, W⟩) X (.Raise (some (.Call (.Name c p) [.Constant (.str m) j p2] [] pos)) none ps) (sRaise ⟨c, []⟩) :=
  PS.to (ps_raise hc tk (pmk_own PySem.F.excBase_ValueError T.x T.g T.k (raises_own T.b T.t) hg hdb)) fun Dn σ H ⟨B, ρ, F, r, k⟩ => k (.ref C) none σ H F r ⟨by rw [← hmg]; exact T.g, rfl⟩
/-- may stand in an exception's field -/
def fmtOk : D → Bool
  | .non => true
  | .str y => Nat.ble y.length 900
  | .int i => decide (i.natAbs < 2 ^ 64)
  | _ => false
theorem fmt_of {v : V} {d : D} (h : Dt K F v d) (o : fmtOk d = true) : Dear.FmtV v := by
  cases h with
  | non => exact .inl rfl
  | str y => exact .inr (.inl ⟨y, rfl, Nat.le_of_ble_eq_true o⟩)
  | int i => exact .inr (.inr ⟨i, rfl, of_decide_eq_true o⟩)
  | _ => cases o
def sRaiseI (c f : Str) (L : List Nat) (fa : VEnv → Res D) : Env → Out := fun ρ => eAt L fa ρ fun d => if fmtOk d = true then .ex ⟨c, [(f, d)]⟩ (aft L d ρ) else .bad
theorem fs_raiseI {mg : Str → Option Value} {W : WX} {k' : Nat} {c f : Str} {C : Addr} {e : Expr} {L : List Nat} {fa : VEnv → Res D} {p pos ps : Pos} (tk : Takes X W) (O : Dear.OkI X.prog X.w X.K X.mg X.base c f C) (hr : Room k' X.A) (he : FE K (some ⟨mg, W⟩) X e fa) (hk : 2 ≤ k' := by decide) (hmg : X.mg = mg := by rfl) (hK : X.K = K := by rfl) (hc : X.calm = true := by rfl) (hg : Gl X c := by rfl) (hdb : (c == ("__debug__" : Str)) = false := by decide)
    (hs : starEach [e] X.env = (false, eval e X.env) :: starEach [] X.env := by rfl) (hpl : (backTo pos (starEach [] X.env)).any (·.1) = false := by rfl) : FS K (some ⟨mg, W⟩) X (.Raise (some (.Call (.Name c p) [e] [] pos)) none ps) (sRaiseI c f L fa) := by
  subst hK
  refine PS.to (ps_raise hc tk (Dear.pmk_i O hr (pa_cons he pa_nil hs) hk hg hdb hs hpl)) fun Dn σ H ⟨B, ρ, F, r, k⟩ => tF.at r k fun d v H' F' _ r' dv _ _ k2 => ?_
  by_cases o : fmtOk d = true
  · rw [if_pos o] at k2
    obtain ⟨fI, fd, h1, h2, F1, b, T⟩ := O
    refine Dear.mkx (H := H') (Q := fun cls d H' => W cls d σ H') T (fmt_of dv o) fun dd hd => ?_
    have g := Gr.new (o := .xd [(f, v)]) r'.fh hd
    exact k2 (.ref C) (some dd) σ _ _ (r'.grow g) ⟨by rw [← hmg]; exact T.g, dd, v, rfl, upd_same, dv.same g.ff⟩
  · rw [if_neg o] at k2
    exact k2.elim
end
end Du

namespace Du
open PySem PySem.Spec PyProof.Rows L2
/-! ### a def whose body computes g -/
def ent (n np : Nat) (ds : List D) : Env := ds.map (fun d => some (.frz d)) ++ List.replicate (n - np) none
def outR : Out → Res D
  | .nx _ => .ok .non
  | .rt d _ => .ok d
  | .ro d _ => .ok d
  | .ex x _ => .exc x
  | _ => .bad
def runD (np n : Nat) (g : Env → Out) (ds : List D) : Res D := if ds.length = np then outR (g (ent n np ds)) else .bad
section
variable {P : Program} {w : World} {K : PySem.W.Frag} {mg : Str → Option Value} {base : Heap}
theorem start_get {N : List Str} {vs : List V} {i : Nat} {v : V} (h : vs[i]? = some v) : (L2.start N vs)[i]? = some (some v) := by
  unfold L2.start
  rw [List.getElem?_append_left (by rw [List.length_map]; exact (List.getElem?_eq_some_iff.mp h).1), List.getElem?_map, h]
  rfl
theorem ent_get {n np : Nat} {ds : List D} {i : Nat} {s : Slot} (h : (ent n np ds)[i]? = some (some s)) : ∃ d, ds[i]? = some d ∧ s = .frz d := by
  unfold ent at h
  by_cases hi : i < ds.length
  · rw [List.getElem?_append_left (by rw [List.length_map]; exact hi), List.getElem?_map] at h
    obtain ⟨d, h1, h2⟩ := Option.map_eq_some_iff.mp h
    cases h2
    exact ⟨d, h1, rfl⟩
  · rw [List.getElem?_append_right (by rw [List.length_map]; omega)] at h
    have := List.mem_of_getElem? h
    rw [List.mem_replicate] at this
    cases this.2
theorem Rl.start {N : List Str} {vs : List V} {ds : List D} {G H : Hp} {np : Nat} (s : Same G H) (h : DtAll K G vs ds) (hn : ds.length = np) (hN : np ≤ N.length) : Rl K ⟨H, G, 0⟩ (L2.start N vs) H (ent N.length np ds) G := by
  refine ⟨s, .refl _, fun a o u _ e => ⟨u, e⟩, ?_, fun i d e => ?_, fun i t d e => ?_, fun i j t u d e p h1 h2 => ?_, fun i d p h1 h2 => ?_⟩
  · unfold L2.start ent
    rw [List.length_append, List.length_append, List.length_map, List.length_map, List.length_replicate, List.length_replicate, h.length]
    omega
  · obtain ⟨d', h1, h2⟩ := ent_get e
    cases h2
    obtain ⟨v, q1, q2⟩ := h.at h1
    exact ⟨v, start_get q1, q2⟩
  · obtain ⟨d', h1, h2⟩ := ent_get e
    cases h2
  · obtain ⟨d', _, h2⟩ := ent_get h1
    cases h2
  · obtain ⟨d', _, h2⟩ := ent_get h1
    cases h2
theorem ExIs.same {F G : Hp} {x : Ex} {C : Value} {dd : Option Addr} (h : ExIs K mg x F C dd) (s : Same F G) : ExIs K mg x G C dd := by
  obtain ⟨h1, h2⟩ := h
  refine ⟨h1, ?_⟩
  split at h2
  · exact h2
  · obtain ⟨a, v, e, e2, e3⟩ := h2
    exact ⟨a, v, e, s _ _ e2, e3.same s⟩
  · exact h2
/-- what the promise says of the end -/
theorem Rl.done {G H H' F' : Hp} {σ : St} {ρ : Env} (r : Rl K ⟨H, G, 0⟩ σ H' ρ F') (s : Same G H) : ∃ G', Gr G H G' H' ∧ Same F' G' := by
  refine ⟨both F' G, ⟨r.bh, both_r r.fh (s.trans r.bh), both_in r.fh (s.trans r.bh), fun a o e => ?_⟩, both_l⟩
  rcases both_cases e with z | z
  · cases q : H a with
    | none => exact .inr rfl
    | some u =>
      obtain ⟨v, hv⟩ := r.zf a u o q z
      have e1 := r.fh _ _ z
      have e2 := (s.trans r.bh) _ _ hv
      rw [e1] at e2
      cases e2
      exact .inl hv
  · exact .inl z
theorem Rl.done2 {G H H' F' : Hp} {σ : St} {ρ : Env} {p : Addr} {d : D} (r : Rl K ⟨H, G, 0⟩ σ H' ρ F') (s : Same G H) (fp : F' p = none) (bp : H p = none) (ow : Ow K F' H' p d) : ∃ G', Gr G H G' H' ∧ G' p = none ∧ Ow K G' H' p d := by
  refine ⟨both F' G, ⟨r.bh, both_r r.fh (s.trans r.bh), both_in r.fh (s.trans r.bh), fun a o e => ?_⟩, both_none fp (s.free bp), ow.mono both_l fun _ h => h⟩
  rcases both_cases e with z | z
  · cases q : H a with
    | none => exact .inr rfl
    | some u =>
      obtain ⟨v, hv⟩ := r.zf a u o q z
      have e1 := r.fh _ _ z
      have e2 := (s.trans r.bh) _ _ hv
      rw [e1] at e2
      cases e2
      exact .inl hv
  · exact .inl z
theorem Rl.freeze {G H H' F' : Hp} {σ : St} {ρ : Env} {p : Addr} {d : D} (r : Rl K ⟨H, G, 0⟩ σ H' ρ F') (s : Same G H) (fp : F' p = none) (bp : H p = none) (ow : Ow K F' H' p d) : ∃ G', Gr G H G' H' ∧ Dt K G' (.ref p) d := by
  obtain ⟨G', g, gp, ow'⟩ := r.done2 s fp bp ow
  obtain ⟨o, ho⟩ := ow'.some
  exact ⟨_, g.freeze bp gp ho, ow'.dt (sm_upd gp) fun u hu => by rw [upd_same, ← hu, ho]⟩
theorem sp0_len {f : List D → Res D} {np n : Nat} {g : Env → Out} {vs : List V} {H : Hp} {Q : VK} {E : XK} (h : sp0 K (runD np n g) vs H Q E) : vs.length = np := by
  obtain ⟨ds, G, s, hd, d, e, _⟩ := h
  unfold runD at e
  by_cases hn : ds.length = np
  · rw [hd.length, hn]
  · rw [if_neg hn] at e
    cases e
theorem spX_len {np n : Nat} {g : Env → Out} {vs : List V} {H : Hp} {Q : VK} {E : XK} (h : spX K mg (runD np n g) vs H Q E) : vs.length = np := by
  obtain ⟨ds, G, s, hd, h⟩ := h
  unfold runD at h
  by_cases hn : ds.length = np
  · rw [hd.length, hn]
  · rw [if_neg hn] at h
    exact h.elim
theorem ok0 {x : Str} {st : Stmt} {N ps : List Str} {k : Nat} {g : Env → Out} (D : Dear.Df K mg x st ps) (S : FnScope N ps (defScope st))
    (body : ∀ (f : Addr) (cdv : Value) (A : Around) (outer : List PySem.Env) (s : Shared) (H : Hp) (E : XK), Room k (A.deeper (envOfC x (defScope st) s.heap.objs.size f cdv)) → FSs K none (cxOf CX0 P w K mg base N x (defScope st) f cdv A outer s H E).nox (defBody st) g)
    (hN : ps.length ≤ N.length := by decide) : Dear.OkF P w K mg base CX0 (k + 1) x ps (sp0 K (runD ps.length N.length g)) :=
  D.ok S (fun vs H Q E h => sp0_len (f := runD ps.length N.length g) h) fun f cdv A outer s H vs Q E hr h => ⟨_, body f cdv A outer s H E hr, by
    obtain ⟨ds, G, sG, hd, d, e, q⟩ := h
    unfold runD at e
    by_cases hn : ds.length = ps.length
    · rw [if_pos hn] at e
      refine ⟨⟨H, G, 0⟩, _, G, Rl.start sG hd hn hN, ?_⟩
      unfold outR at e
      cases e2 : g (ent N.length ps.length ds) with
      | nx ρ =>
        rw [e2] at e
        cases e
        intro σ' H' F' r
        obtain ⟨G', g1, d1⟩ := r.done sG
        exact q _ _ _ g1 .non
      | rt d' ρ =>
        rw [e2] at e
        cases e
        intro v σ' H' F' r dv
        obtain ⟨G', g1, d1⟩ := r.done sG
        exact q _ _ _ g1 (dv.same d1)
      | ro d' ρ =>
        rw [e2] at e
        cases e
        intro p σ' H' F' r fp bp ow
        obtain ⟨G', g1, d1⟩ := r.freeze sG fp bp ow
        exact q _ _ _ g1 d1
      | bk ρ => rw [e2] at e; cases e
      | ct ρ => rw [e2] at e; cases e
      | ex x ρ => rw [e2] at e; cases e
      | bad => rw [e2] at e; cases e
    · rw [if_neg hn] at e
      cases e⟩
theorem okX {x : Str} {st : Stmt} {N ps : List Str} {k : Nat} {g : Env → Out} (D : Dear.Df K mg x st ps) (S : FnScope N ps (defScope st))
    (body : ∀ (f : Addr) (cdv : Value) (A : Around) (outer : List PySem.Env) (s : Shared) (H : Hp) (E : XK), Room k (A.deeper (envOfC x (defScope st) s.heap.objs.size f cdv)) → FSs K (some ⟨mg, fun c d _ H => E c d H⟩) (cxOf (L2.CX P w) P w K mg base N x (defScope st) f cdv A outer s H E) (defBody st) g)
    (hN : ps.length ≤ N.length := by decide) : Dear.OkF P w K mg base (L2.CX P w) (k + 1) x ps (spX K mg (runD ps.length N.length g)) :=
  D.okX S (fun vs H Q E h => spX_len h) fun f cdv A outer s H vs Q E hr h => ⟨_, body f cdv A outer s H E hr, by
    obtain ⟨ds, G, sG, hd, q⟩ := h
    unfold runD at q
    by_cases hn : ds.length = ps.length
    · rw [if_pos hn] at q
      refine ⟨⟨H, G, 0⟩, _, G, Rl.start sG hd hn hN, ?_⟩
      unfold outR at q
      cases e2 : g (ent N.length ps.length ds) with
      | nx ρ =>
        rw [e2] at q
        intro σ' H' F' r
        obtain ⟨G', g1, d1⟩ := r.done sG
        exact q _ _ _ g1 .non
      | rt d' ρ =>
        rw [e2] at q
        intro v σ' H' F' r dv
        obtain ⟨G', g1, d1⟩ := r.done sG
        exact q _ _ _ g1 (dv.same d1)
      | ex x ρ =>
        rw [e2] at q
        intro C dd σ' H' F' r hx
        obtain ⟨G', g1, d1⟩ := r.done sG
        exact q C dd _ _ g1 (hx.same d1)
      | ro d' ρ =>
        rw [e2] at q
        intro p σ' H' F' r fp bp ow
        obtain ⟨G', g1, d1⟩ := r.freeze sG fp bp ow
        exact q _ _ _ g1 d1
      | bk ρ => rw [e2] at q; exact q.elim
      | ct ρ => rw [e2] at q; exact q.elim
      | bad => rw [e2] at q; exact q.elim
    · rw [if_neg hn] at q
      exact q.elim⟩
end
end Du

namespace Du
open PySem PySem.Spec PyProof.Rows L2
/-! ### expressions that change the def's own things (a call that is handed one of them to be changed) -/
inductive MO (α : Type) where
  | ok (a : α) (ρ : Env)
  | ex (x : Ex) (ρ : Env)
  | bad
def MO.bind {α β : Type} (r : MO α) (f : α → Env → MO β) : MO β := match r with
  | .ok a ρ => f a ρ
  | .ex x ρ => .ex x ρ
  | .bad => .bad
section
variable {α β : Type}
@[simp] theorem MO.bind_ok (a : α) (ρ : Env) (f : α → Env → MO β) : (MO.ok a ρ).bind f = f a ρ := rfl
@[simp] theorem MO.bind_ex (x : Ex) (ρ : Env) (f : α → Env → MO β) : (MO.ex x ρ).bind f = .ex x ρ := rfl
@[simp] theorem MO.bind_bad (f : α → Env → MO β) : (MO.bad : MO α).bind f = .bad := rfl
end
/-- what a reading with state has to give -/
def Pm {α ω : Type} (R : Hp → ω → α → Prop) (K : PySem.W.Frag) (xm : XMo) (σ : St) (B : Bs) (F : Hp) (r : MO α) (Q : ω → Hp → Prop) : Prop := match r with
  | .ok a ρ => ∀ w H' F', Rl K B σ H' ρ F' → Same F F' → R F' w a → Q w H'
  | .ex x ρ => match xm with
    | none => False
    | some m => ∀ C dd H' F', Rl K B σ H' ρ F' → ExIs K m.mg x F' C dd → m.W C dd σ H'
  | .bad => False
section
variable {α β ω ω' : Type} {R : Hp → ω → α → Prop} {R' : Hp → ω' → β → Prop} {K : PySem.W.Frag} {xm : XMo} {σ : St} {B : Bs} {F F1 : Hp}
theorem Pm.mono {r : MO α} {Q : ω → Hp → Prop} (h : Pm R K xm σ B F r Q) (s : Same F F1) : Pm R K xm σ B F1 r Q := by
  cases r with
  | ok a ρ => exact fun w H' F' r' s' => h w H' F' r' (s.trans s')
  | ex x ρ => exact h
  | bad => exact h
theorem Pm.seq {r : MO α} {f : α → Env → MO β} {Q : ω' → Hp → Prop} {W : ω → Hp → Prop} (k : Pm R' K xm σ B F (r.bind f) Q) (n : ∀ a ρ w H1 F1, Rl K B σ H1 ρ F1 → Same F F1 → R F1 w a → Pm R' K xm σ B F1 (f a ρ) Q → W w H1) : Pm R K xm σ B F r W := by
  cases r with
  | ok a ρ => exact fun w H1 F1 r1 s d => n a ρ w H1 F1 r1 s d (Pm.mono k s)
  | ex x ρ => exact k
  | bad => exact k
theorem Pm.done {a : α} {ρ : Env} {w : ω} {H : Hp} {Q : ω → Hp → Prop} (k : Pm R K xm σ B F (.ok a ρ) Q) (r : Rl K B σ H ρ F) (h : R F w a) : Q w H := k w H F r (.refl _) h
end
def tM (K : PySem.W.Frag) (xm : XMo) (m : Env → MO D) : TE := fun σ H Q => ∃ B ρ F, Rl K B σ H ρ F ∧ Pm (RD K) K xm σ B F (m ρ) Q
def bM (K : PySem.W.Frag) (xm : XMo) (m : Env → MO Bool) : TT := fun σ H Q => ∃ B ρ F, Rl K B σ H ρ F ∧ Pm RB K xm σ B F (m ρ) Q
def aM (K : PySem.W.Frag) (xm : XMo) (m : Env → MO (List D)) : TA := fun σ H Q => ∃ B ρ F, Rl K B σ H ρ F ∧ Pm (RL K) K xm σ B F (m ρ) Q
abbrev ME (K : PySem.W.Frag) (xm : XMo) (X : Cx) (e : Expr) (m : Env → MO D) : Prop := PE X e (tM K xm m)
abbrev MT (K : PySem.W.Frag) (xm : XMo) (X : Cx) (e : Expr) (m : Env → MO Bool) : Prop := PT X e (bM K xm m)
abbrev MA (K : PySem.W.Frag) (xm : XMo) (X : Cx) (e : List Expr) (m : Env → MO (List D)) : Prop := PA X e (aM K xm m)
section
variable {K : PySem.W.Frag} {xm : XMo} {X : Cx} {B : Bs} {F H : Hp} {σ : St} {ρ : Env} {Dn : Ends}
/-! pure parts -/
def mP (L : List Nat) (f : VEnv → Res D) : Env → MO D := fun ρ => match f (view L ρ) with
  | .ok d => .ok d (aft L d ρ)
  | .exc x => .ex x (shut L ρ)
  | .bad => .bad
theorem exc_m {L : List Nat} {x : Ex} {α ω : Type} {R : Hp → ω → α → Prop} {Q : ω → Hp → Prop} (r : Rl K B σ H ρ F) (k : Pm R K xm σ B F (.ex x (shut L ρ)) Q) : Xw K xm σ (lend σ ρ L F H) H x := by
  cases xm with
  | none => exact k.elim
  | some m => exact fun C dd F' H' g e => k C dd H' F' (r.shutted g) e
theorem tM.p {L : List Nat} {f : VEnv → Res D} {Q : VK} (h : tM K xm (mP L f) σ H Q) : tF K xm f σ H Q := by
  obtain ⟨B, ρ, F, r, k⟩ := h
  refine ⟨_, _, r.lend_fh L, r.view L, ?_⟩
  unfold mP at k
  cases e : f (view L ρ) with
  | ok d =>
    rw [e] at k
    intro v F' H' g hd
    obtain ⟨F2, r2, h2, h3⟩ := r.aft g hd
    exact k v H' F2 r2 h3 h2
  | exc x =>
    rw [e] at k
    exact exc_m r k
  | bad => rw [e] at k; exact k.elim
def mB (L : List Nat) (f : VEnv → Res Bool) : Env → MO Bool := fun ρ => match f (view L ρ) with
  | .ok d => .ok d ρ
  | .exc x => .ex x (shut L ρ)
  | .bad => .bad
/-! operators -/
def mOp (g : D → D → Res D) (ma mb : Env → MO D) : Env → MO D := fun ρ => (ma ρ).bind fun a ρ1 => (mb ρ1).bind fun b ρ2 => match g a b with
  | .ok d => .ok d ρ2
  | _ => .bad
/-- a pure rule behind parts with state -/
theorem Rl.pure (r : Rl K B σ H ρ F) {d : D} {Q : VK} (k : Pm (RD K) K xm σ B F (.ok d ρ) Q) : Po (RD K) K xm σ F H (.ok d) Q := fun v F' H' g hd => k v H' F' (r.grow g) g.ff hd
theorem tM.op {r : R2} {g : D → D → Res D} {ma mb : Env → MO D} (h : OpD K r g) {Q : VK} (k : tM K xm (mOp g ma mb) σ H Q) : tOp r (tM K xm ma) (tM K xm mb) σ H Q := by
  obtain ⟨B, ρ, F, r0, k⟩ := k
  refine ⟨B, ρ, F, r0, Pm.seq k fun a ρ1 x H1 F1 r1 s1 d1 k1 => ⟨B, ρ1, F1, r1, Pm.seq k1 fun b ρ2 y H2 F2 r2 s2 d2 k2 => ?_⟩⟩
  cases e : g a b with
  | ok d =>
    rw [e] at k2
    dsimp only at k2
    refine h xm σ F2 H2 x y a b Q r2.fh (d1.same s2) d2 ?_
    rw [e]
    exact r2.pure k2
  | exc x => rw [e] at k2; exact k2.elim
  | bad => rw [e] at k2; exact k2.elim
/-! arguments, displays -/
def mNil : Env → MO (List D) := fun ρ => .ok [] ρ
def mCons (m : Env → MO D) (n : Env → MO (List D)) : Env → MO (List D) := fun ρ => (m ρ).bind fun a ρ1 => (n ρ1).bind fun as ρ2 => .ok (a :: as) ρ2
/-- pure arguments -/
def mAP (L : List Nat) (f : VEnv → Res (List D)) : Env → MO (List D) := fun ρ => match f (view L ρ) with
  | .ok d => .ok d (aftL L d ρ)
  | .exc x => .ex x (shut L ρ)
  | .bad => .bad
def mTup (m : Env → MO (List D)) : Env → MO D := fun ρ => (m ρ).bind fun as ρ1 => if fit as.length = true then .ok (.tup as) ρ1 else .bad
def mLst (m : Env → MO (List D)) : Env → MO D := fun ρ => (m ρ).bind fun as ρ1 => if fit as.length = true then .ok (.lst as) ρ1 else .bad
theorem Pm.ite {α ω : Type} {R : Hp → ω → α → Prop} {b : Bool} {r : MO α} {Q : ω → Hp → Prop} (k : Pm R K xm σ B F (if b = true then r else .bad) Q) : b = true ∧ Pm R K xm σ B F r Q := by
  cases b with
  | true => exact ⟨rfl, by rwa [if_pos rfl] at k⟩
  | false =>
    rw [if_neg Bool.false_ne_true] at k
    exact k.elim
/-! pure calls of arguments with state -/
def mApp (g : List D → Res D) (m : Env → MO (List D)) : Env → MO D := fun ρ => (m ρ).bind fun as ρ1 => match g as with
  | .ok d => .ok d ρ1
  | _ => .bad
/-! tests -/
def mTest (m : Env → MO D) : Env → MO Bool := fun ρ => (m ρ).bind fun a ρ1 => match a with
  | .bl b => .ok b ρ1
  | _ => .bad
def mNot (m : Env → MO Bool) : Env → MO Bool := fun ρ => (m ρ).bind fun b ρ1 => .ok (!b) ρ1
def mAnd (m n : Env → MO Bool) : Env → MO Bool := fun ρ => (m ρ).bind fun b ρ1 => if b = true then n ρ1 else .ok false ρ1
def mOr (m n : Env → MO Bool) : Env → MO Bool := fun ρ => (m ρ).bind fun b ρ1 => if b = true then .ok true ρ1 else n ρ1
abbrev MW (K : PySem.W.Frag) (xm : XMo) (X : Cx) (e : Expr) (m : Env → MO Bool) : Prop := PW X e (bM K xm m)
end
end Du

namespace Du
open PySem PySem.Spec PyProof.Rows L2
/-! ### defs that return a new thing of the caller's own; defs that change a thing that is handed in -/
def outO : Out → Res D
  | .ro d _ => .ok d
  | .ex x _ => .exc x
  | _ => .bad
def runO (np n : Nat) (g : Env → Out) (ds : List D) : Res D := if ds.length = np then outO (g (ent n np ds)) else .bad
def spO (K : PySem.W.Frag) (f : List D → Res D) : Sp := fun vs H Q _ => ∃ ds G, Same G H ∧ DtAll K G vs ds ∧ ∃ d, f ds = .ok d ∧ ∀ p G' H', Gr G H G' H' → H p = none → G' p = none → Ow K G' H' p d → Q (.ref p) H'
section
variable {P : Program} {w : World} {K : PySem.W.Frag} {mg : Str → Option Value} {base : Heap}
theorem spO_len {np n : Nat} {g : Env → Out} {vs : List V} {H : Hp} {Q : VK} {E : XK} (h : spO K (runO np n g) vs H Q E) : vs.length = np := by
  obtain ⟨ds, G, s, hd, d, e, _⟩ := h
  unfold runO at e
  by_cases hn : ds.length = np
  · rw [hd.length, hn]
  · rw [if_neg hn] at e
    cases e
theorem okO {x : Str} {st : Stmt} {N ps : List Str} {k : Nat} {g : Env → Out} (D : Dear.Df K mg x st ps) (S : FnScope N ps (defScope st))
    (body : ∀ (f : Addr) (cdv : Value) (A : Around) (outer : List PySem.Env) (s : Shared) (H : Hp) (E : XK), Room k (A.deeper (envOfC x (defScope st) s.heap.objs.size f cdv)) → FSs K none (cxOf CX0 P w K mg base N x (defScope st) f cdv A outer s H E).nox (defBody st) g)
    (hN : ps.length ≤ N.length := by decide) : Dear.OkF P w K mg base CX0 (k + 1) x ps (spO K (runO ps.length N.length g)) :=
  D.ok S (fun vs H Q E h => spO_len h) fun f cdv A outer s H vs Q E hr h => ⟨_, body f cdv A outer s H E hr, by
    obtain ⟨ds, G, sG, hd, d, e, q⟩ := h
    unfold runO at e
    by_cases hn : ds.length = ps.length
    · rw [if_pos hn] at e
      refine ⟨⟨H, G, 0⟩, _, G, Rl.start sG hd hn hN, ?_⟩
      unfold outO at e
      cases e2 : g (ent N.length ps.length ds) with
      | ro d' ρ =>
        rw [e2] at e
        cases e
        intro p σ' H' F' r fp bp ow
        obtain ⟨G', g1, gp, ow'⟩ := r.done2 sG fp bp ow
        exact q p _ _ g1 bp gp ow'
      | nx ρ => rw [e2] at e; cases e
      | rt d ρ => rw [e2] at e; cases e
      | bk ρ => rw [e2] at e; cases e
      | ct ρ => rw [e2] at e; cases e
      | ex x ρ => rw [e2] at e; cases e
      | bad => rw [e2] at e; cases e
    · rw [if_neg hn] at e
      cases e⟩
/-- whoever wants no more than the value has it -/
theorem okO.ok0 {x : Str} {ps : List Str} {k : Nat} {f : List D → Res D} (h : Dear.OkF P w K mg base CX0 k x ps (spO K f)) : Dear.OkF P w K mg base CX0 k x ps (sp0 K f) := by
  obtain ⟨a, fd, h1, h2, h3, F⟩ := h
  refine ⟨a, fd, h1, h2, h3, F.imp fun vs H Q E ⟨ds, G, s, hd, d, e, q⟩ => ⟨ds, G, s, hd, d, e, fun p G' H' g hp gp ow => ?_⟩⟩
  obtain ⟨o, ho⟩ := ow.some
  exact q _ _ _ (g.freeze hp gp ho) (ow.dt (sm_upd gp) fun u hu => by rw [upd_same, ← hu, ho])
end
section
variable {K : PySem.W.Frag} {xm : XMo} {X : Cx} {B : Bs} {F H : Hp} {σ : St} {ρ : Env} {Dn : Ends}
end
/-! a thing that is handed in is changed: the j-th one -/
structure Gx (p : Addr) (F H F' H' : Hp) : Prop where
  hh : ∀ a o, a ≠ p → H a = some o → H' a = some o
  ff : Same F F'
  fh : Same F' H'
  nw : ∀ a o, F' a = some o → F a = some o ∨ H a = none
def spIO (K : PySem.W.Frag) (j : Nat) (f : List D → Res (D × D)) : Sp := fun vs H Q _ => ∃ ds G p o, Same G H ∧ vs.length = ds.length ∧ (∀ i v, i ≠ j → vs[i]? = some v → ∃ d, ds[i]? = some d ∧ Dt K G v d) ∧ vs[j]? = some (.ref p) ∧ ds[j]? = some o ∧ G p = none ∧ Ow K G H p o ∧
  ∃ d o', f ds = .ok (d, o') ∧ ∀ v G' H', Gx p G H G' H' → Dt K G' v d → Ow K G' H' p o' → Q v H'
section
variable {K : PySem.W.Frag} {xm : XMo} {X : Cx} {B : Bs} {F H : Hp} {σ : St} {ρ : Env} {Dn : Ends}
/-- behind the change of an own thing -/
theorem Rl.changed (r : Rl K B σ H ρ F) {i : Nat} {t : Bool} {p : Addr} {d d' : D} {F' H' : Hp} (hi : ρ[i]? = some (some (.own t d))) (hp : σ[i]? = some (some (.ref p))) (g : Gx p F H F' H') (h : Ow K F' H' p d') : Rl K B σ H' (ρ.set i (some (.own t d'))) F' := by
  obtain ⟨p', q1, q2, q3, q4⟩ := r.ow i _ d hi
  rw [hp] at q1
  cases q1
  have fn : ∀ {a : Addr}, F a = none → (∃ o, H a = some o) → F' a = none := fun {a} fa ⟨o, ho⟩ => by
    cases e : F' a with
    | none => rfl
    | some u =>
      rcases g.nw _ _ e with z | z
      · rw [fa] at z; cases z
      · rw [ho] at z; cases z
  refine ⟨g.fh, fun a u e => g.hh a u (fun z => by rw [z, q3] at e; cases e) (r.bh _ _ e), fun a o u e1 e2 => ?_, by rw [List.length_set, r.len], fun j e he => ?_, fun j t2 e he => ?_, fun j k t1 t2 d1 d2 p' h1 h2 h3 h4 => ?_, fun j e p' h1 h2 => ?_⟩
  · rcases g.nw _ _ e2 with z | z
    · exact r.zf _ _ _ e1 z
    · rw [r.bh _ _ e1] at z; cases z
  · rcases set_cases he with ⟨rfl, q, _⟩ | ⟨hj, q⟩
    · cases q
    · obtain ⟨v, w1, w2⟩ := r.fz j e q
      exact ⟨v, w1, w2.same g.ff⟩
  · rcases set_cases he with ⟨rfl, q, _⟩ | ⟨hj, q⟩
    · cases q
      exact ⟨p, hp, fn q2 q4.some, q3, h⟩
    · obtain ⟨p', w1, w2, w3, w4⟩ := r.ow j _ e q
      refine ⟨p', w1, fn w2 w4.some, w3, w4.mono g.ff fun u hu => g.hh _ _ (fun z => hj ?_) hu⟩
      subst z
      exact r.dj i j _ _ _ _ _ hi q hp w1
  · rcases set_cases h1 with ⟨rfl, q, _⟩ | ⟨hj, q⟩
    · rcases set_cases h2 with ⟨rfl, q', _⟩ | ⟨hk, q'⟩
      · rfl
      · exact r.dj _ k _ _ _ _ p' hi q' h3 h4
    · rcases set_cases h2 with ⟨rfl, q', _⟩ | ⟨hk, q'⟩
      · exact r.dj j _ _ _ _ _ p' q hi h3 h4
      · exact r.dj j k _ _ _ _ p' q q' h3 h4
  · rcases set_cases h1 with ⟨rfl, q, _⟩ | ⟨hj, q⟩
    · cases q
      exact r.pn _ _ _ hi h2
    · exact r.pn j e p' q h2
/-- arguments of which the j-th is the thing at slot i, the others computed -/
def RIO (K : PySem.W.Frag) (j : Nat) (p : Addr) : Hp → List V → List D → Prop := fun F' vs ds => ∃ ws, DtAll K F' ws ds ∧ j ≤ ws.length ∧ vs = ws.insertIdx j (.ref p)
def aIO (K : PySem.W.Frag) (xm : XMo) (j i : Nat) (m : Env → MO (List D)) : TA := fun σ H Q => ∃ B ρ F p, Rl K B σ H ρ F ∧ σ[i]? = some (some (.ref p)) ∧ Pm (RIO K j p) K xm σ B F (m ρ) Q
/-- f(.., x, ..), x changed -/
def ownS (ρ : Env) (i : Nat) : Option (Bool × D) := match ρ[i]? with
  | some (some (.own t o)) => some (t, o)
  | _ => none
def mIO (j i : Nat) (f : List D → Res (D × D)) (m : Env → MO (List D)) : Env → MO D := fun ρ => match ownS ρ i with
  | some _ => (m ρ).bind fun as ρ1 => match ownS ρ1 i with
    | some (t, o) => match f (as.insertIdx j o) with
      | .ok r => .ok r.1 (ρ1.set i (some (.own t r.2)))
      | _ => .bad
    | none => .bad
  | none => .bad
end
/-! such a def -/
def entIO (n np j : Nat) (ds : List D) : Env := match ds[j]? with
  | some o => (ent n np ds).set j (some (.own true o))
  | none => []
def outIO (j : Nat) : Out → Res (D × D)
  | .nx ρ => match ownS ρ j with
    | some (true, o) => .ok (.non, o)
    | _ => .bad
  | .rt d ρ => match ownS ρ j with
    | some (true, o) => .ok (d, o)
    | _ => .bad
  | _ => .bad
def runIO (np n j : Nat) (g : Env → Out) (ds : List D) : Res (D × D) := if ds.length = np then outIO j (g (entIO n np j ds)) else .bad
section
variable {P : Program} {w : World} {K : PySem.W.Frag} {mg : Str → Option Value} {base : Heap}
end
end Du

namespace Du
open PySem PySem.Spec PyProof.Rows L2
section
variable {K : PySem.W.Frag} {xm : XMo} {X : Cx} {B : Bs} {F H : Hp} {σ : St} {ρ : Env} {Dn : Ends}
/-! ### statements over expressions with state -/
def mAt {α : Type} (m : Env → MO α) (ρ : Env) (k : α → Env → Out) : Out := match m ρ with
  | .ok a ρ1 => k a ρ1
  | .ex x ρ1 => .ex x ρ1
  | .bad => .bad
def sAsgM (m : Env → MO D) (tg : Tgt) : Env → Out := fun ρ => mAt m ρ fun d ρ1 => match tg d with
  | .ok as => .nx (setS ρ1 as)
  | _ => .bad
def sExprM (m : Env → MO D) : Env → Out := fun ρ => mAt m ρ fun _ ρ1 => .nx ρ1
def sRetM (m : Env → MO D) : Env → Out := fun ρ => mAt m ρ fun d ρ1 => .rt d ρ1
def sIfM (m : Env → MO Bool) (g h : Env → Out) : Env → Out := fun ρ => mAt m ρ fun b ρ1 => if b = true then g ρ1 else h ρ1
def sAppM (i : Nat) (m : Env → MO D) : Env → Out := fun ρ => mAt m ρ fun d ρ1 => chg ρ1 i fun ds => if fit ds.length = true then some (ds ++ [d]) else none
/-! x[k] = e, e with state -/
def sPutLM (i : Nat) (m : Env → MO D) (fk : VEnv → Res D) : Env → Out := fun ρ => mAt m ρ fun d ρ1 => need i (fun ρ' => eAt [] fk ρ' fun n => match n with
  | .int n => chg ρ' i fun ds => match ixN ds.length n with
    | some j => some (ds.set j d)
    | none => none
  | _ => .bad) ρ1
/-! ### comprehensions whose parts have state -/
def wipeS (ρ : Env) : List Nat → Env
  | [] => ρ
  | v :: vs => (wipeS ρ vs).set v none
theorem wipeS_get (σ : Env) (j : Nat) : ∀ vs : List Nat, (wipeS σ vs)[j]? = if j ∈ vs then σ[j]?.map (fun _ => none) else σ[j]?
  | [] => by simp [wipeS]
  | v :: vs => by
    unfold wipeS
    have wl : ∀ vs : List Nat, (wipeS σ vs).length = σ.length := by
      intro vs
      induction vs with
      | nil => rfl
      | cons a r ih => unfold wipeS; rw [List.length_set, ih]
    rw [List.getElem?_set]
    by_cases h : v = j
    · subst h
      rw [if_pos rfl, if_pos List.mem_cons_self, wl]
      by_cases hl : v < σ.length
      · rw [if_pos hl, List.getElem?_eq_getElem hl]; rfl
      · rw [if_neg hl, List.getElem?_eq_none (by omega)]; rfl
    · rw [if_neg h, wipeS_get σ j vs]
      have : (j ∈ v :: vs) ↔ j ∈ vs := ⟨fun q => (List.mem_cons.mp q).elim (fun e => absurd e.symm h) id, List.mem_cons_of_mem _⟩
      by_cases hj : j ∈ vs
      · rw [if_pos hj, if_pos (this.mpr hj)]
      · rw [if_neg hj, if_neg fun q => hj (this.mp q)]
theorem wipeS_len (σ : Env) : ∀ vs : List Nat, (wipeS σ vs).length = σ.length
  | [] => rfl
  | a :: r => by unfold wipeS; rw [List.length_set, wipeS_len σ r]
/-- slots of other values outside of those that are forgotten -/
theorem Rl.other {σ' : St} (r : Rl K B σ H ρ F) {vs : List Nat} (hw : wipe σ' vs = wipe σ vs) : Rl K B σ' H (wipeS ρ vs) F := by
  have g : ∀ {i : Nat} {s : Slot}, (wipeS ρ vs)[i]? = some (some s) → ρ[i]? = some (some s) ∧ σ'[i]? = σ[i]? := fun {i s} e => by
    rw [wipeS_get] at e
    by_cases hj : i ∈ vs
    · rw [if_pos hj] at e
      obtain ⟨a, h1, h2⟩ := Option.map_eq_some_iff.mp e
      cases h2
    · rw [if_neg hj] at e
      have := congrArg (fun l => l[i]?) hw
      simp only [wipe_get, if_neg hj] at this
      exact ⟨e, this⟩
  have hl : σ'.length = σ.length := by
    have := congrArg List.length hw
    rwa [wipe_length, wipe_length] at this
  refine ⟨r.fh, r.bh, r.zf, by rw [hl, wipeS_len, r.len], fun i d e => ?_, fun i t d e => ?_, fun i j t u d e p h1 h2 h3 h4 => ?_, fun i d p h1 h2 => ?_⟩
  · obtain ⟨h1, h2⟩ := g e
    rw [h2]
    exact r.fz i d h1
  · obtain ⟨h1, h2⟩ := g e
    rw [h2]
    exact r.ow i t d h1
  · obtain ⟨a1, a2⟩ := g h1
    obtain ⟨b1, b2⟩ := g h2
    rw [a2] at h3
    rw [b2] at h4
    exact r.dj i j t u d e p a1 b1 h3 h4
  · obtain ⟨a1, a2⟩ := g h1
    rw [a2] at h2
    exact r.pn i d p a1 h2
def compM (tg : Tgt) (c : Env → MO Bool) (f : Env → MO D) (vs : List Nat) : List D → Env → MO (List D)
  | [], ρ => .ok [] ρ
  | d :: ds, ρ => match tg d with
    | .ok as => if as.all (fun p => vs.contains p.1) = true then (c (setS (wipeS ρ vs) as)).bind fun b ρ1 => if b = true then (f ρ1).bind fun e ρ2 => (compM tg c f vs ds (wipeS ρ2 vs)).bind fun es ρ3 => .ok (e :: es) ρ3 else compM tg c f vs ds (wipeS ρ1 vs) else .bad
    | _ => .bad
def mComp (vs : List Nat) (L : List Nat) (it : VEnv → Res (List D)) (tg : Tgt) (c : Env → MO Bool) (f : Env → MO D) : Env → MO D := fun ρ => match it (view L ρ) with
  | .ok ds => if fit ds.length = true then match compM tg c f vs ds (wipeS (shut L ρ) vs) with
    | .ok es ρ1 => .ok (.lst es) ρ1
    | _ => .bad else .bad
  | .exc x => .ex x (shut L ρ)
  | .bad => .bad
abbrev MTs (K : PySem.W.Frag) (X : Cx) (ifs : List Expr) (c : Env → MO Bool) : Prop := PTs X ifs (bM K none c)
def mYes : Env → MO Bool := fun ρ => .ok true ρ
theorem BM.ok {α β : Type} {r : MO α} {f : α → Env → MO β} {b : β} {ρ : Env} (h : r.bind f = .ok b ρ) : ∃ a ρ1, r = .ok a ρ1 ∧ f a ρ1 = .ok b ρ := by
  cases r with
  | ok a ρ1 => exact ⟨a, ρ1, rfl, h⟩
  | ex x ρ1 => cases h
  | bad => cases h
/-- the base while the list at p is being made -/
def making (B : Bs) (p : Addr) (acc : List V) : Bs := ⟨upd B.b p (.lst acc), fun a => if a = p then none else B.g a, B.pin⟩
/-! as a value, as an own list -/
/-- a new thing, behind state -/
def PmW (K : PySem.W.Frag) (xm : XMo) (σ : St) (B : Bs) (r : MO D) (Q : VK) : Prop := match r with
  | .ok d ρ => ∀ p H' F', Rl K B σ H' ρ F' → F' p = none → B.b p = none → Ow K F' H' p d → (∀ (j : Nat) (t : Bool) (e : D), ρ[j]? = some (some (.own t e)) → σ[j]? ≠ some (some (.ref p))) → Q (.ref p) H'
  | .ex x ρ => match xm with
    | none => False
    | some m => ∀ C dd H' F', Rl K B σ H' ρ F' → ExIs K m.mg x F' C dd → m.W C dd σ H'
  | .bad => False
def tMW (K : PySem.W.Frag) (xm : XMo) (m : Env → MO D) : TE := fun σ H Q => ∃ B ρ F, Rl K B σ H ρ F ∧ PmW K xm σ B (m ρ) Q
abbrev MEW (K : PySem.W.Frag) (xm : XMo) (X : Cx) (e : Expr) (m : Env → MO D) : Prop := PE X e (tMW K xm m)
def sOwnM (i : Nat) (m : Env → MO D) : Env → Out := fun ρ => mAt m ρ fun d ρ1 => .nx (ρ1.set i (some (.own false d)))
end
end Du

namespace Du
open PySem PySem.Spec PyProof.Rows L2
section
variable {K : PySem.W.Frag} {xm : XMo} {X : Cx}
/-! ### len, abs, min, max, sum, all, any -/
def rLenA (K : PySem.W.Frag) : List V → Hp → VK → Prop := fun xs H Q => (fun xs H Q => ∃ x n, xs = [x] ∧ LenV K x H n ∧ Q (.int n) H) xs H Q ∨ (fun xs H Q => ∃ a kvs, xs = [V.ref a] ∧ Rd H a (.dK kvs) ∧ Q (.int kvs.length) H) xs H Q
theorem call_lenR {X : Cx} : CallR X (.builtin "len") (fun xs H Q => ∃ a kvs, xs = [V.ref a] ∧ Rd H a (.dK kvs) ∧ Q (.int kvs.length) H) := by
  intro pins s σ H xs us Q I r h
  obtain ⟨a, kvs, rfl, ha, q⟩ := h
  obtain ⟨u, rfl, ru⟩ := vals1 r
  cases ru
  exact d_len I ha fun t s' I' => ⟨.int kvs.length, H, I', ⟨t, rfl⟩, q⟩
theorem cr_len (h : X.K = K := by rfl) : CallR X (.builtin "len") (rLenA K) := by
  subst h
  exact CallR.or call_len call_lenR
def dLen : List D → Res D
  | [.str z] => if fit z.length = true then .ok (.int z.length) else .bad
  | [.lst ds] => .ok (.int ds.length)
  | [.tup ds] => .ok (.int ds.length)
  | [.scr ns] => .ok (.int ns.length)
  | [.dct false kvs] => .ok (.int kvs.length)
  | _ => .bad
theorem cd_len : CallD K (rLenA K) dLen := by
  intro xm σ F H xs ds Q s hd k
  unfold dLen at k
  split at k
  · obtain ⟨v, rfl, h⟩ := hd.one
    obtain ⟨f, k⟩ := Po.ite k
    rw [h.strE]
    exact .inl ⟨_, _, rfl, ⟨Nat.le_of_lt (fit_line f), rfl⟩, k.done s (.int _)⟩
  · obtain ⟨v, rfl, h⟩ := hd.one
    obtain ⟨p, ys, rfl, h1, h2⟩ := h.lstE
    exact .inl ⟨_, _, rfl, .inl ⟨ys, SqL.of (s _ _ h1), rfl⟩, by rw [h2.length]; exact k.done s (.int _)⟩
  · obtain ⟨v, rfl, h⟩ := hd.one
    obtain ⟨p, ys, rfl, h1, h2⟩ := h.tupE
    exact .inl ⟨_, _, rfl, .inr ⟨ys, (Below.of s).sqt h1, rfl⟩, by rw [h2.length]; exact k.done s (.int _)⟩
  · obtain ⟨v, rfl, h⟩ := hd.one
    cases h with
    | scr h1 => exact .inl ⟨_, _, rfl, .inl ⟨_, (Below.of s).sql h1, rfl⟩, by rw [List.length_map]; exact k.done s (.int _)⟩
  · obtain ⟨v, rfl, h⟩ := hd.one
    cases h with
    | @dk a kvs _ h1 h2 h3 =>
      exact .inr ⟨a, kvs, rfl, (Below.of s).rd h1, by
        have e := congrArg List.length h3
        rw [List.length_map, List.length_map] at e
        rw [← e]
        exact k.done s (.int _)⟩
  · exact k.elim
def dAbs : List D → Res D
  | [.int i] => .ok (.int (if i < 0 then -i else i))
  | _ => .bad
theorem cd_abs : CallD K (fun xs H Q => ∃ i, xs = [.int i] ∧ Q (.int (if i < 0 then -i else i)) H) dAbs := by
  intro xm σ F H xs ds Q s hd k
  unfold dAbs at k
  split at k
  · obtain ⟨v, rfl, h⟩ := hd.one
    rw [h.intE]
    exact ⟨_, rfl, k.done s (.int _)⟩
  · exact k.elim
def dMax2 : List D → Res D
  | [.int i, .int j] => .ok (.int (if j > i then j else i))
  | _ => .bad
def dMin2 : List D → Res D
  | [.int i, .int j] => .ok (.int (if j < i then j else i))
  | _ => .bad
/-- a list of whole numbers, of truths -/
def asInts : List D → Option (List Int)
  | [] => some []
  | .int i :: r => (asInts r).map (i :: ·)
  | _ :: _ => none
def asBls : List D → Option (List Bool)
  | [] => some []
  | .bl i :: r => (asBls r).map (i :: ·)
  | _ :: _ => none
def asStrs : List D → Option (List Str)
  | [] => some []
  | .str i :: r => (asStrs r).map (i :: ·)
  | _ :: _ => none
theorem asInts_of : ∀ {ds : List D} {ns : List Int}, asInts ds = some ns → ds = ns.map D.int
  | [], _, h => by cases h; rfl
  | .int i :: r, ns, h => by
    unfold asInts at h
    obtain ⟨m, h1, rfl⟩ := Option.map_eq_some_iff.mp h
    rw [asInts_of h1]
    rfl
  | .non :: _, _, h => by cases h
  | .bl _ :: _, _, h => by cases h
  | .str _ :: _, _, h => by cases h
  | .lst _ :: _, _, h => by cases h
  | .tup _ :: _, _, h => by cases h
  | .scr _ :: _, _, h => by cases h
  | .dct _ _ :: _, _, h => by cases h
  | .exc _ _ :: _, _, h => by cases h
theorem asBls_of : ∀ {ds : List D} {ns : List Bool}, asBls ds = some ns → ds = ns.map D.bl
  | [], _, h => by cases h; rfl
  | .bl i :: r, ns, h => by
    unfold asBls at h
    obtain ⟨m, h1, rfl⟩ := Option.map_eq_some_iff.mp h
    rw [asBls_of h1]
    rfl
  | .non :: _, _, h => by cases h
  | .int _ :: _, _, h => by cases h
  | .str _ :: _, _, h => by cases h
  | .lst _ :: _, _, h => by cases h
  | .tup _ :: _, _, h => by cases h
  | .scr _ :: _, _, h => by cases h
  | .dct _ _ :: _, _, h => by cases h
  | .exc _ _ :: _, _, h => by cases h
theorem asStrs_of : ∀ {ds : List D} {ns : List Str}, asStrs ds = some ns → ds = ns.map D.str
  | [], _, h => by cases h; rfl
  | .str i :: r, ns, h => by
    unfold asStrs at h
    obtain ⟨m, h1, rfl⟩ := Option.map_eq_some_iff.mp h
    rw [asStrs_of h1]
    rfl
  | .non :: _, _, h => by cases h
  | .int _ :: _, _, h => by cases h
  | .bl _ :: _, _, h => by cases h
  | .lst _ :: _, _, h => by cases h
  | .tup _ :: _, _, h => by cases h
  | .scr _ :: _, _, h => by cases h
  | .dct _ _ :: _, _, h => by cases h
  | .exc _ _ :: _, _, h => by cases h
@[simp] theorem asInts_map (ns : List Int) : asInts (ns.map D.int) = some ns := by
  induction ns with
  | nil => rfl
  | cons n r ih => rw [List.map_cons, asInts, ih]; rfl
@[simp] theorem asBls_map (ns : List Bool) : asBls (ns.map D.bl) = some ns := by
  induction ns with
  | nil => rfl
  | cons n r ih => rw [List.map_cons, asBls, ih]; rfl
@[simp] theorem asStrs_map (ns : List Str) : asStrs (ns.map D.str) = some ns := by
  induction ns with
  | nil => rfl
  | cons n r ih => rw [List.map_cons, asStrs, ih]; rfl
theorem DtAll.blsE {F : Hp} : ∀ {vs : List V} {ns : List Bool}, DtAll K F vs (ns.map D.bl) → vs = ns.map V.bl
  | _, [], .nil => rfl
  | _, n :: ns, .cons a b => by
    rw [a.blE, DtAll.blsE b]
    rfl
def dSum : List D → Res D
  | [.lst ds] => match asInts ds with
    | some ns => .ok (.int ns.sum)
    | none => .bad
  | _ => .bad
theorem cd_sum : CallD K (rSum K) dSum := by
  intro xm σ F H xs ds Q s hd k
  unfold dSum at k
  split at k
  · obtain ⟨v, rfl, h⟩ := hd.one
    obtain ⟨p, ys, rfl, h1, h2⟩ := h.lstE
    split at k
    · rename_i ns e
      rw [asInts_of e] at h2
      rw [h2.intsE] at h1
      exact ⟨p, ns, rfl, SqL.of (s _ _ h1), k.done s (.int _)⟩
    · exact k.elim
  · exact k.elim
def dMaxL : List D → Res D
  | [.lst ds] => match asInts ds with
    | some (n :: ns) => .ok (.int (ns.foldl max n))
    | _ => .bad
  | _ => .bad
def dMinL : List D → Res D
  | [.lst ds] => match asInts ds with
    | some (n :: ns) => .ok (.int (ns.foldl min n))
    | _ => .bad
  | _ => .bad
def dAll : List D → Res D
  | [.lst ds] => match asBls ds with
    | some bs => .ok (.bl (bs.all id))
    | none => .bad
  | _ => .bad
def dAny : List D → Res D
  | [.lst ds] => match asBls ds with
    | some bs => .ok (.bl (bs.any id))
    | none => .bad
  | _ => .bad
theorem cd_all : CallD K (rAll K) dAll := by
  intro xm σ F H xs ds Q s hd k
  unfold dAll at k
  split at k
  · obtain ⟨v, rfl, h⟩ := hd.one
    obtain ⟨p, ys, rfl, h1, h2⟩ := h.lstE
    split at k
    · rename_i bs e
      rw [asBls_of e] at h2
      rw [h2.blsE] at h1
      exact ⟨p, bs, rfl, SqL.of (s _ _ h1), k.done s (.bl _)⟩
    · exact k.elim
  · exact k.elim
/-! ### int, str, list, tuple, dict -/
def dInt : List D → Res D
  | [.int i] => .ok (.int i)
  | [.bl b] => .ok (.int (if b then 1 else 0))
  | _ => .bad
def dStr : List D → Res D
  | [.int i] => if i.natAbs.log2 < 1920 then .ok (.str (toString i)) else .bad
  | _ => .bad
def dList : List D → Res D
  | [.lst ds] => .ok (.lst ds)
  | [.tup ds] => .ok (.lst ds)
  | [.scr ns] => .ok (.lst (ns.map D.int))
  | _ => .bad
def dTuple : List D → Res D
  | [.lst ds] => .ok (.tup ds)
  | [.tup ds] => .ok (.tup ds)
  | _ => .bad
theorem cd_tuple : CallD K (Dear.rTupOf K) dTuple := by
  intro xm σ F H xs ds Q s hd k
  unfold dTuple at k
  split at k
  · obtain ⟨v, rfl, h⟩ := hd.one
    obtain ⟨p, ys, rfl, h1, h2⟩ := h.lstE
    exact ⟨p, ys, rfl, .inl ⟨SqL.of (s _ _ h1), fun l hl => k.new s hl (.tup upd_same (h2.same (sm_upd (s.free hl))))⟩⟩
  · obtain ⟨v, rfl, h⟩ := hd.one
    obtain ⟨p, ys, rfl, h1, h2⟩ := id h.tupE
    exact ⟨p, ys, rfl, .inr ⟨(Below.of s).sqt h1, k.done s h⟩⟩
  · exact k.elim
/-! ### isinstance -/
def kind : D → String
  | .non => "NoneType" | .bl _ => "bool" | .int _ => "int" | .str _ => "str" | .lst _ => "list" | .tup _ => "tuple" | .dct _ _ => "dict" | .scr _ => "" | .exc _ _ => ""
def isKind (t : String) (d : D) : Res D := match d with
  | .scr _ => .bad
  | .exc _ _ => .bad
  | d => .ok (.bl (kind d == t || (kind d == "bool" && t == "int")))
theorem tyX_of {F H : Hp} {v : V} {d : D} (s : Same F H) (h : Dt K F v d) (h1 : ∀ ns, d ≠ .scr ns) (h2 : ∀ c f, d ≠ .exc c f) : TyX K H v (.type (kind d)) := by
  cases h with
  | non => exact .base .non
  | bl b => exact .base (.bl b)
  | int i => exact .base (.int i)
  | str z => exact .base (.str z)
  | lst h _ => exact .base (.lst (s _ _ h))
  | tup h _ => exact .base (.tup (s _ _ h))
  | tk h _ =>
    obtain ⟨_, _, _, h1, h2, _⟩ := h
    exact .kTuple h1 h2
  | scr _ => exact absurd rfl (h1 _)
  | dk h _ _ =>
    rcases h with h | ⟨o, h⟩
    · exact .base (.dK (s _ _ h))
    · exact .fDict (s _ _ h)
  | dt h _ _ => exact .base (.dT (s _ _ h))
def TyNames : List String := ["int", "bool", "str", "list", "tuple", "dict"]
theorem kitB_all : (TyNames.all fun t => ["NoneType", "bool", "int", "str", "list", "tuple", "dict"].all fun k => kitB k t == some (k == t || (k == "bool" && t == "int"))) = true := by decide +kernel
theorem kit_kind {t : String} (ht : t ∈ TyNames) {d : D} (h1 : ∀ ns, d ≠ .scr ns) (h2 : ∀ c f, d ≠ .exc c f) : PySem.W.kitOne K (.type (kind d)) (.type t) = some (kind d == t || (kind d == "bool" && t == "int")) := by
  refine kit_ty ?_
  have a := List.all_eq_true.mp kitB_all t ht
  have hm : kind d ∈ ["NoneType", "bool", "int", "str", "list", "tuple", "dict"] := by
    cases d with
    | scr ns => exact absurd rfl (h1 ns)
    | exc c f => exact absurd rfl (h2 c f)
    | _ => simp [kind]
  have b := List.all_eq_true.mp a _ hm
  exact eq_of_beq b
def eIsi (t : String) (f : VEnv → Res D) : VEnv → Res D := fun ρ => (f ρ).bind (isKind t)
theorem fe_isi {t : String} {ts : Str} {e : Expr} {f : VEnv → Res D} {p p2 pos : Pos} (ht : t ∈ TyNames) (he : FE K xm X e f) (h2 : PE X (.Name ts p2) (tC (.ty t))) (hm : X.mg "isinstance" = none) (hk : X.K = K := by rfl) (hg : Gl X "isinstance" := by rfl)
    (hs : starEach [e, .Name ts p2] X.env = (false, eval e X.env) :: starEach [.Name ts p2] X.env := by rfl) (hs2 : starEach [.Name ts p2] X.env = (false, eval (.Name ts p2) X.env) :: starEach [] X.env := by rfl) (hpl : (backTo pos (starEach [.Name ts p2] X.env)).any (·.1) = false := by rfl) :
    FE K xm X (.Call (.Name "isinstance" p) [e, .Name ts p2] [] pos) (eIsi t f) :=
  PE.to (pe_callB (Dear.call_isi_k K hk) hg hm (by decide +kernel) (pa_cons he (pa_cons h2 pa_nil hs2) hs) (by decide) (by decide) hs hpl) fun σ H Q ⟨F, ρ, sF, vw, k⟩ => ⟨F, ρ, sF, vw, Po.seq k fun d v F1 H1 g1 d1 k1 => by
    have key : (∀ ns, d ≠ .scr ns) → (∀ c f, d ≠ .exc c f) → Po (RD K) K xm σ F1 H1 (.ok (.bl (kind d == t || (kind d == "bool" && t == "int")))) Q → rIsi K [v, .ty t] H1 Q := fun h1 h2 k1 =>
      ⟨v, .ty t, _, _, _, rfl, .ty t, tyX_of g1.fh d1 h1 h2, kit_kind ht h1 h2, k1.done g1.fh (.bl _)⟩
    cases d with
    | scr ns => exact k1.elim
    | exc c f => exact k1.elim
    | non => exact key (fun _ => nofun) (fun _ _ => nofun) k1
    | bl _ => exact key (fun _ => nofun) (fun _ _ => nofun) k1
    | int _ => exact key (fun _ => nofun) (fun _ _ => nofun) k1
    | str _ => exact key (fun _ => nofun) (fun _ _ => nofun) k1
    | lst _ => exact key (fun _ => nofun) (fun _ _ => nofun) k1
    | tup _ => exact key (fun _ => nofun) (fun _ _ => nofun) k1
    | dct _ _ => exact key (fun _ => nofun) (fun _ _ => nofun) k1⟩
/-! ### len(set(e)), e a list of texts -/
def eLenSet (f : VEnv → Res D) : VEnv → Res D := fun ρ => (f ρ).bind fun d => match d with
  | .lst ds => match asStrs ds with
    | some zs => if Nat.ble zs.length 1000 = true then .ok (.int (Dear.dd zs).length) else .bad
    | none => .bad
  | _ => .bad
theorem fe_lenSet {a : Expr} {f : VEnv → Res D} {p p2 q pos : Pos} (hm : X.mg "len" = none) (hm2 : X.mg "set" = none) (ha : FE K xm X a f) (hc : X.calm = true := by rfl) (hk : X.K = K := by rfl) (hg : Gl X "len" := by rfl) (hg2 : Gl X "set" := by rfl)
    (na : starEach [a] X.env = (false, eval a X.env) :: starEach [] X.env := by rfl) : FE K xm X (.Call (.Name "len" p) [.Call (.Name "set" p2) [a] [] q] [] pos) (eLenSet f) :=
  PE.to (Dear.pe_lenSetS K hc hm hm2 ha hk hg hg2 na) fun σ H Q ⟨F, ρ, sF, vw, k⟩ => ⟨F, ρ, sF, vw, Po.seq k fun d v F1 H1 g1 d1 k1 => by
    split at k1
    · obtain ⟨p, ys, rfl, h1, h2⟩ := d1.lstE
      split at k1
      · rename_i zs e
        obtain ⟨f, k1⟩ := Po.ite k1
        rw [asStrs_of e] at h2
        rw [h2.strsE] at h1
        exact ⟨p, zs, rfl, SqL.of (g1.fh _ _ h1), Nat.le_of_ble_eq_true f, k1.done g1.fh (.int _)⟩
      · exact k1.elim
    · exact k1.elim⟩
/-! ### own lists: list(e), sorted(e); dict(pairs) -/
/-- pairs of a key and a thing -/
def asPairs : List D → Option (List (D × D))
  | [] => some []
  | .tup [k, v] :: r => if dKeyOk k = true then (asPairs r).map ((k, v) :: ·) else none
  | _ :: _ => none
noncomputable def mergeD (acc : List (D × D)) (ps : List (D × D)) : List (D × D) := ps.foldl (fun a p => dPut a p.1 p.2) acc
noncomputable def dDict : List D → Res D
  | [.lst ds] => match asPairs ds with
    | some ps => .ok (.dct false (mergeD [] ps))
    | none => .bad
  | _ => .bad
theorem merge_of {F : Hp} : ∀ {more : List (Key × V)} {ps : List (D × D)} {kvs : List (Key × V)} {ds : List (D × D)}, DtAll K F (more.map (·.2)) (ps.map (·.2)) → ps.map (·.1) = more.map (fun p => keyD p.1) → DtAll K F (kvs.map (·.2)) (ds.map (·.2)) → ds.map (·.1) = kvs.map (fun p => keyD p.1) →
    DtAll K F ((mergeK kvs more).map (·.2)) ((mergeD ds ps).map (·.2)) ∧ (mergeD ds ps).map (·.1) = (mergeK kvs more).map (fun p => keyD p.1)
  | [], [], _, _, _, _, h, e => ⟨h, e⟩
  | [], _ :: _, _, _, _, e, _, _ => by simp at e
  | _ :: _, [], _, _, _, e, _, _ => by simp at e
  | m :: more, p :: ps, kvs, ds, h, e, h0, e0 => by
    simp only [List.map_cons] at h e
    cases h with
    | cons a b =>
      injection e with e1 e2
      obtain ⟨z1, z2⟩ := put_of (k := m.1) a h0 e0
      have ih := merge_of (kvs := putK kvs m.1 m.2) (ds := dPut ds p.1 p.2) b e2 (by rw [e1]; exact z1) (by rw [e1]; exact z2)
      exact ih
theorem pairs_of' {F H : Hp} (s : Same F H) : ∀ {xs : List V} {ds ps : List (D)} {qs : List (D × D)}, DtAll K F xs ds → asPairs ds = some qs → ∃ (as : List Addr) (kvs : List (Key × V)), xs = as.map V.ref ∧ Paired (fun p kv => SqT K H p [kV kv.1, kv.2]) as kvs ∧ DtAll K F (kvs.map (·.2)) (qs.map (·.2)) ∧ qs.map (·.1) = kvs.map (fun p => keyD p.1) := by
  intro xs ds _ qs h
  induction xs generalizing ds qs with
  | nil =>
    cases h
    intro e
    cases e
    exact ⟨[], [], rfl, .nil, .nil, rfl⟩
  | cons v xs ih =>
    cases h with
    | @cons _ _ d ds a b =>
      intro e
      unfold asPairs at e
      split at e
      · rename_i h0
        cases h0
      · rename_i k w r h0
        injection h0 with h1 h2
        subst h1 h2
        by_cases ok : dKeyOk k = true
        · rw [if_pos ok] at e
          obtain ⟨m, hm, rfl⟩ := Option.map_eq_some_iff.mp e
          obtain ⟨as, kvs, rfl, q1, q2, q3⟩ := ih b hm
          obtain ⟨p, ys, rfl, t1, t2⟩ := a.tupE
          obtain ⟨x, y, rfl, t3, t4⟩ := t2.two
          obtain ⟨key, rfl, rfl⟩ := keyE t3 ok
          exact ⟨p :: as, (key, y) :: kvs, rfl, .cons ((Below.of s).sqt t1) q1, .cons t4 q2, by rw [List.map_cons, List.map_cons, q3]⟩
        · rw [if_neg ok] at e; cases e
      · cases e
theorem cd_dict : CallD K (Dear.rDictP K) dDict := by
  intro xm σ F H xs ds Q s hd k
  unfold dDict at k
  split at k
  · obtain ⟨v, rfl, h⟩ := hd.one
    obtain ⟨p, ys, rfl, h1, h2⟩ := h.lstE
    split at k
    · rename_i ps e
      obtain ⟨as, kvs, rfl, q1, q2, q3⟩ := pairs_of' (ps := []) s h2 e
      obtain ⟨z1, z2⟩ := merge_of (kvs := []) (ds := []) q2 q3 .nil rfl
      exact ⟨p, as, kvs, rfl, SqL.of (s _ _ h1), q1, fun l hl => k.new s hl (.dk (.inl upd_same) (z1.same (sm_upd (s.free hl))) z2)⟩
    · exact k.elim
  · exact k.elim
/-! ### methods -/
def MtD (K : PySem.W.Frag) (T : String) (r : V → List V → Hp → VK → Prop) (ty : D → Bool) (g : D → List D → Res D) : Prop :=
  (∀ F H x a, Same F H → Dt K F x a → ty a = true → tyV K T x H) ∧ ∀ (xm : XMo) σ F H x a xs ds Q, Same F H → Dt K F x a → ty a = true → DtAll K F xs ds → Po (RD K) K xm σ F H (g a ds) Q → r x xs H Q
def eM (ty : D → Bool) (g : D → List D → Res D) (fo : VEnv → Res D) (fa : VEnv → Res (List D)) : VEnv → Res D := fun ρ => (fo ρ).bind fun a => if ty a = true then (fa ρ).bind fun as => g a as else .bad
def isStr : D → Bool
  | .str _ => true
  | _ => false
def isLst : D → Bool
  | .lst _ => true
  | _ => false
def dStarts : D → List D → Res D
  | .str a, [.str b] => .ok (.bl (Txt.startswith a b))
  | _, _ => .bad
def dUpper : D → List D → Res D
  | .str a, [] => if Nat.ble a.length 5592405 = true then .ok (.str (Txt.upper a)) else .bad
  | _, _ => .bad
/-- the first place of a flat thing -/
def dIndex : D → List D → Res D
  | .lst ds, [d] => if (flatD d && ds.all flatD) = true then match ds.findIdx? (fun e => pyEq e d) with
    | some j => .ok (.int j)
    | none => .bad else .bad
  | _, _ => .bad
end
end Du

namespace Du
open PySem PySem.Spec PyProof.Rows L2
section
variable {K : PySem.W.Frag} {xm : XMo} {X : Cx}
/-! ### sep.join(texts), text.split(sep) -/
def dJoin : D → D → Res D
  | .str a, .lst ds => match asStrs ds with
    | some zs => if Nat.ble ((zs.map (·.length)).sum + zs.length * a.length) 16777216 = true then .ok (.str (Txt.join a zs)) else .bad
    | none => .bad
  | _, _ => .bad
def eJoin (fo fa : VEnv → Res D) : VEnv → Res D := fun ρ => (fo ρ).bind fun a => if isStr a = true then (fa ρ).bind fun d => dJoin a d else .bad
def dSplit : D → List D → Res D
  | .str a, [.str b] => if (!(b.length == 0) && Nat.ble (a.length + 2) 16777216) = true then .ok (.lst ((Txt.split a b).map D.str)) else .bad
  | _, _ => .bad
/-! ### d.get(k), d.get(k, e) -/
def isDct : D → Bool
  | .dct false _ => true
  | _ => false
noncomputable def eGet1 (fo fk : VEnv → Res D) : VEnv → Res D := fun ρ => (fo ρ).bind fun a => match a with
  | .dct false kvs => (fk ρ).bind fun n => if dKeyOk n = true then .ok ((dGet kvs n).getD .non) else .bad
  | _ => .bad
noncomputable def eGet2 (fo fk fd : VEnv → Res D) : VEnv → Res D := fun ρ => (fo ρ).bind fun a => match a with
  | .dct false kvs => (fk ρ).bind fun n => (fd ρ).bind fun e => if dKeyOk n = true then .ok ((dGet kvs n).getD e) else .bad
  | _ => .bad
/-! ### sorted(e), e whole numbers, few -/
def insI (n : Int) : List Int → List Int
  | [] => [n]
  | m :: r => if n ≤ m then n :: m :: r else m :: insI n r
def sortI : List Int → List Int
  | [] => []
  | n :: r => insI n (sortI r)
/-! ### the law's own end -/
end
section
variable {P : Program} {w : World} {K : PySem.W.Frag} {mg : Str → Option Value} {base : Heap}
theorem law_of {k : Nat} {f : Addr} {fd : FuncData} {g : List D → Res D} (h : FnOk P w K mg base CX0 k f fd ["_law_script"] (sp0 K g)) (e : ∀ ns : List Int, ns.length ≤ 63 → g [.scr ns] = .ok (.bl true)) :
    FnOk P w K mg base CX0 k f fd ["_law_script"] (fun vs H Q _ => ∃ (a : Addr) (ns : List Int), vs = [.ref a] ∧ SqL K H a (ns.map V.int) ∧ ns.length ≤ 63 ∧ ∀ H', Q (.bl true) H') :=
  h.imp fun vs H Q E ⟨a, ns, ev, hS, hl, q⟩ => ⟨[.scr ns], H, .refl _, by rw [ev]; exact .cons (.scr hS) .nil, _, e ns hl, fun v G' H' _ d => by rw [d.blE]; exact q H'⟩
end
end Du

namespace Du
open PySem PySem.Spec PyProof.Rows L2
/-! ### what a comparison tells is a truth -/
theorem gb_eq : ∀ x y d, dEq x y = .ok d → ∃ b, d = .bl b := fun x y d h => by
  unfold dEq at h
  split at h
  · cases h; exact ⟨_, rfl⟩
  · cases h
theorem gb_ne : ∀ x y d, dNe x y = .ok d → ∃ b, d = .bl b := fun x y d h => by
  unfold dNe at h
  split at h
  · cases h; exact ⟨_, rfl⟩
  · cases h
theorem gb_cmp {p : Int → Int → Bool} : ∀ x y d, dCmp p x y = .ok d → ∃ b, d = .bl b := fun x y d h => by
  unfold dCmp at h
  split at h
  · cases h; exact ⟨_, rfl⟩
  · cases h
theorem gb_in {n : Bool} : ∀ x y d, dIn n x y = .ok d → ∃ b, d = .bl b := fun x y d h => by
  unfold dIn at h
  split at h
  · split at h
    · cases h; exact ⟨_, rfl⟩
    · cases h
  · split at h
    · cases h; exact ⟨_, rfl⟩
    · cases h
  · split at h
    · cases h; exact ⟨_, rfl⟩
    · cases h
  · split at h
    · cases h; exact ⟨_, rfl⟩
    · cases h
  · cases h
section
variable {K : PySem.W.Frag} {xm : XMo} {X : Cx}
/-! ### f(e, ..), e a new thing that f changes: what f tells of it -/
def eIOT (f : List D → Res (D × D)) (f0 : VEnv → Res D) (fa : VEnv → Res (List D)) : VEnv → Res D := fun ρ => (f0 ρ).bind fun o => (fa ρ).bind fun as => match f (o :: as) with
  | .ok r => .ok r.1
  | _ => .bad
end
end Du

namespace Du
open PySem PySem.Spec PyProof.Rows L2
theorem u65 {k : Nat} {A : Around} (r : Room k A) : A.units + 64 + 1 < cLine := by have := r.un; omega
def dNeg : D → Res D
  | .int i => .ok (.int (-i))
  | _ => .bad
theorem und_neg {K : PySem.W.Frag} : UnD K (rU fun i => .int (-i)) dNeg := by
  intro xm σ F H x a Q s h k
  unfold dNeg at k
  split at k
  · rw [h.intE]
    exact ⟨_, rfl, k.done s (.int _)⟩
  · exact k.elim
theorem tn_int : "int" ∈ TyNames := by unfold TyNames; exact .head _
theorem tn_bool : "bool" ∈ TyNames := by unfold TyNames; exact .tail _ (.head _)
theorem tn_str : "str" ∈ TyNames := by unfold TyNames; exact .tail _ (.tail _ (.head _))
theorem tn_list : "list" ∈ TyNames := by unfold TyNames; exact .tail _ (.tail _ (.tail _ (.head _)))
theorem tn_tuple : "tuple" ∈ TyNames := by unfold TyNames; exact .tail _ (.tail _ (.tail _ (.tail _ (.head _))))
end Du
namespace Du
open PySem PySem.Spec PyProof.Rows L2
/-- a comprehension within a comprehension -/
theorem blkIn' {X : Cx} {N : List Str} {sc scope : Scope} {own : List (Str × Nat)} (hN : X.N = N) (hs : X.env.scope = sc) (h : blkC N sc scope own = true) : BlkOk X.N X.env.scope scope own := by
  rw [hN, hs]
  exact blkOk_by h
end Du

namespace Du
open PySem PySem.Spec PyProof.Rows L2
/-! ### a dict that is gone through is locked meanwhile -/
section
variable {K : PySem.W.Frag} {F G : Hp}
structure Abv (F G : Hp) : Prop where
  rd : ∀ a u, (∀ ob w, u ≠ .frz ob w) → Rd F a u → Rd G a u
  ls : ∀ a xs, F a = some (.lst xs) → G a = some (.lst xs)
  tp : ∀ a xs, F a = some (.tup xs) → G a = some (.tup xs)
  dt : ∀ a xs, F a = some (.dT xs) → G a = some (.dT xs)
theorem Abv.sql {a : Addr} {xs : List V} (s : Abv F G) (h : SqL K F a xs) : SqL K G a xs := h.imp (s.rd _ _ fun _ _ e => nomatch e) id
theorem Abv.sqt {a : Addr} {xs : List V} (s : Abv F G) (h : SqT K F a xs) : SqT K G a xs := h.imp (s.rd _ _ fun _ _ e => nomatch e) id
theorem Abv.rdk {a : Addr} {xs : List (Key × V)} (s : Abv F G) (h : Rd F a (.dK xs)) : Rd G a (.dK xs) := s.rd _ _ (fun _ _ e => nomatch e) h
mutual
theorem Dt.ab (s : Abv F G) : ∀ {v : V} {d : D}, Dt K F v d → Dt K G v d
  | _, _, .non => .non
  | _, _, .bl b => .bl b
  | _, _, .int i => .int i
  | _, _, .str z => .str z
  | _, _, .lst h a => .lst (s.ls _ _ h) (DtAll.ab s a)
  | _, _, .scr h => .scr (s.sql h)
  | _, _, .tup h a => .tup (s.tp _ _ h) (DtAll.ab s a)
  | _, _, .tk h a => .tk h (DtAll.ab s a)
  | _, _, .dk h a e => .dk (s.rdk h) (DtAll.ab s a) e
  | _, _, .dt h a e => .dt (s.dt _ _ h) (DtAll.ab s a) e
theorem DtAll.ab (s : Abv F G) : ∀ {vs : List V} {ds : List D}, DtAll K F vs ds → DtAll K G vs ds
  | _, _, .nil => .nil
  | _, _, .cons a b => .cons (Dt.ab s a) (DtAll.ab s b)
end
theorem abv_unlock {a0 : Addr} {kvs : List (Key × V)} {od : Obj} (h : F a0 = none ∨ F a0 = some (.frz od (.dK kvs))) : Abv F (upd F a0 (.dK kvs)) := by
  have st : ∀ (a : Addr) (u : HO), (∀ ob w, u ≠ .frz ob w) → (∀ w, u ≠ .dK w) → F a = some u → (upd F a0 (.dK kvs)) a = some u := fun a u n n2 e => by
    by_cases z : a = a0
    · subst z
      rcases h with h | h
      · rw [h] at e; cases e
      · rw [h] at e; cases e; exact absurd rfl (n _ _)
    · rw [upd_ne z]; exact e
  refine ⟨fun a u n r => ?_, fun a xs e => ?_, fun a xs => st a _ (fun _ _ e => nomatch e) (fun _ e => nomatch e), fun a xs => st a _ (fun _ _ e => nomatch e) (fun _ e => nomatch e)⟩
  · by_cases z : a = a0
    · subst z
      rcases h with h | h
      · rcases r with r | ⟨ob, r⟩
        · rw [h] at r; cases r
        · rw [h] at r; cases r
      · rcases r with r | ⟨ob, r⟩
        · rw [h] at r; cases r; exact absurd rfl (n _ _)
        · rw [h] at r; cases r; exact .inl upd_same
    · rcases r with r | ⟨ob, r⟩
      · exact .inl (by rw [upd_ne z]; exact r)
      · exact .inr ⟨ob, by rw [upd_ne z]; exact r⟩
  · by_cases z : a = a0
    · subst z
      rcases h with h | h
      · rw [h] at e; cases e
      · rw [h] at e; cases e
    · rw [upd_ne z]; exact e
theorem bel_lock {a0 : Addr} {kvs : List (Key × V)} {od : Obj} (h : F a0 = some (.dK kvs)) : Below F (upd F a0 (.frz od (.dK kvs))) := fun a o e => by
  by_cases z : a = a0
  · subst z
    rw [h] at e
    cases e
    exact .inr ⟨_, _, rfl, upd_same⟩
  · exact .inl (by rw [upd_ne z]; exact e)
theorem Ow.mv' {F' H H' : Hp} {p : Addr} {d : D} (h : Ow K F H p d) (m : ∀ vs ds, DtAll K F vs ds → DtAll K F' vs ds) (e : ∀ o, H p = Option.some o → H' p = Option.some o) : Ow K F' H' p d := by
  unfold Ow at h ⊢
  split at h
  · obtain ⟨xs, h1, h2⟩ := h
    exact ⟨xs, e _ h1, m _ _ h2⟩
  · obtain ⟨kvs, h1, h2, h3⟩ := h
    exact ⟨kvs, e _ h1, m _ _ h2, h3⟩
  · obtain ⟨kvs, h1, h2, h3⟩ := h
    exact ⟨kvs, e _ h1, m _ _ h2, h3⟩
  · exact h.elim
def Bs.lock (B : Bs) (a : Addr) (o : HO) : Bs := ⟨upd B.b a o, B.g, B.pin⟩
variable {B : Bs} {H : Hp} {σ : St} {ρ : Env} {Dn : Ends} {a : Addr} {kvs : List (Key × V)} {od : Obj}
theorem Rl.lock (r : Rl K B σ H ρ F) (hf : F a = some (.dK kvs)) (hb : B.b a = some (.dK kvs)) (hg : ∃ v, B.g a = some v) : Rl K (B.lock a (.frz od (.dK kvs))) σ (upd H a (.frz od (.dK kvs))) ρ (upd F a (.frz od (.dK kvs))) := by
  refine ⟨sm_upd2 r.fh, sm_upd2 r.bh, fun c o u e1 e2 => ?_, r.len, fun i d e => ?_, fun i t d e => ?_, r.dj, r.pn⟩
  · by_cases z : c = a
    · subst z; exact hg
    · refine r.zf c o u ?_ (by rw [upd_ne z] at e2; exact e2)
      have : (upd B.b a (.frz od (.dK kvs))) c = some o := e1
      rw [upd_ne z] at this
      exact this
  · obtain ⟨v, q1, q2⟩ := r.fz i d e
    exact ⟨v, q1, q2.mv (bel_lock hf)⟩
  · obtain ⟨p, q1, q2, q3, q4⟩ := r.ow i t d e
    have z : p ≠ a := fun z => by rw [z, hf] at q2; cases q2
    refine ⟨p, q1, by rw [upd_ne z]; exact q2, ?_, Ow.mv' q4 (fun _ _ q => q.mv (bel_lock hf)) fun o ho => by rw [upd_ne z]; exact ho⟩
    show (upd B.b a (.frz od (.dK kvs))) p = none
    rw [upd_ne z]
    exact q3
theorem Rl.lockAt (r : Rl K (B.lock a (.frz od (.dK kvs))) σ H ρ F) : H a = some (.frz od (.dK kvs)) := r.bh a _ upd_same
theorem Rl.abv (r : Rl K (B.lock a (.frz od (.dK kvs))) σ H ρ F) : Abv F (upd F a (.dK kvs)) := abv_unlock (by
  cases e : F a with
  | none => exact .inl rfl
  | some o =>
    have := r.fh _ _ e
    rw [r.lockAt] at this
    cases this
    exact .inr rfl)
theorem Rl.unlock (r : Rl K (B.lock a (.frz od (.dK kvs))) σ H ρ F) (hb : B.b a = some (.dK kvs)) (hg : ∃ v, B.g a = some v) : Rl K B σ (upd H a (.dK kvs)) ρ (upd F a (.dK kvs)) := by
  refine ⟨sm_upd2 r.fh, fun c o e => ?_, fun c o u e1 e2 => ?_, r.len, fun i d e => ?_, fun i t d e => ?_, r.dj, r.pn⟩
  · by_cases z : c = a
    · subst z; rw [hb] at e; cases e; exact upd_same
    · rw [upd_ne z]
      refine r.bh c o ?_
      show (upd B.b a (.frz od (.dK kvs))) c = some o
      rw [upd_ne z]
      exact e
  · by_cases z : c = a
    · subst z; exact hg
    · refine r.zf c o u ?_ (by rw [upd_ne z] at e2; exact e2)
      show (upd B.b a (.frz od (.dK kvs))) c = some o
      rw [upd_ne z]
      exact e1
  · obtain ⟨v, q1, q2⟩ := r.fz i d e
    exact ⟨v, q1, q2.ab r.abv⟩
  · obtain ⟨p, q1, q2, q3, q4⟩ := r.ow i t d e
    have z : p ≠ a := fun z => by
      have : (upd B.b a (.frz od (.dK kvs))) p = none := q3
      rw [z, upd_same] at this
      cases this
    refine ⟨p, q1, by rw [upd_ne z]; exact q2, ?_, Ow.mv' q4 (fun _ _ q => q.ab r.abv) fun o ho => by rw [upd_ne z]; exact ho⟩
    have : (upd B.b a (.frz od (.dK kvs))) p = none := q3
    rw [upd_ne z] at this
    exact this
/-- the ends of a statement that runs while the dict is locked (tLock) -/
def Lkd (Dn : Ends) (a : Addr) (od : Obj) (u : HO) : Ends := ⟨fun σ' H' => H' a = some (.frz od u) ∧ Dn.nx σ' (upd H' a u), fun v H' => H' a = some (.frz od u) ∧ Dn.rt v (upd H' a u), fun σ' H' => H' a = some (.frz od u) ∧ Dn.bk σ' (upd H' a u), fun σ' H' => H' a = some (.frz od u) ∧ Dn.ct σ' (upd H' a u)⟩
theorem So.lock {o : Out} (k : So K none B Dn o) (hb : B.b a = some (.dK kvs)) (hg : ∃ v, B.g a = some v) : So K none (B.lock a (.frz od (.dK kvs))) (Lkd Dn a od (.dK kvs)) o := by
  cases o with
  | nx ρ => exact fun σ H F r => ⟨r.lockAt, k _ _ _ (r.unlock hb hg)⟩
  | bk ρ => exact fun σ H F r => ⟨r.lockAt, k _ _ _ (r.unlock hb hg)⟩
  | ct ρ => exact fun σ H F r => ⟨r.lockAt, k _ _ _ (r.unlock hb hg)⟩
  | rt d ρ => exact fun v σ H F r dv => ⟨r.lockAt, k _ _ _ _ (r.unlock hb hg) (dv.ab r.abv)⟩
  | ro d ρ =>
    refine fun p σ H F r fp bp ow => ?_
    have z : p ≠ a := fun z => by
      have : (upd B.b a (.frz od (.dK kvs))) p = none := bp
      rw [z, upd_same] at this
      cases this
    refine ⟨r.lockAt, k p _ _ _ (r.unlock hb hg) (by rw [upd_ne z]; exact fp) ?_ (Ow.mv' ow (fun _ _ q => q.ab r.abv) fun o ho => by rw [upd_ne z]; exact ho)⟩
    have : (upd B.b a (.frz od (.dK kvs))) p = none := bp
    rw [upd_ne z] at this
    exact this
  | ex x ρ => exact k.elim
  | bad => exact k.elim
/-! ### for k in d, d.items(), d.values() -/
def iDict (i : Nat) (J : Addr → Obj → List (Key × V) → It) : TI := fun σ H R => tVar i σ H fun x H1 => ∃ d o kvs, x = .ref d ∧ H1 d = some (.frz o (.dK kvs)) ∧ R (J d o kvs) H1
/-- J walks the pairs of a dict as q -/
def Walks (K : PySem.W.Frag) (J : Addr → Obj → List (Key × V) → It) (q : List (D × D) → List D) : Prop := ∀ F a od kvs ds, F a = some (.frz od (.dK kvs)) → DtAll K F (kvs.map (·.2)) (ds.map (·.2)) → ds.map (·.1) = kvs.map (fun p => keyD p.1) → Yl K F (J a od kvs) (q ds)
def dDct (q : List (D × D) → List D) : D → Res (List D)
  | .dct false ds => .ok (q ds)
  | _ => .bad
def iDct (q : List (D × D) → List D) (i : Nat) : VEnv → Res (List D) := fun ρ => (eVar i ρ).bind (dDct q)
def qKeys (ds : List (D × D)) : List D := ds.map (·.1)
def qVals (ds : List (D × D)) : List D := ds.map (·.2)
def qItems (ds : List (D × D)) : List D := ds.map fun p => .tup [p.1, p.2]
variable {X : Cx} {xm : XMo}
theorem PS.or {st : Stmt} {t t' : TS} (h : PS X st t) (h' : PS X st t') : PS X st fun D σ H => t D σ H ∨ t' D σ H := ⟨fun pins s σ H D I q => q.elim (h.run pins s σ H D I) (h'.run pins s σ H D I)⟩
end
end Du

namespace Du
open PySem PySem.Spec PyProof.Rows L2
section
variable {K : PySem.W.Frag} {xm : XMo} {X : Cx} {B : Bs} {F H : Hp} {σ : St} {ρ : Env} {Dn : Ends}
/-! ### iterators, slices, .. with state -/
def iM (K : PySem.W.Frag) (xm : XMo) (m : Env → MO (List D)) : TI := fun σ H R => ∃ B ρ F, Rl K B σ H ρ F ∧ Pm (fun F' J ds => Yl K F' J ds) K xm σ B F (m ρ) R
abbrev MI (K : PySem.W.Frag) (xm : XMo) (X : Cx) (tg e : Expr) (m : Env → MO (List D)) : Prop := PI X tg e (iM K xm m)
def mRange1 (m : Env → MO D) : Env → MO (List D) := fun ρ => (m ρ).bind fun d ρ1 => match d with
  | .int j => if inR j = true then .ok (rangeD 0 j.toNat) ρ1 else .bad
  | _ => .bad
/-- over a list that is made with state -/
def mAny (m : Env → MO D) : Env → MO (List D) := fun ρ => (m ρ).bind fun d ρ1 => match d with
  | .lst ds => .ok ds ρ1
  | _ => .bad
def sForM (m : Env → MO (List D)) (tg : Tgt) (g : Env → Out) (l : List Nat) : Env → Out := fun ρ => mAt m ρ fun ds ρ1 => forL tg g l ds ρ1
/-! comprehensions over such ones -/
def mCompI (vs : List Nat) (m : Env → MO (List D)) (tg : Tgt) (c : Env → MO Bool) (f : Env → MO D) : Env → MO D := fun ρ => (m ρ).bind fun ds ρ1 => if fit ds.length = true then match compM tg c f vs ds (wipeS ρ1 vs) with
    | .ok es ρ2 => .ok (.lst es) ρ2
    | _ => .bad else .bad
/-! x.extend(e) with state -/
def sExtM (i : Nat) (m : Env → MO D) : Env → Out := fun ρ => mAt m ρ fun d ρ1 => match d with
  | .lst es => chg ρ1 i fun ds => if fit (ds.length + es.length) = true then some (ds ++ es) else none
  | _ => .bad
/-! slices -/
def oM (K : PySem.W.Frag) (xm : XMo) (m : Env → MO (Option Int)) : TO := fun σ H Q => ∃ B ρ F, Rl K B σ H ρ F ∧ Pm RO K xm σ B F (m ρ) Q
abbrev MO' (K : PySem.W.Frag) (xm : XMo) (X : Cx) (e : Option Expr) (m : Env → MO (Option Int)) : Prop := PO X e (oM K xm m)
def mNo : Env → MO (Option Int) := fun ρ => .ok none ρ
def mYesO (m : Env → MO D) : Env → MO (Option Int) := fun ρ => (m ρ).bind fun d ρ1 => match d with
  | .int i => .ok (some i) ρ1
  | _ => .bad
def mSl (m : Env → MO D) (lo hi : Env → MO (Option Int)) : Env → MO D := fun ρ => (m ρ).bind fun a ρ1 => (lo ρ1).bind fun l ρ2 => (hi ρ2).bind fun h ρ3 => match dSl a l h with
  | .ok d => .ok d ρ3
  | _ => .bad
theorem Pm.new {d : D} {ρ : Env} {Q : VK} {p : Addr} {o : HO} (k : Pm (RD K) K xm σ B F (.ok d ρ) Q) (r : Rl K B σ H ρ F) (hp : H p = none) (hd : Dt K (upd F p o) (.ref p) d) : Q (.ref p) (upd H p o) :=
  k _ _ _ (r.grow (.new r.fh hp)) (sm_upd (r.fh.free hp)) hd
end
end Du

namespace Du
open PySem PySem.Spec PyProof.Rows L2
section
variable {K : PySem.W.Frag} {xm : XMo} {X : Cx} {B : Bs} {F H : Hp} {σ : St} {ρ : Env} {Dn : Ends}
/-! ### what is made new may be read at once -/
/-! ### {k: v} -/
noncomputable def eDct1 (fk fv : VEnv → Res D) : VEnv → Res D := fun ρ => (fk ρ).bind fun k => (fv ρ).bind fun v => if dKeyOk k = true then .ok (.dct false [(k, v)]) else .bad
/-! ### for k in d, list(d) -/
def dListD : List D → Res D
  | [.dct false ds] => .ok (.lst (qKeys ds))
  | _ => .bad
/-! ### e[::-1] -/
def dRev : D → Res D
  | .lst ds => .ok (.lst ds.reverse)
  | .scr ns => .ok (.lst (ns.map D.int).reverse)
  | _ => .bad
/-! ### list(range(..)) -/
def okR (a b : Int) : Bool := decide (-(2 ^ 62) ≤ a ∧ a < 2 ^ 62 ∧ -(2 ^ 62) ≤ b ∧ b < 2 ^ 62 ∧ (b - a).toNat ≤ 2 ^ 24)
def dLrg (lo hi : D) : Res D := match lo, hi with
  | .int a, .int b => if okR a b = true then .ok (.lst (rangeD a (b - a).toNat)) else .bad
  | _, _ => .bad
/-! ### sorted(e): few whole numbers -/
def dSorted : List D → Res D
  | [.lst ds] => match asInts ds with
    | some ns => if decide (ns.length < 64) = true then .ok (.lst ((sortI ns).map D.int)) else .bad
    | none => .bad
  | _ => .bad
/-! ### is True, is False -/
def dIsB (neg : Bool) : D → D → Res D
  | .bl a, .bl b => .ok (.bl (if neg then !decide (a = b) else decide (a = b)))
  | _, _ => .bad
/-! ### range(a, b, 2) -/
/-! ### state: list(x.items()), x own; the own dict's change at a place reckoned with state -/
def mItems (i : Nat) : Env → MO D := fun ρ => match ownD ρ i with
  | some (_, ds) => if fit ds.length = true then .ok (.lst (qItems ds)) ρ else .bad
  | none => .bad
end
section
variable {P : Program} {w : World} {K : PySem.W.Frag} {mg : Str → Option Value} {base : Heap}
end
section
variable {K : PySem.W.Frag} {xm : XMo} {X : Cx}
end
end Du
namespace Du
open PySem PySem.Spec PyProof.Rows L2
section
variable {K : PySem.W.Frag} {xm : XMo} {X : Cx}
end
end Du

namespace Dear
open PySem PySem.Spec PyProof.Rows L2
/-! ### xs[::e], e one or minus one -/
def tRevE (K : PySem.W.Frag) (te ts : TE) : TE := fun σ H Q => te σ H fun x H1 => tPart ts σ H1 fun o H2 => ∃ (a : Addr) (xs : List V) (b : Bool), x = .ref a ∧ o = some (if b then -1 else 1) ∧ SqL K H2 a xs ∧ ∀ p, H2 p = none → Q (.ref p) (upd H2 p (.lst (if b then xs.reverse else xs)))
end Dear

namespace Du
open PySem PySem.Spec PyProof.Rows L2
section
variable {K : PySem.W.Frag} {xm : XMo} {X : Cx} {B : Bs} {F H : Hp} {σ : St} {ρ : Env} {Dn : Ends}
/-! ### xs[::e], e one or minus one, with state -/
def mRevE (m n : Env → MO D) : Env → MO D := fun ρ => (m ρ).bind fun a ρ1 => (n ρ1).bind fun b ρ2 => match a, b with
  | .lst ds, .int i => if decide (i = -1) = true then .ok (.lst ds.reverse) ρ2 else if decide (i = 1) = true then .ok (.lst ds) ρ2 else .bad
  | _, _ => .bad
/-! ### list(x.items()), x own -/
/-! ### x[k] = e, k and e with state -/
noncomputable def sPutDM (i : Nat) (m n : Env → MO D) : Env → Out := fun ρ => mAt m ρ fun d ρ1 => needD i (fun ρ' => mAt n ρ' fun n ρ2 => chgD ρ2 i fun ds => if (dKeyOk n && fit ds.length) = true then some (dPut ds n d) else none) ρ1
def sPutLN (i : Nat) (m n : Env → MO D) : Env → Out := fun ρ => mAt m ρ fun d ρ1 => need i (fun ρ' => mAt n ρ' fun n ρ2 => match n with
  | .int n => chg ρ2 i fun ds => match ixN ds.length n with
    | some j => some (ds.set j d)
    | none => none
  | _ => .bad) ρ1
end
end Du

namespace Du
open PySem PySem.Spec PyProof.Rows L2
section
variable {P : Program} {w : World} {K : PySem.W.Frag} {mg : Str → Option Value} {base : Heap}
/-- the law itself, at the function that the top holds -/
theorem okL {x y : Str} {st : Stmt} {N ps : List Str} {k : Nat} {g : Env → Out} {f : Addr} {fd : FuncData} (F : L2.Fun K x y st f fd) (S : FnScope N ps (defScope st))
    (body : ∀ (f : Addr) (cdv : Value) (A : Around) (outer : List PySem.Env) (s : Shared) (H : Hp) (E : XK), Room k (A.deeper (envOfC y (defScope st) s.heap.objs.size f cdv)) → FSs K none (cxOf CX0 P w K mg base N y (defScope st) f cdv A outer s H E).nox (defBody st) g)
    (hN : ps.length ≤ N.length := by decide) : FnOk P w K mg base CX0 (k + 1) f fd ps (sp0 K (runD ps.length N.length g)) :=
  F.ok S (fun vs H Q E h => sp0_len (f := runD ps.length N.length g) h) fun cdv A outer s H vs Q E hr h => ⟨_, body f cdv A outer s H E hr, by
    obtain ⟨ds, G, sG, hd, d, e, q⟩ := h
    unfold runD at e
    by_cases hn : ds.length = ps.length
    · rw [if_pos hn] at e
      refine ⟨⟨H, G, 0⟩, _, G, Rl.start sG hd hn hN, ?_⟩
      unfold outR at e
      cases e2 : g (ent N.length ps.length ds) with
      | nx ρ =>
        rw [e2] at e
        cases e
        intro σ' H' F' r
        obtain ⟨G', g1, d1⟩ := r.done sG
        exact q _ _ _ g1 .non
      | rt d' ρ =>
        rw [e2] at e
        cases e
        intro v σ' H' F' r dv
        obtain ⟨G', g1, d1⟩ := r.done sG
        exact q _ _ _ g1 (dv.same d1)
      | ro d' ρ =>
        rw [e2] at e
        cases e
        intro p σ' H' F' r fp bp ow
        obtain ⟨G', g1, d1⟩ := r.freeze sG fp bp ow
        exact q _ _ _ g1 d1
      | bk ρ => rw [e2] at e; cases e
      | ct ρ => rw [e2] at e; cases e
      | ex x ρ => rw [e2] at e; cases e
      | bad => rw [e2] at e; cases e
    · rw [if_neg hn] at e
      cases e⟩
end
end Du

namespace Du
open PySem PySem.Spec PyProof.Rows L2
section
variable {K : PySem.W.Frag} {X : Cx} {xm : XMo}
/-! ### dicts whose keys are tuples of texts and whole numbers -/
def tKeyOk : D → Bool
  | .tup ds => ds.all dKeyOk
  | _ => false
/-! {} -/
def eDct0T : VEnv → Res D := fun _ => .ok (.dct true [])
/-! d.get(k, e) -/
noncomputable def eGet2T (fo fk fd : VEnv → Res D) : VEnv → Res D := fun ρ => (fo ρ).bind fun a => match a with
  | .dct true kvs => (fk ρ).bind fun n => (fd ρ).bind fun e => if tKeyOk n = true then .ok ((dGet kvs n).getD e) else .bad
  | _ => .bad
/-! d[k] = e, d an own one -/
def ownT (ρ : Env) (i : Nat) : Option (Bool × List (D × D)) := match ρ[i]? with
  | some (some (.own t (.dct true ds))) => some (t, ds)
  | _ => none
def needT (i : Nat) (g : Env → Out) : Env → Out := fun ρ => match ownT ρ i with
  | some _ => g ρ
  | none => .bad
variable {B : Bs} {Dn : Ends} {ρ : Env} {σ : St} {H F : Hp}
def chgT' (ρ : Env) (i : Nat) (f : List (D × D) → Option (List (D × D))) : Out := match ownT ρ i with
  | some (t, ds) => match f ds with
    | some es => .nx (ρ.set i (some (.own t (.dct true es))))
    | none => .bad
  | none => .bad
noncomputable def sPutT (i : Nat) (L : List Nat) (fv fk : VEnv → Res D) : Env → Out := fun ρ => eAt L fv ρ fun d => needT i (fun ρ' => eAt [] fk ρ' fun n => chgT' ρ' i fun ds => if (tKeyOk n && fit ds.length) = true then some (dPut ds n d) else none) (aft L d ρ)
/-! len(d) -/
def dLenT : List D → Res D
  | [.dct true ds] => .ok (.int ds.length)
  | _ => .bad
/-! ### l.count(x), things told all the way -/
def rCountD (K : PySem.W.Frag) : V → List V → Hp → VK → Prop := fun x xs H Q => ∃ (a : Addr) (y : V) (d : PyData) (ds : List PyData), x = V.ref a ∧ xs = [y] ∧ Dp K H (V.ref a) (.list ds) ∧ Dp K H y d ∧
  SeqAt.shaped (.list ds) = true ∧ SeqAt.shaped d = true ∧ Q (.int (ds.countP fun z => PyData.eqv z d : Nat)) H
def dCount : D → List D → Res D
  | .lst es, [d] => if (lay d && lay (.lst es)) = true then .ok (.int (es.countP fun e => pyEq e d : Nat)) else .bad
  | _, _ => .bad
end
end Du

namespace Du
open PySem PySem.Spec PyProof.Rows L2
section
variable {K : PySem.W.Frag} {X : Cx} {B : Bs} {Dn : Ends} {ρ : Env} {σ : St} {H F : Hp}
/-! ### for x in l, l an own list that stays own -/
def unS : Option Slot → Option Slot
  | some (.own _ d) => some (.own false d)
  | s => s
def unp (ρ : Env) : Env := ρ.map unS
def unO : Out → Out
  | .nx ρ => .nx (unp ρ)
  | .bk ρ => .bk (unp ρ)
  | .ct ρ => .ct (unp ρ)
  | .rt d ρ => .rt d (unp ρ)
  | .ro d ρ => .ro d (unp ρ)
  | .ex x ρ => .ex x (unp ρ)
  | .bad => .bad
def noT : Env → Bool
  | [] => true
  | some (.own true _) :: _ => false
  | _ :: r => noT r
def ownAt (ρ : Env) (i : Nat) : Option (List D) := match ρ[i]? with
  | some (some (.own true (.lst ds))) => some ds
  | _ => none
open Classical in
noncomputable def forO (i : Nat) (ds0 : List D) (tg : Tgt) (g : Env → Out) (l : List Nat) : List D → Env → Out
  | [], ρ => if ownAt ρ i = some ds0 then .nx ρ else .bad
  | d :: ds, ρ => if ownAt ρ i = some ds0 then (match tg d with
    | .ok as => loopO (fun ρ' => forO i ds0 tg g l ds (clr l ρ')) (g (setS ρ as))
    | _ => .bad) else .bad
noncomputable def sForO (i : Nat) (tg : Tgt) (g : Env → Out) (l : List Nat) : Env → Out := fun ρ => match ρ[i]? with
  | some (some (.own false (.lst ds))) => if noT ρ = true then unO (forO i ds tg g l ds (ρ.set i (some (.own true (.lst ds))))) else .bad
  | _ => .bad
theorem unp_get (ρ : Env) (i : Nat) : (unp ρ)[i]? = (ρ[i]?).map unS := by
  unfold unp
  rw [List.getElem?_map]
theorem Rl.unp {p : Addr} (r : Rl K ⟨B.b, B.g, p⟩ σ H ρ F) : Rl K B σ H (Du.unp ρ) F := by
  refine ⟨r.fh, r.bh, r.zf, by rw [r.len]; unfold Du.unp; rw [List.length_map], fun i d e => ?_, fun i t d e => ?_, fun i j t u d e p h1 h2 h3 h4 => ?_, fun i d p h1 h2 => ?_⟩
  · rw [unp_get] at e
    obtain ⟨s, h1, h2⟩ := Option.map_eq_some_iff.mp e
    cases s with
    | none => cases h2
    | some s =>
      cases s with
      | frz d' => cases h2; exact r.fz i _ h1
      | own t d' => cases h2
  · rw [unp_get] at e
    obtain ⟨s, h1, h2⟩ := Option.map_eq_some_iff.mp e
    cases s with
    | none => cases h2
    | some s =>
      cases s with
      | frz d' => cases h2
      | own t' d' => cases h2; exact r.ow i _ _ h1
  · rw [unp_get] at h1 h2
    obtain ⟨s, a1, a2⟩ := Option.map_eq_some_iff.mp h1
    obtain ⟨s', b1, b2⟩ := Option.map_eq_some_iff.mp h2
    cases s with
    | none => cases a2
    | some s =>
      cases s with
      | frz d' => cases a2
      | own t' d' =>
        cases s' with
        | none => cases b2
        | some s' =>
          cases s' with
          | frz d' => cases b2
          | own t'' d'' => exact r.dj i j _ _ _ _ p a1 b1 h3 h4
  · rw [unp_get] at h1
    obtain ⟨s, a1, a2⟩ := Option.map_eq_some_iff.mp h1
    cases s with
    | none => cases a2
    | some s =>
      cases s with
      | frz d' => cases a2
      | own t' d' => cases a2
theorem So.unp {p : Addr} : ∀ {o : Out}, So K none B Dn (unO o) → So K none ⟨B.b, B.g, p⟩ Dn o
  | .nx ρ, k => fun σ H F r => k σ H F r.unp
  | .bk ρ, k => fun σ H F r => k σ H F r.unp
  | .ct ρ, k => fun σ H F r => k σ H F r.unp
  | .rt d ρ, k => fun v σ H F r => k v σ H F r.unp
  | .ro d ρ, k => fun q σ H F r => k q σ H F r.unp
  | .ex x ρ, k => k
  | .bad, k => k
end
end Du

namespace Dear
open PySem PySem.Spec PyProof.Rows L2
abbrev Asc (z : Str) : Prop := ∀ c ∈ z.cps.toList, c < 128
end Dear

namespace Dear
open PySem PySem.Spec PyProof.Rows L2
/-! ### zip(text, text), two texts of plain signs -/
def ascB (x : Str) : Bool := x.cps.all (· < 128)
abbrev zsI (x : Str) (t : Tok) : Obj := { cls := .type "str_ascii_iterator", data := .fields #[.str x t, .int 0 0] }
abbrev zs1 (h : Heap) (x : Str) (t : Tok) : Heap := h.push (zsI x t)
abbrev zs2 (h : Heap) (x : Str) (t : Tok) (y : Str) (u : Tok) : Heap := (zs1 h x t).push (zsI y u)
abbrev zs3 (h : Heap) (x : Str) (t : Tok) (y : Str) (u : Tok) : Heap := (zs2 h x t y u).push { cls := .type "tuple", data := .seq #[.ref h.objs.size, .ref (zs1 h x t).objs.size] }
abbrev zs4 (h : Heap) (x : Str) (t : Tok) (y : Str) (u : Tok) : Heap := (zs3 h x t y u).push { cls := .type "tuple", data := .seq #[.none, .none] }
abbrev zs5 (h : Heap) (x : Str) (t : Tok) (y : Str) (u : Tok) : Heap := (zs4 h x t y u).push { cls := .type "zip", data := .fields #[.none, .bool false, .bool false, .ref (zs2 h x t y u).objs.size, .ref (zs3 h x t y u).objs.size] }
section
variable {prog : Program} {w : World} {A : Around} {E : Value → Shared → Prop} {s : Shared}
end
/-- the signs of both, pair by pair, each pair a new tuple -/
def ItzS (x y : Str) : It :=
  ⟨fun i _ => i < x.cps.size ∧ i < y.cps.size,
    fun i H v H' => ∃ (T : Addr) (c d : Nat), v = .ref T ∧ H T = none ∧ H' = upd H T (.tup [.str ⟨#[c]⟩, .str ⟨#[d]⟩]) ∧ x.cps[i]? = some c ∧ y.cps[i]? = some d,
    fun i _ => i ≤ x.cps.size ∧ i ≤ y.cps.size ∧ (i = x.cps.size ∨ i = y.cps.size)⟩
def iZipS (ta : TA) : TI := fun σ H R => ta σ H fun vs H1 => ∃ x y : Str, vs = [.str x, .str y] ∧ Asc x ∧ Asc y ∧ R (ItzS x y) H1
end Dear

namespace Dear
open PySem PySem.Spec PyProof.Rows L2
/-! ### enumerate(zip(list, list)): the pair stands within enumerate's own tuple, so zip finds it still out -/
section
variable {prog : Program} {w : World} {A : Around} {E : Value → Shared → Prop} {s : Shared} {q U V j1 j2 m1 m2 : Addr} {n1 n2 : Nat} {as bs : Array Value}
/-- the zip's state: nothing out yet, or the tuple at T once given out -/
def ZSt (h : Heap) (q U V : Addr) : Prop := IsZip h q U V .none ∨ ∃ T f, IsZipHeld h q U V T f
theorem ZSt.type {h : Heap} (z : ZSt h q U V) : ∃ o, h.get? q = some o ∧ o.cls = .type "zip" ∧ ∀ v, o.data ≠ .cell v := by
  rcases z with z | ⟨T, f, z⟩
  · exact ⟨_, z, rfl, fun v e => nomatch e⟩
  · exact ⟨_, z, rfl, fun v e => nomatch e⟩
theorem ZSt.at {h h' : Heap} (z : ZSt h q U V) (e : ∀ o, h.get? q = some o → h'.get? q = some o) : ZSt h' q U V := by
  rcases z with z | ⟨T, f, z⟩
  · exact .inl (e _ z)
  · exact .inr ⟨T, f, e _ z⟩
abbrev ZGone (h : Heap) (q U V : Addr) (x : Value) (f : Bool) : Prop :=
  h.get? q = some { cls := .type "zip", dict := none, data := .fields #[x, .bool f, .bool false, .ref U, .ref V], slots := #[] }
end
/-- both lists as they stand at each turn; each pair, and the tuple of its number and it, are new -/
def Itez (K : PySem.W.Frag) (a b : Addr) : It :=
  ⟨fun i H => ∃ (xs ys : List V) (x y : V), SqL K H a xs ∧ SqL K H b ys ∧ xs[i]? = some x ∧ ys[i]? = some y,
    fun i H v H' => ∃ Z T x y, v = .ref T ∧ H Z = none ∧ T ≠ Z ∧ H T = none ∧ H' = upd (upd H Z (.tup [x, y])) T (.tup [.int (i : Nat), .ref Z]) ∧ (∀ xs, SqL K H a xs → xs[i]? = some x) ∧ ∀ ys, SqL K H b ys → ys[i]? = some y,
    fun i H => ∃ xs ys : List V, SqL K H a xs ∧ SqL K H b ys ∧ (xs.length ≤ i ∨ ys.length ≤ i)⟩
def iEnumZ (K : PySem.W.Frag) (ta : TA) : TI := fun σ H R => ta σ H fun vs H1 => ∃ a b xs ys, vs = [.ref a, .ref b] ∧ SqL K H1 a xs ∧ SqL K H1 b ys ∧ R (Itez K a b) H1
end Dear

namespace Du
open PySem PySem.Spec PyProof.Rows L2
section
variable {K : PySem.W.Frag} {xm : XMo} {X : Cx}
/-! ### enumerate(zip(list, list)) -/
def dEnumZ : List D → Res (List D)
  | [.lst as, .lst bs] => .ok (numbered 0 (pairs as bs))
  | _ => .bad
def iEnumZD (f : VEnv → Res (List D)) : VEnv → Res (List D) := fun ρ => (f ρ).bind dEnumZ
theorem Gr.thn {F1 H1 F2 H2 F3 H3 : Hp} (a : Gr F1 H1 F2 H2) (b : Gr F2 H2 F3 H3) : Gr F1 H1 F3 H3 := a.trans b
/-! ### zip(text, text) -/
def dZipS : List D → Res (List D)
  | [.str a, .str b] => if (a.cps.toList.all (fun c => decide (c < 128)) && b.cps.toList.all (fun c => decide (c < 128))) = true then .ok (pairs (signs a) (signs b)) else .bad
  | _ => .bad
def iZipSD (f : VEnv → Res (List D)) : VEnv → Res (List D) := fun ρ => (f ρ).bind dZipS
/-! ### x.pop(i), x own -/
def popK (i : Nat) (d : D) (ρ : Env) : MO D := match d with
  | .int n => match ownL ρ i with
    | some (t, ds) => if inR n = true then match seqIndex? n ds.length with
      | some j => match ds[j]? with
        | some e => .ok e (ρ.set i (some (.own t (.lst (ds.eraseIdx j)))))
        | none => .bad
      | none => .bad else .bad
    | none => .bad
  | _ => .bad
def mPopAt (i : Nat) (m : Env → MO D) : Env → MO D := fun ρ => if (ownL ρ i).isSome = true then (m ρ).bind (popK i) else .bad
theorem DtAll.eraseIdx {F : Hp} {vs : List V} {ds : List D} (h : DtAll K F vs ds) (j : Nat) : DtAll K F (vs.eraseIdx j) (ds.eraseIdx j) := by
  rw [List.eraseIdx_eq_take_drop_succ, List.eraseIdx_eq_take_drop_succ]
  exact (h.take j).app (h.drop (j + 1))
end
end Du

namespace Dear
open PySem PySem.Spec PyProof.Rows L2
/-! ### xs[a::s], s above nought -/
def pickD {α : Type} (xs : List α) (i c : Int) : List α := (sliceRange (sliceBounds (some i) none (some c) xs.length).1 (sliceBounds (some i) none (some c) xs.length).2.1 (sliceBounds (some i) none (some c) xs.length).2.2).filterMap (xs[·]?)
def tSlS (K : PySem.W.Frag) (te tl ts : TE) : TE := fun σ H Q => te σ H fun x H1 => tPart tl σ H1 fun l H2 => tPart ts σ H2 fun o H3 => ∃ (a : Addr) (xs : List V) (i c : Int), x = .ref a ∧ l = some i ∧ o = some c ∧ 0 < c ∧ SqL K H3 a xs ∧ ∀ p, H3 p = none → Q (.ref p) (upd H3 p (.lst (pickD xs i c)))
end Dear
namespace Du
open PySem PySem.Spec PyProof.Rows L2
section
variable {K : PySem.W.Frag} {xm : XMo} {X : Cx}
def eSlS (fe fl fs : VEnv → Res D) : VEnv → Res D := fun ρ => (fe ρ).bind fun a => (fl ρ).bind fun l => match l with
  | .int i => (fs ρ).bind fun s => match a, s with
    | .lst ds, .int c => if decide (0 < c) = true then .ok (.lst (Dear.pickD ds i c)) else .bad
    | _, _ => .bad
  | _ => .bad
end
end Du

namespace Du
open PySem PySem.Spec PyProof.Rows L2
/-! ### a def that the text calls by another name -/
section
variable {P : Program} {w : World} {K : PySem.W.Frag} {mg : Str → Option Value} {base : Heap}
theorem okA0 {y x : Str} {st : Stmt} {N ps : List Str} {k : Nat} {g : Env → Out} (D : Dear.DfA K mg y x st ps) (S : FnScope N ps (defScope st))
    (body : ∀ (f : Addr) (cdv : Value) (A : Around) (outer : List PySem.Env) (s : Shared) (H : Hp) (E : XK), Room k (A.deeper (envOfC x (defScope st) s.heap.objs.size f cdv)) → FSs K none (cxOf CX0 P w K mg base N x (defScope st) f cdv A outer s H E).nox (defBody st) g)
    (hN : ps.length ≤ N.length := by decide) : Dear.OkF P w K mg base CX0 (k + 1) y ps (sp0 K (runD ps.length N.length g)) :=
  D.ok S (fun vs H Q E h => sp0_len (f := runD ps.length N.length g) h) fun f cdv A outer s H vs Q E hr h => ⟨_, body f cdv A outer s H E hr, by
    obtain ⟨ds, G, sG, hd, d, e, q⟩ := h
    unfold runD at e
    by_cases hn : ds.length = ps.length
    · rw [if_pos hn] at e
      refine ⟨⟨H, G, 0⟩, _, G, Rl.start sG hd hn hN, ?_⟩
      unfold outR at e
      cases e2 : g (ent N.length ps.length ds) with
      | nx ρ =>
        rw [e2] at e
        cases e
        intro σ' H' F' r
        obtain ⟨G', g1, d1⟩ := r.done sG
        exact q _ _ _ g1 .non
      | rt d' ρ =>
        rw [e2] at e
        cases e
        intro v σ' H' F' r dv
        obtain ⟨G', g1, d1⟩ := r.done sG
        exact q _ _ _ g1 (dv.same d1)
      | ro d' ρ =>
        rw [e2] at e
        cases e
        intro p σ' H' F' r fp bp ow
        obtain ⟨G', g1, d1⟩ := r.freeze sG fp bp ow
        exact q _ _ _ g1 d1
      | bk ρ => rw [e2] at e; cases e
      | ct ρ => rw [e2] at e; cases e
      | ex x ρ => rw [e2] at e; cases e
      | bad => rw [e2] at e; cases e
    · rw [if_neg hn] at e
      cases e⟩
end
end Du

namespace Dear
open PySem PySem.Spec PyProof.Rows L2
/-! ### xs <= ys, lists of whole numbers -/
def lexLe : List Int → List Int → Bool
  | [], _ => true
  | _ :: _, [] => false
  | x :: xs, y :: ys => if x = y then lexLe xs ys else decide (x ≤ y)
def rLeL (K : PySem.W.Frag) : R2 := fun x y H Q => ∃ (a b : Addr) (ns ms : List Int), x = .ref a ∧ y = .ref b ∧ SqL K H a (ns.map V.int) ∧ SqL K H b (ms.map V.int) ∧ Q (.bl (lexLe ns ms)) H
end Dear
namespace Du
open PySem PySem.Spec PyProof.Rows L2
section
variable {K : PySem.W.Frag} {xm : XMo} {X : Cx}
def intsD : List D → Option (List Int)
  | [] => some []
  | .int i :: ds => (intsD ds).map (i :: ·)
  | _ :: _ => none
def dLeX : D → D → Res D
  | .int a, .int b => .ok (.bl (decide (a ≤ b)))
  | .lst as, .lst bs => match intsD as, intsD bs with
    | some ns, some ms => .ok (.bl (Dear.lexLe ns ms))
    | _, _ => .bad
  | _, _ => .bad
def rLeX (K : PySem.W.Frag) : R2 := fun x y H Q => rI0 (fun i j => .bl (decide (i ≤ j))) x y H Q ∨ Dear.rLeL K x y H Q
end
end Du

namespace Du
open PySem PySem.Spec PyProof.Rows L2
/-! ### the functions, reckoned step by step: what is not known yet is not opened -/
section
variable {α β : Type} {g h : Env → Out} {ρ ρx : Env} {L : List Nat}
def seqK (h : Env → Out) : Out → Out
  | .nx ρ => h ρ
  | .bk ρ => .bk ρ
  | .ct ρ => .ct ρ
  | .rt d ρ => .rt d ρ
  | .ro d ρ => .ro d ρ
  | .ex x ρ => .ex x ρ
  | .bad => .bad
@[simp] theorem sSeq_e : sSeq g h ρ = seqK h (g ρ) := by unfold sSeq; cases g ρ <;> rfl
@[simp] theorem seqK_nx : seqK h (.nx ρ) = h ρ := id rfl
@[simp] theorem seqK_bk : seqK h (.bk ρ) = .bk ρ := id rfl
@[simp] theorem seqK_ct : seqK h (.ct ρ) = .ct ρ := id rfl
@[simp] theorem seqK_rt {d : D} : seqK h (.rt d ρ) = .rt d ρ := id rfl
@[simp] theorem seqK_ro {d : D} : seqK h (.ro d ρ) = .ro d ρ := id rfl
@[simp] theorem seqK_ex {x : Ex} : seqK h (.ex x ρ) = .ex x ρ := id rfl
@[simp] theorem seqK_bad : seqK h .bad = .bad := id rfl
def atR (k : α → Out) (ρx : Env) : Res α → Out
  | .ok a => k a
  | .exc x => .ex x ρx
  | .bad => .bad
@[simp] theorem atR_ok {k : α → Out} {a : α} : atR k ρx (.ok a) = k a := id rfl
@[simp] theorem atR_exc {k : α → Out} {x : Ex} : atR k ρx (.exc x) = .ex x ρx := id rfl
@[simp] theorem atR_bad {k : α → Out} : atR k ρx .bad = .bad := id rfl
theorem eAt_e {f : VEnv → Res α} {k : α → Out} : eAt L f ρ k = atR k (shut L ρ) (f (view L ρ)) := by unfold eAt atR; cases f (view L ρ) <;> rfl
def bd (f : α → Res β) : Res α → Res β
  | .ok a => f a
  | .exc x => .exc x
  | .bad => .bad
@[simp] theorem bd_ok {f : α → Res β} {a : α} : bd f (.ok a) = f a := id rfl
@[simp] theorem bd_exc {f : α → Res β} {x : Ex} : bd f (.exc x) = .exc x := id rfl
@[simp] theorem bd_bad {f : α → Res β} : bd f .bad = .bad := id rfl
/-! slots -/
@[simp] theorem view_e : view L ρ = viewI L 0 ρ := id rfl
@[simp] theorem viewI_nil {n : Nat} : viewI L n [] = [] := id rfl
@[simp] theorem viewI_none {n : Nat} : viewI L n (none :: ρ) = none :: viewI L (n + 1) ρ := id rfl
@[simp] theorem viewI_frz {n : Nat} {d : D} : viewI L n (some (.frz d) :: ρ) = some d :: viewI L (n + 1) ρ := id rfl
@[simp] theorem viewI_own {n : Nat} {t : Bool} {d : D} : viewI L n (some (.own t d) :: ρ) = (if L.contains n = true then some d else none) :: viewI L (n + 1) ρ := id rfl
@[simp] theorem shut_e : shut L ρ = shutI L 0 ρ := id rfl
@[simp] theorem shutI_nil {n : Nat} : shutI L n [] = [] := id rfl
@[simp] theorem shutI_none {n : Nat} : shutI L n (none :: ρ) = none :: shutI L (n + 1) ρ := id rfl
@[simp] theorem shutI_frz {n : Nat} {d : D} : shutI L n (some (.frz d) :: ρ) = some (.frz d) :: shutI L (n + 1) ρ := id rfl
@[simp] theorem shutI_own {n : Nat} {t : Bool} {d : D} : shutI L n (some (.own t d) :: ρ) = (if L.contains n = true then some (.frz d) else some (.own t d)) :: shutI L (n + 1) ρ := id rfl
@[simp] theorem aft_e {d : D} : aft L d ρ = if imm d = true then ρ else shut L ρ := id rfl
@[simp] theorem aftL_e {ds : List D} : aftL L ds ρ = if imms ds = true then ρ else shut L ρ := id rfl
@[simp] theorem aftO_e {d : D} : aftO L d ρ = if immO d = true then ρ else shut L ρ := id rfl
@[simp] theorem imm_non : imm .non = true := id rfl
@[simp] theorem imm_bl {b : Bool} : imm (.bl b) = true := id rfl
@[simp] theorem imm_int {i : Int} : imm (.int i) = true := id rfl
@[simp] theorem imm_str {z : Str} : imm (.str z) = true := id rfl
@[simp] theorem imm_lst {ds : List D} : imm (.lst ds) = false := id rfl
@[simp] theorem imm_scr {ds : List Int} : imm (.scr ds) = false := id rfl
@[simp] theorem imm_dct {t : Bool} {ds : List (D × D)} : imm (.dct t ds) = false := id rfl
@[simp] theorem imm_tup {ds : List D} : imm (.tup ds) = imms ds := id rfl
@[simp] theorem imms_nil : imms [] = true := id rfl
@[simp] theorem imms_cons {d : D} {ds : List D} : imms (d :: ds) = (imm d && imms ds) := id rfl
@[simp] theorem immO_lst {ds : List D} : immO (.lst ds) = imms ds := id rfl
@[simp] theorem immO_dct {t : Bool} {ds : List (D × D)} : immO (.dct t ds) = imms (ds.map (·.2)) := id rfl
@[simp] theorem setS_nil : setS ρ [] = ρ := id rfl
@[simp] theorem setS_cons {p : Nat × D} {ps : List (Nat × D)} : setS ρ (p :: ps) = setS (ρ.set p.1 (some (.frz p.2))) ps := id rfl
@[simp] theorem clr_nil : clr [] ρ = ρ := id rfl
@[simp] theorem clr_cons {i : Nat} {l : List Nat} : clr (i :: l) ρ = clr l (ρ.set i none) := id rfl
@[simp] theorem setAllD_nil {ρ : VEnv} : setAllD ρ [] = ρ := id rfl
@[simp] theorem setAllD_cons {ρ : VEnv} {p : Nat × D} {ps : List (Nat × D)} : setAllD ρ (p :: ps) = setAllD (ρ.set p.1 (some p.2)) ps := id rfl
@[simp] theorem wipeD_nil {ρ : VEnv} : wipeD ρ [] = ρ := id rfl
@[simp] theorem wipeD_cons {ρ : VEnv} {v : Nat} {vs : List Nat} : wipeD ρ (v :: vs) = (wipeD ρ vs).set v none := id rfl
@[simp] theorem wipeS_nil : wipeS ρ [] = ρ := id rfl
@[simp] theorem wipeS_cons {v : Nat} {vs : List Nat} : wipeS ρ (v :: vs) = (wipeS ρ vs).set v none := id rfl
@[simp] theorem tgN_e {i : Nat} {d : D} : tgN i d = .ok [(i, d)] := id rfl
@[simp] theorem tgT_e {ts : List Tgt} {ds : List D} : tgT ts (.tup ds) = tgL ts ds := id rfl
@[simp] theorem tgL_nil : tgL [] [] = .ok [] := id rfl
def tgC (ts : List Tgt) (ds : List D) (a : List (Nat × D)) : Res (List (Nat × D)) := (tgL ts ds).bind fun b => .ok (a ++ b)
@[simp] theorem tgL_cons {t : Tgt} {ts : List Tgt} {d : D} {ds : List D} : tgL (t :: ts) (d :: ds) = bd (tgC ts ds) (t d) := id rfl
def appC' (a : List (Nat × D)) (b : List (Nat × D)) : Res (List (Nat × D)) := .ok (a ++ b)
@[simp] theorem appC'_e {a b : List (Nat × D)} : appC' a b = .ok (a ++ b) := id rfl
@[simp] theorem tgC_e {ts : List Tgt} {ds : List D} {a : List (Nat × D)} : tgC ts ds a = bd (appC' a) (tgL ts ds) := id rfl
/-! statements -/
def ifC (g h : Env → Out) (ρ : Env) (b : Bool) : Out := if b = true then g ρ else h ρ
@[simp] theorem sIf_e {c : VEnv → Res Bool} : sIf L c g h ρ = atR (ifC g h ρ) (shut L ρ) (c (view L ρ)) := eAt_e
@[simp] theorem ifC_t : ifC g h ρ true = g ρ := id rfl
@[simp] theorem ifC_f : ifC g h ρ false = h ρ := id rfl
@[simp] theorem sPass_e : sPass ρ = .nx ρ := id rfl
@[simp] theorem sRetN_e : sRetN ρ = .rt .non ρ := id rfl
@[simp] theorem sBreak_e : sBreak ρ = .bk ρ := id rfl
@[simp] theorem sCont_e : sCont ρ = .ct ρ := id rfl
@[simp] theorem sRaise_e {x : Ex} : sRaise x ρ = .ex x ρ := id rfl
def asgD (ρ : Env) : Res (List (Nat × D)) → Out
  | .ok as => .nx (setS ρ as)
  | _ => .bad
@[simp] theorem asgD_ok {as : List (Nat × D)} : asgD ρ (.ok as) = .nx (setS ρ as) := id rfl
def asgC (L : List Nat) (ρ : Env) (tg : Tgt) (d : D) : Out := asgD (aft L d ρ) (tg d)
@[simp] theorem asgC_e {tg : Tgt} {d : D} : asgC L ρ tg d = asgD (aft L d ρ) (tg d) := id rfl
@[simp] theorem sAsg_e {f : VEnv → Res D} {tg : Tgt} : sAsg L f tg ρ = atR (asgC L ρ tg) (shut L ρ) (f (view L ρ)) := eAt_e
def exprC (L : List Nat) (ρ : Env) (d : D) : Out := .nx (aft L d ρ)
@[simp] theorem exprC_e {d : D} : exprC L ρ d = .nx (aft L d ρ) := id rfl
@[simp] theorem sExpr_e {f : VEnv → Res D} : sExpr L f ρ = atR (exprC L ρ) (shut L ρ) (f (view L ρ)) := eAt_e
def retC (L : List Nat) (ρ : Env) (d : D) : Out := .rt d (aft L d ρ)
@[simp] theorem retC_e {d : D} : retC L ρ d = .rt d (aft L d ρ) := id rfl
@[simp] theorem sRet_e {f : VEnv → Res D} : sRet L f ρ = atR (retC L ρ) (shut L ρ) (f (view L ρ)) := eAt_e
def retOC (L : List Nat) (ρ : Env) (d : D) : Out := .ro d (aftO L d ρ)
@[simp] theorem retOC_e {d : D} : retOC L ρ d = .ro d (aftO L d ρ) := id rfl
@[simp] theorem sRetO_e {f : VEnv → Res D} : sRetO L f ρ = atR (retOC L ρ) (shut L ρ) (f (view L ρ)) := eAt_e
def retSC (ρ : Env) (i : Nat) : Option (Option Slot) → Out
  | some (some (.own _ d)) => .ro d (ρ.set i none)
  | _ => .bad
@[simp] theorem retSC_e {i : Nat} {t : Bool} {d : D} : retSC ρ i (some (some (.own t d))) = .ro d (ρ.set i none) := id rfl
@[simp] theorem sRetS_e {i : Nat} : sRetS i ρ = retSC ρ i (ρ[i]?) := id rfl
def ownC (i : Nat) (L : List Nat) (ρ : Env) (d : D) : Out := .nx ((aftO L d ρ).set i (some (.own false d)))
@[simp] theorem ownC_e {i : Nat} {d : D} : ownC i L ρ d = .nx ((aftO L d ρ).set i (some (.own false d))) := id rfl
@[simp] theorem sOwn_e {i : Nat} {f : VEnv → Res D} : sOwn i L f ρ = atR (ownC i L ρ) (shut L ρ) (f (view L ρ)) := eAt_e
def parC (i j : Nat) (L : List Nat) (ρ : Env) : List D → Out
  | [a, b] => .nx (((aftL L [a, b] ρ).set i (some (.frz a))).set j (some (.frz b)))
  | _ => .bad
@[simp] theorem parC_e {i j : Nat} {a b : D} : parC i j L ρ [a, b] = .nx (((aftL L [a, b] ρ).set i (some (.frz a))).set j (some (.frz b))) := id rfl
@[simp] theorem sPar_e {i j : Nat} {f : VEnv → Res (List D)} : sPar i j L f ρ = atR (parC i j L ρ) (shut L ρ) (f (view L ρ)) := by
  unfold sPar
  rw [eAt_e]
  congr 1
  funext as
  rcases as with _ | ⟨a, _ | ⟨b, _ | _⟩⟩ <;> rfl
def ownLC : Option (Option Slot) → Option (Bool × List D)
  | some (some (.own t (.lst ds))) => some (t, ds)
  | _ => none
@[simp] theorem ownL_e {i : Nat} : ownL ρ i = ownLC (ρ[i]?) := id rfl
@[simp] theorem ownLC_e {t : Bool} {ds : List D} : ownLC (some (some (.own t (.lst ds)))) = some (t, ds) := id rfl
def ownSC : Option (Option Slot) → Option (Bool × D)
  | some (some (.own t o)) => some (t, o)
  | _ => none
@[simp] theorem ownS_e {i : Nat} : ownS ρ i = ownSC (ρ[i]?) := id rfl
@[simp] theorem ownSC_e {t : Bool} {d : D} : ownSC (some (some (.own t d))) = some (t, d) := id rfl
def needC (g : Env → Out) (ρ : Env) : Option (Bool × List D) → Out
  | some _ => g ρ
  | none => .bad
@[simp] theorem need_e {i : Nat} : need i g ρ = needC g ρ (ownL ρ i) := id rfl
@[simp] theorem needC_e {x : Bool × List D} : needC g ρ (some x) = g ρ := id rfl
def chgT (ρ : Env) (i : Nat) (t : Bool) : Option (List D) → Out
  | some es => .nx (ρ.set i (some (.own t (.lst es))))
  | none => .bad
@[simp] theorem chgT_e {i : Nat} {t : Bool} {es : List D} : chgT ρ i t (some es) = .nx (ρ.set i (some (.own t (.lst es)))) := id rfl
def chgC (ρ : Env) (i : Nat) (f : List D → Option (List D)) : Option (Bool × List D) → Out
  | some (t, ds) => chgT ρ i t (f ds)
  | none => .bad
@[simp] theorem chgC_e {i : Nat} {f : List D → Option (List D)} {t : Bool} {ds : List D} : chgC ρ i f (some (t, ds)) = chgT ρ i t (f ds) := id rfl
@[simp] theorem chg_e {i : Nat} {f : List D → Option (List D)} : chg ρ i f = chgC ρ i f (ownL ρ i) := id rfl
def appF (d : D) (ds : List D) : Option (List D) := if fit ds.length = true then some (ds ++ [d]) else none
@[simp] theorem appF_e {d : D} {ds : List D} (h : ds.length ≤ 16777215) : appF d ds = some (ds ++ [d]) := if_pos (fit_of h)
def appC (i : Nat) (L : List Nat) (ρ : Env) (d : D) : Out := chg (aft L d ρ) i (appF d)
@[simp] theorem appC_e {i : Nat} {d : D} : appC i L ρ d = chg (aft L d ρ) i (appF d) := id rfl
@[simp] theorem sApp_e {i : Nat} {f : VEnv → Res D} : sApp i L f ρ = atR (appC i L ρ) (shut L ρ) (f (view L ρ)) := eAt_e
def putF (n : Int) (d : D) (ds : List D) : Option (List D) := match ixN ds.length n with
  | some j => some (ds.set j d)
  | none => none
@[simp] theorem putF_0 {d e : D} {ds : List D} : putF 0 d (e :: ds) = some (d :: ds) := by simp [putF, ixN]
@[simp] theorem putF_1 {d e e2 : D} {ds : List D} : putF 1 d (e :: e2 :: ds) = some (e :: d :: ds) := by
  unfold putF ixN
  rw [if_pos (by decide), if_pos (by simp only [List.length_cons]; omega)]
  rfl
def putE (i : Nat) (ρ : Env) (d : D) : D → Out
  | .int n => chg ρ i (putF n d)
  | _ => .bad
@[simp] theorem putE_e {i : Nat} {d : D} {n : Int} : putE i ρ d (.int n) = chg ρ i (putF n d) := id rfl
def putD' (i : Nat) (fk : VEnv → Res D) (d : D) (ρ : Env) : Out := atR (putE i ρ d) (shut [] ρ) (fk (view [] ρ))
@[simp] theorem putD'_e {i : Nat} {fk : VEnv → Res D} {d : D} : putD' i fk d ρ = atR (putE i ρ d) (shut [] ρ) (fk (view [] ρ)) := id rfl
def putC (i : Nat) (L : List Nat) (ρ : Env) (fk : VEnv → Res D) (d : D) : Out := need i (putD' i fk d) (aft L d ρ)
@[simp] theorem putC_e {i : Nat} {fk : VEnv → Res D} {d : D} : putC i L ρ fk d = need i (putD' i fk d) (aft L d ρ) := id rfl
@[simp] theorem sPutL_e {i : Nat} {fv fk : VEnv → Res D} : sPutL i L fv fk ρ = atR (putC i L ρ fk) (shut L ρ) (fv (view L ρ)) := by
  unfold sPutL
  rw [eAt_e]
  congr 1
/-! expressions -/
def varC : Option (Option D) → Res D
  | some (some d) => .ok d
  | _ => .bad
@[simp] theorem eVar_e {i : Nat} {ρ : VEnv} : eVar i ρ = varC (ρ[i]?) := id rfl
@[simp] theorem varC_e {d : D} : varC (some (some d)) = .ok d := id rfl
@[simp] theorem eC_e {d : D} {ρ : VEnv} : eC d ρ = .ok d := id rfl
def op2 (g : D → D → Res D) : Res D → Res D → Res D
  | .ok a, .ok b => g a b
  | .ok _, .exc x => .exc x
  | .exc x, _ => .exc x
  | _, _ => .bad
@[simp] theorem op2_ok {g : D → D → Res D} {a b : D} : op2 g (.ok a) (.ok b) = g a b := id rfl
@[simp] theorem eOp_e {g : D → D → Res D} {fa fb : VEnv → Res D} {ρ : VEnv} : eOp g fa fb ρ = op2 g (fa ρ) (fb ρ) := by unfold eOp; cases fa ρ <;> cases fb ρ <;> rfl
@[simp] theorem eUn_e {g : D → Res D} {fa : VEnv → Res D} {ρ : VEnv} : eUn g fa ρ = bd g (fa ρ) := id rfl
@[simp] theorem eCall_e {g : List D → Res D} {fa : VEnv → Res (List D)} {ρ : VEnv} : eCall g fa ρ = bd g (fa ρ) := id rfl
@[simp] theorem aNil_e {ρ : VEnv} : aNil ρ = .ok [] := id rfl
def cons2 : Res D → Res (List D) → Res (List D)
  | .ok a, .ok as => .ok (a :: as)
  | .ok _, .exc x => .exc x
  | .exc x, _ => .exc x
  | _, _ => .bad
@[simp] theorem cons2_ok {a : D} {as : List D} : cons2 (.ok a) (.ok as) = .ok (a :: as) := id rfl
@[simp] theorem aCons_e {f : VEnv → Res D} {g : VEnv → Res (List D)} {ρ : VEnv} : aCons f g ρ = cons2 (f ρ) (g ρ) := by unfold aCons; cases f ρ <;> cases g ρ <;> rfl
@[simp] theorem fit_e {n : Nat} (h : n ≤ 16777215) : fit n = true := fit_of h
def tupC (as : List D) : Res D := if fit as.length = true then .ok (.tup as) else .bad
@[simp] theorem tupC_e {as : List D} (h : as.length ≤ 16777215) : tupC as = .ok (.tup as) := if_pos (fit_of h)
@[simp] theorem eTup_e {f : VEnv → Res (List D)} {ρ : VEnv} : eTup f ρ = bd tupC (f ρ) := id rfl
def lstC (as : List D) : Res D := if fit as.length = true then .ok (.lst as) else .bad
@[simp] theorem lstC_e {as : List D} (h : as.length ≤ 16777215) : lstC as = .ok (.lst as) := if_pos (fit_of h)
@[simp] theorem eLst_e {f : VEnv → Res (List D)} {ρ : VEnv} : eLst f ρ = bd lstC (f ρ) := id rfl
def andC (g : VEnv → Res D) (ρ : VEnv) (a : D) (b : Bool) : Res D := if b = true then g ρ else .ok a
@[simp] theorem andC_t {g : VEnv → Res D} {ρ : VEnv} {a : D} : andC g ρ a true = g ρ := id rfl
@[simp] theorem andC_f {g : VEnv → Res D} {ρ : VEnv} {a : D} : andC g ρ a false = .ok a := id rfl
def andK (g : VEnv → Res D) (ρ : VEnv) (a : D) : Res D := bd (andC g ρ a) (dTru a)
@[simp] theorem andK_e {g : VEnv → Res D} {ρ : VEnv} {a : D} : andK g ρ a = bd (andC g ρ a) (dTru a) := id rfl
@[simp] theorem eAnd_e {f g : VEnv → Res D} {ρ : VEnv} : eAnd f g ρ = bd (andK g ρ) (f ρ) := id rfl
def orC (g : VEnv → Res D) (ρ : VEnv) (a : D) (b : Bool) : Res D := if b = true then .ok a else g ρ
@[simp] theorem orC_t {g : VEnv → Res D} {ρ : VEnv} {a : D} : orC g ρ a true = .ok a := id rfl
@[simp] theorem orC_f {g : VEnv → Res D} {ρ : VEnv} {a : D} : orC g ρ a false = g ρ := id rfl
def orK (g : VEnv → Res D) (ρ : VEnv) (a : D) : Res D := bd (orC g ρ a) (dTru a)
@[simp] theorem orK_e {g : VEnv → Res D} {ρ : VEnv} {a : D} : orK g ρ a = bd (orC g ρ a) (dTru a) := id rfl
@[simp] theorem eOr_e {f g : VEnv → Res D} {ρ : VEnv} : eOr f g ρ = bd (orK g ρ) (f ρ) := id rfl
def notC (b : Bool) : Res D := .ok (.bl (!b))
@[simp] theorem notC_e {b : Bool} : notC b = .ok (.bl (!b)) := id rfl
def notK (a : D) : Res D := bd notC (dTru a)
@[simp] theorem notK_e {a : D} : notK a = bd notC (dTru a) := id rfl
@[simp] theorem eNot_e {f : VEnv → Res D} {ρ : VEnv} : eNot f ρ = bd notK (f ρ) := id rfl
@[simp] theorem bT_e {f : VEnv → Res D} {ρ : VEnv} : bT f ρ = bd dTru (f ρ) := id rfl
def bnotC (b : Bool) : Res Bool := .ok (!b)
@[simp] theorem bnotC_e {b : Bool} : bnotC b = .ok (!b) := id rfl
@[simp] theorem bNot_e {f : VEnv → Res Bool} {ρ : VEnv} : bNot f ρ = bd bnotC (f ρ) := id rfl
def bandC (g : VEnv → Res Bool) (ρ : VEnv) (b : Bool) : Res Bool := if b = true then g ρ else .ok false
@[simp] theorem bandC_t {g : VEnv → Res Bool} {ρ : VEnv} : bandC g ρ true = g ρ := id rfl
@[simp] theorem bandC_f {g : VEnv → Res Bool} {ρ : VEnv} : bandC g ρ false = .ok false := id rfl
@[simp] theorem bAnd_e {f g : VEnv → Res Bool} {ρ : VEnv} : bAnd f g ρ = bd (bandC g ρ) (f ρ) := id rfl
def borC (g : VEnv → Res Bool) (ρ : VEnv) (b : Bool) : Res Bool := if b = true then .ok true else g ρ
@[simp] theorem borC_t {g : VEnv → Res Bool} {ρ : VEnv} : borC g ρ true = .ok true := id rfl
@[simp] theorem borC_f {g : VEnv → Res Bool} {ρ : VEnv} : borC g ρ false = g ρ := id rfl
@[simp] theorem bOr_e {f g : VEnv → Res Bool} {ρ : VEnv} : bOr f g ρ = bd (borC g ρ) (f ρ) := id rfl
@[simp] theorem bYes_e {ρ : VEnv} : bYes ρ = .ok true := id rfl
def eifC (f g : VEnv → Res D) (ρ : VEnv) (b : Bool) : Res D := if b = true then f ρ else g ρ
@[simp] theorem eifC_t {f g : VEnv → Res D} {ρ : VEnv} : eifC f g ρ true = f ρ := id rfl
@[simp] theorem eifC_f {f g : VEnv → Res D} {ρ : VEnv} : eifC f g ρ false = g ρ := id rfl
@[simp] theorem eIf_e {c : VEnv → Res Bool} {f g : VEnv → Res D} {ρ : VEnv} : eIf c f g ρ = bd (eifC f g ρ) (c ρ) := id rfl
@[simp] theorem dBl_e {b : Bool} : dBl (.bl b) = .ok b := id rfl
def chE (g' : D → D → Res D) (fc : VEnv → Res D) (ρ : VEnv) (b : D) (k : Bool) : Res D := if k = true then bd (g' b) (fc ρ) else .ok (.bl false)
@[simp] theorem chE_t {g' : D → D → Res D} {fc : VEnv → Res D} {ρ : VEnv} {b : D} : chE g' fc ρ b true = bd (g' b) (fc ρ) := id rfl
@[simp] theorem chE_f {g' : D → D → Res D} {fc : VEnv → Res D} {ρ : VEnv} {b : D} : chE g' fc ρ b false = .ok (.bl false) := id rfl
def chB (g g' : D → D → Res D) (fc : VEnv → Res D) (ρ : VEnv) (a b : D) : Res D := bd (chE g' fc ρ b) (bd dBl (g a b))
@[simp] theorem chB_e {g g' : D → D → Res D} {fc : VEnv → Res D} {ρ : VEnv} {a b : D} : chB g g' fc ρ a b = bd (chE g' fc ρ b) (bd dBl (g a b)) := id rfl
@[simp] theorem eChain_e {g g' : D → D → Res D} {fa fb fc : VEnv → Res D} {ρ : VEnv} : eChain g g' fa fb fc ρ = op2 (chB g g' fc ρ) (fa ρ) (fb ρ) := by
  unfold eChain
  cases fa ρ with
  | ok a =>
    cases fb ρ with
    | ok b =>
      show (g a b).bind _ = bd _ (bd dBl (g a b))
      cases g a b with
      | ok z =>
        show (dBl z).bind _ = bd _ (dBl z)
        cases dBl z <;> rfl
      | exc x => rfl
      | bad => rfl
    | exc x => rfl
    | bad => rfl
  | exc x => rfl
  | bad => rfl
@[simp] theorem eIsi_e {t : String} {f : VEnv → Res D} {ρ : VEnv} : eIsi t f ρ = bd (isKind t) (f ρ) := id rfl
@[simp] theorem isK_non {t : String} : isKind t .non = .ok (.bl ("NoneType" == t || ("NoneType" == "bool" && t == "int"))) := id rfl
@[simp] theorem isK_bl {t : String} {b : Bool} : isKind t (.bl b) = .ok (.bl ("bool" == t || ("bool" == "bool" && t == "int"))) := id rfl
@[simp] theorem isK_int {t : String} {b : Int} : isKind t (.int b) = .ok (.bl ("int" == t || ("int" == "bool" && t == "int"))) := id rfl
@[simp] theorem isK_str {t : String} {b : Str} : isKind t (.str b) = .ok (.bl ("str" == t || ("str" == "bool" && t == "int"))) := id rfl
@[simp] theorem isK_lst {t : String} {b : List D} : isKind t (.lst b) = .ok (.bl ("list" == t || ("list" == "bool" && t == "int"))) := id rfl
@[simp] theorem isK_tup {t : String} {b : List D} : isKind t (.tup b) = .ok (.bl ("tuple" == t || ("tuple" == "bool" && t == "int"))) := id rfl
@[simp] theorem isK_dct {t : String} {k : Bool} {b : List (D × D)} : isKind t (.dct k b) = .ok (.bl ("dict" == t || ("dict" == "bool" && t == "int"))) := id rfl
@[simp] theorem dTru_non : dTru .non = .ok false := id rfl
@[simp] theorem dTru_bl {b : Bool} : dTru (.bl b) = .ok b := id rfl
@[simp] theorem dTru_int {i : Int} : dTru (.int i) = .ok (i != 0) := id rfl
@[simp] theorem dTru_lst {ds : List D} : dTru (.lst ds) = .ok (!ds.isEmpty) := id rfl
@[simp] theorem dTru_tup {ds : List D} : dTru (.tup ds) = .ok (!ds.isEmpty) := id rfl
/-! operations -/
@[simp] theorem dAdd_int {a b : Int} : dAdd (.int a) (.int b) = .ok (.int (a + b)) := id rfl
@[simp] theorem dAdd_str {a b : Str} (h : a.length + b.length ≤ 16777215) : dAdd (.str a) (.str b) = .ok (.str (a ++ b)) := if_pos (fit_of h)
@[simp] theorem dAdd_lst {a b : List D} (h : a.length + b.length ≤ 16777215) : dAdd (.lst a) (.lst b) = .ok (.lst (a ++ b)) := if_pos (fit_of h)
@[simp] theorem dCat_lst {a b : List D} (h : a.length + b.length ≤ 16777215) : dCat (.lst a) (.lst b) = .ok (.lst (a ++ b)) := if_pos (fit_of h)
@[simp] theorem dSub_int {a b : Int} : dSub (.int a) (.int b) = .ok (.int (a - b)) := id rfl
@[simp] theorem dMul_int {a b : Int} (h : CMulA a b) : dMul (.int a) (.int b) = .ok (.int (a * b)) := if_pos h
@[simp] theorem dDiv_int {a b : Int} (h : CDivW a b) : dDiv (.int a) (.int b) = .ok (.int (a / b)) := if_pos h
@[simp] theorem dMod_int {a b : Int} (h : 0 < b) : dMod (.int a) (.int b) = .ok (.int (a % b)) := if_pos h
@[simp] theorem dLt_int {a b : Int} : dLt (.int a) (.int b) = .ok (.bl (decide (a < b))) := id rfl
@[simp] theorem dLe_int {a b : Int} : dLe (.int a) (.int b) = .ok (.bl (decide (a ≤ b))) := id rfl
@[simp] theorem dGt_int {a b : Int} : dGt (.int a) (.int b) = .ok (.bl (decide (b < a))) := id rfl
@[simp] theorem dGe_int {a b : Int} : dGe (.int a) (.int b) = .ok (.bl (decide (b ≤ a))) := id rfl
@[simp] theorem dEq_int {a b : Int} : dEq (.int a) (.int b) = .ok (.bl (decide (a = b))) := id rfl
@[simp] theorem dNe_int {a b : Int} : dNe (.int a) (.int b) = .ok (.bl (!decide (a = b))) := id rfl
@[simp] theorem dEq_str {a b : Str} : dEq (.str a) (.str b) = .ok (.bl (decide (a = b))) := id rfl
@[simp] theorem dNe_str {a b : Str} : dNe (.str a) (.str b) = .ok (.bl (!decide (a = b))) := id rfl
@[simp] theorem dIsN_e {a : D} : dIsN a .non = .ok (.bl (isNon a)) := id rfl
@[simp] theorem dNotN_e {a : D} : dNotN a .non = .ok (.bl (!isNon a)) := id rfl
@[simp] theorem isNon_non : isNon .non = true := id rfl
@[simp] theorem isNon_int {i : Int} : isNon (.int i) = false := id rfl
@[simp] theorem isNon_str {i : Str} : isNon (.str i) = false := id rfl
@[simp] theorem isNon_tup {i : List D} : isNon (.tup i) = false := id rfl
@[simp] theorem isNon_lst {i : List D} : isNon (.lst i) = false := id rfl
@[simp] theorem isNon_bl {i : Bool} : isNon (.bl i) = false := id rfl
def ixC : Option D → Res D
  | some d => .ok d
  | none => .bad
@[simp] theorem ixC_e {d : D} : ixC (some d) = .ok d := id rfl
@[simp] theorem dIx_lst {ds : List D} {i : Int} : dIx (.lst ds) (.int i) = ixC (atI ds i) := by
  show (match atI ds i with | some d => Res.ok d | none => .bad) = _
  cases atI ds i <;> rfl
@[simp] theorem dIx_tup {ds : List D} {i : Int} : dIx (.tup ds) (.int i) = ixC (atI ds i) := by
  show (match atI ds i with | some d => Res.ok d | none => .bad) = _
  cases atI ds i <;> rfl
theorem atI_nat {α : Type} {xs : List α} {i : Int} (h : 0 ≤ i) : atI xs i = xs[i.toNat]? := by
  unfold atI ixN
  rw [if_pos h]
  by_cases c : i < xs.length
  · rw [if_pos c]; rfl
  · rw [if_neg c, List.getElem?_eq_none (by omega)]; rfl
@[simp] theorem atI_0 {α : Type} {x : α} {xs : List α} : atI (x :: xs) 0 = some x := by rw [atI_nat (by decide)]; rfl
@[simp] theorem atI_1 {α : Type} {x y : α} {xs : List α} : atI (x :: y :: xs) 1 = some y := by rw [atI_nat (by decide)]; rfl
@[simp] theorem atI_2 {α : Type} {x y z : α} {xs : List α} : atI (x :: y :: z :: xs) 2 = some z := by rw [atI_nat (by decide)]; rfl
@[simp] theorem atI_3 {α : Type} {x y z w : α} {xs : List α} : atI (x :: y :: z :: w :: xs) 3 = some w := by rw [atI_nat (by decide)]; rfl
@[simp] theorem dAbs_e {i : Int} : dAbs [.int i] = .ok (.int (if i < 0 then -i else i)) := id rfl
theorem log_lt {n k : Nat} (h : n < 2 ^ k) (hk : 0 < k) : n.log2 < k := by
  by_cases z : n = 0
  · subst z; simpa using hk
  · exact (Nat.log2_lt z).mpr h
theorem cmul {a b : Int} (h1 : -(2 ^ 64) < a) (h2 : a < 2 ^ 64) (h3 : -(2 ^ 64) < b) (h4 : b < 2 ^ 64) : CMulA a b := by
  have x : a.natAbs < 2 ^ 64 := by omega
  have y : b.natAbs < 2 ^ 64 := by omega
  have := log_lt x (by decide)
  have := log_lt y (by decide)
  refine .inl ?_
  unfold CMulW
  omega
theorem cdiv {a b : Int} (h1 : 0 < b) (h2 : b < 2 ^ 64) : CDivW a b := by
  have y : b.natAbs < 2 ^ 64 := by omega
  have := log_lt y (by decide)
  exact ⟨h1, by omega⟩
@[simp] theorem dInt_bl {b : Bool} : dInt [.bl b] = .ok (.int (if b then 1 else 0)) := id rfl
@[simp] theorem dInt_int {b : Int} : dInt [.int b] = .ok (.int b) := id rfl
@[simp] theorem dPow_int {a b : Int} (h1 : 0 ≤ b) (h2 : b ≤ 1000000) (h3 : a.natAbs < 2 ^ 64) : dPow (.int a) (.int b) = .ok (.int (a ^ b.toNat)) := if_pos ⟨h1, h2, h3⟩
@[simp] theorem dLen_lst {ds : List D} (h : ds.length ≤ 16777215) : dLen [.lst ds] = .ok (.int ds.length) := by
  unfold dLen; first | exact if_pos (fit_of h) | rfl
@[simp] theorem dLen_tup {ds : List D} (h : ds.length ≤ 16777215) : dLen [.tup ds] = .ok (.int ds.length) := by
  unfold dLen; first | exact if_pos (fit_of h) | rfl
@[simp] theorem dLen_scr {ds : List Int} (h : ds.length ≤ 16777215) : dLen [.scr ds] = .ok (.int ds.length) := by
  unfold dLen; first | exact if_pos (fit_of h) | rfl
@[simp] theorem dLen_str {z : Str} (h : z.length ≤ 16777215) : dLen [.str z] = .ok (.int z.length) := by
  unfold dLen; first | exact if_pos (fit_of h) | rfl
def slC (a : D) : Res (Option Int) → Res (Option Int) → Res D
  | .ok l, .ok h => dSl a l h
  | .ok _, .exc x => .exc x
  | .exc x, _ => .exc x
  | _, _ => .bad
@[simp] theorem slC_ok {a : D} {l h : Option Int} : slC a (.ok l) (.ok h) = dSl a l h := id rfl
def slA (fl fh : VEnv → Res (Option Int)) (ρ : VEnv) (a : D) : Res D := slC a (fl ρ) (fh ρ)
@[simp] theorem slA_e {fl fh : VEnv → Res (Option Int)} {ρ : VEnv} {a : D} : slA fl fh ρ a = slC a (fl ρ) (fh ρ) := id rfl
@[simp] theorem eSl_e {fe : VEnv → Res D} {fl fh : VEnv → Res (Option Int)} {ρ : VEnv} : eSl fe fl fh ρ = bd (slA fl fh ρ) (fe ρ) := by
  unfold eSl
  cases fe ρ with
  | ok a => show (fl ρ).bind _ = slC a (fl ρ) (fh ρ); cases fl ρ <;> cases fh ρ <;> rfl
  | exc x => rfl
  | bad => rfl
@[simp] theorem pNo_e {ρ : VEnv} : pNo ρ = .ok none := id rfl
@[simp] theorem pYes_e {f : VEnv → Res D} {ρ : VEnv} : pYes f ρ = bd dPart (f ρ) := id rfl
@[simp] theorem dPart_e {i : Int} : dPart (.int i) = .ok (some i) := id rfl
@[simp] theorem dNeg_e {i : Int} : dNeg (.int i) = .ok (.int (-i)) := id rfl
def lastL (w : List Nat) : List Nat := match w.getLast? with
  | none => []
  | some a => [a]
@[simp] theorem lastL_nil : lastL [] = [] := id rfl
@[simp] theorem lastL_snoc {w : List Nat} {c : Nat} : lastL (w ++ [c]) = [c] := by unfold lastL; rw [List.getLast?_concat]
theorem txt_eq {a b : List Nat} : decide (Dear.txt a = Dear.txt b) = decide (a = b) := by
  by_cases h : a = b
  · subst h; simp
  · rw [decide_eq_false h, decide_eq_false fun e => h (Dear.txt_inj e)]
theorem inL_txts {w : List Nat} {l : List (List Nat)} : inL (.str (Dear.txt w)) (l.map fun v => .str (Dear.txt v)) = decide (w ∈ l) := by
  unfold inL
  induction l with
  | nil => simp
  | cons v r ih =>
    rw [List.map_cons, List.any_cons, ih]
    show (decide (Dear.txt v = Dear.txt w) || _) = _
    rw [txt_eq]
    by_cases h : v = w
    · subst h; simp
    · simp [h, Ne.symm h]
theorem dIn_txts {neg : Bool} {w : List Nat} {l : List (List Nat)} : dIn neg (.str (Dear.txt w)) (.lst (l.map fun v => .str (Dear.txt v))) = .ok (.bl (neg ^^ decide (w ∈ l))) := by
  show (if _ then Res.ok (D.bl (neg ^^ inL _ _)) else .bad) = _
  rw [inL_txts, if_pos]
  have : (l.map fun v => D.str (Dear.txt v)).all flatD = true := by
    rw [List.all_map]
    exact List.all_eq_true.mpr fun _ _ => rfl
  rw [this]
  rfl
/-! runs -/
@[simp] theorem outR_nx : outR (.nx ρ) = .ok .non := id rfl
@[simp] theorem outR_rt {d : D} : outR (.rt d ρ) = .ok d := id rfl
@[simp] theorem outR_ro {d : D} : outR (.ro d ρ) = .ok d := id rfl
@[simp] theorem outR_ex {x : Ex} : outR (.ex x ρ) = .exc x := id rfl
@[simp] theorem outO_ro {d : D} : outO (.ro d ρ) = .ok d := id rfl
def ioC (d : D) : Option (Bool × D) → Res (D × D)
  | some (true, o) => .ok (d, o)
  | _ => .bad
@[simp] theorem ioC_e {d o : D} : ioC d (some (true, o)) = .ok (d, o) := id rfl
@[simp] theorem outIO_nx {j : Nat} : outIO j (.nx ρ) = ioC .non (ownS ρ j) := id rfl
@[simp] theorem outIO_rt {j : Nat} {d : D} : outIO j (.rt d ρ) = ioC d (ownS ρ j) := id rfl
/-! loops -/
noncomputable def loopK (L : List Nat) (c : VEnv → Res Bool) (g : Env → Out) : Out → Out
  | .nx ρ => sWhile L c g ρ
  | .ct ρ => sWhile L c g ρ
  | .bk ρ => .nx ρ
  | .rt d ρ => .rt d ρ
  | .ro d ρ => .ro d ρ
  | .ex x ρ => .ex x ρ
  | .bad => .bad
@[simp] theorem loopK_nx {c : VEnv → Res Bool} : loopK L c g (.nx ρ) = sWhile L c g ρ := id rfl
@[simp] theorem loopK_ct {c : VEnv → Res Bool} : loopK L c g (.ct ρ) = sWhile L c g ρ := id rfl
@[simp] theorem loopK_bk {c : VEnv → Res Bool} : loopK L c g (.bk ρ) = .nx ρ := id rfl
@[simp] theorem loopK_rt {c : VEnv → Res Bool} {d : D} : loopK L c g (.rt d ρ) = .rt d ρ := id rfl
@[simp] theorem loopK_ro {c : VEnv → Res Bool} {d : D} : loopK L c g (.ro d ρ) = .ro d ρ := id rfl
noncomputable def loopC (L : List Nat) (c : VEnv → Res Bool) (g : Env → Out) (ρ : Env) (b : Bool) : Out := if b = true then loopK L c g (g ρ) else .nx ρ
@[simp] theorem loopC_t {c : VEnv → Res Bool} : loopC L c g ρ true = loopK L c g (g ρ) := id rfl
@[simp] theorem loopC_f {c : VEnv → Res Bool} : loopC L c g ρ false = .nx ρ := id rfl
theorem sWhile_e {c : VEnv → Res Bool} : sWhile L c g ρ = atR (loopC L c g ρ) (shut L ρ) (c (view L ρ)) := by
  rw [sWhile_eq, eAt_e]
  congr 1
  funext b
  unfold loopC
  cases b
  · rfl
  · show loopO _ (g ρ) = loopK _ _ _ (g ρ)
    cases g ρ <;> rfl
def forK (tg : Tgt) (g : Env → Out) (l : List Nat) (ds : List D) : Out → Out
  | .nx ρ => forL tg g l ds (clr l ρ)
  | .ct ρ => forL tg g l ds (clr l ρ)
  | .bk ρ => .nx ρ
  | .rt d ρ => .rt d ρ
  | .ro d ρ => .ro d ρ
  | .ex x ρ => .ex x ρ
  | .bad => .bad
section
variable {tg : Tgt} {l : List Nat} {ds : List D}
@[simp] theorem forK_nx : forK tg g l ds (.nx ρ) = forL tg g l ds (clr l ρ) := id rfl
@[simp] theorem forK_ct : forK tg g l ds (.ct ρ) = forL tg g l ds (clr l ρ) := id rfl
@[simp] theorem forK_bk : forK tg g l ds (.bk ρ) = .nx ρ := id rfl
@[simp] theorem forK_rt {d : D} : forK tg g l ds (.rt d ρ) = .rt d ρ := id rfl
@[simp] theorem forK_ro {d : D} : forK tg g l ds (.ro d ρ) = .ro d ρ := id rfl
@[simp] theorem forK_bad : forK tg g l ds .bad = .bad := id rfl
@[simp] theorem forL_nil : forL tg g l [] ρ = .nx ρ := id rfl
def forT (tg : Tgt) (g : Env → Out) (l : List Nat) (ds : List D) (ρ : Env) : Res (List (Nat × D)) → Out
  | .ok as => forK tg g l ds (g (setS ρ as))
  | _ => .bad
@[simp] theorem forT_ok {as : List (Nat × D)} : forT tg g l ds ρ (.ok as) = forK tg g l ds (g (setS ρ as)) := id rfl
/-- one turn -/
theorem forL_cons {d : D} : forL tg g l (d :: ds) ρ = forT tg g l ds ρ (tg d) := by
  unfold forL forT
  cases tg d with
  | ok as =>
    show loopO _ (g (setS ρ as)) = forK _ _ _ _ (g (setS ρ as))
    cases g (setS ρ as) <;> rfl
  | exc x => rfl
  | bad => rfl
def sForC (L : List Nat) (ρ : Env) (tg : Tgt) (g : Env → Out) (l : List Nat) (ds : List D) : Out := forL tg g l ds (shut L ρ)
@[simp] theorem sForC_e : sForC L ρ tg g l ds = forL tg g l ds (shut L ρ) := id rfl
@[simp] theorem sFor_e {it : VEnv → Res (List D)} : sFor L it tg g l ρ = atR (sForC L ρ tg g l) (shut L ρ) (it (view L ρ)) := eAt_e
/-- every turn goes on, and changes nothing that stays -/
theorem forL_same {ds : List D} {ρ : Env} (hs : ∀ d ∈ ds, ∃ as ρ', tg d = .ok as ∧ g (setS ρ as) = .nx ρ' ∧ clr l ρ' = ρ) : forL tg g l ds ρ = .nx ρ := by
  induction ds with
  | nil => rfl
  | cons d r ih =>
    obtain ⟨as, ρ', e1, e2, e3⟩ := hs d List.mem_cons_self
    rw [forL_cons, e1, forT_ok, e2, forK_nx, e3]
    exact ih fun x hx => hs x (List.mem_cons_of_mem _ hx)
end
/-! comprehensions -/
theorem compL_of {tg : Tgt} {c : VEnv → Res Bool} {f : VEnv → Res D} {ρ : VEnv} {vs : List Nat} {p : D → Bool} {q : D → D} : ∀ {ds : List D}, (∀ d ∈ ds, ∃ as, tg d = .ok as ∧ as.all (fun p => vs.contains p.1) = true ∧ c (setAllD ρ as) = .ok (p d) ∧ (p d = true → f (setAllD ρ as) = .ok (q d))) → compL tg c f ρ vs ds = .ok ((ds.filter p).map q)
  | [], _ => rfl
  | d :: ds, h => by
    obtain ⟨as, h1, h2, h3, h4⟩ := h d List.mem_cons_self
    have ih := compL_of (ds := ds) fun x hx => h x (List.mem_cons_of_mem _ hx)
    unfold compL
    rw [h1, Res.bind_ok, if_pos h2, h3, Res.bind_ok]
    cases hp : p d with
    | true => rw [if_pos rfl, h4 hp, Res.bind_ok, ih, Res.bind_ok, List.filter_cons, hp, if_pos rfl, List.map_cons]
    | false => rw [if_neg Bool.false_ne_true, ih, List.filter_cons, hp, if_neg Bool.false_ne_true]
theorem eComp_of {tg : Tgt} {c : VEnv → Res Bool} {f : VEnv → Res D} {ρ : VEnv} {vs : List Nat} {it : VEnv → Res (List D)} {ds : List D} (p : D → Bool) (q : D → D) (hi : it ρ = .ok ds) (hl : ds.length ≤ 16777215)
    (h : ∀ d ∈ ds, ∃ as, tg d = .ok as ∧ as.all (fun p => vs.contains p.1) = true ∧ c (setAllD (wipeD ρ vs) as) = .ok (p d) ∧ (p d = true → f (setAllD (wipeD ρ vs) as) = .ok (q d))) : eComp vs it tg c f ρ = .ok (.lst ((ds.filter p).map q)) := by
  unfold eComp
  rw [hi, Res.bind_ok, if_pos (fit_of hl), compL_of h]
  rfl
def itemsC : D → Res (List D) := dItems
@[simp] theorem iAny_e {f : VEnv → Res D} {ρ : VEnv} : iAny f ρ = bd itemsC (f ρ) := id rfl
@[simp] theorem items_lst {ds : List D} : itemsC (.lst ds) = .ok ds := id rfl
@[simp] theorem items_tup {ds : List D} : itemsC (.tup ds) = .ok ds := id rfl
@[simp] theorem items_scr {ns : List Int} : itemsC (.scr ns) = .ok (ns.map D.int) := id rfl
@[simp] theorem items_str {z : Str} : itemsC (.str z) = .ok (signs z) := id rfl
@[simp] theorem iRange_e {f : VEnv → Res (List D)} {ρ : VEnv} : iRange f ρ = bd dRange (f ρ) := id rfl
@[simp] theorem iEnumD_e {f : VEnv → Res (List D)} {ρ : VEnv} : iEnumD f ρ = bd dEnum (f ρ) := id rfl
@[simp] theorem iZipD_e {f : VEnv → Res (List D)} {ρ : VEnv} : iZipD f ρ = bd dZip (f ρ) := id rfl
def iDctC (q : List (D × D) → List D) : D → Res (List D) := dDct q
@[simp] theorem iDct_e {q : List (D × D) → List D} {i : Nat} {ρ : VEnv} : iDct q i ρ = bd (iDctC q) (varC (ρ[i]?)) := id rfl
@[simp] theorem iDctC_e {q : List (D × D) → List D} {ds : List (D × D)} : iDctC q (.dct false ds) = .ok (q ds) := id rfl
/-! with state -/
def md (k : α → Env → MO β) : MO α → MO β
  | .ok a ρ => k a ρ
  | .ex x ρ => .ex x ρ
  | .bad => .bad
@[simp] theorem md_ok {k : α → Env → MO β} {a : α} : md k (.ok a ρ) = k a ρ := id rfl
@[simp] theorem md_ex {k : α → Env → MO β} {x : Ex} : md k (.ex x ρ) = .ex x ρ := id rfl
@[simp] theorem md_bad {k : α → Env → MO β} : md k .bad = .bad := id rfl
def mpK (aft : α → Env → Env) (ρ ρx : Env) : Res α → MO α
  | .ok d => .ok d (aft d ρ)
  | .exc x => .ex x ρx
  | .bad => .bad
@[simp] theorem mpK_ok {af : α → Env → Env} {d : α} : mpK af ρ ρx (.ok d) = .ok d (af d ρ) := id rfl
@[simp] theorem mP_e {f : VEnv → Res D} : mP L f ρ = mpK (aft L) ρ (shut L ρ) (f (view L ρ)) := by unfold mP mpK; cases f (view L ρ) <;> rfl
@[simp] theorem mAP_e {f : VEnv → Res (List D)} : mAP L f ρ = mpK (aftL L) ρ (shut L ρ) (f (view L ρ)) := by unfold mAP mpK; cases f (view L ρ) <;> rfl
def keepE (_ : α) (ρ : Env) : Env := ρ
@[simp] theorem keepE_e {a : α} : keepE a ρ = ρ := id rfl
@[simp] theorem mB_e {f : VEnv → Res Bool} : mB L f ρ = mpK keepE ρ (shut L ρ) (f (view L ρ)) := by unfold mB mpK; cases f (view L ρ) <;> rfl
def lift (ρ : Env) : Res α → MO α
  | .ok d => .ok d ρ
  | _ => .bad
@[simp] theorem lift_ok {a : α} : lift ρ (.ok a) = .ok a ρ := id rfl
def mOp2 (g : D → D → Res D) (a b : D) (ρ : Env) : MO D := lift ρ (g a b)
@[simp] theorem mOp2_e {g : D → D → Res D} {a b : D} : mOp2 g a b ρ = lift ρ (g a b) := id rfl
def mOp1 (g : D → D → Res D) (mb : Env → MO D) (a : D) (ρ : Env) : MO D := md (mOp2 g a) (mb ρ)
@[simp] theorem mOp1_e {g : D → D → Res D} {mb : Env → MO D} {a : D} : mOp1 g mb a ρ = md (mOp2 g a) (mb ρ) := id rfl
@[simp] theorem mOp_e {g : D → D → Res D} {ma mb : Env → MO D} : mOp g ma mb ρ = md (mOp1 g mb) (ma ρ) := by
  unfold mOp
  cases ma ρ with
  | ok a ρ1 =>
    show (mb ρ1).bind _ = md _ (mb ρ1)
    cases mb ρ1 with
    | ok b ρ2 => show (match g a b with | .ok d => MO.ok d ρ2 | _ => .bad) = lift ρ2 (g a b); cases g a b <;> rfl
    | ex x ρ2 => rfl
    | bad => rfl
  | ex x ρ2 => rfl
  | bad => rfl
@[simp] theorem mNil_e : mNil ρ = .ok [] ρ := id rfl
def mCons2 (a : D) (as : List D) (ρ : Env) : MO (List D) := .ok (a :: as) ρ
@[simp] theorem mCons2_e {a : D} {as : List D} : mCons2 a as ρ = .ok (a :: as) ρ := id rfl
def mCons1 (n : Env → MO (List D)) (a : D) (ρ : Env) : MO (List D) := md (mCons2 a) (n ρ)
@[simp] theorem mCons1_e {n : Env → MO (List D)} {a : D} : mCons1 n a ρ = md (mCons2 a) (n ρ) := id rfl
@[simp] theorem mCons_e {m : Env → MO D} {n : Env → MO (List D)} : mCons m n ρ = md (mCons1 n) (m ρ) := by
  unfold mCons
  cases m ρ with
  | ok a ρ1 => show (n ρ1).bind _ = md _ (n ρ1); cases n ρ1 <;> rfl
  | ex x ρ2 => rfl
  | bad => rfl
def mTup1 (as : List D) (ρ : Env) : MO D := lift ρ (tupC as)
@[simp] theorem mTup1_e {as : List D} : mTup1 as ρ = lift ρ (tupC as) := id rfl
theorem lift_if {b : Bool} {d : D} : lift ρ (if b = true then Res.ok d else .bad) = if b = true then MO.ok d ρ else .bad := by cases b <;> rfl
@[simp] theorem mTup_e {m : Env → MO (List D)} : mTup m ρ = md mTup1 (m ρ) := by
  unfold mTup
  cases m ρ with
  | ok a ρ1 => exact lift_if.symm
  | ex x ρ2 => rfl
  | bad => rfl
def mLst1 (as : List D) (ρ : Env) : MO D := lift ρ (lstC as)
@[simp] theorem mLst1_e {as : List D} : mLst1 as ρ = lift ρ (lstC as) := id rfl
@[simp] theorem mLst_e {m : Env → MO (List D)} : mLst m ρ = md mLst1 (m ρ) := by
  unfold mLst
  cases m ρ with
  | ok a ρ1 => exact lift_if.symm
  | ex x ρ2 => rfl
  | bad => rfl
def mApp1 (g : List D → Res D) (as : List D) (ρ : Env) : MO D := lift ρ (g as)
@[simp] theorem mApp1_e {g : List D → Res D} {as : List D} : mApp1 g as ρ = lift ρ (g as) := id rfl
@[simp] theorem mApp_e {g : List D → Res D} {m : Env → MO (List D)} : mApp g m ρ = md (mApp1 g) (m ρ) := by
  unfold mApp
  cases m ρ with
  | ok a ρ1 => show (match g a with | .ok d => MO.ok d ρ1 | _ => .bad) = lift ρ1 (g a); cases g a <;> rfl
  | ex x ρ2 => rfl
  | bad => rfl
def ioE (i : Nat) (t : Bool) (ρ : Env) : Res (D × D) → MO D
  | .ok r => .ok r.1 (ρ.set i (some (.own t r.2)))
  | _ => .bad
@[simp] theorem ioE_e {i : Nat} {t : Bool} {r : D × D} : ioE i t ρ (.ok r) = .ok r.1 (ρ.set i (some (.own t r.2))) := id rfl
def ioD (j i : Nat) (f : List D → Res (D × D)) (as : List D) (ρ : Env) : Option (Bool × D) → MO D
  | some (t, o) => ioE i t ρ (f (as.insertIdx j o))
  | none => .bad
@[simp] theorem ioD_e {j i : Nat} {f : List D → Res (D × D)} {as : List D} {t : Bool} {o : D} : ioD j i f as ρ (some (t, o)) = ioE i t ρ (f (as.insertIdx j o)) := id rfl
def ioB (j i : Nat) (f : List D → Res (D × D)) (as : List D) (ρ : Env) : MO D := ioD j i f as ρ (ownS ρ i)
@[simp] theorem ioB_e {j i : Nat} {f : List D → Res (D × D)} {as : List D} : ioB j i f as ρ = ioD j i f as ρ (ownS ρ i) := id rfl
def ioA (j i : Nat) (f : List D → Res (D × D)) (m : Env → MO (List D)) (ρ : Env) : Option (Bool × D) → MO D
  | some _ => md (ioB j i f) (m ρ)
  | none => .bad
@[simp] theorem ioA_e {j i : Nat} {f : List D → Res (D × D)} {m : Env → MO (List D)} {x : Bool × D} : ioA j i f m ρ (some x) = md (ioB j i f) (m ρ) := id rfl
@[simp] theorem mIO_e {j i : Nat} {f : List D → Res (D × D)} {m : Env → MO (List D)} : mIO j i f m ρ = ioA j i f m ρ (ownS ρ i) := by
  unfold mIO ioA
  cases ownS ρ i with
  | none => rfl
  | some x =>
    show (m ρ).bind _ = md _ (m ρ)
    cases m ρ with
    | ok as ρ1 =>
      show (match ownS ρ1 i with | some (t, o) => _ | none => _) = ioD j i f as ρ1 (ownS ρ1 i)
      cases ownS ρ1 i with
      | none => rfl
      | some y =>
        show (match f (as.insertIdx j y.2) with | .ok r => MO.ok r.1 (ρ1.set i (some (.own y.1 r.2))) | _ => .bad) = ioE i y.1 ρ1 (f (as.insertIdx j y.2))
        cases f (as.insertIdx j y.2) <;> rfl
    | ex x ρ1 => rfl
    | bad => rfl
def mtC : D → Env → MO Bool
  | .bl b, ρ => .ok b ρ
  | _, _ => .bad
@[simp] theorem mtC_e {b : Bool} : mtC (.bl b) ρ = .ok b ρ := id rfl
@[simp] theorem mTest_e {m : Env → MO D} : mTest m ρ = md mtC (m ρ) := by
  unfold mTest
  cases m ρ with
  | ok a ρ1 => cases a <;> rfl
  | ex x ρ2 => rfl
  | bad => rfl
def mnC (b : Bool) (ρ : Env) : MO Bool := .ok (!b) ρ
@[simp] theorem mnC_e {b : Bool} : mnC b ρ = .ok (!b) ρ := id rfl
@[simp] theorem mNot_e {m : Env → MO Bool} : mNot m ρ = md mnC (m ρ) := id rfl
def mandC (n : Env → MO Bool) (b : Bool) (ρ : Env) : MO Bool := if b = true then n ρ else .ok false ρ
@[simp] theorem mandC_t {n : Env → MO Bool} : mandC n true ρ = n ρ := id rfl
@[simp] theorem mandC_f {n : Env → MO Bool} : mandC n false ρ = .ok false ρ := id rfl
@[simp] theorem mAnd_e {m n : Env → MO Bool} : mAnd m n ρ = md (mandC n) (m ρ) := id rfl
def morC (n : Env → MO Bool) (b : Bool) (ρ : Env) : MO Bool := if b = true then .ok true ρ else n ρ
@[simp] theorem morC_t {n : Env → MO Bool} : morC n true ρ = .ok true ρ := id rfl
@[simp] theorem morC_f {n : Env → MO Bool} : morC n false ρ = n ρ := id rfl
@[simp] theorem mOr_e {m n : Env → MO Bool} : mOr m n ρ = md (morC n) (m ρ) := id rfl
@[simp] theorem mYes_e : mYes ρ = .ok true ρ := id rfl
def ats (k : α → Env → Out) : MO α → Out
  | .ok a ρ => k a ρ
  | .ex x ρ => .ex x ρ
  | .bad => .bad
@[simp] theorem ats_ok {k : α → Env → Out} {a : α} : ats k (.ok a ρ) = k a ρ := id rfl
theorem mAt_e {m : Env → MO α} {k : α → Env → Out} : mAt m ρ k = ats k (m ρ) := by unfold mAt ats; cases m ρ <;> rfl
def asgM1 (tg : Tgt) (d : D) (ρ : Env) : Out := asgD ρ (tg d)
@[simp] theorem asgM1_e {tg : Tgt} {d : D} : asgM1 tg d ρ = asgD ρ (tg d) := id rfl
@[simp] theorem sAsgM_e {m : Env → MO D} {tg : Tgt} : sAsgM m tg ρ = ats (asgM1 tg) (m ρ) := by
  unfold sAsgM
  rw [mAt_e]
  congr 1
def exprM1 (_ : D) (ρ : Env) : Out := .nx ρ
@[simp] theorem exprM1_e {d : D} : exprM1 d ρ = .nx ρ := id rfl
@[simp] theorem sExprM_e {m : Env → MO D} : sExprM m ρ = ats exprM1 (m ρ) := mAt_e
def retM1 (d : D) (ρ : Env) : Out := .rt d ρ
@[simp] theorem retM1_e {d : D} : retM1 d ρ = .rt d ρ := id rfl
@[simp] theorem sRetM_e {m : Env → MO D} : sRetM m ρ = ats retM1 (m ρ) := mAt_e
def ifM1 (g h : Env → Out) (b : Bool) (ρ : Env) : Out := if b = true then g ρ else h ρ
@[simp] theorem ifM1_t : ifM1 g h true ρ = g ρ := id rfl
@[simp] theorem ifM1_f : ifM1 g h false ρ = h ρ := id rfl
@[simp] theorem sIfM_e {m : Env → MO Bool} : sIfM m g h ρ = ats (ifM1 g h) (m ρ) := mAt_e
def appM1 (i : Nat) (d : D) (ρ : Env) : Out := chg ρ i (appF d)
@[simp] theorem appM1_e {i : Nat} {d : D} : appM1 i d ρ = chg ρ i (appF d) := id rfl
@[simp] theorem sAppM_e {i : Nat} {m : Env → MO D} : sAppM i m ρ = ats (appM1 i) (m ρ) := mAt_e
def ownM1 (i : Nat) (d : D) (ρ : Env) : Out := .nx (ρ.set i (some (.own false d)))
@[simp] theorem ownM1_e {i : Nat} {d : D} : ownM1 i d ρ = .nx (ρ.set i (some (.own false d))) := id rfl
@[simp] theorem sOwnM_e {i : Nat} {m : Env → MO D} : sOwnM i m ρ = ats (ownM1 i) (m ρ) := mAt_e
/-! comprehensions with state -/
end
end Du

namespace Du
open PySem PySem.Spec PyProof.Rows L2
/-! ### dicts, sums, comparisons, reckoned -/
section
variable {α β : Type} {g h : Env → Out} {ρ ρx : Env} {L : List Nat}
def ownDC : Option (Option Slot) → Option (Bool × List (D × D))
  | some (some (.own t (.dct false ds))) => some (t, ds)
  | _ => none
@[simp] theorem ownD_e {i : Nat} : ownD ρ i = ownDC (ρ[i]?) := id rfl
@[simp] theorem ownDC_e {t : Bool} {ds : List (D × D)} : ownDC (some (some (.own t (.dct false ds)))) = some (t, ds) := id rfl
def needDC (g : Env → Out) (ρ : Env) : Option (Bool × List (D × D)) → Out
  | some _ => g ρ
  | none => .bad
@[simp] theorem needD_e {i : Nat} : needD i g ρ = needDC g ρ (ownD ρ i) := id rfl
@[simp] theorem needDC_e {x : Bool × List (D × D)} : needDC g ρ (some x) = g ρ := id rfl
def chgDT (ρ : Env) (i : Nat) (t : Bool) : Option (List (D × D)) → Out
  | some es => .nx (ρ.set i (some (.own t (.dct false es))))
  | none => .bad
@[simp] theorem chgDT_e {i : Nat} {t : Bool} {es : List (D × D)} : chgDT ρ i t (some es) = .nx (ρ.set i (some (.own t (.dct false es)))) := id rfl
def chgDC (ρ : Env) (i : Nat) (f : List (D × D) → Option (List (D × D))) : Option (Bool × List (D × D)) → Out
  | some (t, ds) => chgDT ρ i t (f ds)
  | none => .bad
@[simp] theorem chgDC_e {i : Nat} {f : List (D × D) → Option (List (D × D))} {t : Bool} {ds : List (D × D)} : chgDC ρ i f (some (t, ds)) = chgDT ρ i t (f ds) := id rfl
@[simp] theorem chgD_e {i : Nat} {f : List (D × D) → Option (List (D × D))} : chgD ρ i f = chgDC ρ i f (ownD ρ i) := id rfl
noncomputable def putDF (n d : D) (ds : List (D × D)) : Option (List (D × D)) := if (dKeyOk n && fit ds.length) = true then some (dPut ds n d) else none
@[simp] theorem putDF_str {z : Str} {d : D} {ds : List (D × D)} (h : ds.length ≤ 16777215) : putDF (.str z) d ds = some (dPut ds (.str z) d) := if_pos (by rw [fit_of h]; rfl)
@[simp] theorem putDF_int {z : Int} {d : D} {ds : List (D × D)} (h : ds.length ≤ 16777215) : putDF (.int z) d ds = some (dPut ds (.int z) d) := if_pos (by rw [fit_of h]; rfl)
noncomputable def putDE (i : Nat) (ρ : Env) (d n : D) : Out := chgD ρ i (putDF n d)
@[simp] theorem putDE_e {i : Nat} {d n : D} : putDE i ρ d n = chgD ρ i (putDF n d) := id rfl
noncomputable def putDD (i : Nat) (fk : VEnv → Res D) (d : D) (ρ : Env) : Out := atR (putDE i ρ d) (shut [] ρ) (fk (view [] ρ))
@[simp] theorem putDD_e {i : Nat} {fk : VEnv → Res D} {d : D} : putDD i fk d ρ = atR (putDE i ρ d) (shut [] ρ) (fk (view [] ρ)) := id rfl
noncomputable def putDK (i : Nat) (L : List Nat) (ρ : Env) (fk : VEnv → Res D) (d : D) : Out := needD i (putDD i fk d) (aft L d ρ)
@[simp] theorem putDK_e {i : Nat} {fk : VEnv → Res D} {d : D} : putDK i L ρ fk d = needD i (putDD i fk d) (aft L d ρ) := id rfl
@[simp] theorem sPutD_e {i : Nat} {fv fk : VEnv → Res D} : sPutD i L fv fk ρ = atR (putDK i L ρ fk) (shut L ρ) (fv (view L ρ)) := by
  unfold sPutD
  rw [eAt_e]
  congr 1
noncomputable def putDM2 (i : Nat) (d n : D) (ρ : Env) : Out := chgD ρ i (putDF n d)
@[simp] theorem putDM2_e {i : Nat} {d n : D} : putDM2 i d n ρ = chgD ρ i (putDF n d) := id rfl
noncomputable def putDM1 (i : Nat) (n : Env → MO D) (d : D) (ρ : Env) : Out := ats (putDM2 i d) (n ρ)
@[simp] theorem putDM1_e {i : Nat} {n : Env → MO D} {d : D} : putDM1 i n d ρ = ats (putDM2 i d) (n ρ) := id rfl
noncomputable def putDM0 (i : Nat) (n : Env → MO D) (d : D) (ρ : Env) : Out := needD i (putDM1 i n d) ρ
@[simp] theorem putDM0_e {i : Nat} {n : Env → MO D} {d : D} : putDM0 i n d ρ = needD i (putDM1 i n d) ρ := id rfl
@[simp] theorem sPutDM_e {i : Nat} {m n : Env → MO D} : sPutDM i m n ρ = ats (putDM0 i n) (m ρ) := by
  unfold sPutDM
  rw [mAt_e]
  congr 1
def itC : Option (Bool × List (D × D)) → Env → MO D
  | some (_, ds), ρ => if fit ds.length = true then .ok (.lst (qItems ds)) ρ else .bad
  | none, _ => .bad
/-! lists that grow, are emptied -/
def lsC : D → Res (List D) := dLst
@[simp] theorem lsC_e {ds : List D} : lsC (.lst ds) = .ok ds := id rfl
@[simp] theorem eLs_e {f : VEnv → Res D} {ρ : VEnv} : eLs f ρ = bd lsC (f ρ) := id rfl
def extF (es ds : List D) : Option (List D) := if fit (ds.length + es.length) = true then some (ds ++ es) else none
@[simp] theorem extF_e {es ds : List D} (h : ds.length + es.length ≤ 16777215) : extF es ds = some (ds ++ es) := if_pos (fit_of h)
def extC (i : Nat) (L : List Nat) (ρ : Env) (es : List D) : Out := chg (aftL L es ρ) i (extF es)
@[simp] theorem extC_e {i : Nat} {es : List D} : extC i L ρ es = chg (aftL L es ρ) i (extF es) := id rfl
@[simp] theorem sExt_e {i : Nat} {f : VEnv → Res D} : sExt i L f ρ = atR (extC i L ρ) (shut L ρ) (eLs f (view L ρ)) := eAt_e
def clrF (_ : List D) : Option (List D) := some []
@[simp] theorem clrF_e {ds : List D} : clrF ds = some [] := id rfl
@[simp] theorem sClr_e {i : Nat} : sClr i ρ = chg ρ i clrF := id rfl
/-! dicts -/
@[simp] theorem eDct0_e {ρ : VEnv} : eDct0 ρ = .ok (.dct false []) := id rfl
def dct1C : D → D → Res D := fun k v => if dKeyOk k = true then .ok (.dct false [(k, v)]) else .bad
@[simp] theorem dct1C_str {z : Str} {v : D} : dct1C (.str z) v = .ok (.dct false [(.str z, v)]) := id rfl
@[simp] theorem eDct1_e {fk fv : VEnv → Res D} {ρ : VEnv} : eDct1 fk fv ρ = op2 dct1C (fk ρ) (fv ρ) := by
  unfold eDct1
  cases fk ρ with
  | ok k => show (fv ρ).bind _ = op2 dct1C (.ok k) (fv ρ); cases fv ρ <;> rfl
  | exc x => rfl
  | bad => rfl
def iotB (f : List D → Res (D × D)) (as : List D) (o : D) : Res D := match f (o :: as) with
  | .ok r => .ok r.1
  | _ => .bad
def iotC (f : List D → Res (D × D)) (fa : VEnv → Res (List D)) (ρ : VEnv) (o : D) : Res D := bd (fun as => iotB f as o) (fa ρ)
noncomputable def g1C (a n : D) : Res D := match a with
  | .dct false kvs => if dKeyOk n = true then .ok ((dGet kvs n).getD .non) else .bad
  | _ => .bad
theorem dGet_cons {p : D × D} {kvs : List (D × D)} {k : D} : dGet (p :: kvs) k = if p.1 = k then some p.2 else dGet kvs k := by
  unfold dGet
  rw [List.find?_cons]
  by_cases h : p.1 = k
  · rw [decide_eq_true h, if_pos h]; rfl
  · rw [decide_eq_false h, if_neg h]
theorem dGet_none {k : D} : ∀ {kvs : List (D × D)}, (∀ p ∈ kvs, p.1 ≠ k) → dGet kvs k = none
  | [], _ => rfl
  | p :: r, h => by
    rw [dGet_cons, if_neg (h p List.mem_cons_self)]
    exact dGet_none fun q hq => h q (List.mem_cons_of_mem _ hq)
theorem dPut_new {kvs : List (D × D)} {k v : D} (h : ∀ p ∈ kvs, p.1 ≠ k) : dPut kvs k v = kvs ++ [(k, v)] := by
  unfold dPut
  rw [dGet_none h]
  rfl
theorem dIn_dct {neg : Bool} {kvs : List (D × D)} {k : D} (h : dKeyOk k = true) : dIn neg k (.dct false kvs) = .ok (.bl (neg ^^ (dGet kvs k).isSome)) := by
  have : dIn neg k (.dct false kvs) = if dKeyOk k = true then .ok (.bl (neg ^^ (dGet kvs k).isSome)) else .bad := by cases k <;> rfl
  rw [this, if_pos h]
@[simp] theorem dSum_ints {ns : List Int} : dSum [.lst (ns.map D.int)] = .ok (.int ns.sum) := by
  show (match asInts (ns.map D.int) with | some ns => Res.ok (D.int ns.sum) | none => .bad) = _
  rw [asInts_map]
@[simp] theorem dMax2_e {i j : Int} : dMax2 [.int i, .int j] = .ok (.int (if j > i then j else i)) := id rfl
@[simp] theorem dMin2_e {i j : Int} : dMin2 [.int i, .int j] = .ok (.int (if j < i then j else i)) := id rfl
@[simp] theorem dList_lst {ds : List D} : dList [.lst ds] = .ok (.lst ds) := id rfl
/-! comparisons -/
mutual
theorem pyEq_self : ∀ {d : D}, okD d = true → pyEq d d = true
  | .non, _ => rfl
  | .bl b, _ => by cases b <;> rfl
  | .int i, _ => by unfold pyEq; simp
  | .str z, _ => by unfold pyEq; simp
  | .lst ds, o => by unfold pyEq; exact pyEqAll_self o
  | .tup ds, o => by unfold pyEq; exact pyEqAll_self o
  | .scr _, o => by cases o
  | .dct _ _, o => by cases o
  | .exc _ _, o => by cases o
theorem pyEqAll_self : ∀ {ds : List D}, okAll ds = true → pyEqAll ds ds = true
  | [], _ => rfl
  | d :: ds, o => by
    simp only [okAll, Bool.and_eq_true] at o
    unfold pyEqAll
    rw [pyEq_self o.1, pyEqAll_self o.2]
    rfl
end
theorem dNe_of {a b : D} (ha : lay a = true) (hb : lay b = true) : dNe a b = .ok (.bl (!pyEq a b)) := if_pos (by rw [ha, hb]; simp)
theorem dNe_self {a : D} (ha : lay a = true) : dNe a a = .ok (.bl false) := by rw [dNe_of ha ha, pyEq_self (lay_ok ha)]; rfl
/-! what may be compared: texts of letters -/
def Asc (w : List Nat) : Prop := ∀ c ∈ w, c < 128
theorem okD_txt {w : List Nat} (h : Asc w) : okD (.str (Dear.txt w)) = true := by
  show ((Dear.txt w).cps.toList.all fun c => decide (c < 128)) = true
  have e : (Dear.txt w).cps.toList = w := Dear.txt_list _
  rw [e]
  exact List.all_eq_true.mpr fun c hc => decide_eq_true (h c hc)
theorem okAll_of : ∀ {ds : List D}, (∀ d ∈ ds, okD d = true) → okAll ds = true
  | [], _ => rfl
  | d :: ds, h => by
    simp only [okAll, Bool.and_eq_true]
    exact ⟨h d List.mem_cons_self, okAll_of fun e he => h e (List.mem_cons_of_mem _ he)⟩
theorem depAll_of {n : Nat} : ∀ {ds : List D}, (∀ d ∈ ds, dep d ≤ n) → depAll ds ≤ n
  | [], _ => Nat.zero_le _
  | d :: ds, h => by
    show max (dep d) (depAll ds) ≤ n
    exact Nat.max_le.mpr ⟨h d List.mem_cons_self, depAll_of fun e he => h e (List.mem_cons_of_mem _ he)⟩
/-- may be compared, n deep at most -/
def Ly (n : Nat) (d : D) : Prop := okD d = true ∧ dep d ≤ n
theorem Ly.lay {n : Nat} {d : D} (h : Ly n d) (hn : n ≤ 60) : lay d = true := by
  unfold Du.lay
  rw [h.1, decide_eq_true (Nat.le_trans h.2 hn)]
  rfl
theorem Ly.mono {n m : Nat} {d : D} (h : Ly n d) (hn : n ≤ m) : Ly m d := ⟨h.1, Nat.le_trans h.2 hn⟩
theorem Ly.lst {n : Nat} {ds : List D} (h : ∀ d ∈ ds, Ly n d) : Ly (n + 1) (.lst ds) := ⟨okAll_of fun d hd => (h d hd).1, by
  show depAll ds + 1 ≤ n + 1
  have := depAll_of fun d hd => (h d hd).2
  omega⟩
theorem Ly.tup {n : Nat} {ds : List D} (h : ∀ d ∈ ds, Ly n d) : Ly (n + 1) (.tup ds) := ⟨okAll_of fun d hd => (h d hd).1, by
  show depAll ds + 1 ≤ n + 1
  have := depAll_of fun d hd => (h d hd).2
  omega⟩
theorem Ly.non {n : Nat} : Ly n .non := ⟨rfl, Nat.zero_le _⟩
theorem Ly.bl {n : Nat} {b : Bool} : Ly n (.bl b) := ⟨rfl, Nat.zero_le _⟩
theorem Ly.int {n : Nat} {b : Int} : Ly n (.int b) := ⟨rfl, Nat.zero_le _⟩
theorem Ly.txt {n : Nat} {w : List Nat} (h : Asc w) : Ly n (.str (Dear.txt w)) := ⟨okD_txt h, Nat.zero_le _⟩
theorem Ly.txts {n : Nat} {l : List (List Nat)} (h : ∀ w ∈ l, Asc w) : Ly (n + 1) (.lst (l.map fun v => .str (Dear.txt v))) := .lst fun d hd => by
  obtain ⟨w, hw, rfl⟩ := List.mem_map.mp hd
  exact .txt (h w hw)
theorem forall_cons {α : Type} {P : α → Prop} {a : α} {l : List α} (h : P a) (t : ∀ x ∈ l, P x) : ∀ x ∈ a :: l, P x := fun x hx => by
  rcases List.mem_cons.mp hx with e | e
  · rw [e]; exact h
  · exact t x e
theorem forall_nil {α : Type} {P : α → Prop} : ∀ x ∈ ([] : List α), P x := fun _ h => nomatch h
end
end Du
namespace Du
open PySem PySem.Spec PyProof.Rows L2
/-! ### one step at a time -/
section
variable {g h : Env → Out} {ρ ρ' : Env} {L : List Nat} {o : Out}
theorem seq_to (h1 : g ρ = .nx ρ') (h2 : h ρ' = o) : sSeq g h ρ = o := by rw [sSeq_e, h1]; exact h2
theorem for_to {it : VEnv → Res (List D)} {tg : Tgt} {l : List Nat} {ds : List D} (h1 : it (view L ρ) = .ok ds) (h2 : shut L ρ = ρ') (h3 : forL tg g l ds ρ' = o) : sFor L it tg g l ρ = o := by rw [sFor_e, h1, atR_ok, sForC_e, h2, h3]
theorem own_to {f : VEnv → Res D} {i : Nat} {d : D} (h1 : f (view L ρ) = .ok d) : sOwn i L f ρ = .nx ((aftO L d ρ).set i (some (.own false d))) := by rw [sOwn_e, h1]; rfl
end
end Du
namespace Du
open PySem PySem.Spec PyProof.Rows L2
/-! ### comprehensions over what is made of a list -/
theorem compL_map {α : Type} {F : α → D} {tg : Tgt} {c : VEnv → Res Bool} {f : VEnv → Res D} {ρ : VEnv} {vs : List Nat} {p : α → Bool} {q : α → D} : ∀ {l : List α}, (∀ a ∈ l, ∃ as, tg (F a) = .ok as ∧ as.all (fun p => vs.contains p.1) = true ∧ c (setAllD ρ as) = .ok (p a) ∧ (p a = true → f (setAllD ρ as) = .ok (q a))) → compL tg c f ρ vs (l.map F) = .ok ((l.filter p).map q)
  | [], _ => rfl
  | d :: ds, h => by
    obtain ⟨as, h1, h2, h3, h4⟩ := h d List.mem_cons_self
    have ih := compL_map (l := ds) fun x hx => h x (List.mem_cons_of_mem _ hx)
    rw [List.map_cons]
    unfold compL
    rw [h1, Res.bind_ok, if_pos h2, h3, Res.bind_ok]
    cases hp : p d with
    | true => rw [if_pos rfl, h4 hp, Res.bind_ok, ih, Res.bind_ok, List.filter_cons, hp, if_pos rfl, List.map_cons]
    | false => rw [if_neg Bool.false_ne_true, ih, List.filter_cons, hp, if_neg Bool.false_ne_true]
theorem eComp_map {α : Type} {F : α → D} {tg : Tgt} {c : VEnv → Res Bool} {f : VEnv → Res D} {ρ : VEnv} {vs : List Nat} {it : VEnv → Res (List D)} {l : List α} (p : α → Bool) (q : α → D) (hi : it ρ = .ok (l.map F)) (hl : l.length ≤ 16777215)
    (h : ∀ a ∈ l, ∃ as, tg (F a) = .ok as ∧ as.all (fun p => vs.contains p.1) = true ∧ c (setAllD (wipeD ρ vs) as) = .ok (p a) ∧ (p a = true → f (setAllD (wipeD ρ vs) as) = .ok (q a))) : eComp vs it tg c f ρ = .ok (.lst ((l.filter p).map q)) := by
  unfold eComp
  rw [hi, Res.bind_ok, if_pos (fit_of (by rw [List.length_map]; exact hl)), compL_map h]
  rfl
/-- .. none left out -/
theorem eComp_all {α : Type} {F : α → D} {tg : Tgt} {f : VEnv → Res D} {ρ : VEnv} {vs : List Nat} {it : VEnv → Res (List D)} {l : List α} (q : α → D) (hi : it ρ = .ok (l.map F)) (hl : l.length ≤ 16777215)
    (h : ∀ a ∈ l, ∃ as, tg (F a) = .ok as ∧ as.all (fun p => vs.contains p.1) = true ∧ f (setAllD (wipeD ρ vs) as) = .ok (q a)) : eComp vs it tg bYes f ρ = .ok (.lst (l.map q)) := by
  rw [eComp_map (fun _ => true) q hi hl fun a ha => by
    obtain ⟨as, h1, h2, h3⟩ := h a ha
    exact ⟨as, h1, h2, bYes_e, fun _ => h3⟩, List.filter_eq_self.mpr fun _ _ => rfl]
end Du
namespace Du
open PySem PySem.Spec PyProof.Rows L2
end Du
namespace Du
open PySem PySem.Spec PyProof.Rows L2
theorem dAll_map {α : Type} {l : List α} {f : α → Bool} : dAll [.lst (l.map fun a => .bl (f a))] = .ok (.bl (l.all f)) := by
  have e : (l.map fun a => D.bl (f a)) = (l.map f).map D.bl := by rw [List.map_map]; rfl
  rw [e]
  show (match asBls _ with | some bs => Res.ok (D.bl (bs.all id)) | none => .bad) = _
  rw [asBls_map]
  show Res.ok (D.bl ((l.map f).all id)) = _
  rw [List.all_map]
  rfl
end Du
namespace Du
open PySem PySem.Spec PyProof.Rows L2
@[simp] theorem imms_strs {α : Type} {f : α → Str} : ∀ {l : List α}, imms (l.map fun a => D.str (f a)) = true
  | [] => rfl
  | a :: l => by
    rw [List.map_cons, imms_cons, imms_strs]
    rfl
@[simp] theorem imms_ints {α : Type} {f : α → Int} : ∀ {l : List α}, imms (l.map fun a => D.int (f a)) = true
  | [] => rfl
  | a :: l => by
    rw [List.map_cons, imms_cons, imms_ints]
    rfl
theorem dIx_at {α : Type} {F : α → D} {l : List α} {j : Nat} {a : α} (h : l[j]? = some a) : dIx (.lst (l.map F)) (.int (j : Nat)) = .ok (F a) := by
  rw [dIx_lst, atI_nat (by omega), Int.toNat_natCast, List.getElem?_map, h]
  rfl
end Du
namespace Du
open PySem PySem.Spec PyProof.Rows L2
/-! ### exceptions, reckoned -/
@[simp] theorem cons2_exc {x : Ex} {r : Res (List D)} : cons2 (.exc x) r = .exc x := id rfl
@[simp] theorem cons2_exc2 {a : D} {x : Ex} : cons2 (.ok a) (.exc x) = .exc x := id rfl
@[simp] theorem op2_exc {g : D → D → Res D} {x : Ex} {r : Res D} : op2 g (.exc x) r = .exc x := by cases r <;> rfl
@[simp] theorem op2_exc2 {g : D → D → Res D} {a : D} {x : Ex} : op2 g (.ok a) (.exc x) = .exc x := id rfl
theorem nx_ok {f : List D → Res D} {ds : List D} {d : D} (h : f ds = .ok d) : nx f ds = .ok d := by unfold nx; rw [h]
theorem sRaiseI_c {c f : Str} {L : List Nat} {d : D} {ρ : Env} (h : fmtOk d = true) : sRaiseI c f L (eC d) ρ = .ex ⟨c, [(f, d)]⟩ (aft L d ρ) := by
  unfold sRaiseI
  rw [eAt_e, eC_e, atR_ok, if_pos h]
theorem forL_app {tg : Tgt} {g : Env → Out} {l : List Nat} {ρ ρ' : Env} : ∀ {a b : List D}, forL tg g l a ρ = .nx ρ' → (∀ d ∈ a, ∀ ρ as, tg d = .ok as → ∀ ρ2, g (setS ρ as) ≠ .bk ρ2) → forL tg g l (a ++ b) ρ = forL tg g l b ρ'
  | [], b, h, _ => by cases h; rfl
  | d :: a, b, h, hb => by
    rw [List.cons_append, forL_cons]
    rw [forL_cons] at h
    cases e : tg d with
    | ok as =>
      rw [e] at h
      rw [forT_ok] at h ⊢
      have nb := hb d List.mem_cons_self ρ as e
      cases e2 : g (setS ρ as) with
      | nx ρ1 => rw [e2] at h; exact forL_app h fun x hx => hb x (List.mem_cons_of_mem _ hx)
      | ct ρ1 => rw [e2] at h; exact forL_app h fun x hx => hb x (List.mem_cons_of_mem _ hx)
      | bk ρ1 => exact absurd e2 (nb ρ1)
      | rt d1 ρ1 => rw [e2] at h; cases h
      | ro d1 ρ1 => rw [e2] at h; cases h
      | ex x ρ1 => rw [e2] at h; cases h
      | bad => rw [e2] at h; cases h
    | exc x => rw [e] at h; cases h
    | bad => rw [e] at h; cases h
end Du

namespace Du
open PySem PySem.Spec PyProof.Rows L2
/-! ### tuple keys, own lists gone through: reckoned -/
section
variable {ρ ρ1 ρ2 : Env} {L : List Nat}
@[simp] theorem dLenT_e {kvs : List (D × D)} : dLenT [.dct true kvs] = .ok (.int kvs.length) := id rfl
end
end Du

namespace Du
open PySem PySem.Spec PyProof.Rows L2 Dear
/-! ### slots of which nothing is told, cells that nobody tells of -/
section
variable {K : PySem.W.Frag} {B : Bs} {F H : Hp} {σ : St} {ρ : Env}
/-- a slot of which nothing is told -/
theorem Rl.junk (r : Rl K B σ H ρ F) (i : Nat) (v : V) : Rl K B (σ.set i (some v)) H (ρ.set i none) F := ⟨r.fh, r.bh, r.zf, by rw [List.length_set, List.length_set, r.len], fun j e he => by
  rcases set_cases he with ⟨rfl, q, hi⟩ | ⟨hj, q⟩
  · cases q
  · obtain ⟨w, h1, h2⟩ := r.fz j e q
    exact ⟨w, by rw [List.getElem?_set_ne hj]; exact h1, h2⟩, fun j t e he => by
  rcases set_cases he with ⟨rfl, q, hi⟩ | ⟨hj, q⟩
  · cases q
  · obtain ⟨p, q1, q2, q3, q4⟩ := r.ow j _ e q
    exact ⟨p, by rw [List.getElem?_set_ne hj]; exact q1, q2, q3, q4⟩, fun j k t u d1 d2 p h1 h2 h3 h4 => by
  rcases set_cases h1 with ⟨rfl, q, hi⟩ | ⟨hj, q⟩
  · cases q
  · rcases set_cases h2 with ⟨rfl, q', hi⟩ | ⟨hj', q'⟩
    · cases q'
    · rw [List.getElem?_set_ne hj] at h3
      rw [List.getElem?_set_ne hj'] at h4
      exact r.dj j k t u d1 d2 p q q' h3 h4, fun j d p h1 h2 => by
  rcases set_cases h1 with ⟨rfl, q, hi⟩ | ⟨hj, q⟩
  · cases q
  · rw [List.getElem?_set_ne hj] at h2
    exact r.pn j d p q h2⟩
end
end Du

namespace Du
open PySem PySem.Spec PyProof.Rows L2 Dear
/-! ### what is never reached; makings that raise -/
def eBad : VEnv → Res D := fun _ => .bad
def aBad : VEnv → Res (List D) := fun _ => .bad
def sBad : Env → Out := fun _ => .bad
@[simp] theorem eBad_e {ρ : VEnv} : eBad ρ = .bad := id rfl
@[simp] theorem sBad_e {ρ : Env} : sBad ρ = .bad := id rfl
section
variable {K : PySem.W.Frag} {xm : XMo} {X : Cx}
theorem fss_any {s : List Stmt} : FSs K xm X s sBad := ⟨fun _ _ _ _ _ _ ⟨_, _, _, _, k⟩ => k.elim⟩
theorem pa_never {e : List Expr} : PA X e (fun _ _ _ => False) := ⟨fun _ _ _ _ _ _ _ k => k.elim⟩
end
/-- only what raises -/
def excR : Res D → Res D
  | .exc x => .exc x
  | _ => .bad
@[simp] theorem excR_e {x : Ex} : excR (.exc x) = .exc x := id rfl
/-- a making that raises; ds are the arguments behind the object -/
def spXC (K : PySem.W.Frag) (mg : Str → Option Value) (f : List D → Res D) : Sp := fun vs H _ E => ∃ (u : V) (vs' : List V) (ds : List D) (G : Hp) (x : Ex), vs = u :: vs' ∧ Same G H ∧ DtAll K G vs' ds ∧ f ds = .exc x ∧ ∀ C dd G' H', Gr G H G' H' → ExIs K mg x G' C dd → E C dd H'
def runC (np n : Nat) (g : Env → Out) (ds : List D) : Res D := if ds.length + 1 = np then outR (g ((ent n np (.non :: ds)).set 0 none)) else .bad
section
variable {P : Program} {w : World} {K : PySem.W.Frag} {mg : Str → Option Value} {base : Heap}
theorem Rl.self {N : List Str} {u : V} {vs : List V} {ds : List D} {G H : Hp} {np : Nat} (s : Same G H) (h : DtAll K G vs ds) (hn : ds.length + 1 = np) (hN : np ≤ N.length) : Rl K ⟨H, G, 0⟩ (L2.start N (u :: vs)) H ((ent N.length np (.non :: ds)).set 0 none) G := by
  have r := Rl.start (N := N) (np := np) s (.cons .non h : DtAll K G (.non :: vs) (.non :: ds)) (by rw [List.length_cons]; exact hn) hN
  exact r.junk 0 u
theorem okXC {x : Str} {C : Addr} {q : Str} {st : Stmt} {N ps : List Str} {k : Nat} {g : Env → Out} (D : Dear.DfC K mg x C q st ps) (S : FnScope N ps (defScope st))
    (body : ∀ (f : Addr) (cdv : Value) (A : Around) (outer : List PySem.Env) (s : Shared) (H : Hp) (E : XK), Room k (A.deeper (envOfC q (defScope st) s.heap.objs.size f cdv)) → FSs K (some ⟨mg, fun c d _ H => E c d H⟩) (cxOf (L2.CX P w) P w K mg base N q (defScope st) f cdv A outer s H E) (defBody st) g)
    (hN : ps.length ≤ N.length := by decide) : Dear.OkC P w K mg base (L2.CX P w) (k + 1) x C ps (spXC K mg (runC ps.length N.length g)) :=
  D.okX S (fun vs H Q E h => by
    obtain ⟨u, vs', ds, G, y, rfl, s, hd, e, _⟩ := h
    unfold runC at e
    by_cases hn : ds.length + 1 = ps.length
    · rw [List.length_cons, hd.length, hn]
    · rw [if_neg hn] at e
      cases e) fun f cdv A outer s H vs Q E hr h => ⟨_, body f cdv A outer s H E hr, by
    obtain ⟨u, vs', ds, G, y, rfl, sG, hd, e, q⟩ := h
    unfold runC at e
    by_cases hn : ds.length + 1 = ps.length
    · rw [if_pos hn] at e
      refine ⟨⟨H, G, 0⟩, _, G, Rl.self sG hd hn hN, ?_⟩
      unfold outR at e
      cases e2 : g ((ent N.length ps.length (.non :: ds)).set 0 none) with
      | ex z ρ =>
        rw [e2] at e
        cases e
        intro C dd σ' H' F' r hx
        obtain ⟨G', g1, d1⟩ := r.done sG
        exact q C dd _ _ g1 (hx.same d1)
      | nx ρ => rw [e2] at e; cases e
      | rt d ρ => rw [e2] at e; cases e
      | ro d ρ => rw [e2] at e; cases e
      | bk ρ => rw [e2] at e; cases e
      | ct ρ => rw [e2] at e; cases e
      | bad => rw [e2] at e; cases e
    · rw [if_neg hn] at e
      cases e⟩
theorem okXCD {dvs : List V} {x : Str} {C : Addr} {q : Str} {st : Stmt} {N ps : List Str} {k : Nat} {g : Env → Out} (D : Dear.DfCD K mg x C q st ps dvs) (S : FnScope N ps (defScope st))
    (body : ∀ (f : Addr) (cdv : Value) (A : Around) (outer : List PySem.Env) (s : Shared) (H : Hp) (E : XK), Room k (A.deeper (envOfC q (defScope st) s.heap.objs.size f cdv)) → FSs K (some ⟨mg, fun c d _ H => E c d H⟩) (cxOf (L2.CX P w) P w K mg base N q (defScope st) f cdv A outer s H E) (defBody st) g)
    (hN : ps.length ≤ N.length := by decide) : Dear.OkC P w K mg base (L2.CX P w) (k + 1) x C ps (spXC K mg (runC ps.length N.length g)) :=
  D.okX S (fun vs H Q E h => by
    obtain ⟨u, vs', ds, G, y, rfl, s, hd, e, _⟩ := h
    unfold runC at e
    by_cases hn : ds.length + 1 = ps.length
    · rw [List.length_cons, hd.length, hn]
    · rw [if_neg hn] at e
      cases e) fun f cdv A outer s H vs Q E hr h => ⟨_, body f cdv A outer s H E hr, by
    obtain ⟨u, vs', ds, G, y, rfl, sG, hd, e, q⟩ := h
    unfold runC at e
    by_cases hn : ds.length + 1 = ps.length
    · rw [if_pos hn] at e
      refine ⟨⟨H, G, 0⟩, _, G, Rl.self sG hd hn hN, ?_⟩
      unfold outR at e
      cases e2 : g ((ent N.length ps.length (.non :: ds)).set 0 none) with
      | ex z ρ =>
        rw [e2] at e
        cases e
        intro C dd σ' H' F' r hx
        obtain ⟨G', g1, d1⟩ := r.done sG
        exact q C dd _ _ g1 (hx.same d1)
      | nx ρ => rw [e2] at e; cases e
      | rt d ρ => rw [e2] at e; cases e
      | ro d ρ => rw [e2] at e; cases e
      | bk ρ => rw [e2] at e; cases e
      | ct ρ => rw [e2] at e; cases e
      | bad => rw [e2] at e; cases e
    · rw [if_neg hn] at e
      cases e⟩
end
def eMkX (f : List D → Res D) (fa : VEnv → Res (List D)) : VEnv → Res D := fun ρ => (fa ρ).bind fun ds => excR (f ds)
def exC (f : List D → Res D) (ds : List D) : Res D := excR (f ds)
@[simp] theorem exC_e {f : List D → Res D} {ds : List D} : exC f ds = excR (f ds) := id rfl
@[simp] theorem eMkX_e {f : List D → Res D} {fa : VEnv → Res (List D)} {ρ : VEnv} : eMkX f fa ρ = bd (exC f) (fa ρ) := id rfl
def eAttX (fo : VEnv → Res D) : VEnv → Res D := fun ρ => excR (fo ρ)
@[simp] theorem eAttX_e {fo : VEnv → Res D} {ρ : VEnv} : eAttX fo ρ = excR (fo ρ) := id rfl
section
variable {X : Cx} {K : PySem.W.Frag}
theorem fe_mkX {mg : Str → Option Value} {W : WX} {C : Addr} {x : Str} {k k' : Nat} {ps : List Str} {f : List D → Res D} {e : Expr} {es : List Expr} {p pos : Pos} {fa : VEnv → Res (List D)} (O : Dear.OkC X.prog X.w X.K X.mg X.base (L2.CX X.prog X.w) k x C ps (spXC K mg f)) (hr : Room k' X.A) (tk : Takes X W) (ha : FA K (some ⟨mg, W⟩) X (e :: es) fa)
    (hk : k + 1 ≤ k' := by decide) (hg : Gl X x := by rfl) (hdb : (x == ("__debug__" : Str)) = false := by decide) (he : starEach (e :: es) X.env = (false, eval e X.env) :: starEach es X.env := by rfl) (hpl : (backTo pos (starEach es X.env)).any (·.1) = false := by rfl) : FE K (some ⟨mg, W⟩) X (.Call (.Name x p) (e :: es) [] pos) (eMkX f fa) :=
  PE.to (Dear.pe_mkx O hr tk ha hk hg hdb he hpl) fun σ H Q ⟨F, ρ, sF, vw, k⟩ => ⟨F, ρ, sF, vw, Po.seq k fun ds vs F1 H1 g1 d1 k1 => by
    intro a dx ha hdx ne
    have s1 : Same F1 (upd (upd H1 dx (.own a)) a (.ins C dx [])) := (g1.fh.trans (sm_upd hdx)).trans (sm_upd (by rw [upd_ne ne.symm]; exact ha))
    have sH : Same H1 (upd (upd H1 dx (.own a)) a (.ins C dx [])) := (sm_upd hdx).trans (sm_upd (by rw [upd_ne ne.symm]; exact ha))
    cases e : f ds with
    | ok d => rw [e] at k1; exact k1.elim
    | bad => rw [e] at k1; exact k1.elim
    | exc y =>
      rw [e] at k1
      refine ⟨.ref a, vs, ds, F1, y, rfl, s1, d1, e, fun Cv dd G' H' g' hx => ?_⟩
      exact k1 Cv dd G' H' ⟨sH.trans g'.hh, g'.ff, g'.fh, fun b o h => by
        rcases g'.nw b o h with h | h
        · exact .inl h
        · refine .inr ?_
          cases z : H1 b with
          | none => rfl
          | some u => rw [sH _ _ z] at h; cases h⟩ hx⟩
theorem excR_po {xm : XMo} {σ : St} {F H : Hp} {r : Res D} {Q Q' : VK} (k : Po (RD K) K xm σ F H (excR r) Q) : Po (RD K) K xm σ F H r Q' := by
  cases r with
  | ok d => exact k.elim
  | exc x => exact k
  | bad => exact k
/-- o.m(..), where o raises -/
theorem fe_attX {xm : XMo} {k k' : Nat} {C : Addr} {m : Str} {ps : List Str} {o e : Expr} {es : List Expr} {pos apos : Pos} {fo : VEnv → Res D} {pl : Sem Bool} (O : Dear.OkM X.prog X.w X.K X.mg X.base CX0 k C m ps (fun _ _ _ _ => False)) (c : Cls X.K C) (hr : Room k' X.A) (ho : FE K xm X o fo) (hk : k ≤ k' := by decide)
    (hst : starEach (e :: es) X.env = (false, eval e X.env) :: starEach es X.env := by rfl) (hpl : (backTo pos (starEach es X.env)).any (·.1) = false := by rfl)
    (ht : eval (.Call (.Attribute o m apos) (e :: es) [] pos) X.env = (do
      let u ← eval o X.env
      standAt apos.atName
      let (g, fst) ← holding [u] (getMethod u m pl)
      callWith pos g fst (backTo pos (starEach (e :: es) X.env)) (backToKw pos (keywordEach [] X.env))) := by rfl) : FE K xm X (.Call (.Attribute o m apos) (e :: es) [] pos) (eAttX fo) :=
  PE.to (Dear.pe_m O c hr ho pa_never hk hst hpl ht) fun σ H Q ⟨F, ρ, sF, vw, k⟩ => ⟨F, ρ, sF, vw, excR_po k⟩
theorem fe_attX0 {xm : XMo} {k k' : Nat} {C : Addr} {m : Str} {ps : List Str} {o : Expr} {pos apos : Pos} {fo : VEnv → Res D} {pl : Sem Bool} (O : Dear.OkM X.prog X.w X.K X.mg X.base CX0 k C m ps (fun _ _ _ _ => False)) (c : Cls X.K C) (hr : Room k' X.A) (ho : FE K xm X o fo) (hk : k ≤ k' := by decide)
    (ht : eval (.Call (.Attribute o m apos) [] [] pos) X.env = (do
      let u ← eval o X.env
      standAt apos.atName
      let (g, fst) ← holding [u] (getMethod u m pl)
      callWith pos g fst (backTo pos (starEach [] X.env)) (backToKw pos (keywordEach [] X.env))) := by rfl) : FE K xm X (.Call (.Attribute o m apos) [] [] pos) (eAttX fo) :=
  PE.to (Dear.pe_mz O c hr ho hk ht) fun σ H Q ⟨F, ρ, sF, vw, k⟩ => ⟨F, ρ, sF, vw, excR_po k⟩
theorem okM_never {P : Program} {w : World} {K : PySem.W.Frag} {mg : Str → Option Value} {base : Heap} {C : Addr} {m q : Str} {st : Stmt} {N ps : List Str} (D : Dear.DfM K C m q st ps) (S : FnScope N ps (defScope st)) : Dear.OkM P w K mg base CX0 1 C m ps (fun _ _ _ _ => False) :=
  D.ok S (fun _ _ _ _ h => h.elim) fun _ _ _ _ _ _ _ _ _ _ h => h.elim
/-- o.f = e, where e raises -/
def sFldX (L : List Nat) (f : VEnv → Res D) : Env → Out := fun ρ => eAt L f ρ fun _ => .bad
def fldC (_ : D) : Out := .bad
@[simp] theorem sFldX_e {L : List Nat} {f : VEnv → Res D} {ρ : Env} : sFldX L f ρ = atR fldC (shut L ρ) (f (view L ρ)) := eAt_e
theorem fs_fldX {xm : XMo} {L : List Nat} {o v : Expr} {fl : Str} {pos pos' : Pos} {f : VEnv → Res D} (hv : FE K xm X v f) (hs : swapsWith v (some (.Attribute o fl pos')) pos.line X.env = pure false := by rfl) : FS K xm X (.Assign [.Attribute o fl pos'] v pos) (sFldX L f) :=
  PS.to (ps_fld (ta := fun _ _ _ => False) ⟨fun _ _ _ _ _ _ k => k.elim⟩ hv hs) fun Dn σ H ⟨B, ρ, F, r, k⟩ => tF.at r k fun d v H' F' _ r' dv _ _ k' => k'.elim
/-- a call with all arguments of a def with defaults that may raise -/
theorem fe_callXn {mg : Str → Option Value} {W : WX} {x : Str} {k k' : Nat} {ps : List Str} {dvs : List V} {f : List D → Res D} {e : Expr} {es : List Expr} {p pos : Pos} {fa : VEnv → Res (List D)} (O : Dear.OkD X.prog X.w X.K X.mg X.base (L2.CX X.prog X.w) k x ps dvs (spX K mg f)) (hr : Room k' X.A) (tk : Takes X W) (ha : FA K (some ⟨mg, W⟩) X (e :: es) fa)
    (hk : k ≤ k' := by decide) (hg : Gl X x := by rfl) (hdb : (x == ("__debug__" : Str)) = false := by decide) (he : starEach (e :: es) X.env = (false, eval e X.env) :: starEach es X.env := by rfl) (hpl : (backTo pos (starEach es X.env)).any (·.1) = false := by rfl) : FE K (some ⟨mg, W⟩) X (.Call (.Name x p) (e :: es) [] pos) (eCall f fa) := by
  obtain ⟨fa', fd, hm, hkp, _, hb, F⟩ := O
  exact fe_callX ⟨fa', fd, hm, hkp, hb, F⟩ hr tk ha hk hg hdb he hpl
end
section
variable {P : Program} {w : World} {K : PySem.W.Frag} {mg : Str → Option Value} {base : Heap}
theorem okXD {x : Str} {st : Stmt} {N ps : List Str} {dvs : List V} {k : Nat} {g : Env → Out} (D : Dear.DfD K mg x st ps dvs) (S : FnScope N ps (defScope st))
    (body : ∀ (f : Addr) (cdv : Value) (A : Around) (outer : List PySem.Env) (s : Shared) (H : Hp) (E : XK), Room k (A.deeper (envOfC x (defScope st) s.heap.objs.size f cdv)) → FSs K (some ⟨mg, fun c d _ H => E c d H⟩) (cxOf (L2.CX P w) P w K mg base N x (defScope st) f cdv A outer s H E) (defBody st) g)
    (hN : ps.length ≤ N.length := by decide) : Dear.OkD P w K mg base (L2.CX P w) (k + 1) x ps dvs (spX K mg (runD ps.length N.length g)) := by
  obtain ⟨f, fd, hm, F, hb, hb0⟩ := D
  refine ⟨f, fd, hm, F.kp, hb, hb0, F.ok S (fun vs H Q E h => spX_len h) fun cdv A outer s H vs Q E hr h => ⟨_, body f cdv A outer s H E hr, ?_⟩⟩
  obtain ⟨ds, G, sG, hd, q⟩ := h
  unfold runD at q
  by_cases hn : ds.length = ps.length
  · rw [if_pos hn] at q
    refine ⟨⟨H, G, 0⟩, _, G, Rl.start sG hd hn hN, ?_⟩
    unfold outR at q
    cases e2 : g (ent N.length ps.length ds) with
    | nx ρ =>
      rw [e2] at q
      intro σ' H' F' r
      obtain ⟨G', g1, d1⟩ := r.done sG
      exact q _ _ _ g1 .non
    | rt d' ρ =>
      rw [e2] at q
      intro v σ' H' F' r dv
      obtain ⟨G', g1, d1⟩ := r.done sG
      exact q _ _ _ g1 (dv.same d1)
    | ex x ρ =>
      rw [e2] at q
      intro C dd σ' H' F' r hx
      obtain ⟨G', g1, d1⟩ := r.done sG
      exact q C dd _ _ g1 (hx.same d1)
    | ro d' ρ =>
      rw [e2] at q
      intro p σ' H' F' r fp bp ow
      obtain ⟨G', g1, d1⟩ := r.freeze sG fp bp ow
      exact q _ _ _ g1 d1
    | bk ρ => rw [e2] at q; exact q.elim
    | ct ρ => rw [e2] at q; exact q.elim
    | bad => rw [e2] at q; exact q.elim
  · rw [if_neg hn] at q
    exact q.elim
end
end Du

namespace Dear
open PySem PySem.Spec PyProof.Rows L2
/-! ### several clauses «except X as n», one slot for all names -/
def wNm (K : PySem.W.Frag) (i : Nat) (Wout : WX) (D : Ends) : List (Value × (Addr → Value → Option Addr → TS)) → WX
  | [] => Wout
  | p :: r => wAs K p.1 i p.2 (wNm K i Wout D r) D
inductive HdsN (X : Cx) (n : Str) : List ExceptHandler → List (Value × (Addr → Value → Option Addr → TS)) → Prop
  | nil : HdsN X n [] []
  | cons {x : Str} {c : Value} {ts : Addr → Value → Option Addr → TS} {st : Stmt} {sts : List Stmt} {np np2 : Pos} {hs : List ExceptHandler} {l : List (Value × (Addr → Value → Option Addr → TS))} (names : Names X x c)
      (suite : ∀ (a : Addr) (oe : Obj) (cls : Value) (d : Option Addr) (pn : List (Addr × Obj)), Zc cls d oe → (∃ vs, oe.data = .fields vs) → PSs (X.suite a ((a, oe) :: pn)) (st :: sts) (ts a cls d)) (more : HdsN X n hs l) :
      HdsN X n (.ExceptHandler (some (.Name x np)) (some n) (st :: sts) np2 :: hs) ((c, ts) :: l)
def sTryN (K : PySem.W.Frag) (i : Nat) (l : List (Value × (Addr → Value → Option Addr → TS))) (Wout : WX) (tb : WX → TS) : TS := fun D σ H => tb (wNm K i Wout D l) D σ H
section
variable {X : Cx} {n : Str} {i : Nat} {body : List Stmt} {h0 : ExceptHandler} {hds : List ExceptHandler} {l : List (Value × (Addr → Value → Option Addr → TS))} {pos : Pos} {tb : WX → TS} {Wout : WX}
theorem ps_tryN (stack : X.stack = X.env :: X.outer) (hf : X.env.frame = some X.env.locals) (nodup : X.N.Nodup) (slot : X.N[i]? = some n) (loc : X.env.kindOf n = some .local) (tk : Takes X Wout)
    (suiteOf : ∀ (W : WX) (pn : List (Addr × Obj)) (xe : Value → Shared → Prop), Takes (X.tr pn xe) W → PassesOwn (model X.prog X.w) X.A X.env xe → PSs (X.tr pn xe) body (tb W))
    (clauses : HdsN X n (h0 :: hds) l) : PS X (.Try body (h0 :: hds) [] [] pos) (sTryN X.K i l Wout tb) := by
  refine ⟨fun pins s σ H D I h => ?_⟩
  have ok := I.ok
  have frames : X.A.frames = some (X.env :: X.outer) := by rw [ok.frames, stack]
  refine wpAny_Try_except (wpAny_mono ((suiteOf (wNm X.K i Wout D l) (X.pn ++ pins) _ (fun u s1 air => ?_) PassesOwn.looking).run [] s σ H D (I.toTry _) h) (fun f s1 done => ?_) fun _ _ z => z)
  · obtain ⟨a, B, sI, pins', σ1, H1, cls, d, rfl, J1, nb, up, sky, na, os, ag, wish⟩ := air
    have J : Inv X pins σ1 H1 sI := J1.ofTry ok
    rw [show X.stack = X.env :: X.outer from stack] at sky
    refine Sky.land Zc.steady frames hf sky fun h3 fl3 up3 => ?_
    have J3 : Inv X pins σ1 H1 { s1 with heap := h3 } := J.landed nb fl3.1 (up.trans up3) os ag
    obtain ⟨oe3, vs3, he3, hz3, hd3⟩ := fl3.there
    have nfr : a ∉ frs (X.env :: X.outer) := fun hm => by
      obtain ⟨_, o', e', hnf⟩ := fl3.2.2.1.mem hm
      rw [he3] at e'
      cases e'
      exact hnf _ hd3
    have nL : a ≠ X.env.locals := fun z => nfr (List.mem_filterMap.mpr ⟨X.env, List.mem_cons_self, by rw [hf, z]⟩)
    have nF : a ∉ X.fs := fun hm => by
      obtain ⟨e, he, q⟩ := List.mem_filterMap.mp hm
      exact nfr (List.mem_filterMap.mpr ⟨e, List.mem_cons_of_mem _ he, q⟩)
    have S3 := J3.suite he3 hd3 na nL nF
    have LT : PySem.W.Looks (model X.prog X.w) h3 (typeOf (.ref a)) cls := fun _ _ _ _ k q => wpAny_typeOf_ref (k _ _ he3) (by rw [hz3.1]; exact q)
    have each : ∀ {hs : List ExceptHandler} {m : List (Value × (Addr → Value → Option Addr → TS))}, HdsN X n hs m → wNm X.K i Wout D m cls d σ1 H1 → wpAny (model X.prog X.w) X.A (handleBy (.ref a) X.env hs) (SP X pins D) X.xe { s1 with heap := h3 } := by
      intro hs m hm
      induction hm with
      | nil =>
        intro out
        refine wpAny_handleBy_nil ?_
        obtain ⟨_, _, _, oe, vs, T, _, _, he, _, hd, h1, _⟩ := id fl3
        unfold PySem.passOn
        refine wpAny_bind (wpAny_field he hd h1 ?_)
        rw [if_neg (show ¬ ((Value.ref T == Value.none) = true) from by simp)]
        have fin : wpAny (model X.prog X.w) X.A (setFlight (.ref a) X.env.frame) (fun _ s4 => wpAny (model X.prog X.w) X.A (throw (.ref a) : Sem Flow) (SP X pins D) X.xe s4) X.xe { s1 with heap := h3 } := by
          rw [hf]
          exact HandSPX.setFlight_upZ fl3 fun h4 hh4 up4 => wpAny_throw (tk _ _ ⟨a, B, sI, pins, σ1, H1, cls, d, rfl, J, nb, (up.trans up3).trans up4, .inr (.inr (by rw [stack]; exact hh4)), na, os, ag, out⟩)
        first
          | exact wpAny_bind (wpAny_pure (wpAny_bind fin))
          | exact wpAny_bind fin
      | @cons x c ts st sts np np2 hs m names suite more ih =>
        rintro ⟨b, hm, yes, no⟩
        refine wpAny_handleBy_cons (codeAny_handlers_test ?_) (by intro q; cases q)
        have LM := PySem.W.exm_one (M := model X.prog X.w) J3.kIn LT hm
        have named : ∀ {Q : Value → Shared → Prop} {E : Value → Shared → Prop}, Q c { s1 with heap := h3 } → wpAny (model X.prog X.w) (X.A.mark (some (.ref a))) (eval (.Name x np) X.env) Q E { s1 with heap := h3 } := fun {Q E} q => by
          obtain ⟨hg, hdbg, hm | ⟨hm, hv, hnn⟩⟩ := names
          · exact ld_glob (X := X.suite a ((a, oe3) :: (X.pn ++ pins))) S3 hg hm q hdbg
          · exact ld_blt (X := X.suite a ((a, oe3) :: (X.pn ++ pins))) S3 hg hm hv q hnn hdbg
        refine named (LM.here ?_)
        cases b with
        | false => exact ih (no rfl)
        | true =>
          refine codeAny_handlers_suite_as (HandSPX.lands_againZ fl3 fun h4 fl4 up4 => ?_)
          have J4 : Inv X pins σ1 H1 { s1 with heap := h4 } := J.landed nb fl4.1 ((up.trans up3).trans up4) os ag
          obtain ⟨oe4, vs4, he4, hz4, hd4⟩ := fl4.there
          refine store_ok (X := X.suite a ((a, oe4) :: (X.pn ++ pins))) (v := .ref a) (J4.suite he4 hd4 na nL nF) nodup slot (.inl loc) rfl (fun s5 S5 => ?_) (.inr loc)
          refine wpAny_mono ((suite a oe4 cls d (X.pn ++ pins) hz4 ⟨_, hd4⟩).run [] s5 _ H1 _ S5 (yes rfl a na)) (fun f s6 done => ?_) fun _ _ z => z.elim
          cases f with
          | next =>
            obtain ⟨_, _, S6, q6⟩ := done
            exact gone_ok (S6.unsuite ok) nodup slot loc fun s7 J7 => ⟨_, _, J7, q6⟩
          | brk =>
            obtain ⟨_, _, S6, q6⟩ := done
            exact gone_ok (S6.unsuite ok) nodup slot loc fun s7 J7 => ⟨_, _, J7, q6⟩
          | cont =>
            obtain ⟨_, _, S6, q6⟩ := done
            exact gone_ok (S6.unsuite ok) nodup slot loc fun s7 J7 => ⟨_, _, J7, q6⟩
          | ret u =>
            obtain ⟨_, _, _, S6, r6, q6⟩ := done
            exact gone_ok (S6.unsuite ok) nodup slot loc fun s7 J7 => ⟨_, _, _, J7, r6, q6⟩
    exact each clauses wish
  · cases f with
    | next =>
      obtain ⟨_, _, J', q⟩ := done
      exact wpAny_execs_nil ⟨_, _, J'.ofTry ok, q⟩
    | brk =>
      obtain ⟨_, _, J', q⟩ := done
      exact ⟨_, _, J'.ofTry ok, q⟩
    | cont =>
      obtain ⟨_, _, J', q⟩ := done
      exact ⟨_, _, J'.ofTry ok, q⟩
    | ret u =>
      obtain ⟨_, _, _, J', r, q⟩ := done
      exact ⟨_, _, _, J'.ofTry ok, r, q⟩
end
end Dear

namespace Dear
open PySem PySem.Spec PyProof.Rows L2
abbrev n__wall : List Str := ["k"]
abbrev n_NoTongue___init__ : List Str := ["self", "part"]
theorem c_NoTongue___init__ : FnScope n_NoTongue___init__ ["self", "part"] (defScope s_NoTongue___init__) := ⟨rfl, rfl, rfl, by decide +kernel, rfl, by decide +kernel, by decide +kernel⟩
abbrev n_NoWants___init__ : List Str := ["self", "number"]
theorem c_NoWants___init__ : FnScope n_NoWants___init__ ["self", "number"] (defScope s_NoWants___init__) := ⟨rfl, rfl, rfl, by decide +kernel, rfl, by decide +kernel, by decide +kernel⟩
abbrev n_is_whole : List Str := ["thing"]
theorem c_is_whole : FnScope n_is_whole ["thing"] (defScope s_is_whole) := ⟨rfl, rfl, rfl, by decide +kernel, rfl, by decide +kernel, by decide +kernel⟩
abbrev n_is_name : List Str := ["thing", "sign"]
theorem c_is_name : FnScope n_is_name ["thing"] (defScope s_is_name) := ⟨rfl, rfl, rfl, by decide +kernel, rfl, by decide +kernel, by decide +kernel⟩
abbrev n_divisor : List Str := ["one", "other"]
theorem c_divisor : FnScope n_divisor ["one", "other"] (defScope s_divisor) := ⟨rfl, rfl, rfl, by decide +kernel, rfl, by decide +kernel, by decide +kernel⟩
abbrev n_is_fraction : List Str := ["thing", "top", "bottom"]
theorem c_is_fraction : FnScope n_is_fraction ["thing"] (defScope s_is_fraction) := ⟨rfl, rfl, rfl, by decide +kernel, rfl, by decide +kernel, by decide +kernel⟩
abbrev n_lowest : List Str := ["top", "bottom", "share"]
theorem c_lowest : FnScope n_lowest ["top", "bottom"] (defScope s_lowest) := ⟨rfl, rfl, rfl, by decide +kernel, rfl, by decide +kernel, by decide +kernel⟩
abbrev n_fraction : List Str := ["top", "bottom"]
abbrev n_plus : List Str := ["one", "other"]
theorem c_plus : FnScope n_plus ["one", "other"] (defScope s_plus) := ⟨rfl, rfl, rfl, by decide +kernel, rfl, by decide +kernel, by decide +kernel⟩
abbrev n_minus : List Str := ["one", "other"]
abbrev n_times : List Str := ["one", "other"]
abbrev n_under : List Str := ["one", "other"]
abbrev n_sum_of : List Str := ["some", "found", "one"]
abbrev n_is_price : List Str := ["thing"]
theorem c_is_price : FnScope n_is_price ["thing"] (defScope s_is_price) := ⟨rfl, rfl, rfl, by decide +kernel, rfl, by decide +kernel, by decide +kernel⟩
abbrev n_is_letter_tongues : List Str := ["thing"]
theorem c_is_letter_tongues : FnScope n_is_letter_tongues ["thing"] (defScope s_is_letter_tongues) := ⟨rfl, rfl, rfl, by decide +kernel, rfl, by decide +kernel, by decide +kernel⟩
abbrev n_is_sign : List Str := ["thing", "sign", "price", "last"]
theorem c_is_sign : FnScope n_is_sign ["thing"] (defScope s_is_sign) := ⟨rfl, rfl, rfl, by decide +kernel, rfl, by decide +kernel, by decide +kernel⟩
abbrev n_are_signs : List Str := ["thing", "one"]
theorem c_are_signs : FnScope n_are_signs ["thing"] (defScope s_are_signs) := ⟨rfl, rfl, rfl, by decide +kernel, rfl, by decide +kernel, by decide +kernel⟩
abbrev n_are_unlike_texts : List Str := ["thing", "size", "letters", "at", "one", "sign"]
theorem c_are_unlike_texts : FnScope n_are_unlike_texts ["thing", "size", "letters"] (defScope s_are_unlike_texts) := ⟨rfl, rfl, rfl, by decide +kernel, rfl, by decide +kernel, by decide +kernel⟩
abbrev n_look_at_tongue : List Str := ["thing", "signs", "firsts", "pairs", "longest", "letters", "one"]
theorem c_look_at_tongue : FnScope n_look_at_tongue ["thing"] (defScope s_look_at_tongue) := ⟨rfl, rfl, rfl, by decide +kernel, rfl, by decide +kernel, by decide +kernel⟩
abbrev n_comes : List Str := ["tongue", "ahead", "sign"]
abbrev n_may_come : List Str := ["tongue", "ahead", "sign"]
theorem c_may_come : FnScope n_may_come ["tongue", "ahead", "sign"] (defScope s_may_come) := ⟨rfl, rfl, rfl, by decide +kernel, rfl, by decide +kernel, by decide +kernel⟩
abbrev n_prices_in : List Str := ["tongue", "sign", "price", "last"]
abbrev n_lasts_in : List Str := ["tongue", "sign", "price", "last"]
theorem c_lasts_in : FnScope n_lasts_in ["tongue"] (defScope s_lasts_in) := ⟨rfl, rfl, rfl, by decide +kernel, rfl, by decide +kernel, by decide +kernel⟩
abbrev n_stands : List Str := ["tongue", "thing", "prices", "ahead", "sign"]
abbrev n_may_stand : List Str := ["tongue", "thing"]
theorem c_may_stand : FnScope n_may_stand ["tongue", "thing"] (defScope s_may_stand) := ⟨rfl, rfl, rfl, by decide +kernel, rfl, by decide +kernel, by decide +kernel⟩
abbrev n_is_word : List Str := ["tongue", "thing"]
theorem c_is_word : FnScope n_is_word ["tongue", "thing"] (defScope s_is_word) := ⟨rfl, rfl, rfl, by decide +kernel, rfl, by decide +kernel, by decide +kernel⟩
abbrev n_way_of : List Str := ["tongue", "text", "prices", "sign"]
theorem c_way_of : FnScope n_way_of ["tongue", "text"] (defScope s_way_of) := ⟨rfl, rfl, rfl, by decide +kernel, rfl, by decide +kernel, by decide +kernel⟩
abbrev n_price_of : List Str := ["tongue", "word"]
theorem c_price_of : FnScope n_price_of ["tongue", "word"] (defScope s_price_of) := ⟨rfl, rfl, rfl, by decide +kernel, rfl, by decide +kernel, by decide +kernel⟩
abbrev n_grown_counts : List Str := ["tongue", "counts", "found", "sign", "price", "last", "ahead"]
abbrev n_counts_by_length : List Str := ["tongue", "counts", "found", "length"]
theorem c_counts_by_length : FnScope n_counts_by_length ["tongue"] (defScope s_counts_by_length) := ⟨rfl, rfl, rfl, by decide +kernel, rfl, by decide +kernel, by decide +kernel⟩
abbrev n_word_counts : List Str := ["tongue", "rows", "ends", "sign", "price", "last", "counts"]
theorem c_word_counts : FnScope n_word_counts ["tongue"] (defScope s_word_counts) := ⟨rfl, rfl, rfl, by decide +kernel, rfl, by decide +kernel, by decide +kernel⟩
abbrev n_text_counts : List Str := ["tongue", "counts", "sign"]
theorem c_text_counts : FnScope n_text_counts ["tongue"] (defScope s_text_counts) := ⟨rfl, rfl, rfl, by decide +kernel, rfl, by decide +kernel, by decide +kernel⟩
abbrev n_signs_to_ends : List Str := ["tongue", "left", "found", "turn", "more", "sign", "price", "last", "one"]
abbrev n_words_of : List Str := ["tongue", "lasts", "level", "found", "length", "longer", "some", "text", "sign"]
theorem c_words_of : FnScope n_words_of ["tongue"] (defScope s_words_of) := ⟨rfl, rfl, rfl, by decide +kernel, rfl, by decide +kernel, by decide +kernel⟩
abbrev n_are_things : List Str := ["thing", "many", "ordered", "ahead", "behind", "number"]
abbrev n_is_begin : List Str := ["tongue", "sign", "deep", "row"]
abbrev n_is_seat : List Str := ["tongue", "many", "ordered", "thing", "sign", "deep", "begin", "things"]
abbrev n_first_seat : List Str := ["many"]
abbrev n_partings : List Str := ["things", "ordered", "found", "number", "more", "some", "rest", "at"]
abbrev n_taken_ways : List Str := ["tongue", "wants", "seat", "some", "sign", "deep", "begin", "things", "letter", "price", "last", "found", "total", "number"]
abbrev n_rest_seat : List Str := ["tongue", "seat", "rest", "sign", "deep", "begin", "things"]
abbrev n_is_want : List Str := ["thing"]
theorem c_is_want : FnScope n_is_want ["thing"] (defScope s_is_want) := ⟨rfl, rfl, rfl, by decide +kernel, rfl, by decide +kernel, by decide +kernel⟩
abbrev n_look_at_wants : List Str := ["thing", "names", "number", "want"]
theorem c_look_at_wants : FnScope n_look_at_wants ["thing"] (defScope s_look_at_wants) := ⟨rfl, rfl, rfl, by decide +kernel, rfl, by decide +kernel, by decide +kernel⟩
abbrev n_is_floor : List Str := ["thing"]
abbrev n_are_floors : List Str := ["tongue", "many", "thing", "ordered", "seat", "floor"]
abbrev n_taken_cost : List Str := ["tongue", "wants", "floors", "seat", "some", "found", "cost", "beyond", "floor"]
abbrev n_rest_cost : List Str := ["tongue", "floors", "seat", "rest", "beyond"]
abbrev n_ways_at : List Str := ["tongue", "wants", "floors", "seat", "ordered", "found", "some", "rest", "taken", "left"]
abbrev n_is_right : List Str := ["tongue", "wants", "floors", "seat", "ordered", "ways", "floor", "way"]
abbrev n_lets_floors : List Str := ["tongue", "wants", "thing", "ordered", "most", "seat"]
theorem c_lets_floors : FnScope n_lets_floors ["tongue", "wants", "thing", "ordered"] (defScope s_lets_floors) := ⟨rfl, rfl, rfl, by decide +kernel, rfl, by decide +kernel, by decide +kernel⟩
abbrev n_claim_of_floors : List Str := ["wants", "floors"]
theorem c_claim_of_floors : FnScope n_claim_of_floors ["wants", "floors"] (defScope s_claim_of_floors) := ⟨rfl, rfl, rfl, by decide +kernel, rfl, by decide +kernel, by decide +kernel⟩
abbrev n_both_ways : List Str := ["one", "other", "most", "found", "size", "ways", "more", "others"]
abbrev n_can_follow : List Str := ["tongue", "ahead", "sign"]
abbrev n_Sets___init__ : List Str := ["self", "tongue", "most"]
abbrev n_Sets_of_sign : List Str := ["self", "ahead", "deep", "k", "sign", "price", "last", "found"]
abbrev n_Sets_from_sign : List Str := ["self", "ahead", "deep", "k", "rest_ways"]
abbrev n_sets_by_size : List Str := ["tongue", "most"]
theorem c_sets_by_size : FnScope n_sets_by_size ["tongue", "most"] (defScope s_sets_by_size) := ⟨rfl, rfl, rfl, by decide +kernel, rfl, by decide +kernel, by decide +kernel⟩
abbrev n_books_many : List Str := ["tongue", "many", "ordered", "found", "k"]
theorem c_books_many : FnScope n_books_many ["tongue", "many", "ordered"] (defScope s_books_many) := ⟨rfl, rfl, rfl, by decide +kernel, rfl, by decide +kernel, by decide +kernel⟩
abbrev n_Lister___init__ : List Str := ["self", "tongue", "most"]
abbrev n_Lister_with_sign : List Str := ["self", "begin", "k", "size", "text", "found"]
abbrev n_Lister_listed_from : List Str := ["self", "begin", "k", "size", "found", "taken", "ways", "others", "rest_sets", "one", "other"]
abbrev n_orders_of : List Str := ["words", "found", "k", "word", "other"]
abbrev n_all_books : List Str := ["tongue", "many", "ordered", "found", "words"]
theorem c_all_books : FnScope n_all_books ["tongue", "many", "ordered"] (defScope s_all_books) := ⟨rfl, rfl, rfl, by decide +kernel, rfl, by decide +kernel, by decide +kernel⟩
abbrev n_common_bottom : List Str := ["costs", "found", "top", "bottom", "one", "other"]
abbrev n_cost_by : List Str := ["tongue", "wants", "book", "prices", "found", "want", "word"]
abbrev n_costs_of_all : List Str := ["tongue", "wants", "ordered", "known", "prices", "book", "cost", "whole"]
theorem c_costs_of_all : FnScope n_costs_of_all ["tongue", "wants", "ordered"] (defScope s_costs_of_all) := ⟨rfl, rfl, rfl, by decide +kernel, rfl, by decide +kernel, by decide +kernel⟩
abbrev n_all_things : List Str := ["many", "ordered", "found", "begin", "number", "some", "end"]
abbrev n_Search___init__ : List Str := ["self", "tongue", "wants", "bound", "ordered", "groups", "deep", "signs", "sign", "begin", "things", "ways", "row"]
abbrev n_Search_is_on : List Str := ["self", "seat", "sign", "deep", "begin", "things", "number", "text"]
abbrev n_Search_may_take : List Str := ["self", "seat", "some", "at_end", "letter", "number", "text"]
abbrev n_Search_taken_at : List Str := ["self", "seat", "some", "best", "cost", "beyond", "floor"]
abbrev n_Search_rest_at : List Str := ["self", "seat", "some", "beyond"]
abbrev n_Search_look_at : List Str := ["self", "seat", "ways", "best", "some", "others", "taken", "left", "cost"]
abbrev n_Search_least_cost : List Str := ["self"]
abbrev n_Search_best_book : List Str := ["self", "found", "todo", "seat", "text", "some", "others", "beyond", "longer", "want"]
abbrev n_look_at_size_cheapest : List Str := ["wants", "ordered", "most"]
abbrev n_cheapest_book : List Str := ["tongue", "wants", "ordered", "search"]
theorem c_cheapest_book : FnScope n_cheapest_book ["tongue", "wants", "ordered"] (defScope s_cheapest_book) := ⟨rfl, rfl, rfl, by decide +kernel, rfl, by decide +kernel, by decide +kernel⟩
abbrev n_bound_book : List Str := ["tongue", "wants", "bound", "ordered", "search"]
theorem c_bound_book : FnScope n_bound_book ["tongue", "wants", "bound", "ordered"] (defScope s_bound_book) := ⟨rfl, rfl, rfl, by decide +kernel, rfl, by decide +kernel, by decide +kernel⟩
abbrev n_rank_of : List Str := ["tongue", "sign", "row"]
abbrev n_comes_ahead : List Str := ["tongue", "one", "other", "mine", "theirs"]
theorem c_comes_ahead : FnScope n_comes_ahead ["tongue", "one", "other"] (defScope s_comes_ahead) := ⟨rfl, rfl, rfl, by decide +kernel, rfl, by decide +kernel, by decide +kernel⟩
abbrev n_is_list_of_texts : List Str := ["thing", "many", "one"]
abbrev n_first_no_word : List Str := ["tongue", "texts", "number", "text"]
abbrev n_first_begin : List Str := ["texts", "number", "text", "other", "longer"]
abbrev n_first_turned : List Str := ["tongue", "texts", "number", "one", "other"]
abbrev n_what_is_wrong : List Str := ["tongue", "wants", "thing", "ordered", "number", "pair"]
theorem c_what_is_wrong : FnScope n_what_is_wrong ["tongue", "wants", "thing", "ordered"] (defScope s_what_is_wrong) := ⟨rfl, rfl, rfl, by decide +kernel, rfl, by decide +kernel, by decide +kernel⟩
abbrev n_cost_of : List Str := ["tongue", "wants", "book", "want", "word"]
theorem c_cost_of : FnScope n_cost_of ["tongue", "wants", "book"] (defScope s_cost_of) := ⟨rfl, rfl, rfl, by decide +kernel, rfl, by decide +kernel, by decide +kernel⟩
abbrev n_show_fraction : List Str := ["one"]
abbrev n_sign_row : List Str := ["row", "sign", "price", "last", "end"]
abbrev n_write_case : List Str := ["case", "tongue", "wants", "book", "signs", "firsts", "pairs", "longest", "rows", "row", "pair", "name", "count", "sign", "word"]
theorem c_write_case : FnScope n_write_case ["case"] (defScope s_write_case) := ⟨rfl, rfl, rfl, by decide +kernel, rfl, by decide +kernel, by decide +kernel⟩
abbrev n_begins_of : List Str := ["book", "found", "word", "size"]
abbrev n_put_price : List Str := ["prices", "price", "at", "one"]
abbrev n_columns_of : List Str := ["tongue", "book", "costs", "lasts", "ways", "ends", "prices", "price", "text", "word", "sign", "last"]
theorem c_columns_of : FnScope n_columns_of ["tongue", "book"] (defScope s_columns_of) := ⟨rfl, rfl, rfl, by decide +kernel, rfl, by decide +kernel, by decide +kernel⟩
abbrev n_look_at_mended : List Str := ["wants", "ordered", "most"]
abbrev n_sets_of : List Str := ["numbers", "many", "found", "number", "some"]
abbrev n_kept_book : List Str := ["tongue", "wants", "elder", "kept", "ordered", "bound", "number"]
abbrev n_best_keeping : List Str := ["tongue", "wants", "elder", "many", "most", "ordered", "best", "keepable", "kept", "told", "number"]
abbrev n_mend : List Str := ["tongue", "wants", "elder", "slack", "ordered", "least", "many", "best", "changed", "number"]
theorem c_mend : FnScope n_mend ["tongue", "wants", "elder", "slack", "ordered"] (defScope s_mend) := ⟨rfl, rfl, rfl, by decide +kernel, rfl, by decide +kernel, by decide +kernel⟩
abbrev n_Keeper___init__ : List Str := ["self", "tongue", "wants", "ordered", "slack", "signs", "firsts", "pairs", "longest"]
theorem c_Keeper___init__ : FnScope n_Keeper___init__ ["self", "tongue", "wants", "ordered", "slack"] (defScope s_Keeper___init__) := ⟨rfl, rfl, rfl, by decide +kernel, rfl, by decide +kernel, by decide +kernel⟩
abbrev n_Keeper_set_count : List Str := ["self", "name", "count"]
abbrev n_Keeper_undo : List Str := ["self"]
abbrev n_Keeper_wants_now : List Str := ["self"]
abbrev n_Keeper_book_now : List Str := ["self"]
theorem c_Keeper_book_now : FnScope n_Keeper_book_now ["self"] (defScope s_Keeper_book_now) := ⟨rfl, rfl, rfl, by decide +kernel, rfl, by decide +kernel, by decide +kernel⟩
abbrev n_Keeper_cost_now : List Str := ["self"]
abbrev n_Keeper_least_now : List Str := ["self"]
abbrev n_look_at_size_parts : List Str := ["tongue"]
abbrev n_goes_with : List Str := ["said", "word", "at"]
abbrev n_candidates_among : List Str := ["words", "said", "word"]
abbrev n_candidates_of : List Str := ["tongue", "part"]
theorem c_candidates_of : FnScope n_candidates_of ["tongue", "part"] (defScope s_candidates_of) := ⟨rfl, rfl, rfl, by decide +kernel, rfl, by decide +kernel, by decide +kernel⟩
abbrev n_may_be_split : List Str := ["tongue", "said", "thing", "at"]
abbrev n_is_amount : List Str := ["thing"]
abbrev n_are_amounts : List Str := ["thing", "many", "one"]
abbrev n_is_part : List Str := ["signs", "thing", "ahead", "sign"]
abbrev n_are_parts : List Str := ["signs", "thing", "ahead", "one"]
abbrev n_are_shares : List Str := ["tongue", "many", "thing", "sign", "price", "last"]
abbrev n_parts_by_signs : List Str := ["parts", "ahead", "sign", "part"]
abbrev n_share_of : List Str := ["whole", "by_signs", "text", "found", "at"]
abbrev n_signs_behind : List Str := ["tongue", "found", "ahead", "sign", "price", "last", "row"]
abbrev n_holds_for : List Str := ["longest", "behind", "count", "value", "whole", "by_signs", "often", "waiting", "looked", "text", "way", "share", "sign", "price", "last", "own"]
abbrev n_lets_shares : List Str := ["tongue", "wants", "thing", "whole", "parts", "values", "by_signs", "behind", "name", "count", "value"]
theorem c_lets_shares : FnScope n_lets_shares ["tongue", "wants", "thing"] (defScope s_lets_shares) := ⟨rfl, rfl, rfl, by decide +kernel, rfl, by decide +kernel, by decide +kernel⟩
abbrev n_claim_of_shares : List Str := ["shares", "whole", "parts", "values"]
abbrev n_by_rising_price : List Str := ["words", "prices", "found", "word", "at"]
abbrev n_Judge___init__ : List Str := ["self", "tongue", "wants", "least", "name", "count", "word"]
theorem c_Judge___init__ : FnScope n_Judge___init__ ["self", "tongue", "wants", "least"] (defScope s_Judge___init__) := ⟨rfl, rfl, rfl, by decide +kernel, rfl, by decide +kernel, by decide +kernel⟩
abbrev n_Judge_candidates : List Str := ["self", "said"]
abbrev n_Judge_told_ends : List Str := ["self", "said", "text"]
abbrev n_Judge_cheapest_ones : List Str := ["self", "said", "ends", "some", "others", "chosen", "word", "text"]
abbrev n_Judge_bound_by : List Str := ["self", "words", "found", "count", "word"]
abbrev n_Judge_is_dead : List Str := ["self", "said", "text", "word"]
abbrev n_Judge_is_by_cheapest : List Str := ["self", "said", "words"]
abbrev n_Judge_is_by_shares : List Str := ["self", "said", "shares", "whole", "parts", "values", "by_signs", "word", "share", "count", "value"]
abbrev n_Judge_is_so : List Str := ["self", "said", "thing"]
theorem c_Judge_is_so : FnScope n_Judge_is_so ["self", "said", "thing"] (defScope s_Judge_is_so) := ⟨rfl, rfl, rfl, by decide +kernel, rfl, by decide +kernel, by decide +kernel⟩
abbrev n_Judge_is_tree : List Str := ["self", "said", "thing", "within", "name", "text", "trees", "word", "tree", "more"]
theorem c_Judge_is_tree : FnScope n_Judge_is_tree ["self", "said", "thing", "within"] (defScope s_Judge_is_tree) := ⟨rfl, rfl, rfl, by decide +kernel, rfl, by decide +kernel, by decide +kernel⟩
abbrev n_is_reason : List Str := ["tongue", "wants", "least", "part", "thing"]
theorem c_is_reason : FnScope n_is_reason ["tongue", "wants", "least", "part", "thing"] (defScope s_is_reason) := ⟨rfl, rfl, rfl, by decide +kernel, rfl, by decide +kernel, by decide +kernel⟩
abbrev n_lets_tree : List Str := ["tongue", "wants", "least", "thing"]
theorem c_lets_tree : FnScope n_lets_tree ["tongue", "wants", "least", "thing"] (defScope s_lets_tree) := ⟨rfl, rfl, rfl, by decide +kernel, rfl, by decide +kernel, by decide +kernel⟩
abbrev n_cheaper_first : List Str := ["tongue", "found", "sign", "price", "last", "at"]
abbrev n_parts_with : List Str := ["tongue", "weights", "found", "ahead", "some", "whole", "sign", "price", "last"]
abbrev n_value_for : List Str := ["rows", "count", "whole", "found", "price", "share", "one"]
abbrev n_best_shares : List Str := ["tongue", "wants", "words", "counts", "prices", "plain", "best", "base", "signs", "falling", "weights", "parts", "by_signs", "rows", "often", "whole", "found", "name", "count", "word", "price", "at", "sign"]
abbrev n_shares_for : List Str := ["tongue", "wants", "words", "whole", "parts", "values", "want"]
theorem c_shares_for : FnScope n_shares_for ["tongue", "wants"] (defScope s_shares_for) := ⟨rfl, rfl, rfl, by decide +kernel, rfl, by decide +kernel, by decide +kernel⟩
abbrev n_clash_in : List Str := ["words", "at", "word", "other"]
abbrev n_Seeker___init__ : List Str := ["self", "tongue", "wants", "least", "most"]
theorem c_Seeker___init__ : FnScope n_Seeker___init__ ["self", "tongue", "wants", "least", "most"] (defScope s_Seeker___init__) := ⟨rfl, rfl, rfl, by decide +kernel, rfl, by decide +kernel, by decide +kernel⟩
abbrev n_Seeker_reason_for : List Str := ["self", "said", "plain", "reason", "text"]
abbrev n_Seeker_reason_by_shares : List Str := ["self", "shares"]
abbrev n_Seeker_book_with : List Str := ["self", "words", "counts", "things", "found", "thing", "word"]
abbrev n_Seeker_split_at : List Str := ["self", "said", "word", "at"]
abbrev n_Seeker_tree_for : List Str := ["self", "said", "within", "reason", "words", "clash", "text", "trees", "word", "more", "tree"]
abbrev n_seek_book : List Str := ["tongue", "wants", "least", "most", "seeker", "tree"]
theorem c_seek_book : FnScope n_seek_book ["tongue", "wants", "least", "most"] (defScope s_seek_book) := ⟨rfl, rfl, rfl, by decide +kernel, rfl, by decide +kernel, by decide +kernel⟩
abbrev n_grown : List Str := ["letters", "ends", "found", "sign", "some", "rest", "number"]
abbrev n_tree_of : List Str := ["tongue", "book", "letters", "one", "number", "word"]
theorem c_tree_of : FnScope n_tree_of ["tongue", "book"] (defScope s_tree_of) := ⟨rfl, rfl, rfl, by decide +kernel, rfl, by decide +kernel, by decide +kernel⟩
abbrev n_can_come : List Str := ["tongue", "begin", "sign"]
abbrev n_look_at_branch : List Str := ["tongue", "begin", "thing", "last", "letters", "place", "one"]
abbrev n_look_at_tree : List Str := ["tongue", "many", "found", "begin", "thing", "last", "branch", "sign", "node"]
abbrev n_book_of : List Str := ["tongue", "many", "thing", "found", "number"]
theorem c_book_of : FnScope n_book_of ["tongue", "many", "thing"] (defScope s_book_of) := ⟨rfl, rfl, rfl, by decide +kernel, rfl, by decide +kernel, by decide +kernel⟩
abbrev n_is_letter_turning : List Str := ["thing"]
abbrev n_look_at_letters : List Str := ["tongue", "letters", "one"]
abbrev n_look_at_order : List Str := ["many", "order", "one"]
abbrev n_called : List Str := ["tongue", "letters", "text", "names", "row", "letter", "sign"]
abbrev n_turned_tongue : List Str := ["tongue", "letters", "signs", "firsts", "pairs", "longest", "rows", "heads", "sign", "price", "last", "pair"]
theorem c_turned_tongue : FnScope n_turned_tongue ["tongue", "letters"] (defScope s_turned_tongue) := ⟨rfl, rfl, rfl, by decide +kernel, rfl, by decide +kernel, by decide +kernel⟩
abbrev n_turned_text : List Str := ["tongue", "letters", "text"]
theorem c_turned_text : FnScope n_turned_text ["tongue", "letters", "text"] (defScope s_turned_text) := ⟨rfl, rfl, rfl, by decide +kernel, rfl, by decide +kernel, by decide +kernel⟩
abbrev n_turned_book : List Str := ["tongue", "letters", "book", "word"]
theorem c_turned_book : FnScope n_turned_book ["tongue", "letters", "book"] (defScope s_turned_book) := ⟨rfl, rfl, rfl, by decide +kernel, rfl, by decide +kernel, by decide +kernel⟩
abbrev n_put_so : List Str := ["some", "order", "found", "k", "place"]
abbrev n_put_wants : List Str := ["wants", "order"]
theorem c_put_wants : FnScope n_put_wants ["wants", "order"] (defScope s_put_wants) := ⟨rfl, rfl, rfl, by decide +kernel, rfl, by decide +kernel, by decide +kernel⟩
abbrev n_dearer : List Str := ["tongue", "factor", "signs", "firsts", "pairs", "longest", "rows", "sign", "price", "last"]
theorem c_dearer : FnScope n_dearer ["tongue", "factor"] (defScope s_dearer) := ⟨rfl, rfl, rfl, by decide +kernel, rfl, by decide +kernel, by decide +kernel⟩
abbrev n_more_often : List Str := ["wants", "factor", "name", "count"]
theorem c_more_often : FnScope n_more_often ["wants", "factor"] (defScope s_more_often) := ⟨rfl, rfl, rfl, by decide +kernel, rfl, by decide +kernel, by decide +kernel⟩
abbrev n__law_draws : List Str := ["_law_cell_here", "_law_k", "_law_sizes", "_law_number", "_law_great", "_law_mixed", "_law_found", "_law_turn", "_law_size"]
theorem c__law_draws : FnScope n__law_draws ["_law_cell_here", "_law_k", "_law_sizes"] (defScope s__law_draws) := ⟨rfl, rfl, rfl, by decide +kernel, rfl, by decide +kernel, by decide +kernel⟩
abbrev n__law_stage_two : List Str := ["_law_way", "_law_tongue"]
theorem c__law_stage_two : FnScope n__law_stage_two ["_law_way", "_law_tongue"] (defScope s__law_stage_two) := ⟨rfl, rfl, rfl, by decide +kernel, rfl, by decide +kernel, by decide +kernel⟩
abbrev n__law_tongue_alone : List Str := ["_law_way", "_law_tongue"]
theorem c__law_tongue_alone : FnScope n__law_tongue_alone ["_law_way", "_law_tongue"] (defScope s__law_tongue_alone) := ⟨rfl, rfl, rfl, by decide +kernel, rfl, by decide +kernel, by decide +kernel⟩
abbrev n__law_with_wants : List Str := ["_law_way", "_law_tongue", "_law_wants_here"]
theorem c__law_with_wants : FnScope n__law_with_wants ["_law_way", "_law_tongue", "_law_wants_here"] (defScope s__law_with_wants) := ⟨rfl, rfl, rfl, by decide +kernel, rfl, by decide +kernel, by decide +kernel⟩
abbrev n__law_wants_alone : List Str := ["_law_way", "_law_wants_here"]
theorem c__law_wants_alone : FnScope n__law_wants_alone ["_law_way", "_law_wants_here"] (defScope s__law_wants_alone) := ⟨rfl, rfl, rfl, by decide +kernel, rfl, by decide +kernel, by decide +kernel⟩
abbrev n__law_told : List Str := ["_law_way", "_law_tongue", "_law_wants_here", "_law_told_here", "e"]
theorem c__law_told : FnScope n__law_told ["_law_way", "_law_tongue", "_law_wants_here"] (defScope s__law_told) := ⟨rfl, rfl, rfl, by decide +kernel, rfl, by decide +kernel, by decide +kernel⟩
abbrev n__law_tongues : List Str := ["_law_one", "_law_two", "_law_good", "_law_many", "_law_some", "_law_odd", "_law_letter", "_law_signs", "_law_firsts", "_law_pairs", "_law_longest"]
theorem c__law_tongues : FnScope n__law_tongues [] (defScope s__law_tongues) := ⟨rfl, rfl, rfl, by decide +kernel, rfl, by decide +kernel, by decide +kernel⟩
abbrev n__law_wants : List Str := ["_law_good", "_law_some"]
theorem c__law_wants : FnScope n__law_wants [] (defScope s__law_wants) := ⟨rfl, rfl, rfl, by decide +kernel, rfl, by decide +kernel, by decide +kernel⟩
abbrev n_law : List Str := ["_law_script", "_law_k", "_law_cell_here", "_law_row", "_law_tongue", "_law_part", "_law_wants_here", "_law_number", "_law_due"]
theorem c_law : FnScope n_law ["_law_script"] (defScope s_law) := ⟨rfl, rfl, rfl, by decide +kernel, rfl, by decide +kernel, by decide +kernel⟩
structure Ads where
  DearError : Addr
  NoNumber : Addr
  NoBook : Addr
  NoTree : Addr
  TooMany : Addr
  NoTurn : Addr
  NoTongue : Addr
  NoWants : Addr
  Sets : Addr
  Lister : Addr
  Search : Addr
  Keeper : Addr
  Judge : Addr
  Seeker : Addr
/-- what the top has left -/
structure Txt (K : PySem.W.Frag) (mg : Str → Option Value) where
  A : Ads
  C_DearError : mg "DearError" = some (.ref A.DearError)
  C_NoNumber : mg "NoNumber" = some (.ref A.NoNumber)
  C_NoBook : mg "NoBook" = some (.ref A.NoBook)
  C_NoTree : mg "NoTree" = some (.ref A.NoTree)
  C_TooMany : mg "TooMany" = some (.ref A.TooMany)
  C_NoTurn : mg "NoTurn" = some (.ref A.NoTurn)
  C_NoTongue : mg "NoTongue" = some (.ref A.NoTongue)
  C_NoWants : mg "NoWants" = some (.ref A.NoWants)
  X_TooMany : ExOwn K mg "TooMany" A.TooMany
  D_DearError : DrI K mg "DearError" A.DearError
  X_NoTongue : ExInit K mg "NoTongue" "part" A.NoTongue
  F_NoTongue : DfI K A.NoTongue "NoTongue.__init__" s_NoTongue___init__ "part"
  X_NoWants : ExInit K mg "NoWants" "number" A.NoWants
  F_NoWants : DfI K A.NoWants "NoWants.__init__" s_NoWants___init__ "number"
  q_NoWants_NoTongue : PySem.W.kitOne K (.ref A.NoWants) (.ref A.NoTongue) = some false
  e_NoTongue : PySem.W.exmOne K (.ref A.NoTongue) (.ref A.NoTongue) = some true
  e_NoWants : PySem.W.exmOne K (.ref A.NoWants) (.ref A.NoWants) = some true
  K_Keeper : Cls K A.Keeper
  I_Keeper : DfCD K mg "Keeper" A.Keeper "Keeper.__init__" s_Keeper___init__ ["self", "tongue", "wants", "ordered", "slack"] [.bl false, .non]
  M_Keeper_book_now : DfM K A.Keeper "book_now" "Keeper.book_now" s_Keeper_book_now ["self"]
  K_Judge : Cls K A.Judge
  I_Judge : DfC K mg "Judge" A.Judge "Judge.__init__" s_Judge___init__ ["self", "tongue", "wants", "least"]
  M_Judge_is_so : DfM K A.Judge "is_so" "Judge.is_so" s_Judge_is_so ["self", "said", "thing"]
  M_Judge_is_tree : DfM K A.Judge "is_tree" "Judge.is_tree" s_Judge_is_tree ["self", "said", "thing", "within"]
  I_Seeker : DfC K mg "Seeker" A.Seeker "Seeker.__init__" s_Seeker___init__ ["self", "tongue", "wants", "least", "most"]
  f_is_whole : Df K mg "is_whole" s_is_whole ["thing"]
  f_is_name : Df K mg "is_name" s_is_name ["thing"]
  f_divisor : Df K mg "divisor" s_divisor ["one", "other"]
  f_is_fraction : Df K mg "is_fraction" s_is_fraction ["thing"]
  f_lowest : Df K mg "lowest" s_lowest ["top", "bottom"]
  f_plus : Df K mg "plus" s_plus ["one", "other"]
  f_is_price : Df K mg "is_price" s_is_price ["thing"]
  f_is_letter_tongues : DfA K mg "is_letter_tongues" "is_letter" s_is_letter_tongues ["thing"]
  f_is_sign : Df K mg "is_sign" s_is_sign ["thing"]
  f_are_signs : Df K mg "are_signs" s_are_signs ["thing"]
  f_are_unlike_texts : Df K mg "are_unlike_texts" s_are_unlike_texts ["thing", "size", "letters"]
  f_look_at_tongue : Df K mg "look_at_tongue" s_look_at_tongue ["thing"]
  f_may_come : Df K mg "may_come" s_may_come ["tongue", "ahead", "sign"]
  f_lasts_in : Df K mg "lasts_in" s_lasts_in ["tongue"]
  f_may_stand : Df K mg "may_stand" s_may_stand ["tongue", "thing"]
  f_is_word : Df K mg "is_word" s_is_word ["tongue", "thing"]
  f_way_of : Df K mg "way_of" s_way_of ["tongue", "text"]
  f_price_of : Df K mg "price_of" s_price_of ["tongue", "word"]
  f_counts_by_length : Df K mg "counts_by_length" s_counts_by_length ["tongue"]
  f_word_counts : Df K mg "word_counts" s_word_counts ["tongue"]
  f_text_counts : Df K mg "text_counts" s_text_counts ["tongue"]
  f_words_of : Df K mg "words_of" s_words_of ["tongue"]
  f_is_want : Df K mg "is_want" s_is_want ["thing"]
  f_look_at_wants : Df K mg "look_at_wants" s_look_at_wants ["thing"]
  f_lets_floors : Df K mg "lets_floors" s_lets_floors ["tongue", "wants", "thing", "ordered"]
  f_claim_of_floors : Df K mg "claim_of_floors" s_claim_of_floors ["wants", "floors"]
  f_sets_by_size : Df K mg "sets_by_size" s_sets_by_size ["tongue", "most"]
  f_books_many : Df K mg "books_many" s_books_many ["tongue", "many", "ordered"]
  f_all_books : Df K mg "all_books" s_all_books ["tongue", "many", "ordered"]
  f_costs_of_all : Df K mg "costs_of_all" s_costs_of_all ["tongue", "wants", "ordered"]
  f_cheapest_book : Df K mg "cheapest_book" s_cheapest_book ["tongue", "wants", "ordered"]
  f_bound_book : Df K mg "bound_book" s_bound_book ["tongue", "wants", "bound", "ordered"]
  f_comes_ahead : Df K mg "comes_ahead" s_comes_ahead ["tongue", "one", "other"]
  f_what_is_wrong : DfD K mg "what_is_wrong" s_what_is_wrong ["tongue", "wants", "thing", "ordered"] [.bl false]
  f_cost_of : Df K mg "cost_of" s_cost_of ["tongue", "wants", "book"]
  f_write_case : Df K mg "write_case" s_write_case ["case"]
  f_columns_of : Df K mg "columns_of" s_columns_of ["tongue", "book"]
  f_mend : Df K mg "mend" s_mend ["tongue", "wants", "elder", "slack", "ordered"]
  f_candidates_of : Df K mg "candidates_of" s_candidates_of ["tongue", "part"]
  f_lets_shares : Df K mg "lets_shares" s_lets_shares ["tongue", "wants", "thing"]
  f_is_reason : Df K mg "is_reason" s_is_reason ["tongue", "wants", "least", "part", "thing"]
  f_lets_tree : Df K mg "lets_tree" s_lets_tree ["tongue", "wants", "least", "thing"]
  f_shares_for : Df K mg "shares_for" s_shares_for ["tongue", "wants"]
  f_seek_book : Df K mg "seek_book" s_seek_book ["tongue", "wants", "least", "most"]
  f_tree_of : Df K mg "tree_of" s_tree_of ["tongue", "book"]
  f_book_of : Df K mg "book_of" s_book_of ["tongue", "many", "thing"]
  f_turned_tongue : Df K mg "turned_tongue" s_turned_tongue ["tongue", "letters"]
  f_turned_text : Df K mg "turned_text" s_turned_text ["tongue", "letters", "text"]
  f_turned_book : Df K mg "turned_book" s_turned_book ["tongue", "letters", "book"]
  f_put_wants : Df K mg "put_wants" s_put_wants ["wants", "order"]
  f_dearer : Df K mg "dearer" s_dearer ["tongue", "factor"]
  f_more_often : Df K mg "more_often" s_more_often ["wants", "factor"]
  f__law_draws : Df K mg "_law_draws" s__law_draws ["_law_cell_here", "_law_k", "_law_sizes"]
  f__law_stage_two : Df K mg "_law_stage_two" s__law_stage_two ["_law_way", "_law_tongue"]
  f__law_tongue_alone : Df K mg "_law_tongue_alone" s__law_tongue_alone ["_law_way", "_law_tongue"]
  f__law_with_wants : Df K mg "_law_with_wants" s__law_with_wants ["_law_way", "_law_tongue", "_law_wants_here"]
  f__law_wants_alone : Df K mg "_law_wants_alone" s__law_wants_alone ["_law_way", "_law_wants_here"]
  f__law_told : Df K mg "_law_told" s__law_told ["_law_way", "_law_tongue", "_law_wants_here"]
  f__law_tongues : Df K mg "_law_tongues" s__law_tongues []
  f__law_wants : Df K mg "_law_wants" s__law_wants []
  f_law : Df K mg "law" s_law ["_law_script"]
  g_LETTERS_numbers : ∃ t, mg "LETTERS_numbers" = some (.str "abcdefghijklmnopqrstuvwxyz" t)
  g_LONGEST_numbers : ∃ t, mg "LONGEST_numbers" = some (.int 8 t)
  g_LETTERS_tongues : ∃ t, mg "LETTERS_tongues" = some (.str "abcdefghijklmnopqrstuvwxyz" t)
  g_FEWEST_SIGNS : ∃ t, mg "FEWEST_SIGNS" = some (.int 2 t)
  g_MOST_SIGNS : ∃ t, mg "MOST_SIGNS" = some (.int 6 t)
  g_LONGEST_tongues : ∃ t, mg "LONGEST_tongues" = some (.int 8 t)
  g_MOST_WORDS_words : ∃ t, mg "MOST_WORDS_words" = some (.int 5000 t)
  g_MOST_THINGS_wants : ∃ t, mg "MOST_THINGS_wants" = some (.int 20 t)
  g_GREATEST_COUNT : ∃ t, mg "GREATEST_COUNT" = some (.int 1000000000 t)
  b_abs : mg "abs" = none
  b_all : mg "all" = none
  b_bool : mg "bool" = none
  b_dict : mg "dict" = none
  b_enumerate : mg "enumerate" = none
  b_int : mg "int" = none
  b_isinstance : mg "isinstance" = none
  b_len : mg "len" = none
  b_list : mg "list" = none
  b_set : mg "set" = none
  b_str : mg "str" = none
  b_sum : mg "sum" = none
  b_tuple : mg "tuple" = none
theorem oi_NoTongue {P : Program} {w : World} {K : PySem.W.Frag} {mg : Str → Option Value} {base : Heap} (T : Txt K mg) : OkI P w K mg base "NoTongue" "part" T.A.NoTongue := by
  obtain ⟨fI, fd, h1, h2, F, b⟩ := T.F_NoTongue
  refine ⟨fI, fd, h1, h2, F.ok c_NoTongue___init__ (fun vs H Q E h => ?_) (fun cdv A outer s H vs Q E hr h => ?_), b, T.X_NoTongue⟩
  · obtain ⟨a, C, v, rfl, _⟩ := h
    rfl
  · obtain ⟨a, C, v, rfl, o, n, ha, fv, k⟩ := h
    refine ⟨_, (pss_cons (ps_expr (pe_drinit T.D_DearError (pa_cons (pv 0) (pa_cons (pe_joined (.cons pe_str (.cons (pe_fmtN (pv 1)) .nil))) pa_nil)))) (pss_one (ps_ost (pv 0) (pv 1)))), ?_⟩
    refine ⟨_, rfl, _, rfl, (by decide +kernel), _, rfl, fv, fun z hz => ⟨z, rfl, ?_, ?_⟩⟩
    · rw [str_len]
      exact Nat.le_trans (Nat.add_le_add_right (show _ ≤ 100 by decide +kernel) _) (sz_lit (by omega))
    · exact ⟨a, C, _, rfl, (by decide : 1 ≤ 1000), o, ha, _, rfl, _, rfl, a, C, rfl, o, n, .inl ⟨ha, fun dx hd ne => k dx hd ne⟩⟩

theorem oi_NoWants {P : Program} {w : World} {K : PySem.W.Frag} {mg : Str → Option Value} {base : Heap} (T : Txt K mg) : OkI P w K mg base "NoWants" "number" T.A.NoWants := by
  obtain ⟨fI, fd, h1, h2, F, b⟩ := T.F_NoWants
  refine ⟨fI, fd, h1, h2, F.ok c_NoWants___init__ (fun vs H Q E h => ?_) (fun cdv A outer s H vs Q E hr h => ?_), b, T.X_NoWants⟩
  · obtain ⟨a, C, v, rfl, _⟩ := h
    rfl
  · obtain ⟨a, C, v, rfl, o, n, ha, fv, k⟩ := h
    refine ⟨_, (pss_cons (ps_expr (pe_drinit T.D_DearError (pa_cons (pv 0) (pa_cons (pe_joined (.cons pe_str (.cons (pe_fmtN (pv 1)) .nil))) pa_nil)))) (pss_one (ps_ost (pv 0) (pv 1)))), ?_⟩
    refine ⟨_, rfl, _, rfl, (by decide +kernel), _, rfl, fv, fun z hz => ⟨z, rfl, ?_, ?_⟩⟩
    · rw [str_len]
      exact Nat.le_trans (Nat.add_le_add_right (show _ ≤ 100 by decide +kernel) _) (sz_lit (by omega))
    · exact ⟨a, C, _, rfl, (by decide : 1 ≤ 1000), o, ha, _, rfl, _, rfl, a, C, rfl, o, n, .inl ⟨ha, fun dx hd ne => k dx hd ne⟩⟩

end Dear


namespace Du
open PySem PySem.Spec PyProof.Rows L2 Dear
noncomputable def B_is_whole : Env → Out := (sRet [] (eAnd (eIsi "int" (eVar 0)) (eNot (eIsi "bool" (eVar 0)))))
noncomputable def F_is_whole : List D → Res D := runD (["thing"] : List Str).length n_is_whole.length B_is_whole
theorem ok_is_whole {P : Program} {w : World} {K : PySem.W.Frag} {mg : Str → Option Value} {base : Heap} (T : Txt K mg) : OkF P w K mg base CX0 (0 + 1) "is_whole" ["thing"] (sp0 K F_is_whole) :=
  ok0 (g := B_is_whole) T.f_is_whole c_is_whole fun f cdv A outer s H E hr => 
(fss_one (fs_ret (L := []) (fe_and (fe_isi (t := "int") tn_int (fe_var 0) (pe_bltn (v := .ty "int") (by rfl) T.b_int (by decide +kernel) rfl) T.b_isinstance) (fe_one (fe_not (fe_isi (t := "bool") tn_bool (fe_var 0) (pe_bltn (v := .ty "bool") (by rfl) T.b_bool (by decide +kernel) rfl) T.b_isinstance))))))

noncomputable def B_is_name : Env → Out := (sSeq (sIf [] (bOr (bNot (bT (eIsi "str" (eVar 0)))) (bNot (bT (eChain dLe dLe (eC (.int 1)) (eCall dLen (aCons (eVar 0) aNil)) (eC (.int 8))))))
(sRet [] (eC (.bl false)))
sPass)
(sRet [] (eCall dAll (aCons (eComp [1] (iAny (eVar 0)) (tgN 1) bYes (eOp (dIn false) (eVar 1) (eC (.str "abcdefghijklmnopqrstuvwxyz")))) aNil))))
theorem B_is_name_u (ρ : Env) : B_is_name ρ = (sSeq (sIf [] (bOr (bNot (bT (eIsi "str" (eVar 0)))) (bNot (bT (eChain dLe dLe (eC (.int 1)) (eCall dLen (aCons (eVar 0) aNil)) (eC (.int 8))))))
(sRet [] (eC (.bl false)))
sPass)
(sRet [] (eCall dAll (aCons (eComp [1] (iAny (eVar 0)) (tgN 1) bYes (eOp (dIn false) (eVar 1) (eC (.str "abcdefghijklmnopqrstuvwxyz")))) aNil)))) ρ := rfl
noncomputable def F_is_name : List D → Res D := runD (["thing"] : List Str).length n_is_name.length B_is_name
theorem ok_is_name {P : Program} {w : World} {K : PySem.W.Frag} {mg : Str → Option Value} {base : Heap} (T : Txt K mg) : OkF P w K mg base CX0 (0 + 1) "is_name" ["thing"] (sp0 K F_is_name) :=
  ok0 (g := B_is_name) T.f_is_name c_is_name fun f cdv A outer s H E hr => have hu65 := u65 hr; 
(fss_cons (fs_if (L := []) (ft_w (fw_or (ft_not (ft_tru (fe_isi (t := "str") tn_str (fe_var 0) (pe_bltn (v := .ty "str") (by rfl) T.b_str (by decide +kernel) rfl) T.b_isinstance))) (fw_or1 (ft_not (ft_chain op_le opd_le op_le opd_le gb_cmp fe_int (fe_callB (cr_len (K := K)) cd_len T.b_len (fa_cons (fe_var 0) fa_nil)) (fe_gi T.g_LONGEST_numbers))))))
(fss_one (fs_ret (L := []) fe_bl))
fss_nil)
(fss_one (fs_ret (L := []) (fe_callB (cr_all_k K rfl) cd_all T.b_all (fa_cons (fe_comp [("sign", 1)] c_is_name.nd (fi_any (fe_var 0)) (fun _ _ _ _ _ => (fg_name 1 c_is_name.nd)) (fun _ _ _ _ _ => fts_nil) (fun _ _ _ _ _ => (fe_cmp (op_inA (K := K) hu65) opd_inF (fe_var 1) (fe_gs T.g_LETTERS_numbers))) (blkOk_by (own := [("sign", 1)]) (N := n_is_name) (sc := defScope s_is_name) (by decide +kernel))) fa_nil)))))

noncomputable def B_divisor_1 : Env → Out := (sPar 0 1 [] (aCons (eVar 1) (aCons (eOp dMod (eVar 0) (eVar 1)) aNil)))
theorem B_divisor_1_u (ρ : Env) : B_divisor_1 ρ = (sPar 0 1 [] (aCons (eVar 1) (aCons (eOp dMod (eVar 0) (eVar 1)) aNil))) ρ := rfl
noncomputable def B_divisor : Env → Out := (sSeq (sWhile [] (bT (eOp dGt (eVar 1) (eC (.int 0))))
B_divisor_1)
(sRet [] (eVar 0)))
noncomputable def F_divisor : List D → Res D := runD (["one", "other"] : List Str).length n_divisor.length B_divisor
theorem ok_divisor {P : Program} {w : World} {K : PySem.W.Frag} {mg : Str → Option Value} {base : Heap} (T : Txt K mg) : OkF P w K mg base CX0 (0 + 1) "divisor" ["one", "other"] (sp0 K F_divisor) :=
  ok0 (g := B_divisor) T.f_divisor c_divisor fun f cdv A outer s H E hr => 
(fss_cons (fs_while (L := []) PassesOwn.never (ft_cmp op_gt opd_gt gb_cmp (fe_var 1) fe_int)
(fss_one (fs_par (L := []) 0 1 c_divisor.nd (fa_cons (fe_var 1) (fa_cons (fe_op op_mod opd_mod (fe_var 0) (fe_var 1)) fa_nil)))))
(fss_one (fs_ret (L := []) (fe_var 0))))

noncomputable def B_is_fraction : Env → Out := (sSeq (sIf [] (bOr (bNot (bT (eIsi "tuple" (eVar 0)))) (bT (eOp dNe (eCall dLen (aCons (eVar 0) aNil)) (eC (.int 2)))))
(sRet [] (eC (.bl false)))
sPass)
(sSeq (sAsg [] (eVar 0) (tgT [(tgN 1), (tgN 2)]))
(sSeq (sIf [] (bOr (bNot (bT (eCall F_is_whole (aCons (eVar 1) aNil)))) (bOr (bNot (bT (eCall F_is_whole (aCons (eVar 2) aNil)))) (bT (eOp dLt (eVar 2) (eC (.int 1))))))
(sRet [] (eC (.bl false)))
sPass)
(sRet [] (eOp dEq (eCall F_divisor (aCons (eVar 2) (aCons (eCall dAbs (aCons (eVar 1) aNil)) aNil))) (eC (.int 1)))))))
noncomputable def F_is_fraction : List D → Res D := runD (["thing"] : List Str).length n_is_fraction.length B_is_fraction
theorem ok_is_fraction {P : Program} {w : World} {K : PySem.W.Frag} {mg : Str → Option Value} {base : Heap} (T : Txt K mg) : OkF P w K mg base CX0 (1 + 1) "is_fraction" ["thing"] (sp0 K F_is_fraction) :=
  ok0 (g := B_is_fraction) T.f_is_fraction c_is_fraction fun f cdv A outer s H E hr => 
(fss_cons (fs_if (L := []) (ft_w (fw_or (ft_not (ft_tru (fe_isi (t := "tuple") tn_tuple (fe_var 0) (pe_bltn (v := .ty "tuple") (by rfl) T.b_tuple (by decide +kernel) rfl) T.b_isinstance))) (fw_or1 (ft_cmp (op_neA (K := K) hr.units) opd_ne gb_ne (fe_callB (cr_len (K := K)) cd_len T.b_len (fa_cons (fe_var 0) fa_nil)) fe_int))))
(fss_one (fs_ret (L := []) fe_bl))
fss_nil)
(fss_cons (fs_asg (L := []) (fe_var 0) (fg_tup (fgs_cons (fg_name 1 c_is_fraction.nd) (fgs_cons (fg_name 2 c_is_fraction.nd) fgs_nil))))
(fss_cons (fs_if (L := []) (ft_w (fw_or (ft_not (ft_tru (fe_call (ok_is_whole T) hr (fa_cons (fe_var 1) fa_nil)))) (fw_or (ft_not (ft_tru (fe_call (ok_is_whole T) hr (fa_cons (fe_var 2) fa_nil)))) (fw_or1 (ft_cmp op_lt opd_lt gb_cmp (fe_var 2) fe_int)))))
(fss_one (fs_ret (L := []) fe_bl))
fss_nil)
(fss_one (fs_ret (L := []) (fe_cmp (op_eqA (K := K) hr.units) opd_eq (fe_call (ok_divisor T) hr (fa_cons (fe_var 2) (fa_cons (fe_callB call_abs cd_abs T.b_abs (fa_cons (fe_var 1) fa_nil)) fa_nil))) fe_int))))))

noncomputable def B_lowest : Env → Out := (sSeq (sAsg [] (eCall F_divisor (aCons (eVar 1) (aCons (eCall dAbs (aCons (eVar 0) aNil)) aNil))) (tgN 2))
(sRet [] (eTup (aCons (eOp dDiv (eVar 0) (eVar 2)) (aCons (eOp dDiv (eVar 1) (eVar 2)) aNil)))))
noncomputable def F_lowest : List D → Res D := runD (["top", "bottom"] : List Str).length n_lowest.length B_lowest
theorem ok_lowest {P : Program} {w : World} {K : PySem.W.Frag} {mg : Str → Option Value} {base : Heap} (T : Txt K mg) : OkF P w K mg base CX0 (1 + 1) "lowest" ["top", "bottom"] (sp0 K F_lowest) :=
  ok0 (g := B_lowest) T.f_lowest c_lowest fun f cdv A outer s H E hr => 
(fss_cons (fs_asg (L := []) (fe_call (ok_divisor T) hr (fa_cons (fe_var 1) (fa_cons (fe_callB call_abs cd_abs T.b_abs (fa_cons (fe_var 0) fa_nil)) fa_nil))) (fg_name 2 c_lowest.nd))
(fss_one (fs_ret (L := []) (fe_tup (fa_cons (fe_op op_fdivW opd_div (fe_var 0) (fe_var 2)) (fa_cons (fe_op op_fdivW opd_div (fe_var 1) (fe_var 2)) fa_nil))))))

noncomputable def B_plus : Env → Out := (sRet [] (eCall F_lowest (aCons (eOp dAdd (eOp dMul (eOp dIx (eVar 0) (eC (.int 0))) (eOp dIx (eVar 1) (eC (.int 1)))) (eOp dMul (eOp dIx (eVar 1) (eC (.int 0))) (eOp dIx (eVar 0) (eC (.int 1))))) (aCons (eOp dMul (eOp dIx (eVar 0) (eC (.int 1))) (eOp dIx (eVar 1) (eC (.int 1)))) aNil))))
noncomputable def F_plus : List D → Res D := runD (["one", "other"] : List Str).length n_plus.length B_plus
theorem ok_plus {P : Program} {w : World} {K : PySem.W.Frag} {mg : Str → Option Value} {base : Heap} (T : Txt K mg) : OkF P w K mg base CX0 (2 + 1) "plus" ["one", "other"] (sp0 K F_plus) :=
  ok0 (g := B_plus) T.f_plus c_plus fun f cdv A outer s H E hr => 
(fss_one (fs_ret (L := []) (fe_call (ok_lowest T) hr (fa_cons (fe_op (op_addA K) opd_add (fe_op op_mulA opd_mul (fe_ix (ix_A (K := K) (u1 hr.units)) opd_ix (fe_var 0) fe_int) (fe_ix (ix_A (K := K) (u1 hr.units)) opd_ix (fe_var 1) fe_int)) (fe_op op_mulA opd_mul (fe_ix (ix_A (K := K) (u1 hr.units)) opd_ix (fe_var 1) fe_int) (fe_ix (ix_A (K := K) (u1 hr.units)) opd_ix (fe_var 0) fe_int))) (fa_cons (fe_op op_mulA opd_mul (fe_ix (ix_A (K := K) (u1 hr.units)) opd_ix (fe_var 0) fe_int) (fe_ix (ix_A (K := K) (u1 hr.units)) opd_ix (fe_var 1) fe_int)) fa_nil)))))

noncomputable def B_is_price : Env → Out := (sRet [] (eAnd (eCall F_is_fraction (aCons (eVar 0) aNil)) (eOp dGt (eOp dIx (eVar 0) (eC (.int 0))) (eC (.int 0)))))
theorem B_is_price_u (ρ : Env) : B_is_price ρ = (sRet [] (eAnd (eCall F_is_fraction (aCons (eVar 0) aNil)) (eOp dGt (eOp dIx (eVar 0) (eC (.int 0))) (eC (.int 0))))) ρ := rfl
noncomputable def F_is_price : List D → Res D := runD (["thing"] : List Str).length n_is_price.length B_is_price
theorem ok_is_price {P : Program} {w : World} {K : PySem.W.Frag} {mg : Str → Option Value} {base : Heap} (T : Txt K mg) : OkF P w K mg base CX0 (2 + 1) "is_price" ["thing"] (sp0 K F_is_price) :=
  ok0 (g := B_is_price) T.f_is_price c_is_price fun f cdv A outer s H E hr => 
(fss_one (fs_ret (L := []) (fe_and (fe_call (ok_is_fraction T) hr (fa_cons (fe_var 0) fa_nil)) (fe_one (fe_cmp op_gt opd_gt (fe_ix (ix_A (K := K) (u1 hr.units)) opd_ix (fe_var 0) fe_int) fe_int)))))

noncomputable def B_is_letter_tongues : Env → Out := (sRet [] (eAnd (eIsi "str" (eVar 0)) (eAnd (eOp dEq (eCall dLen (aCons (eVar 0) aNil)) (eC (.int 1))) (eOp (dIn false) (eVar 0) (eC (.str "abcdefghijklmnopqrstuvwxyz"))))))
theorem B_is_letter_tongues_u (ρ : Env) : B_is_letter_tongues ρ = (sRet [] (eAnd (eIsi "str" (eVar 0)) (eAnd (eOp dEq (eCall dLen (aCons (eVar 0) aNil)) (eC (.int 1))) (eOp (dIn false) (eVar 0) (eC (.str "abcdefghijklmnopqrstuvwxyz")))))) ρ := rfl
noncomputable def F_is_letter_tongues : List D → Res D := runD (["thing"] : List Str).length n_is_letter_tongues.length B_is_letter_tongues
theorem ok_is_letter_tongues {P : Program} {w : World} {K : PySem.W.Frag} {mg : Str → Option Value} {base : Heap} (T : Txt K mg) : OkF P w K mg base CX0 (0 + 1) "is_letter_tongues" ["thing"] (sp0 K F_is_letter_tongues) :=
  okA0 (g := B_is_letter_tongues) T.f_is_letter_tongues c_is_letter_tongues fun f cdv A outer s H E hr => have hu65 := u65 hr; 
(fss_one (fs_ret (L := []) (fe_and (fe_isi (t := "str") tn_str (fe_var 0) (pe_bltn (v := .ty "str") (by rfl) T.b_str (by decide +kernel) rfl) T.b_isinstance) (fe_and (fe_cmp (op_eqA (K := K) hr.units) opd_eq (fe_callB (cr_len (K := K)) cd_len T.b_len (fa_cons (fe_var 0) fa_nil)) fe_int) (fe_one (fe_cmp (op_inA (K := K) hu65) opd_inF (fe_var 0) (fe_gs T.g_LETTERS_tongues)))))))

noncomputable def B_is_sign : Env → Out := (sSeq (sIf [] (bOr (bNot (bT (eIsi "tuple" (eVar 0)))) (bT (eOp dNe (eCall dLen (aCons (eVar 0) aNil)) (eC (.int 3)))))
(sRet [] (eC (.bl false)))
sPass)
(sSeq (sAsg [] (eVar 0) (tgT [(tgN 1), (tgN 2), (tgN 3)]))
(sRet [] (eAnd (eCall F_is_letter_tongues (aCons (eVar 1) aNil)) (eAnd (eCall F_is_price (aCons (eVar 2) aNil)) (eOr (eOp dIsN (eVar 3) (eC .non)) (eCall F_is_price (aCons (eVar 3) aNil))))))))
theorem B_is_sign_u (ρ : Env) : B_is_sign ρ = (sSeq (sIf [] (bOr (bNot (bT (eIsi "tuple" (eVar 0)))) (bT (eOp dNe (eCall dLen (aCons (eVar 0) aNil)) (eC (.int 3)))))
(sRet [] (eC (.bl false)))
sPass)
(sSeq (sAsg [] (eVar 0) (tgT [(tgN 1), (tgN 2), (tgN 3)]))
(sRet [] (eAnd (eCall F_is_letter_tongues (aCons (eVar 1) aNil)) (eAnd (eCall F_is_price (aCons (eVar 2) aNil)) (eOr (eOp dIsN (eVar 3) (eC .non)) (eCall F_is_price (aCons (eVar 3) aNil)))))))) ρ := rfl
noncomputable def F_is_sign : List D → Res D := runD (["thing"] : List Str).length n_is_sign.length B_is_sign
theorem ok_is_sign {P : Program} {w : World} {K : PySem.W.Frag} {mg : Str → Option Value} {base : Heap} (T : Txt K mg) : OkF P w K mg base CX0 (3 + 1) "is_sign" ["thing"] (sp0 K F_is_sign) :=
  ok0 (g := B_is_sign) T.f_is_sign c_is_sign fun f cdv A outer s H E hr => 
(fss_cons (fs_if (L := []) (ft_w (fw_or (ft_not (ft_tru (fe_isi (t := "tuple") tn_tuple (fe_var 0) (pe_bltn (v := .ty "tuple") (by rfl) T.b_tuple (by decide +kernel) rfl) T.b_isinstance))) (fw_or1 (ft_cmp (op_neA (K := K) hr.units) opd_ne gb_ne (fe_callB (cr_len (K := K)) cd_len T.b_len (fa_cons (fe_var 0) fa_nil)) fe_int))))
(fss_one (fs_ret (L := []) fe_bl))
fss_nil)
(fss_cons (fs_asg (L := []) (fe_var 0) (fg_tup (fgs_cons (fg_name 1 c_is_sign.nd) (fgs_cons (fg_name 2 c_is_sign.nd) (fgs_cons (fg_name 3 c_is_sign.nd) fgs_nil)))))
(fss_one (fs_ret (L := []) (fe_and (fe_call (ok_is_letter_tongues T) hr (fa_cons (fe_var 1) fa_nil)) (fe_and (fe_call (ok_is_price T) hr (fa_cons (fe_var 2) fa_nil)) (fe_one (fe_or (fe_cmp op_isN opd_isN (fe_var 3) fe_non) (fe_one (fe_call (ok_is_price T) hr (fa_cons (fe_var 3) fa_nil)))))))))))

noncomputable def B_are_signs : Env → Out := (sSeq (sIf [] (bOr (bNot (bT (eIsi "list" (eVar 0)))) (bNot (bT (eChain dLe dLe (eC (.int 2)) (eCall dLen (aCons (eVar 0) aNil)) (eC (.int 6))))))
(sRet [] (eC (.bl false)))
sPass)
(sSeq (sIf [] (bNot (bT (eCall dAll (aCons (eComp [1] (iAny (eVar 0)) (tgN 1) bYes (eCall F_is_sign (aCons (eVar 1) aNil))) aNil))))
(sRet [] (eC (.bl false)))
sPass)
(sRet [] (eOp dEq (eLenSet (eComp [1] (iAny (eVar 0)) (tgN 1) bYes (eOp dIx (eVar 1) (eC (.int 0))))) (eCall dLen (aCons (eVar 0) aNil))))))
theorem B_are_signs_u (ρ : Env) : B_are_signs ρ = (sSeq (sIf [] (bOr (bNot (bT (eIsi "list" (eVar 0)))) (bNot (bT (eChain dLe dLe (eC (.int 2)) (eCall dLen (aCons (eVar 0) aNil)) (eC (.int 6))))))
(sRet [] (eC (.bl false)))
sPass)
(sSeq (sIf [] (bNot (bT (eCall dAll (aCons (eComp [1] (iAny (eVar 0)) (tgN 1) bYes (eCall F_is_sign (aCons (eVar 1) aNil))) aNil))))
(sRet [] (eC (.bl false)))
sPass)
(sRet [] (eOp dEq (eLenSet (eComp [1] (iAny (eVar 0)) (tgN 1) bYes (eOp dIx (eVar 1) (eC (.int 0))))) (eCall dLen (aCons (eVar 0) aNil)))))) ρ := rfl
noncomputable def F_are_signs : List D → Res D := runD (["thing"] : List Str).length n_are_signs.length B_are_signs
theorem ok_are_signs {P : Program} {w : World} {K : PySem.W.Frag} {mg : Str → Option Value} {base : Heap} (T : Txt K mg) : OkF P w K mg base CX0 (4 + 1) "are_signs" ["thing"] (sp0 K F_are_signs) :=
  ok0 (g := B_are_signs) T.f_are_signs c_are_signs fun f cdv A outer s H E hr => 
(fss_cons (fs_if (L := []) (ft_w (fw_or (ft_not (ft_tru (fe_isi (t := "list") tn_list (fe_var 0) (pe_bltn (v := .ty "list") (by rfl) T.b_list (by decide +kernel) rfl) T.b_isinstance))) (fw_or1 (ft_not (ft_chain op_le opd_le op_le opd_le gb_cmp (fe_gi T.g_FEWEST_SIGNS) (fe_callB (cr_len (K := K)) cd_len T.b_len (fa_cons (fe_var 0) fa_nil)) (fe_gi T.g_MOST_SIGNS))))))
(fss_one (fs_ret (L := []) fe_bl))
fss_nil)
(fss_cons (fs_if (L := []) (ft_not (ft_tru (fe_callB (cr_all_k K rfl) cd_all T.b_all (fa_cons (fe_comp [("one", 1)] c_are_signs.nd (fi_any (fe_var 0)) (fun _ _ _ _ _ => (fg_name 1 c_are_signs.nd)) (fun _ _ _ _ _ => fts_nil) (fun _ _ _ _ _ => (fe_call (ok_is_sign T) hr (fa_cons (fe_var 1) fa_nil))) (blkOk_by (own := [("one", 1)]) (N := n_are_signs) (sc := defScope s_are_signs) (by decide +kernel))) fa_nil))))
(fss_one (fs_ret (L := []) fe_bl))
fss_nil)
(fss_one (fs_ret (L := []) (fe_cmp (op_eqA (K := K) hr.units) opd_eq (fe_lenSet T.b_len T.b_set (fe_comp [("one", 1)] c_are_signs.nd (fi_any (fe_var 0)) (fun _ _ _ _ _ => (fg_name 1 c_are_signs.nd)) (fun _ _ _ _ _ => fts_nil) (fun _ _ _ _ _ => (fe_ix (ix_A (K := K) (u1 hr.units)) opd_ix (fe_var 1) fe_int)) (blkOk_by (own := [("one", 1)]) (N := n_are_signs) (sc := defScope s_are_signs) (by decide +kernel)))) (fe_callB (cr_len (K := K)) cd_len T.b_len (fa_cons (fe_var 0) fa_nil)))))))

noncomputable def B_are_unlike_texts_1 : Env → Out := (sSeq (sIf [] (bOr (bNot (bT (eIsi "str" (eVar 4)))) (bOr (bT (eOp dNe (eCall dLen (aCons (eVar 4) aNil)) (eVar 1))) (bT (eOp (dIn false) (eVar 4) (eSl (eVar 0) pNo (pYes (eVar 3)))))))
(sRet [] (eC (.bl false)))
sPass)
(sIf [] (bNot (bT (eCall dAll (aCons (eComp [5] (iAny (eVar 4)) (tgN 5) bYes (eOp (dIn false) (eVar 5) (eVar 2))) aNil))))
(sRet [] (eC (.bl false)))
sPass))
theorem B_are_unlike_texts_1_u (ρ : Env) : B_are_unlike_texts_1 ρ = (sSeq (sIf [] (bOr (bNot (bT (eIsi "str" (eVar 4)))) (bOr (bT (eOp dNe (eCall dLen (aCons (eVar 4) aNil)) (eVar 1))) (bT (eOp (dIn false) (eVar 4) (eSl (eVar 0) pNo (pYes (eVar 3)))))))
(sRet [] (eC (.bl false)))
sPass)
(sIf [] (bNot (bT (eCall dAll (aCons (eComp [5] (iAny (eVar 4)) (tgN 5) bYes (eOp (dIn false) (eVar 5) (eVar 2))) aNil))))
(sRet [] (eC (.bl false)))
sPass)) ρ := rfl
noncomputable def B_are_unlike_texts : Env → Out := (sSeq (sIf [] (bNot (bT (eIsi "list" (eVar 0))))
(sRet [] (eC (.bl false)))
sPass)
(sSeq (sFor [] (iEnumD (aCons (eVar 0) aNil)) (tgT [(tgN 3), (tgN 4)])
B_are_unlike_texts_1
[3, 4, 5])
(sRet [] (eC (.bl true)))))
theorem B_are_unlike_texts_u (ρ : Env) : B_are_unlike_texts ρ = (sSeq (sIf [] (bNot (bT (eIsi "list" (eVar 0))))
(sRet [] (eC (.bl false)))
sPass)
(sSeq (sFor [] (iEnumD (aCons (eVar 0) aNil)) (tgT [(tgN 3), (tgN 4)])
B_are_unlike_texts_1
[3, 4, 5])
(sRet [] (eC (.bl true))))) ρ := rfl
noncomputable def F_are_unlike_texts : List D → Res D := runD (["thing", "size", "letters"] : List Str).length n_are_unlike_texts.length B_are_unlike_texts
theorem ok_are_unlike_texts {P : Program} {w : World} {K : PySem.W.Frag} {mg : Str → Option Value} {base : Heap} (T : Txt K mg) : OkF P w K mg base CX0 (0 + 1) "are_unlike_texts" ["thing", "size", "letters"] (sp0 K F_are_unlike_texts) :=
  ok0 (g := B_are_unlike_texts) T.f_are_unlike_texts c_are_unlike_texts fun f cdv A outer s H E hr => have hu65 := u65 hr; 
(fss_cons (fs_if (L := []) (ft_not (ft_tru (fe_isi (t := "list") tn_list (fe_var 0) (pe_bltn (v := .ty "list") (by rfl) T.b_list (by decide +kernel) rfl) T.b_isinstance)))
(fss_one (fs_ret (L := []) fe_bl))
fss_nil)
(fss_cons (fs_for (L := []) [3, 4, 5] PassesOwn.never (fi_enum T.b_enumerate (fa_cons (fe_var 0) fa_nil) len1) (fg_tup (fgs_cons (fg_name 3 c_are_unlike_texts.nd) (fgs_cons (fg_name 4 c_are_unlike_texts.nd) fgs_nil)))
(fss_cons (fs_if (L := []) (ft_w (fw_or (ft_not (ft_tru (fe_isi (t := "str") tn_str (fe_var 4) (pe_bltn (v := .ty "str") (by rfl) T.b_str (by decide +kernel) rfl) T.b_isinstance))) (fw_or (ft_cmp (op_neA (K := K) hr.units) opd_ne gb_ne (fe_callB (cr_len (K := K)) cd_len T.b_len (fa_cons (fe_var 4) fa_nil)) (fe_var 1)) (fw_or1 (ft_cmp (op_inA (K := K) hu65) opd_inF gb_in (fe_var 4) (fe_sl (fe_var 0) fo_no (fo_yes (fe_var 3))))))))
(fss_one (fs_ret (L := []) fe_bl))
fss_nil)
(fss_one (fs_if (L := []) (ft_not (ft_tru (fe_callB (cr_all_k K rfl) cd_all T.b_all (fa_cons (fe_comp [("sign", 5)] c_are_unlike_texts.nd (fi_any (fe_var 4)) (fun _ _ _ _ _ => (fg_name 5 c_are_unlike_texts.nd)) (fun _ _ _ _ _ => fts_nil) (fun _ _ _ _ _ => (fe_cmp (op_inA (K := K) hu65) opd_inF (fe_var 5) (fe_var 2))) (blkOk_by (own := [("sign", 5)]) (N := n_are_unlike_texts) (sc := defScope s_are_unlike_texts) (by decide +kernel))) fa_nil))))
(fss_one (fs_ret (L := []) fe_bl))
fss_nil))))
(fss_one (fs_ret (L := []) fe_bl))))

noncomputable def B_look_at_tongue : Env → Out := (sSeq (sIf [] (bOr (bNot (bT (eIsi "tuple" (eVar 0)))) (bT (eOp dNe (eCall dLen (aCons (eVar 0) aNil)) (eC (.int 4)))))
(sRaiseI "NoTongue" "part" [] (eC .non))
sPass)
(sSeq (sAsg [] (eVar 0) (tgT [(tgN 1), (tgN 2), (tgN 3), (tgN 4)]))
(sSeq (sIf [] (bNot (bT (eCall F_are_signs (aCons (eVar 1) aNil))))
(sRaiseI "NoTongue" "part" [] (eC (.str "signs")))
sPass)
(sSeq (sOwn 5 [] (eComp [6] (iAny (eVar 1)) (tgN 6) bYes (eOp dIx (eVar 6) (eC (.int 0)))))
(sSeq (sIf [5] (bNot (bT (eCall F_are_unlike_texts (aCons (eVar 2) (aCons (eC (.int 1)) (aCons (eVar 5) aNil))))))
(sRaiseI "NoTongue" "part" [] (eC (.str "firsts")))
sPass)
(sSeq (sIf [5] (bNot (bT (eCall F_are_unlike_texts (aCons (eVar 3) (aCons (eC (.int 2)) (aCons (eVar 5) aNil))))))
(sRaiseI "NoTongue" "part" [] (eC (.str "pairs")))
sPass)
(sIf [] (bOr (bNot (bT (eCall F_is_whole (aCons (eVar 4) aNil)))) (bNot (bT (eChain dLe dLe (eC (.int 1)) (eVar 4) (eC (.int 8))))))
(sRaiseI "NoTongue" "part" [] (eC (.str "longest")))
sPass)))))))
noncomputable def F_look_at_tongue : List D → Res D := runD (["thing"] : List Str).length n_look_at_tongue.length B_look_at_tongue
noncomputable def BX_look_at_tongue : Env → Out := (sSeq (sIf [] (bOr (bNot (bT (eIsi "tuple" (eVar 0)))) (bT (eOp dNe (eCall dLen (aCons (eVar 0) aNil)) (eC (.int 4)))))
(sRaiseI "NoTongue" "part" [] (eC .non))
sPass)
(sSeq (sAsg [] (eVar 0) (tgT [(tgN 1), (tgN 2), (tgN 3), (tgN 4)]))
(sSeq (sIf [] (bNot (bT (eCall (nx F_are_signs) (aCons (eVar 1) aNil))))
(sRaiseI "NoTongue" "part" [] (eC (.str "signs")))
sPass)
(sSeq (sOwn 5 [] (eComp [6] (iAny (eVar 1)) (tgN 6) bYes (eOp dIx (eVar 6) (eC (.int 0)))))
(sSeq (sIf [5] (bNot (bT (eCall (nx F_are_unlike_texts) (aCons (eVar 2) (aCons (eC (.int 1)) (aCons (eVar 5) aNil))))))
(sRaiseI "NoTongue" "part" [] (eC (.str "firsts")))
sPass)
(sSeq (sIf [5] (bNot (bT (eCall (nx F_are_unlike_texts) (aCons (eVar 3) (aCons (eC (.int 2)) (aCons (eVar 5) aNil))))))
(sRaiseI "NoTongue" "part" [] (eC (.str "pairs")))
sPass)
(sIf [] (bOr (bNot (bT (eCall (nx F_is_whole) (aCons (eVar 4) aNil)))) (bNot (bT (eChain dLe dLe (eC (.int 1)) (eVar 4) (eC (.int 8))))))
(sRaiseI "NoTongue" "part" [] (eC (.str "longest")))
sPass)))))))
theorem BX_look_at_tongue_u (ρ : Env) : BX_look_at_tongue ρ = (sSeq (sIf [] (bOr (bNot (bT (eIsi "tuple" (eVar 0)))) (bT (eOp dNe (eCall dLen (aCons (eVar 0) aNil)) (eC (.int 4)))))
(sRaiseI "NoTongue" "part" [] (eC .non))
sPass)
(sSeq (sAsg [] (eVar 0) (tgT [(tgN 1), (tgN 2), (tgN 3), (tgN 4)]))
(sSeq (sIf [] (bNot (bT (eCall (nx F_are_signs) (aCons (eVar 1) aNil))))
(sRaiseI "NoTongue" "part" [] (eC (.str "signs")))
sPass)
(sSeq (sOwn 5 [] (eComp [6] (iAny (eVar 1)) (tgN 6) bYes (eOp dIx (eVar 6) (eC (.int 0)))))
(sSeq (sIf [5] (bNot (bT (eCall (nx F_are_unlike_texts) (aCons (eVar 2) (aCons (eC (.int 1)) (aCons (eVar 5) aNil))))))
(sRaiseI "NoTongue" "part" [] (eC (.str "firsts")))
sPass)
(sSeq (sIf [5] (bNot (bT (eCall (nx F_are_unlike_texts) (aCons (eVar 3) (aCons (eC (.int 2)) (aCons (eVar 5) aNil))))))
(sRaiseI "NoTongue" "part" [] (eC (.str "pairs")))
sPass)
(sIf [] (bOr (bNot (bT (eCall (nx F_is_whole) (aCons (eVar 4) aNil)))) (bNot (bT (eChain dLe dLe (eC (.int 1)) (eVar 4) (eC (.int 8))))))
(sRaiseI "NoTongue" "part" [] (eC (.str "longest")))
sPass))))))) ρ := rfl
noncomputable def FX_look_at_tongue : List D → Res D := runD (["thing"] : List Str).length n_look_at_tongue.length BX_look_at_tongue
theorem okX_look_at_tongue {P : Program} {w : World} {K : PySem.W.Frag} {mg : Str → Option Value} {base : Heap} (T : Txt K mg) : OkF P w K mg base (L2.CX P w) (5 + 1) "look_at_tongue" ["thing"] (spX K mg FX_look_at_tongue) :=
  okX (g := BX_look_at_tongue) T.f_look_at_tongue c_look_at_tongue fun f cdv A outer s H E hr => 
(fss_cons (fs_if (L := []) (ft_w (fw_or (ft_not (ft_tru (fe_isi (t := "tuple") tn_tuple (fe_var 0) (pe_bltn (v := .ty "tuple") (by rfl) T.b_tuple (by decide +kernel) rfl) T.b_isinstance))) (fw_or1 (ft_cmp (op_neA (K := K) hr.units) opd_ne gb_ne (fe_callB (cr_len (K := K)) cd_len T.b_len (fa_cons (fe_var 0) fa_nil)) fe_int))))
(fss_one (fs_raiseI (L := []) (c := "NoTongue") (f := "part") (takes_of rfl rfl rfl rfl) (oi_NoTongue T) hr fe_non))
fss_nil)
(fss_cons (fs_asg (L := []) (fe_var 0) (fg_tup (fgs_cons (fg_name 1 c_look_at_tongue.nd) (fgs_cons (fg_name 2 c_look_at_tongue.nd) (fgs_cons (fg_name 3 c_look_at_tongue.nd) (fgs_cons (fg_name 4 c_look_at_tongue.nd) fgs_nil))))))
(fss_cons (fs_if (L := []) (ft_not (ft_tru (fe_call1 (ok_are_signs T) hr (fa_cons (fe_var 1) fa_nil))))
(fss_one (fs_raiseI (L := []) (c := "NoTongue") (f := "part") (takes_of rfl rfl rfl rfl) (oi_NoTongue T) hr fe_str))
fss_nil)
(fss_cons (fs_ownLc (L := []) 5 [("one", 6)] c_look_at_tongue.nd (fi_any (fe_var 1)) (fun _ _ _ _ _ => (fg_name 6 c_look_at_tongue.nd)) (fun _ _ _ _ _ => fts_nil) (fun _ _ _ _ _ => (fe_ix (ix_A (K := K) (u1 hr.units)) opd_ix (fe_var 6) fe_int)) (blkOk_by (own := [("one", 6)]) (N := n_look_at_tongue) (sc := defScope s_look_at_tongue) (by decide +kernel)) (sw_true rfl rfl rfl (by decide +kernel)))
(fss_cons (fs_if (L := [5]) (ft_not (ft_tru (fe_call1 (ok_are_unlike_texts T) hr (fa_cons (fe_var 2) (fa_cons fe_int (fa_cons (fe_var 5) fa_nil))))))
(fss_one (fs_raiseI (L := []) (c := "NoTongue") (f := "part") (takes_of rfl rfl rfl rfl) (oi_NoTongue T) hr fe_str))
fss_nil)
(fss_cons (fs_if (L := [5]) (ft_not (ft_tru (fe_call1 (ok_are_unlike_texts T) hr (fa_cons (fe_var 3) (fa_cons fe_int (fa_cons (fe_var 5) fa_nil))))))
(fss_one (fs_raiseI (L := []) (c := "NoTongue") (f := "part") (takes_of rfl rfl rfl rfl) (oi_NoTongue T) hr fe_str))
fss_nil)
(fss_one (fs_if (L := []) (ft_w (fw_or (ft_not (ft_tru (fe_call1 (ok_is_whole T) hr (fa_cons (fe_var 4) fa_nil)))) (fw_or1 (ft_not (ft_chain op_le opd_le op_le opd_le gb_cmp fe_int (fe_var 4) (fe_gi T.g_LONGEST_tongues))))))
(fss_one (fs_raiseI (L := []) (c := "NoTongue") (f := "part") (takes_of rfl rfl rfl rfl) (oi_NoTongue T) hr fe_str))
fss_nil))))))))

noncomputable def BX_may_come : Env → Out := (sSeq (sExpr [] (eCall FX_look_at_tongue (aCons (eVar 0) aNil)))
sBad)
theorem BX_may_come_u (ρ : Env) : BX_may_come ρ = (sSeq (sExpr [] (eCall FX_look_at_tongue (aCons (eVar 0) aNil)))
sBad) ρ := rfl
noncomputable def FX_may_come : List D → Res D := runD (["tongue", "ahead", "sign"] : List Str).length n_may_come.length BX_may_come
theorem okX_may_come {P : Program} {w : World} {K : PySem.W.Frag} {mg : Str → Option Value} {base : Heap} (T : Txt K mg) : OkF P w K mg base (L2.CX P w) (6 + 1) "may_come" ["tongue", "ahead", "sign"] (spX K mg FX_may_come) :=
  okX (g := BX_may_come) T.f_may_come c_may_come fun f cdv A outer s H E hr => 
(fss_cons (fs_expr (L := []) (fe_callX (okX_look_at_tongue T) hr (takes_of rfl rfl rfl rfl) (fa_cons (fe_var 0) fa_nil)))
fss_any)

noncomputable def B_lasts_in : Env → Out := (sRet [] (eCall dDict (aCons (eComp [1, 2, 3] (iAny (eOp dIx (eVar 0) (eC (.int 0)))) (tgT [(tgN 1), (tgN 2), (tgN 3)]) bYes (eTup (aCons (eVar 1) (aCons (eVar 3) aNil)))) aNil)))
noncomputable def F_lasts_in : List D → Res D := runD (["tongue"] : List Str).length n_lasts_in.length B_lasts_in
theorem ok_lasts_in {P : Program} {w : World} {K : PySem.W.Frag} {mg : Str → Option Value} {base : Heap} (T : Txt K mg) : OkF P w K mg base CX0 (0 + 1) "lasts_in" ["tongue"] (sp0 K F_lasts_in) :=
  ok0 (g := B_lasts_in) T.f_lasts_in c_lasts_in fun f cdv A outer s H E hr => 
(fss_one (fs_ret (L := []) (fe_callT (call_dictP_k K rfl) cd_dict T.b_dict (fa_cons (fe_comp [("sign", 1), ("price", 2), ("last", 3)] c_lasts_in.nd (fi_any (fe_ix (ix_A (K := K) (u1 hr.units)) opd_ix (fe_var 0) fe_int)) (fun _ _ _ _ _ => (fg_tup (fgs_cons (fg_name 1 c_lasts_in.nd) (fgs_cons (fg_name 2 c_lasts_in.nd) (fgs_cons (fg_name 3 c_lasts_in.nd) fgs_nil))))) (fun _ _ _ _ _ => fts_nil) (fun _ _ _ _ _ => (fe_tup (fa_cons (fe_var 1) (fa_cons (fe_var 3) fa_nil)))) (blkOk_by (own := [("sign", 1), ("price", 2), ("last", 3)]) (N := n_lasts_in) (sc := defScope s_lasts_in) (by decide +kernel))) fa_nil))))

noncomputable def BX_may_stand : Env → Out := (sSeq (sExpr [] (eCall FX_look_at_tongue (aCons (eVar 0) aNil)))
sBad)
theorem BX_may_stand_u (ρ : Env) : BX_may_stand ρ = (sSeq (sExpr [] (eCall FX_look_at_tongue (aCons (eVar 0) aNil)))
sBad) ρ := rfl
noncomputable def FX_may_stand : List D → Res D := runD (["tongue", "thing"] : List Str).length n_may_stand.length BX_may_stand
theorem okX_may_stand {P : Program} {w : World} {K : PySem.W.Frag} {mg : Str → Option Value} {base : Heap} (T : Txt K mg) : OkF P w K mg base (L2.CX P w) (6 + 1) "may_stand" ["tongue", "thing"] (spX K mg FX_may_stand) :=
  okX (g := BX_may_stand) T.f_may_stand c_may_stand fun f cdv A outer s H E hr => 
(fss_cons (fs_expr (L := []) (fe_callX (okX_look_at_tongue T) hr (takes_of rfl rfl rfl rfl) (fa_cons (fe_var 0) fa_nil)))
fss_any)

noncomputable def BX_is_word : Env → Out := (sSeq (sExpr [] (eCall FX_look_at_tongue (aCons (eVar 0) aNil)))
sBad)
theorem BX_is_word_u (ρ : Env) : BX_is_word ρ = (sSeq (sExpr [] (eCall FX_look_at_tongue (aCons (eVar 0) aNil)))
sBad) ρ := rfl
noncomputable def FX_is_word : List D → Res D := runD (["tongue", "thing"] : List Str).length n_is_word.length BX_is_word
theorem okX_is_word {P : Program} {w : World} {K : PySem.W.Frag} {mg : Str → Option Value} {base : Heap} (T : Txt K mg) : OkF P w K mg base (L2.CX P w) (6 + 1) "is_word" ["tongue", "thing"] (spX K mg FX_is_word) :=
  okX (g := BX_is_word) T.f_is_word c_is_word fun f cdv A outer s H E hr => 
(fss_cons (fs_expr (L := []) (fe_callX (okX_look_at_tongue T) hr (takes_of rfl rfl rfl rfl) (fa_cons (fe_var 0) fa_nil)))
fss_any)

noncomputable def BX_way_of : Env → Out := (sSeq (sExpr [] (eCall FX_look_at_tongue (aCons (eVar 0) aNil)))
sBad)
theorem BX_way_of_u (ρ : Env) : BX_way_of ρ = (sSeq (sExpr [] (eCall FX_look_at_tongue (aCons (eVar 0) aNil)))
sBad) ρ := rfl
noncomputable def FX_way_of : List D → Res D := runD (["tongue", "text"] : List Str).length n_way_of.length BX_way_of
theorem okX_way_of {P : Program} {w : World} {K : PySem.W.Frag} {mg : Str → Option Value} {base : Heap} (T : Txt K mg) : OkF P w K mg base (L2.CX P w) (6 + 1) "way_of" ["tongue", "text"] (spX K mg FX_way_of) :=
  okX (g := BX_way_of) T.f_way_of c_way_of fun f cdv A outer s H E hr => 
(fss_cons (fs_expr (L := []) (fe_callX (okX_look_at_tongue T) hr (takes_of rfl rfl rfl rfl) (fa_cons (fe_var 0) fa_nil)))
fss_any)

noncomputable def BX_price_of : Env → Out := (sRet [] (eCall (nx F_plus) (aCons (eCall FX_way_of (aCons (eVar 0) (aCons (eSl (eVar 1) pNo (pYes (eUn dNeg (eC (.int 1))))) aNil))) (aCons (eOp dIx (eCall (nx F_lasts_in) (aCons (eVar 0) aNil)) (eOp dIx (eVar 1) (eUn dNeg (eC (.int 1))))) aNil))))
theorem BX_price_of_u (ρ : Env) : BX_price_of ρ = (sRet [] (eCall (nx F_plus) (aCons (eCall FX_way_of (aCons (eVar 0) (aCons (eSl (eVar 1) pNo (pYes (eUn dNeg (eC (.int 1))))) aNil))) (aCons (eOp dIx (eCall (nx F_lasts_in) (aCons (eVar 0) aNil)) (eOp dIx (eVar 1) (eUn dNeg (eC (.int 1))))) aNil)))) ρ := rfl
noncomputable def FX_price_of : List D → Res D := runD (["tongue", "word"] : List Str).length n_price_of.length BX_price_of
theorem okX_price_of {P : Program} {w : World} {K : PySem.W.Frag} {mg : Str → Option Value} {base : Heap} (T : Txt K mg) : OkF P w K mg base (L2.CX P w) (7 + 1) "price_of" ["tongue", "word"] (spX K mg FX_price_of) :=
  okX (g := BX_price_of) T.f_price_of c_price_of fun f cdv A outer s H E hr => 
(fss_one (fs_ret (L := []) (fe_call1 (ok_plus T) hr (fa_cons (fe_callX (okX_way_of T) hr (takes_of rfl rfl rfl rfl) (fa_cons (fe_var 0) (fa_cons (fe_sl (fe_var 1) fo_no (fo_yes (fe_un un_neg und_neg fe_int))) fa_nil))) (fa_cons (fe_ix (ix_A (K := K) (u1 hr.units)) opd_ix (fe_call1 (ok_lasts_in T) hr (fa_cons (fe_var 0) fa_nil)) (fe_ix (ix_A (K := K) (u1 hr.units)) opd_ix (fe_var 1) (fe_un un_neg und_neg fe_int))) fa_nil)))))

noncomputable def BX_counts_by_length : Env → Out := (sSeq (sExpr [] (eCall FX_look_at_tongue (aCons (eVar 0) aNil)))
sBad)
theorem BX_counts_by_length_u (ρ : Env) : BX_counts_by_length ρ = (sSeq (sExpr [] (eCall FX_look_at_tongue (aCons (eVar 0) aNil)))
sBad) ρ := rfl
noncomputable def FX_counts_by_length : List D → Res D := runD (["tongue"] : List Str).length n_counts_by_length.length BX_counts_by_length
theorem okX_counts_by_length {P : Program} {w : World} {K : PySem.W.Frag} {mg : Str → Option Value} {base : Heap} (T : Txt K mg) : OkF P w K mg base (L2.CX P w) (6 + 1) "counts_by_length" ["tongue"] (spX K mg FX_counts_by_length) :=
  okX (g := BX_counts_by_length) T.f_counts_by_length c_counts_by_length fun f cdv A outer s H E hr => 
(fss_cons (fs_expr (L := []) (fe_callX (okX_look_at_tongue T) hr (takes_of rfl rfl rfl rfl) (fa_cons (fe_var 0) fa_nil)))
fss_any)

noncomputable def BX_word_counts : Env → Out := (sSeq (sAsg [] (eCall FX_counts_by_length (aCons (eVar 0) aNil)) (tgN 1))
sBad)
theorem BX_word_counts_u (ρ : Env) : BX_word_counts ρ = (sSeq (sAsg [] (eCall FX_counts_by_length (aCons (eVar 0) aNil)) (tgN 1))
sBad) ρ := rfl
noncomputable def FX_word_counts : List D → Res D := runD (["tongue"] : List Str).length n_word_counts.length BX_word_counts
theorem okX_word_counts {P : Program} {w : World} {K : PySem.W.Frag} {mg : Str → Option Value} {base : Heap} (T : Txt K mg) : OkF P w K mg base (L2.CX P w) (7 + 1) "word_counts" ["tongue"] (spX K mg FX_word_counts) :=
  okX (g := BX_word_counts) T.f_word_counts c_word_counts fun f cdv A outer s H E hr => 
(fss_cons (fs_asg (L := []) (fe_callX (okX_counts_by_length T) hr (takes_of rfl rfl rfl rfl) (fa_cons (fe_var 0) fa_nil)) (fg_name 1 c_word_counts.nd))
fss_any)

noncomputable def BX_text_counts : Env → Out := (sRet [] (eComp [1] (iAny (eCall FX_counts_by_length (aCons (eVar 0) aNil))) (tgN 1) bYes (eCall dSum (aCons (eComp [2] (iAny (eVar 1)) (tgN 2) bYes (eOp dIx (eVar 1) (eVar 2))) aNil))))
theorem BX_text_counts_u (ρ : Env) : BX_text_counts ρ = (sRet [] (eComp [1] (iAny (eCall FX_counts_by_length (aCons (eVar 0) aNil))) (tgN 1) bYes (eCall dSum (aCons (eComp [2] (iAny (eVar 1)) (tgN 2) bYes (eOp dIx (eVar 1) (eVar 2))) aNil)))) ρ := rfl
noncomputable def FX_text_counts : List D → Res D := runD (["tongue"] : List Str).length n_text_counts.length BX_text_counts
theorem okX_text_counts {P : Program} {w : World} {K : PySem.W.Frag} {mg : Str → Option Value} {base : Heap} (T : Txt K mg) : OkF P w K mg base (L2.CX P w) (7 + 1) "text_counts" ["tongue"] (spX K mg FX_text_counts) :=
  okX (g := BX_text_counts) T.f_text_counts c_text_counts fun f cdv A outer s H E hr => 
(fss_one (fs_ret (L := []) (fe_comp [("counts", 1)] c_text_counts.nd (fi_any (fe_callX (okX_counts_by_length T) hr (takes_of rfl rfl rfl rfl) (fa_cons (fe_var 0) fa_nil))) (fun _ _ _ _ _ => (fg_name 1 c_text_counts.nd)) (fun _ _ _ _ _ => fts_nil) (fun _ _ _ _ _ => (fe_callB (cr_sum_k K rfl) cd_sum T.b_sum (fa_cons (fe_comp [("sign", 2)] c_text_counts.nd (fi_any (fe_var 1)) (fun _ _ _ _ _ => (fg_name 2 c_text_counts.nd)) (fun _ _ _ _ _ => fts_nil) (fun _ _ _ _ _ => (fe_ix (ix_A (K := K) (u1 hr.units)) opd_ix (fe_var 1) (fe_var 2))) (blkIn' (own := [("sign", 2)]) (N := n_text_counts) rfl rfl (by rfl))) fa_nil))) (blkOk_by (own := [("counts", 1)]) (N := n_text_counts) (sc := defScope s_text_counts) (by decide +kernel)))))

noncomputable def BX_words_of : Env → Out := (sSeq (sIf [] (bT (eOp dGt (eCall dSum (aCons (eCall FX_word_counts (aCons (eVar 0) aNil)) aNil)) (eC (.int 5000))))
(sRaise ⟨"TooMany", []⟩)
sPass)
sBad)
theorem BX_words_of_u (ρ : Env) : BX_words_of ρ = (sSeq (sIf [] (bT (eOp dGt (eCall dSum (aCons (eCall FX_word_counts (aCons (eVar 0) aNil)) aNil)) (eC (.int 5000))))
(sRaise ⟨"TooMany", []⟩)
sPass)
sBad) ρ := rfl
noncomputable def FX_words_of : List D → Res D := runD (["tongue"] : List Str).length n_words_of.length BX_words_of
theorem okX_words_of {P : Program} {w : World} {K : PySem.W.Frag} {mg : Str → Option Value} {base : Heap} (T : Txt K mg) : OkF P w K mg base (L2.CX P w) (8 + 1) "words_of" ["tongue"] (spX K mg FX_words_of) :=
  okX (g := BX_words_of) T.f_words_of c_words_of fun f cdv A outer s H E hr => 
(fss_cons (fs_if (L := []) (ft_cmp op_gt opd_gt gb_cmp (fe_callB (cr_sum_k K rfl) cd_sum T.b_sum (fa_cons (fe_callX (okX_word_counts T) hr (takes_of rfl rfl rfl rfl) (fa_cons (fe_var 0) fa_nil)) fa_nil)) (fe_gi T.g_MOST_WORDS_words))
(fss_one (fs_raiseN (c := "TooMany") (takes_of rfl rfl rfl rfl) T.X_TooMany))
fss_nil)
fss_any)

noncomputable def B_is_want : Env → Out := (sSeq (sIf [] (bOr (bNot (bT (eIsi "tuple" (eVar 0)))) (bOr (bT (eOp dNe (eCall dLen (aCons (eVar 0) aNil)) (eC (.int 2)))) (bNot (bT (eCall F_is_name (aCons (eOp dIx (eVar 0) (eC (.int 0))) aNil))))))
(sRet [] (eC (.bl false)))
sPass)
(sRet [] (eAnd (eCall F_is_whole (aCons (eOp dIx (eVar 0) (eC (.int 1))) aNil)) (eChain dLe dLe (eC (.int 0)) (eOp dIx (eVar 0) (eC (.int 1))) (eC (.int 1000000000))))))
theorem B_is_want_u (ρ : Env) : B_is_want ρ = (sSeq (sIf [] (bOr (bNot (bT (eIsi "tuple" (eVar 0)))) (bOr (bT (eOp dNe (eCall dLen (aCons (eVar 0) aNil)) (eC (.int 2)))) (bNot (bT (eCall F_is_name (aCons (eOp dIx (eVar 0) (eC (.int 0))) aNil))))))
(sRet [] (eC (.bl false)))
sPass)
(sRet [] (eAnd (eCall F_is_whole (aCons (eOp dIx (eVar 0) (eC (.int 1))) aNil)) (eChain dLe dLe (eC (.int 0)) (eOp dIx (eVar 0) (eC (.int 1))) (eC (.int 1000000000)))))) ρ := rfl
noncomputable def F_is_want : List D → Res D := runD (["thing"] : List Str).length n_is_want.length B_is_want
theorem ok_is_want {P : Program} {w : World} {K : PySem.W.Frag} {mg : Str → Option Value} {base : Heap} (T : Txt K mg) : OkF P w K mg base CX0 (1 + 1) "is_want" ["thing"] (sp0 K F_is_want) :=
  ok0 (g := B_is_want) T.f_is_want c_is_want fun f cdv A outer s H E hr => 
(fss_cons (fs_if (L := []) (ft_w (fw_or (ft_not (ft_tru (fe_isi (t := "tuple") tn_tuple (fe_var 0) (pe_bltn (v := .ty "tuple") (by rfl) T.b_tuple (by decide +kernel) rfl) T.b_isinstance))) (fw_or (ft_cmp (op_neA (K := K) hr.units) opd_ne gb_ne (fe_callB (cr_len (K := K)) cd_len T.b_len (fa_cons (fe_var 0) fa_nil)) fe_int) (fw_or1 (ft_not (ft_tru (fe_call (ok_is_name T) hr (fa_cons (fe_ix (ix_A (K := K) (u1 hr.units)) opd_ix (fe_var 0) fe_int) fa_nil))))))))
(fss_one (fs_ret (L := []) fe_bl))
fss_nil)
(fss_one (fs_ret (L := []) (fe_and (fe_call (ok_is_whole T) hr (fa_cons (fe_ix (ix_A (K := K) (u1 hr.units)) opd_ix (fe_var 0) fe_int) fa_nil)) (fe_one (fe_chain op_le opd_le op_le opd_le fe_int (fe_ix (ix_A (K := K) (u1 hr.units)) opd_ix (fe_var 0) fe_int) (fe_gi T.g_GREATEST_COUNT)))))))

noncomputable def B_look_at_wants_1 : Env → Out := (sSeq (sIf [1] (bOr (bNot (bT (eCall F_is_want (aCons (eVar 3) aNil)))) (bT (eOp (dIn false) (eOp dIx (eVar 3) (eC (.int 0))) (eVar 1))))
(sRaiseI "NoWants" "number" [] (eVar 2))
sPass)
(sPutD 1 [] (eC (.bl true)) (eOp dIx (eVar 3) (eC (.int 0)))))
noncomputable def B_look_at_wants : Env → Out := (sSeq (sIf [] (bOr (bNot (bT (eIsi "list" (eVar 0)))) (bNot (bT (eChain dLe dLe (eC (.int 1)) (eCall dLen (aCons (eVar 0) aNil)) (eC (.int 20))))))
(sRaiseI "NoWants" "number" [] (eC .non))
sPass)
(sSeq (sOwn 1 [] eDct0)
(sFor [] (iEnumD (aCons (eVar 0) aNil)) (tgT [(tgN 2), (tgN 3)])
B_look_at_wants_1
[2, 3])))
noncomputable def F_look_at_wants : List D → Res D := runD (["thing"] : List Str).length n_look_at_wants.length B_look_at_wants
noncomputable def BX_look_at_wants_1 : Env → Out := (sSeq (sIf [1] (bOr (bNot (bT (eCall (nx F_is_want) (aCons (eVar 3) aNil)))) (bT (eOp (dIn false) (eOp dIx (eVar 3) (eC (.int 0))) (eVar 1))))
(sRaiseI "NoWants" "number" [] (eVar 2))
sPass)
(sPutD 1 [] (eC (.bl true)) (eOp dIx (eVar 3) (eC (.int 0)))))
theorem BX_look_at_wants_1_u (ρ : Env) : BX_look_at_wants_1 ρ = (sSeq (sIf [1] (bOr (bNot (bT (eCall (nx F_is_want) (aCons (eVar 3) aNil)))) (bT (eOp (dIn false) (eOp dIx (eVar 3) (eC (.int 0))) (eVar 1))))
(sRaiseI "NoWants" "number" [] (eVar 2))
sPass)
(sPutD 1 [] (eC (.bl true)) (eOp dIx (eVar 3) (eC (.int 0))))) ρ := rfl
noncomputable def BX_look_at_wants : Env → Out := (sSeq (sIf [] (bOr (bNot (bT (eIsi "list" (eVar 0)))) (bNot (bT (eChain dLe dLe (eC (.int 1)) (eCall dLen (aCons (eVar 0) aNil)) (eC (.int 20))))))
(sRaiseI "NoWants" "number" [] (eC .non))
sPass)
(sSeq (sOwn 1 [] eDct0)
(sFor [] (iEnumD (aCons (eVar 0) aNil)) (tgT [(tgN 2), (tgN 3)])
BX_look_at_wants_1
[2, 3])))
theorem BX_look_at_wants_u (ρ : Env) : BX_look_at_wants ρ = (sSeq (sIf [] (bOr (bNot (bT (eIsi "list" (eVar 0)))) (bNot (bT (eChain dLe dLe (eC (.int 1)) (eCall dLen (aCons (eVar 0) aNil)) (eC (.int 20))))))
(sRaiseI "NoWants" "number" [] (eC .non))
sPass)
(sSeq (sOwn 1 [] eDct0)
(sFor [] (iEnumD (aCons (eVar 0) aNil)) (tgT [(tgN 2), (tgN 3)])
BX_look_at_wants_1
[2, 3]))) ρ := rfl
noncomputable def FX_look_at_wants : List D → Res D := runD (["thing"] : List Str).length n_look_at_wants.length BX_look_at_wants
theorem okX_look_at_wants {P : Program} {w : World} {K : PySem.W.Frag} {mg : Str → Option Value} {base : Heap} (T : Txt K mg) : OkF P w K mg base (L2.CX P w) (2 + 1) "look_at_wants" ["thing"] (spX K mg FX_look_at_wants) :=
  okX (g := BX_look_at_wants) T.f_look_at_wants c_look_at_wants fun f cdv A outer s H E hr => have hu65 := u65 hr; 
(fss_cons (fs_if (L := []) (ft_w (fw_or (ft_not (ft_tru (fe_isi (t := "list") tn_list (fe_var 0) (pe_bltn (v := .ty "list") (by rfl) T.b_list (by decide +kernel) rfl) T.b_isinstance))) (fw_or1 (ft_not (ft_chain op_le opd_le op_le opd_le gb_cmp fe_int (fe_callB (cr_len (K := K)) cd_len T.b_len (fa_cons (fe_var 0) fa_nil)) (fe_gi T.g_MOST_THINGS_wants))))))
(fss_one (fs_raiseI (L := []) (c := "NoWants") (f := "number") (takes_of rfl rfl rfl rfl) (oi_NoWants T) hr fe_non))
fss_nil)
(fss_cons (fs_own (L := []) 1 fw_dct0 c_look_at_wants.nd)
(fss_one (fs_for (L := []) [2, 3] (passes_of rfl) (fi_enum T.b_enumerate (fa_cons (fe_var 0) fa_nil) len1) (fg_tup (fgs_cons (fg_name 2 c_look_at_wants.nd) (fgs_cons (fg_name 3 c_look_at_wants.nd) fgs_nil)))
(fss_cons (fs_if (L := [1]) (ft_w (fw_or (ft_not (ft_tru (fe_call1 (ok_is_want T) hr (fa_cons (fe_var 3) fa_nil)))) (fw_or1 (ft_cmp (op_inA (K := K) hu65) opd_inF gb_in (fe_ix (ix_A (K := K) (u1 hr.units)) opd_ix (fe_var 3) fe_int) (fe_var 1)))))
(fss_one (fs_raiseI (L := []) (c := "NoWants") (f := "number") (takes_of rfl rfl rfl rfl) (oi_NoWants T) hr (fe_var 2)))
fss_nil)
(fss_one (fs_putD (L := []) 1 (u1 hr.units) fe_bl (fe_ix (ix_A (K := K) (u1 hr.units)) opd_ix (fe_var 3) fe_int))))))))

noncomputable def BX_lets_floors : Env → Out := (sSeq (sExpr [] (eCall FX_look_at_tongue (aCons (eVar 0) aNil)))
(sSeq (sExpr [] (eCall FX_look_at_wants (aCons (eVar 1) aNil)))
sBad))
theorem BX_lets_floors_u (ρ : Env) : BX_lets_floors ρ = (sSeq (sExpr [] (eCall FX_look_at_tongue (aCons (eVar 0) aNil)))
(sSeq (sExpr [] (eCall FX_look_at_wants (aCons (eVar 1) aNil)))
sBad)) ρ := rfl
noncomputable def FX_lets_floors : List D → Res D := runD (["tongue", "wants", "thing", "ordered"] : List Str).length n_lets_floors.length BX_lets_floors
theorem okX_lets_floors {P : Program} {w : World} {K : PySem.W.Frag} {mg : Str → Option Value} {base : Heap} (T : Txt K mg) : OkF P w K mg base (L2.CX P w) (7 + 1) "lets_floors" ["tongue", "wants", "thing", "ordered"] (spX K mg FX_lets_floors) :=
  okX (g := BX_lets_floors) T.f_lets_floors c_lets_floors fun f cdv A outer s H E hr => 
(fss_cons (fs_expr (L := []) (fe_callX (okX_look_at_tongue T) hr (takes_of rfl rfl rfl rfl) (fa_cons (fe_var 0) fa_nil)))
(fss_cons (fs_expr (L := []) (fe_callX (okX_look_at_wants T) hr (takes_of rfl rfl rfl rfl) (fa_cons (fe_var 1) fa_nil)))
fss_any))

noncomputable def BX_claim_of_floors : Env → Out := (sSeq (sExpr [] (eCall FX_look_at_wants (aCons (eVar 0) aNil)))
sBad)
theorem BX_claim_of_floors_u (ρ : Env) : BX_claim_of_floors ρ = (sSeq (sExpr [] (eCall FX_look_at_wants (aCons (eVar 0) aNil)))
sBad) ρ := rfl
noncomputable def FX_claim_of_floors : List D → Res D := runD (["wants", "floors"] : List Str).length n_claim_of_floors.length BX_claim_of_floors
theorem okX_claim_of_floors {P : Program} {w : World} {K : PySem.W.Frag} {mg : Str → Option Value} {base : Heap} (T : Txt K mg) : OkF P w K mg base (L2.CX P w) (3 + 1) "claim_of_floors" ["wants", "floors"] (spX K mg FX_claim_of_floors) :=
  okX (g := BX_claim_of_floors) T.f_claim_of_floors c_claim_of_floors fun f cdv A outer s H E hr => 
(fss_cons (fs_expr (L := []) (fe_callX (okX_look_at_wants T) hr (takes_of rfl rfl rfl rfl) (fa_cons (fe_var 0) fa_nil)))
fss_any)

noncomputable def BX_sets_by_size : Env → Out := (sSeq (sExpr [] (eCall FX_look_at_tongue (aCons (eVar 0) aNil)))
sBad)
theorem BX_sets_by_size_u (ρ : Env) : BX_sets_by_size ρ = (sSeq (sExpr [] (eCall FX_look_at_tongue (aCons (eVar 0) aNil)))
sBad) ρ := rfl
noncomputable def FX_sets_by_size : List D → Res D := runD (["tongue", "most"] : List Str).length n_sets_by_size.length BX_sets_by_size
theorem okX_sets_by_size {P : Program} {w : World} {K : PySem.W.Frag} {mg : Str → Option Value} {base : Heap} (T : Txt K mg) : OkF P w K mg base (L2.CX P w) (6 + 1) "sets_by_size" ["tongue", "most"] (spX K mg FX_sets_by_size) :=
  okX (g := BX_sets_by_size) T.f_sets_by_size c_sets_by_size fun f cdv A outer s H E hr => 
(fss_cons (fs_expr (L := []) (fe_callX (okX_look_at_tongue T) hr (takes_of rfl rfl rfl rfl) (fa_cons (fe_var 0) fa_nil)))
fss_any)

noncomputable def BX_books_many : Env → Out := (sSeq (sAsg [] (eOp dIx (eCall FX_sets_by_size (aCons (eVar 0) (aCons (eVar 1) aNil))) (eVar 1)) (tgN 3))
sBad)
theorem BX_books_many_u (ρ : Env) : BX_books_many ρ = (sSeq (sAsg [] (eOp dIx (eCall FX_sets_by_size (aCons (eVar 0) (aCons (eVar 1) aNil))) (eVar 1)) (tgN 3))
sBad) ρ := rfl
noncomputable def FX_books_many : List D → Res D := runD (["tongue", "many", "ordered"] : List Str).length n_books_many.length BX_books_many
theorem okX_books_many {P : Program} {w : World} {K : PySem.W.Frag} {mg : Str → Option Value} {base : Heap} (T : Txt K mg) : OkF P w K mg base (L2.CX P w) (7 + 1) "books_many" ["tongue", "many", "ordered"] (spX K mg FX_books_many) :=
  okX (g := BX_books_many) T.f_books_many c_books_many fun f cdv A outer s H E hr => 
(fss_cons (fs_asg (L := []) (fe_ix (ix_A (K := K) (u1 hr.units)) opd_ix (fe_callX (okX_sets_by_size T) hr (takes_of rfl rfl rfl rfl) (fa_cons (fe_var 0) (fa_cons (fe_var 1) fa_nil))) (fe_var 1)) (fg_name 3 c_books_many.nd))
fss_any)

noncomputable def BX_all_books : Env → Out := (sSeq (sExpr [] (eCall FX_look_at_tongue (aCons (eVar 0) aNil)))
sBad)
theorem BX_all_books_u (ρ : Env) : BX_all_books ρ = (sSeq (sExpr [] (eCall FX_look_at_tongue (aCons (eVar 0) aNil)))
sBad) ρ := rfl
noncomputable def FX_all_books : List D → Res D := runD (["tongue", "many", "ordered"] : List Str).length n_all_books.length BX_all_books
theorem okX_all_books {P : Program} {w : World} {K : PySem.W.Frag} {mg : Str → Option Value} {base : Heap} (T : Txt K mg) : OkF P w K mg base (L2.CX P w) (8 + 1) "all_books" ["tongue", "many", "ordered"] (spX K mg FX_all_books) :=
  okX (g := BX_all_books) T.f_all_books c_all_books fun f cdv A outer s H E hr => 
(fss_cons (fs_expr (L := []) (fe_callX (okX_look_at_tongue T) hr (takes_of rfl rfl rfl rfl) (fa_cons (fe_var 0) fa_nil)))
fss_any)

noncomputable def BX_costs_of_all : Env → Out := (sSeq (sExpr [] (eCall FX_look_at_tongue (aCons (eVar 0) aNil)))
(sSeq (sExpr [] (eCall FX_look_at_wants (aCons (eVar 1) aNil)))
sBad))
theorem BX_costs_of_all_u (ρ : Env) : BX_costs_of_all ρ = (sSeq (sExpr [] (eCall FX_look_at_tongue (aCons (eVar 0) aNil)))
(sSeq (sExpr [] (eCall FX_look_at_wants (aCons (eVar 1) aNil)))
sBad)) ρ := rfl
noncomputable def FX_costs_of_all : List D → Res D := runD (["tongue", "wants", "ordered"] : List Str).length n_costs_of_all.length BX_costs_of_all
theorem okX_costs_of_all {P : Program} {w : World} {K : PySem.W.Frag} {mg : Str → Option Value} {base : Heap} (T : Txt K mg) : OkF P w K mg base (L2.CX P w) (9 + 1) "costs_of_all" ["tongue", "wants", "ordered"] (spX K mg FX_costs_of_all) :=
  okX (g := BX_costs_of_all) T.f_costs_of_all c_costs_of_all fun f cdv A outer s H E hr => 
(fss_cons (fs_expr (L := []) (fe_callX (okX_look_at_tongue T) hr (takes_of rfl rfl rfl rfl) (fa_cons (fe_var 0) fa_nil)))
(fss_cons (fs_expr (L := []) (fe_callX (okX_look_at_wants T) hr (takes_of rfl rfl rfl rfl) (fa_cons (fe_var 1) fa_nil)))
fss_any))

noncomputable def BX_cheapest_book : Env → Out := (sSeq (sExpr [] (eCall FX_look_at_tongue (aCons (eVar 0) aNil)))
(sSeq (sExpr [] (eCall FX_look_at_wants (aCons (eVar 1) aNil)))
sBad))
theorem BX_cheapest_book_u (ρ : Env) : BX_cheapest_book ρ = (sSeq (sExpr [] (eCall FX_look_at_tongue (aCons (eVar 0) aNil)))
(sSeq (sExpr [] (eCall FX_look_at_wants (aCons (eVar 1) aNil)))
sBad)) ρ := rfl
noncomputable def FX_cheapest_book : List D → Res D := runD (["tongue", "wants", "ordered"] : List Str).length n_cheapest_book.length BX_cheapest_book
theorem okX_cheapest_book {P : Program} {w : World} {K : PySem.W.Frag} {mg : Str → Option Value} {base : Heap} (T : Txt K mg) : OkF P w K mg base (L2.CX P w) (6 + 1) "cheapest_book" ["tongue", "wants", "ordered"] (spX K mg FX_cheapest_book) :=
  okX (g := BX_cheapest_book) T.f_cheapest_book c_cheapest_book fun f cdv A outer s H E hr => 
(fss_cons (fs_expr (L := []) (fe_callX (okX_look_at_tongue T) hr (takes_of rfl rfl rfl rfl) (fa_cons (fe_var 0) fa_nil)))
(fss_cons (fs_expr (L := []) (fe_callX (okX_look_at_wants T) hr (takes_of rfl rfl rfl rfl) (fa_cons (fe_var 1) fa_nil)))
fss_any))

noncomputable def BX_bound_book : Env → Out := (sSeq (sExpr [] (eCall FX_look_at_tongue (aCons (eVar 0) aNil)))
(sSeq (sExpr [] (eCall FX_look_at_wants (aCons (eVar 1) aNil)))
sBad))
theorem BX_bound_book_u (ρ : Env) : BX_bound_book ρ = (sSeq (sExpr [] (eCall FX_look_at_tongue (aCons (eVar 0) aNil)))
(sSeq (sExpr [] (eCall FX_look_at_wants (aCons (eVar 1) aNil)))
sBad)) ρ := rfl
noncomputable def FX_bound_book : List D → Res D := runD (["tongue", "wants", "bound", "ordered"] : List Str).length n_bound_book.length BX_bound_book
theorem okX_bound_book {P : Program} {w : World} {K : PySem.W.Frag} {mg : Str → Option Value} {base : Heap} (T : Txt K mg) : OkF P w K mg base (L2.CX P w) (6 + 1) "bound_book" ["tongue", "wants", "bound", "ordered"] (spX K mg FX_bound_book) :=
  okX (g := BX_bound_book) T.f_bound_book c_bound_book fun f cdv A outer s H E hr => 
(fss_cons (fs_expr (L := []) (fe_callX (okX_look_at_tongue T) hr (takes_of rfl rfl rfl rfl) (fa_cons (fe_var 0) fa_nil)))
(fss_cons (fs_expr (L := []) (fe_callX (okX_look_at_wants T) hr (takes_of rfl rfl rfl rfl) (fa_cons (fe_var 1) fa_nil)))
fss_any))

noncomputable def BX_comes_ahead : Env → Out := (sSeq (sExpr [] (eCall FX_look_at_tongue (aCons (eVar 0) aNil)))
sBad)
theorem BX_comes_ahead_u (ρ : Env) : BX_comes_ahead ρ = (sSeq (sExpr [] (eCall FX_look_at_tongue (aCons (eVar 0) aNil)))
sBad) ρ := rfl
noncomputable def FX_comes_ahead : List D → Res D := runD (["tongue", "one", "other"] : List Str).length n_comes_ahead.length BX_comes_ahead
theorem okX_comes_ahead {P : Program} {w : World} {K : PySem.W.Frag} {mg : Str → Option Value} {base : Heap} (T : Txt K mg) : OkF P w K mg base (L2.CX P w) (6 + 1) "comes_ahead" ["tongue", "one", "other"] (spX K mg FX_comes_ahead) :=
  okX (g := BX_comes_ahead) T.f_comes_ahead c_comes_ahead fun f cdv A outer s H E hr => 
(fss_cons (fs_expr (L := []) (fe_callX (okX_look_at_tongue T) hr (takes_of rfl rfl rfl rfl) (fa_cons (fe_var 0) fa_nil)))
fss_any)

noncomputable def BX_what_is_wrong : Env → Out := (sSeq (sExpr [] (eCall FX_look_at_tongue (aCons (eVar 0) aNil)))
(sSeq (sExpr [] (eCall FX_look_at_wants (aCons (eVar 1) aNil)))
sBad))
theorem BX_what_is_wrong_u (ρ : Env) : BX_what_is_wrong ρ = (sSeq (sExpr [] (eCall FX_look_at_tongue (aCons (eVar 0) aNil)))
(sSeq (sExpr [] (eCall FX_look_at_wants (aCons (eVar 1) aNil)))
sBad)) ρ := rfl
noncomputable def FX_what_is_wrong : List D → Res D := runD (["tongue", "wants", "thing", "ordered"] : List Str).length n_what_is_wrong.length BX_what_is_wrong
theorem okX_what_is_wrong {P : Program} {w : World} {K : PySem.W.Frag} {mg : Str → Option Value} {base : Heap} (T : Txt K mg) : OkD P w K mg base (L2.CX P w) (8 + 1) "what_is_wrong" ["tongue", "wants", "thing", "ordered"] [.bl false] (spX K mg FX_what_is_wrong) :=
  okXD (g := BX_what_is_wrong) T.f_what_is_wrong c_what_is_wrong fun f cdv A outer s H E hr => 
(fss_cons (fs_expr (L := []) (fe_callX (okX_look_at_tongue T) hr (takes_of rfl rfl rfl rfl) (fa_cons (fe_var 0) fa_nil)))
(fss_cons (fs_expr (L := []) (fe_callX (okX_look_at_wants T) hr (takes_of rfl rfl rfl rfl) (fa_cons (fe_var 1) fa_nil)))
fss_any))

noncomputable def BX_cost_of : Env → Out := (sSeq (sExpr [] (eCall FX_look_at_tongue (aCons (eVar 0) aNil)))
(sSeq (sExpr [] (eCall FX_look_at_wants (aCons (eVar 1) aNil)))
sBad))
theorem BX_cost_of_u (ρ : Env) : BX_cost_of ρ = (sSeq (sExpr [] (eCall FX_look_at_tongue (aCons (eVar 0) aNil)))
(sSeq (sExpr [] (eCall FX_look_at_wants (aCons (eVar 1) aNil)))
sBad)) ρ := rfl
noncomputable def FX_cost_of : List D → Res D := runD (["tongue", "wants", "book"] : List Str).length n_cost_of.length BX_cost_of
theorem okX_cost_of {P : Program} {w : World} {K : PySem.W.Frag} {mg : Str → Option Value} {base : Heap} (T : Txt K mg) : OkF P w K mg base (L2.CX P w) (8 + 1) "cost_of" ["tongue", "wants", "book"] (spX K mg FX_cost_of) :=
  okX (g := BX_cost_of) T.f_cost_of c_cost_of fun f cdv A outer s H E hr => 
(fss_cons (fs_expr (L := []) (fe_callX (okX_look_at_tongue T) hr (takes_of rfl rfl rfl rfl) (fa_cons (fe_var 0) fa_nil)))
(fss_cons (fs_expr (L := []) (fe_callX (okX_look_at_wants T) hr (takes_of rfl rfl rfl rfl) (fa_cons (fe_var 1) fa_nil)))
fss_any))

noncomputable def BX_write_case : Env → Out := (sSeq (sAsg [] (eVar 0) (tgT [(tgN 1), (tgN 2), (tgN 3)]))
(sSeq (sExpr [] (eCall FX_look_at_tongue (aCons (eVar 1) aNil)))
(sSeq (sExpr [] (eCall FX_look_at_wants (aCons (eVar 2) aNil)))
sBad)))
theorem BX_write_case_u (ρ : Env) : BX_write_case ρ = (sSeq (sAsg [] (eVar 0) (tgT [(tgN 1), (tgN 2), (tgN 3)]))
(sSeq (sExpr [] (eCall FX_look_at_tongue (aCons (eVar 1) aNil)))
(sSeq (sExpr [] (eCall FX_look_at_wants (aCons (eVar 2) aNil)))
sBad))) ρ := rfl
noncomputable def FX_write_case : List D → Res D := runD (["case"] : List Str).length n_write_case.length BX_write_case
theorem okX_write_case {P : Program} {w : World} {K : PySem.W.Frag} {mg : Str → Option Value} {base : Heap} (T : Txt K mg) : OkF P w K mg base (L2.CX P w) (6 + 1) "write_case" ["case"] (spX K mg FX_write_case) :=
  okX (g := BX_write_case) T.f_write_case c_write_case fun f cdv A outer s H E hr => 
(fss_cons (fs_asg (L := []) (fe_var 0) (fg_tup (fgs_cons (fg_name 1 c_write_case.nd) (fgs_cons (fg_name 2 c_write_case.nd) (fgs_cons (fg_name 3 c_write_case.nd) fgs_nil)))))
(fss_cons (fs_expr (L := []) (fe_callX (okX_look_at_tongue T) hr (takes_of rfl rfl rfl rfl) (fa_cons (fe_var 1) fa_nil)))
(fss_cons (fs_expr (L := []) (fe_callX (okX_look_at_wants T) hr (takes_of rfl rfl rfl rfl) (fa_cons (fe_var 2) fa_nil)))
fss_any)))

noncomputable def BX_columns_of : Env → Out := (sSeq (sExpr [] (eCall FX_look_at_tongue (aCons (eVar 0) aNil)))
sBad)
theorem BX_columns_of_u (ρ : Env) : BX_columns_of ρ = (sSeq (sExpr [] (eCall FX_look_at_tongue (aCons (eVar 0) aNil)))
sBad) ρ := rfl
noncomputable def FX_columns_of : List D → Res D := runD (["tongue", "book"] : List Str).length n_columns_of.length BX_columns_of
theorem okX_columns_of {P : Program} {w : World} {K : PySem.W.Frag} {mg : Str → Option Value} {base : Heap} (T : Txt K mg) : OkF P w K mg base (L2.CX P w) (6 + 1) "columns_of" ["tongue", "book"] (spX K mg FX_columns_of) :=
  okX (g := BX_columns_of) T.f_columns_of c_columns_of fun f cdv A outer s H E hr => 
(fss_cons (fs_expr (L := []) (fe_callX (okX_look_at_tongue T) hr (takes_of rfl rfl rfl rfl) (fa_cons (fe_var 0) fa_nil)))
fss_any)

noncomputable def BX_mend : Env → Out := (sSeq (sExpr [] (eCall FX_look_at_tongue (aCons (eVar 0) aNil)))
(sSeq (sExpr [] (eCall FX_look_at_wants (aCons (eVar 1) aNil)))
sBad))
theorem BX_mend_u (ρ : Env) : BX_mend ρ = (sSeq (sExpr [] (eCall FX_look_at_tongue (aCons (eVar 0) aNil)))
(sSeq (sExpr [] (eCall FX_look_at_wants (aCons (eVar 1) aNil)))
sBad)) ρ := rfl
noncomputable def FX_mend : List D → Res D := runD (["tongue", "wants", "elder", "slack", "ordered"] : List Str).length n_mend.length BX_mend
theorem okX_mend {P : Program} {w : World} {K : PySem.W.Frag} {mg : Str → Option Value} {base : Heap} (T : Txt K mg) : OkF P w K mg base (L2.CX P w) (9 + 1) "mend" ["tongue", "wants", "elder", "slack", "ordered"] (spX K mg FX_mend) :=
  okX (g := BX_mend) T.f_mend c_mend fun f cdv A outer s H E hr => 
(fss_cons (fs_expr (L := []) (fe_callX (okX_look_at_tongue T) hr (takes_of rfl rfl rfl rfl) (fa_cons (fe_var 0) fa_nil)))
(fss_cons (fs_expr (L := []) (fe_callX (okX_look_at_wants T) hr (takes_of rfl rfl rfl rfl) (fa_cons (fe_var 1) fa_nil)))
fss_any))

noncomputable def BX_candidates_of : Env → Out := (sSeq (sExpr [] (eCall FX_look_at_tongue (aCons (eVar 0) aNil)))
sBad)
theorem BX_candidates_of_u (ρ : Env) : BX_candidates_of ρ = (sSeq (sExpr [] (eCall FX_look_at_tongue (aCons (eVar 0) aNil)))
sBad) ρ := rfl
noncomputable def FX_candidates_of : List D → Res D := runD (["tongue", "part"] : List Str).length n_candidates_of.length BX_candidates_of
theorem okX_candidates_of {P : Program} {w : World} {K : PySem.W.Frag} {mg : Str → Option Value} {base : Heap} (T : Txt K mg) : OkF P w K mg base (L2.CX P w) (9 + 1) "candidates_of" ["tongue", "part"] (spX K mg FX_candidates_of) :=
  okX (g := BX_candidates_of) T.f_candidates_of c_candidates_of fun f cdv A outer s H E hr => 
(fss_cons (fs_expr (L := []) (fe_callX (okX_look_at_tongue T) hr (takes_of rfl rfl rfl rfl) (fa_cons (fe_var 0) fa_nil)))
fss_any)

noncomputable def BX_lets_shares : Env → Out := (sSeq (sExpr [] (eCall FX_look_at_tongue (aCons (eVar 0) aNil)))
(sSeq (sExpr [] (eCall FX_look_at_wants (aCons (eVar 1) aNil)))
sBad))
theorem BX_lets_shares_u (ρ : Env) : BX_lets_shares ρ = (sSeq (sExpr [] (eCall FX_look_at_tongue (aCons (eVar 0) aNil)))
(sSeq (sExpr [] (eCall FX_look_at_wants (aCons (eVar 1) aNil)))
sBad)) ρ := rfl
noncomputable def FX_lets_shares : List D → Res D := runD (["tongue", "wants", "thing"] : List Str).length n_lets_shares.length BX_lets_shares
theorem okX_lets_shares {P : Program} {w : World} {K : PySem.W.Frag} {mg : Str → Option Value} {base : Heap} (T : Txt K mg) : OkF P w K mg base (L2.CX P w) (8 + 1) "lets_shares" ["tongue", "wants", "thing"] (spX K mg FX_lets_shares) :=
  okX (g := BX_lets_shares) T.f_lets_shares c_lets_shares fun f cdv A outer s H E hr => 
(fss_cons (fs_expr (L := []) (fe_callX (okX_look_at_tongue T) hr (takes_of rfl rfl rfl rfl) (fa_cons (fe_var 0) fa_nil)))
(fss_cons (fs_expr (L := []) (fe_callX (okX_look_at_wants T) hr (takes_of rfl rfl rfl rfl) (fa_cons (fe_var 1) fa_nil)))
fss_any))

noncomputable def BC_Judge : Env → Out := (sSeq (sExpr [] (eCall FX_look_at_tongue (aCons (eVar 1) aNil)))
(sSeq (sExpr [] (eCall FX_look_at_wants (aCons (eVar 2) aNil)))
sBad))
theorem BC_Judge_u (ρ : Env) : BC_Judge ρ = (sSeq (sExpr [] (eCall FX_look_at_tongue (aCons (eVar 1) aNil)))
(sSeq (sExpr [] (eCall FX_look_at_wants (aCons (eVar 2) aNil)))
sBad)) ρ := rfl
noncomputable def FC_Judge : List D → Res D := runC (["self", "tongue", "wants", "least"] : List Str).length n_Judge___init__.length BC_Judge
theorem ic_Judge {P : Program} {w : World} {K : PySem.W.Frag} {mg : Str → Option Value} {base : Heap} (T : Txt K mg) : OkC P w K mg base (L2.CX P w) (6 + 1) "Judge" T.A.Judge ["self", "tongue", "wants", "least"] (spXC K mg FC_Judge) :=
  okXC (g := BC_Judge) T.I_Judge c_Judge___init__ fun f cdv A outer s H E hr =>
(fss_cons (fs_expr (L := []) (fe_callX (okX_look_at_tongue T) hr (takes_of rfl rfl rfl rfl) (fa_cons (fe_var 1) fa_nil)))
(fss_cons (fs_expr (L := []) (fe_callX (okX_look_at_wants T) hr (takes_of rfl rfl rfl rfl) (fa_cons (fe_var 2) fa_nil)))
fss_any))

noncomputable def BC_Seeker : Env → Out := (sSeq (sFldX [] (eMkX FC_Judge (aCons (eVar 1) (aCons (eVar 2) (aCons (eVar 3) aNil)))))
sBad)
theorem BC_Seeker_u (ρ : Env) : BC_Seeker ρ = (sSeq (sFldX [] (eMkX FC_Judge (aCons (eVar 1) (aCons (eVar 2) (aCons (eVar 3) aNil)))))
sBad) ρ := rfl
noncomputable def FC_Seeker : List D → Res D := runC (["self", "tongue", "wants", "least", "most"] : List Str).length n_Seeker___init__.length BC_Seeker
theorem ic_Seeker {P : Program} {w : World} {K : PySem.W.Frag} {mg : Str → Option Value} {base : Heap} (T : Txt K mg) : OkC P w K mg base (L2.CX P w) (8 + 1) "Seeker" T.A.Seeker ["self", "tongue", "wants", "least", "most"] (spXC K mg FC_Seeker) :=
  okXC (g := BC_Seeker) T.I_Seeker c_Seeker___init__ fun f cdv A outer s H E hr =>
(fss_cons (fs_fldX (L := []) (fe_mkX (ic_Judge T) hr (takes_of rfl rfl rfl rfl) (fa_cons (fe_var 1) (fa_cons (fe_var 2) (fa_cons (fe_var 3) fa_nil)))))
fss_any)

noncomputable def BC_Keeper : Env → Out := (sSeq (sExpr [] (eCall FX_look_at_tongue (aCons (eVar 1) aNil)))
(sSeq (sExpr [] (eCall FX_look_at_wants (aCons (eVar 2) aNil)))
sBad))
theorem BC_Keeper_u (ρ : Env) : BC_Keeper ρ = (sSeq (sExpr [] (eCall FX_look_at_tongue (aCons (eVar 1) aNil)))
(sSeq (sExpr [] (eCall FX_look_at_wants (aCons (eVar 2) aNil)))
sBad)) ρ := rfl
noncomputable def FC_Keeper : List D → Res D := runC (["self", "tongue", "wants", "ordered", "slack"] : List Str).length n_Keeper___init__.length BC_Keeper
theorem ic_Keeper {P : Program} {w : World} {K : PySem.W.Frag} {mg : Str → Option Value} {base : Heap} (T : Txt K mg) : OkC P w K mg base (L2.CX P w) (6 + 1) "Keeper" T.A.Keeper ["self", "tongue", "wants", "ordered", "slack"] (spXC K mg FC_Keeper) :=
  okXCD (g := BC_Keeper) T.I_Keeper c_Keeper___init__ fun f cdv A outer s H E hr =>
(fss_cons (fs_expr (L := []) (fe_callX (okX_look_at_tongue T) hr (takes_of rfl rfl rfl rfl) (fa_cons (fe_var 1) fa_nil)))
(fss_cons (fs_expr (L := []) (fe_callX (okX_look_at_wants T) hr (takes_of rfl rfl rfl rfl) (fa_cons (fe_var 2) fa_nil)))
fss_any))

noncomputable def BX_is_reason : Env → Out := (sRet [] (eAttX (eMkX FC_Judge (aCons (eVar 0) (aCons (eVar 1) (aCons (eVar 2) aNil))))))
theorem BX_is_reason_u (ρ : Env) : BX_is_reason ρ = (sRet [] (eAttX (eMkX FC_Judge (aCons (eVar 0) (aCons (eVar 1) (aCons (eVar 2) aNil)))))) ρ := rfl
noncomputable def FX_is_reason : List D → Res D := runD (["tongue", "wants", "least", "part", "thing"] : List Str).length n_is_reason.length BX_is_reason
theorem okX_is_reason {P : Program} {w : World} {K : PySem.W.Frag} {mg : Str → Option Value} {base : Heap} (T : Txt K mg) : OkF P w K mg base (L2.CX P w) (8 + 1) "is_reason" ["tongue", "wants", "least", "part", "thing"] (spX K mg FX_is_reason) :=
  okX (g := BX_is_reason) T.f_is_reason c_is_reason fun f cdv A outer s H E hr => 
(fss_one (fs_ret (L := []) (fe_attX (okM_never T.M_Judge_is_so c_Judge_is_so) T.K_Judge hr (fe_mkX (ic_Judge T) hr (takes_of rfl rfl rfl rfl) (fa_cons (fe_var 0) (fa_cons (fe_var 1) (fa_cons (fe_var 2) fa_nil)))))))

noncomputable def BX_lets_tree : Env → Out := (sRet [] (eAttX (eMkX FC_Judge (aCons (eVar 0) (aCons (eVar 1) (aCons (eVar 2) aNil))))))
theorem BX_lets_tree_u (ρ : Env) : BX_lets_tree ρ = (sRet [] (eAttX (eMkX FC_Judge (aCons (eVar 0) (aCons (eVar 1) (aCons (eVar 2) aNil)))))) ρ := rfl
noncomputable def FX_lets_tree : List D → Res D := runD (["tongue", "wants", "least", "thing"] : List Str).length n_lets_tree.length BX_lets_tree
theorem okX_lets_tree {P : Program} {w : World} {K : PySem.W.Frag} {mg : Str → Option Value} {base : Heap} (T : Txt K mg) : OkF P w K mg base (L2.CX P w) (8 + 1) "lets_tree" ["tongue", "wants", "least", "thing"] (spX K mg FX_lets_tree) :=
  okX (g := BX_lets_tree) T.f_lets_tree c_lets_tree fun f cdv A outer s H E hr => 
(fss_one (fs_ret (L := []) (fe_attX (okM_never T.M_Judge_is_tree c_Judge_is_tree) T.K_Judge hr (fe_mkX (ic_Judge T) hr (takes_of rfl rfl rfl rfl) (fa_cons (fe_var 0) (fa_cons (fe_var 1) (fa_cons (fe_var 2) fa_nil)))))))

noncomputable def BX_shares_for : Env → Out := (sSeq (sExpr [] (eCall FX_look_at_tongue (aCons (eVar 0) aNil)))
(sSeq (sExpr [] (eCall FX_look_at_wants (aCons (eVar 1) aNil)))
sBad))
theorem BX_shares_for_u (ρ : Env) : BX_shares_for ρ = (sSeq (sExpr [] (eCall FX_look_at_tongue (aCons (eVar 0) aNil)))
(sSeq (sExpr [] (eCall FX_look_at_wants (aCons (eVar 1) aNil)))
sBad)) ρ := rfl
noncomputable def FX_shares_for : List D → Res D := runD (["tongue", "wants"] : List Str).length n_shares_for.length BX_shares_for
theorem okX_shares_for {P : Program} {w : World} {K : PySem.W.Frag} {mg : Str → Option Value} {base : Heap} (T : Txt K mg) : OkF P w K mg base (L2.CX P w) (9 + 1) "shares_for" ["tongue", "wants"] (spX K mg FX_shares_for) :=
  okX (g := BX_shares_for) T.f_shares_for c_shares_for fun f cdv A outer s H E hr => 
(fss_cons (fs_expr (L := []) (fe_callX (okX_look_at_tongue T) hr (takes_of rfl rfl rfl rfl) (fa_cons (fe_var 0) fa_nil)))
(fss_cons (fs_expr (L := []) (fe_callX (okX_look_at_wants T) hr (takes_of rfl rfl rfl rfl) (fa_cons (fe_var 1) fa_nil)))
fss_any))

noncomputable def BX_seek_book : Env → Out := (sSeq (sAsg [] (eMkX FC_Seeker (aCons (eVar 0) (aCons (eVar 1) (aCons (eVar 2) (aCons (eVar 3) aNil))))) (tgN 4))
sBad)
theorem BX_seek_book_u (ρ : Env) : BX_seek_book ρ = (sSeq (sAsg [] (eMkX FC_Seeker (aCons (eVar 0) (aCons (eVar 1) (aCons (eVar 2) (aCons (eVar 3) aNil))))) (tgN 4))
sBad) ρ := rfl
noncomputable def FX_seek_book : List D → Res D := runD (["tongue", "wants", "least", "most"] : List Str).length n_seek_book.length BX_seek_book
theorem okX_seek_book {P : Program} {w : World} {K : PySem.W.Frag} {mg : Str → Option Value} {base : Heap} (T : Txt K mg) : OkF P w K mg base (L2.CX P w) (10 + 1) "seek_book" ["tongue", "wants", "least", "most"] (spX K mg FX_seek_book) :=
  okX (g := BX_seek_book) T.f_seek_book c_seek_book fun f cdv A outer s H E hr => 
(fss_cons (fs_asg (L := []) (fe_mkX (ic_Seeker T) hr (takes_of rfl rfl rfl rfl) (fa_cons (fe_var 0) (fa_cons (fe_var 1) (fa_cons (fe_var 2) (fa_cons (fe_var 3) fa_nil))))) (fg_name 4 c_seek_book.nd))
fss_any)

noncomputable def BX_tree_of : Env → Out := (sSeq (sExpr [] (eCall FX_look_at_tongue (aCons (eVar 0) aNil)))
sBad)
theorem BX_tree_of_u (ρ : Env) : BX_tree_of ρ = (sSeq (sExpr [] (eCall FX_look_at_tongue (aCons (eVar 0) aNil)))
sBad) ρ := rfl
noncomputable def FX_tree_of : List D → Res D := runD (["tongue", "book"] : List Str).length n_tree_of.length BX_tree_of
theorem okX_tree_of {P : Program} {w : World} {K : PySem.W.Frag} {mg : Str → Option Value} {base : Heap} (T : Txt K mg) : OkF P w K mg base (L2.CX P w) (6 + 1) "tree_of" ["tongue", "book"] (spX K mg FX_tree_of) :=
  okX (g := BX_tree_of) T.f_tree_of c_tree_of fun f cdv A outer s H E hr => 
(fss_cons (fs_expr (L := []) (fe_callX (okX_look_at_tongue T) hr (takes_of rfl rfl rfl rfl) (fa_cons (fe_var 0) fa_nil)))
fss_any)

noncomputable def BX_book_of : Env → Out := (sSeq (sExpr [] (eCall FX_look_at_tongue (aCons (eVar 0) aNil)))
sBad)
theorem BX_book_of_u (ρ : Env) : BX_book_of ρ = (sSeq (sExpr [] (eCall FX_look_at_tongue (aCons (eVar 0) aNil)))
sBad) ρ := rfl
noncomputable def FX_book_of : List D → Res D := runD (["tongue", "many", "thing"] : List Str).length n_book_of.length BX_book_of
theorem okX_book_of {P : Program} {w : World} {K : PySem.W.Frag} {mg : Str → Option Value} {base : Heap} (T : Txt K mg) : OkF P w K mg base (L2.CX P w) (6 + 1) "book_of" ["tongue", "many", "thing"] (spX K mg FX_book_of) :=
  okX (g := BX_book_of) T.f_book_of c_book_of fun f cdv A outer s H E hr => 
(fss_cons (fs_expr (L := []) (fe_callX (okX_look_at_tongue T) hr (takes_of rfl rfl rfl rfl) (fa_cons (fe_var 0) fa_nil)))
fss_any)

noncomputable def BX_turned_tongue : Env → Out := (sSeq (sExpr [] (eCall FX_look_at_tongue (aCons (eVar 0) aNil)))
sBad)
theorem BX_turned_tongue_u (ρ : Env) : BX_turned_tongue ρ = (sSeq (sExpr [] (eCall FX_look_at_tongue (aCons (eVar 0) aNil)))
sBad) ρ := rfl
noncomputable def FX_turned_tongue : List D → Res D := runD (["tongue", "letters"] : List Str).length n_turned_tongue.length BX_turned_tongue
theorem okX_turned_tongue {P : Program} {w : World} {K : PySem.W.Frag} {mg : Str → Option Value} {base : Heap} (T : Txt K mg) : OkF P w K mg base (L2.CX P w) (6 + 1) "turned_tongue" ["tongue", "letters"] (spX K mg FX_turned_tongue) :=
  okX (g := BX_turned_tongue) T.f_turned_tongue c_turned_tongue fun f cdv A outer s H E hr => 
(fss_cons (fs_expr (L := []) (fe_callX (okX_look_at_tongue T) hr (takes_of rfl rfl rfl rfl) (fa_cons (fe_var 0) fa_nil)))
fss_any)

noncomputable def BX_turned_text : Env → Out := (sSeq (sExpr [] (eCall FX_look_at_tongue (aCons (eVar 0) aNil)))
sBad)
theorem BX_turned_text_u (ρ : Env) : BX_turned_text ρ = (sSeq (sExpr [] (eCall FX_look_at_tongue (aCons (eVar 0) aNil)))
sBad) ρ := rfl
noncomputable def FX_turned_text : List D → Res D := runD (["tongue", "letters", "text"] : List Str).length n_turned_text.length BX_turned_text
theorem okX_turned_text {P : Program} {w : World} {K : PySem.W.Frag} {mg : Str → Option Value} {base : Heap} (T : Txt K mg) : OkF P w K mg base (L2.CX P w) (6 + 1) "turned_text" ["tongue", "letters", "text"] (spX K mg FX_turned_text) :=
  okX (g := BX_turned_text) T.f_turned_text c_turned_text fun f cdv A outer s H E hr => 
(fss_cons (fs_expr (L := []) (fe_callX (okX_look_at_tongue T) hr (takes_of rfl rfl rfl rfl) (fa_cons (fe_var 0) fa_nil)))
fss_any)

noncomputable def BX_turned_book : Env → Out := (sSeq (sExpr [] (eCall FX_look_at_tongue (aCons (eVar 0) aNil)))
sBad)
theorem BX_turned_book_u (ρ : Env) : BX_turned_book ρ = (sSeq (sExpr [] (eCall FX_look_at_tongue (aCons (eVar 0) aNil)))
sBad) ρ := rfl
noncomputable def FX_turned_book : List D → Res D := runD (["tongue", "letters", "book"] : List Str).length n_turned_book.length BX_turned_book
theorem okX_turned_book {P : Program} {w : World} {K : PySem.W.Frag} {mg : Str → Option Value} {base : Heap} (T : Txt K mg) : OkF P w K mg base (L2.CX P w) (6 + 1) "turned_book" ["tongue", "letters", "book"] (spX K mg FX_turned_book) :=
  okX (g := BX_turned_book) T.f_turned_book c_turned_book fun f cdv A outer s H E hr => 
(fss_cons (fs_expr (L := []) (fe_callX (okX_look_at_tongue T) hr (takes_of rfl rfl rfl rfl) (fa_cons (fe_var 0) fa_nil)))
fss_any)

noncomputable def BX_put_wants : Env → Out := (sSeq (sExpr [] (eCall FX_look_at_wants (aCons (eVar 0) aNil)))
sBad)
theorem BX_put_wants_u (ρ : Env) : BX_put_wants ρ = (sSeq (sExpr [] (eCall FX_look_at_wants (aCons (eVar 0) aNil)))
sBad) ρ := rfl
noncomputable def FX_put_wants : List D → Res D := runD (["wants", "order"] : List Str).length n_put_wants.length BX_put_wants
theorem okX_put_wants {P : Program} {w : World} {K : PySem.W.Frag} {mg : Str → Option Value} {base : Heap} (T : Txt K mg) : OkF P w K mg base (L2.CX P w) (3 + 1) "put_wants" ["wants", "order"] (spX K mg FX_put_wants) :=
  okX (g := BX_put_wants) T.f_put_wants c_put_wants fun f cdv A outer s H E hr => 
(fss_cons (fs_expr (L := []) (fe_callX (okX_look_at_wants T) hr (takes_of rfl rfl rfl rfl) (fa_cons (fe_var 0) fa_nil)))
fss_any)

noncomputable def BX_dearer : Env → Out := (sSeq (sExpr [] (eCall FX_look_at_tongue (aCons (eVar 0) aNil)))
sBad)
theorem BX_dearer_u (ρ : Env) : BX_dearer ρ = (sSeq (sExpr [] (eCall FX_look_at_tongue (aCons (eVar 0) aNil)))
sBad) ρ := rfl
noncomputable def FX_dearer : List D → Res D := runD (["tongue", "factor"] : List Str).length n_dearer.length BX_dearer
theorem okX_dearer {P : Program} {w : World} {K : PySem.W.Frag} {mg : Str → Option Value} {base : Heap} (T : Txt K mg) : OkF P w K mg base (L2.CX P w) (6 + 1) "dearer" ["tongue", "factor"] (spX K mg FX_dearer) :=
  okX (g := BX_dearer) T.f_dearer c_dearer fun f cdv A outer s H E hr => 
(fss_cons (fs_expr (L := []) (fe_callX (okX_look_at_tongue T) hr (takes_of rfl rfl rfl rfl) (fa_cons (fe_var 0) fa_nil)))
fss_any)

noncomputable def BX_more_often : Env → Out := (sSeq (sExpr [] (eCall FX_look_at_wants (aCons (eVar 0) aNil)))
sBad)
theorem BX_more_often_u (ρ : Env) : BX_more_often ρ = (sSeq (sExpr [] (eCall FX_look_at_wants (aCons (eVar 0) aNil)))
sBad) ρ := rfl
noncomputable def FX_more_often : List D → Res D := runD (["wants", "factor"] : List Str).length n_more_often.length BX_more_often
theorem okX_more_often {P : Program} {w : World} {K : PySem.W.Frag} {mg : Str → Option Value} {base : Heap} (T : Txt K mg) : OkF P w K mg base (L2.CX P w) (3 + 1) "more_often" ["wants", "factor"] (spX K mg FX_more_often) :=
  okX (g := BX_more_often) T.f_more_often c_more_often fun f cdv A outer s H E hr => 
(fss_cons (fs_expr (L := []) (fe_callX (okX_look_at_wants T) hr (takes_of rfl rfl rfl rfl) (fa_cons (fe_var 0) fa_nil)))
fss_any)

noncomputable def BX__law_stage_two : Env → Out := (sSeq (sIf [] (bT (eOp dEq (eVar 0) (eC (.int 0))))
(sRet [] (eCall FX_look_at_tongue (aCons (eVar 1) aNil)))
sPass)
(sSeq (sIf [] (bT (eOp dEq (eVar 0) (eC (.int 1))))
(sRet [] (eCall FX_may_stand (aCons (eVar 1) (aCons (eC (.str "a")) aNil))))
sPass)
(sSeq (sIf [] (bT (eOp dEq (eVar 0) (eC (.int 2))))
(sRet [] (eCall FX_is_word (aCons (eVar 1) (aCons (eC (.str "a")) aNil))))
sPass)
(sSeq (sIf [] (bT (eOp dEq (eVar 0) (eC (.int 3))))
(sRet [] (eCall FX_may_come (aCons (eVar 1) (aCons (eC (.str "")) (aCons (eC (.str "a")) aNil)))))
sPass)
(sSeq (sIf [] (bT (eOp dEq (eVar 0) (eC (.int 4))))
(sRet [] (eCall FX_way_of (aCons (eVar 1) (aCons (eC (.str "a")) aNil))))
sPass)
(sSeq (sIf [] (bT (eOp dEq (eVar 0) (eC (.int 5))))
(sRet [] (eCall FX_price_of (aCons (eVar 1) (aCons (eC (.str "a")) aNil))))
sPass)
(sSeq (sIf [] (bT (eOp dEq (eVar 0) (eC (.int 6))))
(sRet [] (eCall FX_words_of (aCons (eVar 1) aNil)))
sPass)
(sSeq (sIf [] (bT (eOp dEq (eVar 0) (eC (.int 7))))
(sRet [] (eCall FX_word_counts (aCons (eVar 1) aNil)))
sPass)
(sRet [] (eCall FX_text_counts (aCons (eVar 1) aNil)))))))))))
theorem BX__law_stage_two_u (ρ : Env) : BX__law_stage_two ρ = (sSeq (sIf [] (bT (eOp dEq (eVar 0) (eC (.int 0))))
(sRet [] (eCall FX_look_at_tongue (aCons (eVar 1) aNil)))
sPass)
(sSeq (sIf [] (bT (eOp dEq (eVar 0) (eC (.int 1))))
(sRet [] (eCall FX_may_stand (aCons (eVar 1) (aCons (eC (.str "a")) aNil))))
sPass)
(sSeq (sIf [] (bT (eOp dEq (eVar 0) (eC (.int 2))))
(sRet [] (eCall FX_is_word (aCons (eVar 1) (aCons (eC (.str "a")) aNil))))
sPass)
(sSeq (sIf [] (bT (eOp dEq (eVar 0) (eC (.int 3))))
(sRet [] (eCall FX_may_come (aCons (eVar 1) (aCons (eC (.str "")) (aCons (eC (.str "a")) aNil)))))
sPass)
(sSeq (sIf [] (bT (eOp dEq (eVar 0) (eC (.int 4))))
(sRet [] (eCall FX_way_of (aCons (eVar 1) (aCons (eC (.str "a")) aNil))))
sPass)
(sSeq (sIf [] (bT (eOp dEq (eVar 0) (eC (.int 5))))
(sRet [] (eCall FX_price_of (aCons (eVar 1) (aCons (eC (.str "a")) aNil))))
sPass)
(sSeq (sIf [] (bT (eOp dEq (eVar 0) (eC (.int 6))))
(sRet [] (eCall FX_words_of (aCons (eVar 1) aNil)))
sPass)
(sSeq (sIf [] (bT (eOp dEq (eVar 0) (eC (.int 7))))
(sRet [] (eCall FX_word_counts (aCons (eVar 1) aNil)))
sPass)
(sRet [] (eCall FX_text_counts (aCons (eVar 1) aNil))))))))))) ρ := rfl
noncomputable def FX__law_stage_two : List D → Res D := runD (["_law_way", "_law_tongue"] : List Str).length n__law_stage_two.length BX__law_stage_two
theorem okX__law_stage_two {P : Program} {w : World} {K : PySem.W.Frag} {mg : Str → Option Value} {base : Heap} (T : Txt K mg) : OkF P w K mg base (L2.CX P w) (9 + 1) "_law_stage_two" ["_law_way", "_law_tongue"] (spX K mg FX__law_stage_two) :=
  okX (g := BX__law_stage_two) T.f__law_stage_two c__law_stage_two fun f cdv A outer s H E hr => 
(fss_cons (fs_if (L := []) (ft_cmp (op_eqA (K := K) hr.units) opd_eq gb_eq (fe_var 0) fe_int)
(fss_one (fs_ret (L := []) (fe_callX (okX_look_at_tongue T) hr (takes_of rfl rfl rfl rfl) (fa_cons (fe_var 1) fa_nil))))
fss_nil)
(fss_cons (fs_if (L := []) (ft_cmp (op_eqA (K := K) hr.units) opd_eq gb_eq (fe_var 0) fe_int)
(fss_one (fs_ret (L := []) (fe_callX (okX_may_stand T) hr (takes_of rfl rfl rfl rfl) (fa_cons (fe_var 1) (fa_cons fe_str fa_nil)))))
fss_nil)
(fss_cons (fs_if (L := []) (ft_cmp (op_eqA (K := K) hr.units) opd_eq gb_eq (fe_var 0) fe_int)
(fss_one (fs_ret (L := []) (fe_callX (okX_is_word T) hr (takes_of rfl rfl rfl rfl) (fa_cons (fe_var 1) (fa_cons fe_str fa_nil)))))
fss_nil)
(fss_cons (fs_if (L := []) (ft_cmp (op_eqA (K := K) hr.units) opd_eq gb_eq (fe_var 0) fe_int)
(fss_one (fs_ret (L := []) (fe_callX (okX_may_come T) hr (takes_of rfl rfl rfl rfl) (fa_cons (fe_var 1) (fa_cons fe_str (fa_cons fe_str fa_nil))))))
fss_nil)
(fss_cons (fs_if (L := []) (ft_cmp (op_eqA (K := K) hr.units) opd_eq gb_eq (fe_var 0) fe_int)
(fss_one (fs_ret (L := []) (fe_callX (okX_way_of T) hr (takes_of rfl rfl rfl rfl) (fa_cons (fe_var 1) (fa_cons fe_str fa_nil)))))
fss_nil)
(fss_cons (fs_if (L := []) (ft_cmp (op_eqA (K := K) hr.units) opd_eq gb_eq (fe_var 0) fe_int)
(fss_one (fs_ret (L := []) (fe_callX (okX_price_of T) hr (takes_of rfl rfl rfl rfl) (fa_cons (fe_var 1) (fa_cons fe_str fa_nil)))))
fss_nil)
(fss_cons (fs_if (L := []) (ft_cmp (op_eqA (K := K) hr.units) opd_eq gb_eq (fe_var 0) fe_int)
(fss_one (fs_ret (L := []) (fe_callX (okX_words_of T) hr (takes_of rfl rfl rfl rfl) (fa_cons (fe_var 1) fa_nil))))
fss_nil)
(fss_cons (fs_if (L := []) (ft_cmp (op_eqA (K := K) hr.units) opd_eq gb_eq (fe_var 0) fe_int)
(fss_one (fs_ret (L := []) (fe_callX (okX_word_counts T) hr (takes_of rfl rfl rfl rfl) (fa_cons (fe_var 1) fa_nil))))
fss_nil)
(fss_one (fs_ret (L := []) (fe_callX (okX_text_counts T) hr (takes_of rfl rfl rfl rfl) (fa_cons (fe_var 1) fa_nil))))))))))))

noncomputable def BX__law_tongue_alone : Env → Out := (sSeq (sIf [] (bT (eOp dEq (eVar 0) (eC (.int 9))))
(sRet [] (eCall FX_comes_ahead (aCons (eVar 1) (aCons (eC (.str "a")) (aCons (eC (.str "b")) aNil)))))
sPass)
(sSeq (sIf [] (bT (eOp dEq (eVar 0) (eC (.int 10))))
(sRet [] (eCall FX_tree_of (aCons (eVar 1) (aCons (eLst (aCons (eC (.str "a")) aNil)) aNil))))
sPass)
(sSeq (sIf [] (bT (eOp dEq (eVar 0) (eC (.int 11))))
(sRet [] (eCall FX_book_of (aCons (eVar 1) (aCons (eC (.int 1)) (aCons (eLst (aCons (eTup (aCons (eC (.str "a")) (aCons (eC (.int 0)) aNil))) aNil)) aNil)))))
sPass)
(sSeq (sIf [] (bT (eOp dEq (eVar 0) (eC (.int 12))))
(sRet [] (eCall FX_columns_of (aCons (eVar 1) (aCons (eLst (aCons (eC (.str "a")) aNil)) aNil))))
sPass)
(sSeq (sIf [] (bT (eOp dEq (eVar 0) (eC (.int 13))))
(sRet [] (eCall FX_candidates_of (aCons (eVar 1) (aCons (eLst aNil) aNil))))
sPass)
(sSeq (sIf [] (bT (eOp dEq (eVar 0) (eC (.int 14))))
(sRet [] (eCall FX_sets_by_size (aCons (eVar 1) (aCons (eC (.int 2)) aNil))))
sPass)
(sSeq (sIf [] (bT (eOp dEq (eVar 0) (eC (.int 15))))
(sRet [] (eCall FX_books_many (aCons (eVar 1) (aCons (eC (.int 1)) (aCons (eC (.bl true)) aNil)))))
sPass)
(sSeq (sIf [] (bT (eOp dEq (eVar 0) (eC (.int 16))))
(sRet [] (eCall FX_all_books (aCons (eVar 1) (aCons (eC (.int 1)) (aCons (eC (.bl false)) aNil)))))
sPass)
(sSeq (sIf [] (bT (eOp dEq (eVar 0) (eC (.int 17))))
(sRet [] (eCall FX_turned_tongue (aCons (eVar 1) (aCons (eLst (aCons (eC (.str "x")) (aCons (eC (.str "y")) aNil))) aNil))))
sPass)
(sSeq (sIf [] (bT (eOp dEq (eVar 0) (eC (.int 18))))
(sRet [] (eCall FX_turned_text (aCons (eVar 1) (aCons (eLst (aCons (eC (.str "x")) (aCons (eC (.str "y")) aNil))) (aCons (eC (.str "ab")) aNil)))))
sPass)
(sSeq (sIf [] (bT (eOp dEq (eVar 0) (eC (.int 19))))
(sRet [] (eCall FX_turned_book (aCons (eVar 1) (aCons (eLst (aCons (eC (.str "x")) (aCons (eC (.str "y")) aNil))) (aCons (eLst (aCons (eC (.str "a")) aNil)) aNil)))))
sPass)
(sRet [] (eCall FX_dearer (aCons (eVar 1) (aCons (eTup (aCons (eC (.int 2)) (aCons (eC (.int 1)) aNil))) aNil)))))))))))))))
theorem BX__law_tongue_alone_u (ρ : Env) : BX__law_tongue_alone ρ = (sSeq (sIf [] (bT (eOp dEq (eVar 0) (eC (.int 9))))
(sRet [] (eCall FX_comes_ahead (aCons (eVar 1) (aCons (eC (.str "a")) (aCons (eC (.str "b")) aNil)))))
sPass)
(sSeq (sIf [] (bT (eOp dEq (eVar 0) (eC (.int 10))))
(sRet [] (eCall FX_tree_of (aCons (eVar 1) (aCons (eLst (aCons (eC (.str "a")) aNil)) aNil))))
sPass)
(sSeq (sIf [] (bT (eOp dEq (eVar 0) (eC (.int 11))))
(sRet [] (eCall FX_book_of (aCons (eVar 1) (aCons (eC (.int 1)) (aCons (eLst (aCons (eTup (aCons (eC (.str "a")) (aCons (eC (.int 0)) aNil))) aNil)) aNil)))))
sPass)
(sSeq (sIf [] (bT (eOp dEq (eVar 0) (eC (.int 12))))
(sRet [] (eCall FX_columns_of (aCons (eVar 1) (aCons (eLst (aCons (eC (.str "a")) aNil)) aNil))))
sPass)
(sSeq (sIf [] (bT (eOp dEq (eVar 0) (eC (.int 13))))
(sRet [] (eCall FX_candidates_of (aCons (eVar 1) (aCons (eLst aNil) aNil))))
sPass)
(sSeq (sIf [] (bT (eOp dEq (eVar 0) (eC (.int 14))))
(sRet [] (eCall FX_sets_by_size (aCons (eVar 1) (aCons (eC (.int 2)) aNil))))
sPass)
(sSeq (sIf [] (bT (eOp dEq (eVar 0) (eC (.int 15))))
(sRet [] (eCall FX_books_many (aCons (eVar 1) (aCons (eC (.int 1)) (aCons (eC (.bl true)) aNil)))))
sPass)
(sSeq (sIf [] (bT (eOp dEq (eVar 0) (eC (.int 16))))
(sRet [] (eCall FX_all_books (aCons (eVar 1) (aCons (eC (.int 1)) (aCons (eC (.bl false)) aNil)))))
sPass)
(sSeq (sIf [] (bT (eOp dEq (eVar 0) (eC (.int 17))))
(sRet [] (eCall FX_turned_tongue (aCons (eVar 1) (aCons (eLst (aCons (eC (.str "x")) (aCons (eC (.str "y")) aNil))) aNil))))
sPass)
(sSeq (sIf [] (bT (eOp dEq (eVar 0) (eC (.int 18))))
(sRet [] (eCall FX_turned_text (aCons (eVar 1) (aCons (eLst (aCons (eC (.str "x")) (aCons (eC (.str "y")) aNil))) (aCons (eC (.str "ab")) aNil)))))
sPass)
(sSeq (sIf [] (bT (eOp dEq (eVar 0) (eC (.int 19))))
(sRet [] (eCall FX_turned_book (aCons (eVar 1) (aCons (eLst (aCons (eC (.str "x")) (aCons (eC (.str "y")) aNil))) (aCons (eLst (aCons (eC (.str "a")) aNil)) aNil)))))
sPass)
(sRet [] (eCall FX_dearer (aCons (eVar 1) (aCons (eTup (aCons (eC (.int 2)) (aCons (eC (.int 1)) aNil))) aNil))))))))))))))) ρ := rfl
noncomputable def FX__law_tongue_alone : List D → Res D := runD (["_law_way", "_law_tongue"] : List Str).length n__law_tongue_alone.length BX__law_tongue_alone
theorem okX__law_tongue_alone {P : Program} {w : World} {K : PySem.W.Frag} {mg : Str → Option Value} {base : Heap} (T : Txt K mg) : OkF P w K mg base (L2.CX P w) (10 + 1) "_law_tongue_alone" ["_law_way", "_law_tongue"] (spX K mg FX__law_tongue_alone) :=
  okX (g := BX__law_tongue_alone) T.f__law_tongue_alone c__law_tongue_alone fun f cdv A outer s H E hr => 
(fss_cons (fs_if (L := []) (ft_cmp (op_eqA (K := K) hr.units) opd_eq gb_eq (fe_var 0) fe_int)
(fss_one (fs_ret (L := []) (fe_callX (okX_comes_ahead T) hr (takes_of rfl rfl rfl rfl) (fa_cons (fe_var 1) (fa_cons fe_str (fa_cons fe_str fa_nil))))))
fss_nil)
(fss_cons (fs_if (L := []) (ft_cmp (op_eqA (K := K) hr.units) opd_eq gb_eq (fe_var 0) fe_int)
(fss_one (fs_ret (L := []) (fe_callX (okX_tree_of T) hr (takes_of rfl rfl rfl rfl) (fa_cons (fe_var 1) (fa_cons (fe_lst (fa_cons fe_str fa_nil)) fa_nil)))))
fss_nil)
(fss_cons (fs_if (L := []) (ft_cmp (op_eqA (K := K) hr.units) opd_eq gb_eq (fe_var 0) fe_int)
(fss_one (fs_ret (L := []) (fe_callX (okX_book_of T) hr (takes_of rfl rfl rfl rfl) (fa_cons (fe_var 1) (fa_cons fe_int (fa_cons (fe_lst (fa_cons (fe_tup (fa_cons fe_str (fa_cons fe_int fa_nil))) fa_nil)) fa_nil))))))
fss_nil)
(fss_cons (fs_if (L := []) (ft_cmp (op_eqA (K := K) hr.units) opd_eq gb_eq (fe_var 0) fe_int)
(fss_one (fs_ret (L := []) (fe_callX (okX_columns_of T) hr (takes_of rfl rfl rfl rfl) (fa_cons (fe_var 1) (fa_cons (fe_lst (fa_cons fe_str fa_nil)) fa_nil)))))
fss_nil)
(fss_cons (fs_if (L := []) (ft_cmp (op_eqA (K := K) hr.units) opd_eq gb_eq (fe_var 0) fe_int)
(fss_one (fs_ret (L := []) (fe_callX (okX_candidates_of T) hr (takes_of rfl rfl rfl rfl) (fa_cons (fe_var 1) (fa_cons (fe_lst fa_nil) fa_nil)))))
fss_nil)
(fss_cons (fs_if (L := []) (ft_cmp (op_eqA (K := K) hr.units) opd_eq gb_eq (fe_var 0) fe_int)
(fss_one (fs_ret (L := []) (fe_callX (okX_sets_by_size T) hr (takes_of rfl rfl rfl rfl) (fa_cons (fe_var 1) (fa_cons fe_int fa_nil)))))
fss_nil)
(fss_cons (fs_if (L := []) (ft_cmp (op_eqA (K := K) hr.units) opd_eq gb_eq (fe_var 0) fe_int)
(fss_one (fs_ret (L := []) (fe_callX (okX_books_many T) hr (takes_of rfl rfl rfl rfl) (fa_cons (fe_var 1) (fa_cons fe_int (fa_cons fe_bl fa_nil))))))
fss_nil)
(fss_cons (fs_if (L := []) (ft_cmp (op_eqA (K := K) hr.units) opd_eq gb_eq (fe_var 0) fe_int)
(fss_one (fs_ret (L := []) (fe_callX (okX_all_books T) hr (takes_of rfl rfl rfl rfl) (fa_cons (fe_var 1) (fa_cons fe_int (fa_cons fe_bl fa_nil))))))
fss_nil)
(fss_cons (fs_if (L := []) (ft_cmp (op_eqA (K := K) hr.units) opd_eq gb_eq (fe_var 0) fe_int)
(fss_one (fs_ret (L := []) (fe_callX (okX_turned_tongue T) hr (takes_of rfl rfl rfl rfl) (fa_cons (fe_var 1) (fa_cons (fe_lst (fa_cons fe_str (fa_cons fe_str fa_nil))) fa_nil)))))
fss_nil)
(fss_cons (fs_if (L := []) (ft_cmp (op_eqA (K := K) hr.units) opd_eq gb_eq (fe_var 0) fe_int)
(fss_one (fs_ret (L := []) (fe_callX (okX_turned_text T) hr (takes_of rfl rfl rfl rfl) (fa_cons (fe_var 1) (fa_cons (fe_lst (fa_cons fe_str (fa_cons fe_str fa_nil))) (fa_cons fe_str fa_nil))))))
fss_nil)
(fss_cons (fs_if (L := []) (ft_cmp (op_eqA (K := K) hr.units) opd_eq gb_eq (fe_var 0) fe_int)
(fss_one (fs_ret (L := []) (fe_callX (okX_turned_book T) hr (takes_of rfl rfl rfl rfl) (fa_cons (fe_var 1) (fa_cons (fe_lst (fa_cons fe_str (fa_cons fe_str fa_nil))) (fa_cons (fe_lst (fa_cons fe_str fa_nil)) fa_nil))))))
fss_nil)
(fss_one (fs_ret (L := []) (fe_callX (okX_dearer T) hr (takes_of rfl rfl rfl rfl) (fa_cons (fe_var 1) (fa_cons (fe_tup (fa_cons fe_int (fa_cons fe_int fa_nil))) fa_nil))))))))))))))))

noncomputable def BX__law_with_wants : Env → Out := (sSeq (sIf [] (bT (eOp dEq (eVar 0) (eC (.int 21))))
(sRet [] (eCall FX_what_is_wrong (aCons (eVar 1) (aCons (eVar 2) (aCons (eLst (aCons (eC (.str "a")) aNil)) (aCons (eC (.bl false)) aNil))))))
sPass)
(sSeq (sIf [] (bT (eOp dEq (eVar 0) (eC (.int 22))))
(sRet [] (eCall FX_cost_of (aCons (eVar 1) (aCons (eVar 2) (aCons (eLst (aCons (eC (.str "a")) aNil)) aNil)))))
sPass)
(sSeq (sIf [] (bT (eOp dEq (eVar 0) (eC (.int 23))))
(sRet [] (eCall FX_lets_floors (aCons (eVar 1) (aCons (eVar 2) (aCons eDct0 (aCons (eC (.bl false)) aNil))))))
sPass)
(sSeq (sIf [] (bT (eOp dEq (eVar 0) (eC (.int 24))))
(sRet [] (eCall FX_cheapest_book (aCons (eVar 1) (aCons (eVar 2) (aCons (eC (.bl true)) aNil)))))
sPass)
(sSeq (sIf [] (bT (eOp dEq (eVar 0) (eC (.int 25))))
(sRet [] (eCall FX_lets_shares (aCons (eVar 1) (aCons (eVar 2) (aCons (eC .non) aNil)))))
sPass)
(sSeq (sIf [] (bT (eOp dEq (eVar 0) (eC (.int 26))))
(sRet [] (eCall FX_shares_for (aCons (eVar 1) (aCons (eVar 2) aNil))))
sPass)
(sSeq (sIf [] (bT (eOp dEq (eVar 0) (eC (.int 27))))
(sRet [] (eCall FX_is_reason (aCons (eVar 1) (aCons (eVar 2) (aCons (eTup (aCons (eC (.int 1)) (aCons (eC (.int 1)) aNil))) (aCons (eLst aNil) (aCons (eTup (aCons (eC (.str "few")) aNil)) aNil)))))))
sPass)
(sSeq (sIf [] (bT (eOp dEq (eVar 0) (eC (.int 28))))
(sRet [] (eCall FX_lets_tree (aCons (eVar 1) (aCons (eVar 2) (aCons (eTup (aCons (eC (.int 1)) (aCons (eC (.int 1)) aNil))) (aCons (eTup (aCons (eC (.str "few")) aNil)) aNil))))))
sPass)
(sSeq (sIf [] (bT (eOp dEq (eVar 0) (eC (.int 29))))
(sRet [] (eCall FX_seek_book (aCons (eVar 1) (aCons (eVar 2) (aCons (eTup (aCons (eC (.int 1)) (aCons (eC (.int 1)) aNil))) (aCons (eC (.int 9)) aNil))))))
sPass)
(sSeq (sIf [] (bT (eOp dEq (eVar 0) (eC (.int 30))))
(sRet [] (eCall FX_bound_book (aCons (eVar 1) (aCons (eVar 2) (aCons eDct0 (aCons (eC (.bl false)) aNil))))))
sPass)
(sSeq (sIf [] (bT (eOp dEq (eVar 0) (eC (.int 31))))
(sRet [] (eCall FX_mend (aCons (eVar 1) (aCons (eVar 2) (aCons (eLst (aCons (eC (.str "a")) aNil)) (aCons (eTup (aCons (eC (.int 0)) (aCons (eC (.int 1)) aNil))) (aCons (eC (.bl false)) aNil)))))))
sPass)
(sSeq (sIf [] (bT (eOp dEq (eVar 0) (eC (.int 32))))
(sRet [] (eAttX (eMkX FC_Keeper (aCons (eVar 1) (aCons (eVar 2) (aCons (eC (.bl false)) (aCons (eTup (aCons (eC (.int 0)) (aCons (eC (.int 1)) aNil))) aNil)))))))
sPass)
(sSeq (sIf [] (bT (eOp dEq (eVar 0) (eC (.int 33))))
(sRet [] (eCall FX_costs_of_all (aCons (eVar 1) (aCons (eVar 2) (aCons (eC (.bl false)) aNil)))))
sPass)
(sRet [] (eCall FX_write_case (aCons (eTup (aCons (eVar 1) (aCons (eVar 2) (aCons (eC .non) aNil)))) aNil))))))))))))))))
theorem BX__law_with_wants_u (ρ : Env) : BX__law_with_wants ρ = (sSeq (sIf [] (bT (eOp dEq (eVar 0) (eC (.int 21))))
(sRet [] (eCall FX_what_is_wrong (aCons (eVar 1) (aCons (eVar 2) (aCons (eLst (aCons (eC (.str "a")) aNil)) (aCons (eC (.bl false)) aNil))))))
sPass)
(sSeq (sIf [] (bT (eOp dEq (eVar 0) (eC (.int 22))))
(sRet [] (eCall FX_cost_of (aCons (eVar 1) (aCons (eVar 2) (aCons (eLst (aCons (eC (.str "a")) aNil)) aNil)))))
sPass)
(sSeq (sIf [] (bT (eOp dEq (eVar 0) (eC (.int 23))))
(sRet [] (eCall FX_lets_floors (aCons (eVar 1) (aCons (eVar 2) (aCons eDct0 (aCons (eC (.bl false)) aNil))))))
sPass)
(sSeq (sIf [] (bT (eOp dEq (eVar 0) (eC (.int 24))))
(sRet [] (eCall FX_cheapest_book (aCons (eVar 1) (aCons (eVar 2) (aCons (eC (.bl true)) aNil)))))
sPass)
(sSeq (sIf [] (bT (eOp dEq (eVar 0) (eC (.int 25))))
(sRet [] (eCall FX_lets_shares (aCons (eVar 1) (aCons (eVar 2) (aCons (eC .non) aNil)))))
sPass)
(sSeq (sIf [] (bT (eOp dEq (eVar 0) (eC (.int 26))))
(sRet [] (eCall FX_shares_for (aCons (eVar 1) (aCons (eVar 2) aNil))))
sPass)
(sSeq (sIf [] (bT (eOp dEq (eVar 0) (eC (.int 27))))
(sRet [] (eCall FX_is_reason (aCons (eVar 1) (aCons (eVar 2) (aCons (eTup (aCons (eC (.int 1)) (aCons (eC (.int 1)) aNil))) (aCons (eLst aNil) (aCons (eTup (aCons (eC (.str "few")) aNil)) aNil)))))))
sPass)
(sSeq (sIf [] (bT (eOp dEq (eVar 0) (eC (.int 28))))
(sRet [] (eCall FX_lets_tree (aCons (eVar 1) (aCons (eVar 2) (aCons (eTup (aCons (eC (.int 1)) (aCons (eC (.int 1)) aNil))) (aCons (eTup (aCons (eC (.str "few")) aNil)) aNil))))))
sPass)
(sSeq (sIf [] (bT (eOp dEq (eVar 0) (eC (.int 29))))
(sRet [] (eCall FX_seek_book (aCons (eVar 1) (aCons (eVar 2) (aCons (eTup (aCons (eC (.int 1)) (aCons (eC (.int 1)) aNil))) (aCons (eC (.int 9)) aNil))))))
sPass)
(sSeq (sIf [] (bT (eOp dEq (eVar 0) (eC (.int 30))))
(sRet [] (eCall FX_bound_book (aCons (eVar 1) (aCons (eVar 2) (aCons eDct0 (aCons (eC (.bl false)) aNil))))))
sPass)
(sSeq (sIf [] (bT (eOp dEq (eVar 0) (eC (.int 31))))
(sRet [] (eCall FX_mend (aCons (eVar 1) (aCons (eVar 2) (aCons (eLst (aCons (eC (.str "a")) aNil)) (aCons (eTup (aCons (eC (.int 0)) (aCons (eC (.int 1)) aNil))) (aCons (eC (.bl false)) aNil)))))))
sPass)
(sSeq (sIf [] (bT (eOp dEq (eVar 0) (eC (.int 32))))
(sRet [] (eAttX (eMkX FC_Keeper (aCons (eVar 1) (aCons (eVar 2) (aCons (eC (.bl false)) (aCons (eTup (aCons (eC (.int 0)) (aCons (eC (.int 1)) aNil))) aNil)))))))
sPass)
(sSeq (sIf [] (bT (eOp dEq (eVar 0) (eC (.int 33))))
(sRet [] (eCall FX_costs_of_all (aCons (eVar 1) (aCons (eVar 2) (aCons (eC (.bl false)) aNil)))))
sPass)
(sRet [] (eCall FX_write_case (aCons (eTup (aCons (eVar 1) (aCons (eVar 2) (aCons (eC .non) aNil)))) aNil)))))))))))))))) ρ := rfl
noncomputable def FX__law_with_wants : List D → Res D := runD (["_law_way", "_law_tongue", "_law_wants_here"] : List Str).length n__law_with_wants.length BX__law_with_wants
theorem okX__law_with_wants {P : Program} {w : World} {K : PySem.W.Frag} {mg : Str → Option Value} {base : Heap} (T : Txt K mg) : OkF P w K mg base (L2.CX P w) (11 + 1) "_law_with_wants" ["_law_way", "_law_tongue", "_law_wants_here"] (spX K mg FX__law_with_wants) :=
  okX (g := BX__law_with_wants) T.f__law_with_wants c__law_with_wants fun f cdv A outer s H E hr => 
(fss_cons (fs_if (L := []) (ft_cmp (op_eqA (K := K) hr.units) opd_eq gb_eq (fe_var 0) fe_int)
(fss_one (fs_ret (L := []) (fe_callXn (okX_what_is_wrong T) hr (takes_of rfl rfl rfl rfl) (fa_cons (fe_var 1) (fa_cons (fe_var 2) (fa_cons (fe_lst (fa_cons fe_str fa_nil)) (fa_cons fe_bl fa_nil)))))))
fss_nil)
(fss_cons (fs_if (L := []) (ft_cmp (op_eqA (K := K) hr.units) opd_eq gb_eq (fe_var 0) fe_int)
(fss_one (fs_ret (L := []) (fe_callX (okX_cost_of T) hr (takes_of rfl rfl rfl rfl) (fa_cons (fe_var 1) (fa_cons (fe_var 2) (fa_cons (fe_lst (fa_cons fe_str fa_nil)) fa_nil))))))
fss_nil)
(fss_cons (fs_if (L := []) (ft_cmp (op_eqA (K := K) hr.units) opd_eq gb_eq (fe_var 0) fe_int)
(fss_one (fs_ret (L := []) (fe_callX (okX_lets_floors T) hr (takes_of rfl rfl rfl rfl) (fa_cons (fe_var 1) (fa_cons (fe_var 2) (fa_cons fe_dct0 (fa_cons fe_bl fa_nil)))))))
fss_nil)
(fss_cons (fs_if (L := []) (ft_cmp (op_eqA (K := K) hr.units) opd_eq gb_eq (fe_var 0) fe_int)
(fss_one (fs_ret (L := []) (fe_callX (okX_cheapest_book T) hr (takes_of rfl rfl rfl rfl) (fa_cons (fe_var 1) (fa_cons (fe_var 2) (fa_cons fe_bl fa_nil))))))
fss_nil)
(fss_cons (fs_if (L := []) (ft_cmp (op_eqA (K := K) hr.units) opd_eq gb_eq (fe_var 0) fe_int)
(fss_one (fs_ret (L := []) (fe_callX (okX_lets_shares T) hr (takes_of rfl rfl rfl rfl) (fa_cons (fe_var 1) (fa_cons (fe_var 2) (fa_cons fe_non fa_nil))))))
fss_nil)
(fss_cons (fs_if (L := []) (ft_cmp (op_eqA (K := K) hr.units) opd_eq gb_eq (fe_var 0) fe_int)
(fss_one (fs_ret (L := []) (fe_callX (okX_shares_for T) hr (takes_of rfl rfl rfl rfl) (fa_cons (fe_var 1) (fa_cons (fe_var 2) fa_nil)))))
fss_nil)
(fss_cons (fs_if (L := []) (ft_cmp (op_eqA (K := K) hr.units) opd_eq gb_eq (fe_var 0) fe_int)
(fss_one (fs_ret (L := []) (fe_callX (okX_is_reason T) hr (takes_of rfl rfl rfl rfl) (fa_cons (fe_var 1) (fa_cons (fe_var 2) (fa_cons (fe_tup (fa_cons fe_int (fa_cons fe_int fa_nil))) (fa_cons (fe_lst fa_nil) (fa_cons (fe_tup (fa_cons fe_str fa_nil)) fa_nil))))))))
fss_nil)
(fss_cons (fs_if (L := []) (ft_cmp (op_eqA (K := K) hr.units) opd_eq gb_eq (fe_var 0) fe_int)
(fss_one (fs_ret (L := []) (fe_callX (okX_lets_tree T) hr (takes_of rfl rfl rfl rfl) (fa_cons (fe_var 1) (fa_cons (fe_var 2) (fa_cons (fe_tup (fa_cons fe_int (fa_cons fe_int fa_nil))) (fa_cons (fe_tup (fa_cons fe_str fa_nil)) fa_nil)))))))
fss_nil)
(fss_cons (fs_if (L := []) (ft_cmp (op_eqA (K := K) hr.units) opd_eq gb_eq (fe_var 0) fe_int)
(fss_one (fs_ret (L := []) (fe_callX (okX_seek_book T) hr (takes_of rfl rfl rfl rfl) (fa_cons (fe_var 1) (fa_cons (fe_var 2) (fa_cons (fe_tup (fa_cons fe_int (fa_cons fe_int fa_nil))) (fa_cons fe_int fa_nil)))))))
fss_nil)
(fss_cons (fs_if (L := []) (ft_cmp (op_eqA (K := K) hr.units) opd_eq gb_eq (fe_var 0) fe_int)
(fss_one (fs_ret (L := []) (fe_callX (okX_bound_book T) hr (takes_of rfl rfl rfl rfl) (fa_cons (fe_var 1) (fa_cons (fe_var 2) (fa_cons fe_dct0 (fa_cons fe_bl fa_nil)))))))
fss_nil)
(fss_cons (fs_if (L := []) (ft_cmp (op_eqA (K := K) hr.units) opd_eq gb_eq (fe_var 0) fe_int)
(fss_one (fs_ret (L := []) (fe_callX (okX_mend T) hr (takes_of rfl rfl rfl rfl) (fa_cons (fe_var 1) (fa_cons (fe_var 2) (fa_cons (fe_lst (fa_cons fe_str fa_nil)) (fa_cons (fe_tup (fa_cons fe_int (fa_cons fe_int fa_nil))) (fa_cons fe_bl fa_nil))))))))
fss_nil)
(fss_cons (fs_if (L := []) (ft_cmp (op_eqA (K := K) hr.units) opd_eq gb_eq (fe_var 0) fe_int)
(fss_one (fs_ret (L := []) (fe_attX0 (okM_never T.M_Keeper_book_now c_Keeper_book_now) T.K_Keeper hr (fe_mkX (ic_Keeper T) hr (takes_of rfl rfl rfl rfl) (fa_cons (fe_var 1) (fa_cons (fe_var 2) (fa_cons fe_bl (fa_cons (fe_tup (fa_cons fe_int (fa_cons fe_int fa_nil))) fa_nil))))))))
fss_nil)
(fss_cons (fs_if (L := []) (ft_cmp (op_eqA (K := K) hr.units) opd_eq gb_eq (fe_var 0) fe_int)
(fss_one (fs_ret (L := []) (fe_callX (okX_costs_of_all T) hr (takes_of rfl rfl rfl rfl) (fa_cons (fe_var 1) (fa_cons (fe_var 2) (fa_cons fe_bl fa_nil))))))
fss_nil)
(fss_one (fs_ret (L := []) (fe_callX (okX_write_case T) hr (takes_of rfl rfl rfl rfl) (fa_cons (fe_tup (fa_cons (fe_var 1) (fa_cons (fe_var 2) (fa_cons fe_non fa_nil)))) fa_nil)))))))))))))))))

noncomputable def BX__law_wants_alone : Env → Out := (sSeq (sIf [] (bT (eOp dEq (eVar 0) (eC (.int 35))))
(sRet [] (eCall FX_look_at_wants (aCons (eVar 1) aNil)))
sPass)
(sSeq (sIf [] (bT (eOp dEq (eVar 0) (eC (.int 36))))
(sRet [] (eCall FX_claim_of_floors (aCons (eVar 1) (aCons eDct0 aNil))))
sPass)
(sSeq (sIf [] (bT (eOp dEq (eVar 0) (eC (.int 37))))
(sRet [] (eCall FX_put_wants (aCons (eVar 1) (aCons (eLst (aCons (eC (.int 0)) aNil)) aNil))))
sPass)
(sRet [] (eCall FX_more_often (aCons (eVar 1) (aCons (eC (.int 2)) aNil)))))))
theorem BX__law_wants_alone_u (ρ : Env) : BX__law_wants_alone ρ = (sSeq (sIf [] (bT (eOp dEq (eVar 0) (eC (.int 35))))
(sRet [] (eCall FX_look_at_wants (aCons (eVar 1) aNil)))
sPass)
(sSeq (sIf [] (bT (eOp dEq (eVar 0) (eC (.int 36))))
(sRet [] (eCall FX_claim_of_floors (aCons (eVar 1) (aCons eDct0 aNil))))
sPass)
(sSeq (sIf [] (bT (eOp dEq (eVar 0) (eC (.int 37))))
(sRet [] (eCall FX_put_wants (aCons (eVar 1) (aCons (eLst (aCons (eC (.int 0)) aNil)) aNil))))
sPass)
(sRet [] (eCall FX_more_often (aCons (eVar 1) (aCons (eC (.int 2)) aNil))))))) ρ := rfl
noncomputable def FX__law_wants_alone : List D → Res D := runD (["_law_way", "_law_wants_here"] : List Str).length n__law_wants_alone.length BX__law_wants_alone
theorem okX__law_wants_alone {P : Program} {w : World} {K : PySem.W.Frag} {mg : Str → Option Value} {base : Heap} (T : Txt K mg) : OkF P w K mg base (L2.CX P w) (4 + 1) "_law_wants_alone" ["_law_way", "_law_wants_here"] (spX K mg FX__law_wants_alone) :=
  okX (g := BX__law_wants_alone) T.f__law_wants_alone c__law_wants_alone fun f cdv A outer s H E hr => 
(fss_cons (fs_if (L := []) (ft_cmp (op_eqA (K := K) hr.units) opd_eq gb_eq (fe_var 0) fe_int)
(fss_one (fs_ret (L := []) (fe_callX (okX_look_at_wants T) hr (takes_of rfl rfl rfl rfl) (fa_cons (fe_var 1) fa_nil))))
fss_nil)
(fss_cons (fs_if (L := []) (ft_cmp (op_eqA (K := K) hr.units) opd_eq gb_eq (fe_var 0) fe_int)
(fss_one (fs_ret (L := []) (fe_callX (okX_claim_of_floors T) hr (takes_of rfl rfl rfl rfl) (fa_cons (fe_var 1) (fa_cons fe_dct0 fa_nil)))))
fss_nil)
(fss_cons (fs_if (L := []) (ft_cmp (op_eqA (K := K) hr.units) opd_eq gb_eq (fe_var 0) fe_int)
(fss_one (fs_ret (L := []) (fe_callX (okX_put_wants T) hr (takes_of rfl rfl rfl rfl) (fa_cons (fe_var 1) (fa_cons (fe_lst (fa_cons fe_int fa_nil)) fa_nil)))))
fss_nil)
(fss_one (fs_ret (L := []) (fe_callX (okX_more_often T) hr (takes_of rfl rfl rfl rfl) (fa_cons (fe_var 1) (fa_cons fe_int fa_nil))))))))

end Du

namespace Dear
open PySem PySem.Spec PyProof.Rows L2
/-! ### try suites with named readings; unpacking of lists -/
theorem XfC.of {K : PySem.W.Frag} {C : Addr} (T : ExcC K C) : XfC K C := ⟨T.hg, T.hk, T.hs, T.hd⟩
/-- try .. except X: ..; try .. except X as n: .. (readings with a name, for loops) -/
def sTryO (K : PySem.W.Frag) (c : Value) (ts : Addr → Value → Option Addr → TS) (Wout : WX) (tb : WX → TS) : TS := fun D σ H => tb (wOnly K c ts Wout D) D σ H
def sTryA (K : PySem.W.Frag) (c : Value) (i : Nat) (ts : Addr → Value → Option Addr → TS) (Wout : WX) (tb : WX → TS) : TS := fun D σ H => tb (wAs K c i ts Wout D) D σ H
section
variable {X : Cx} {x n : Str} {c : Value} {i : Nat} {body suite : List Stmt} {b₀ : Stmt} {np pos pos' : Pos} {tb : WX → TS} {ts : Addr → Value → Option Addr → TS} {Wout : WX}
end
end Dear

namespace Du
open PySem PySem.Spec PyProof.Rows L2 Dear
/-! ### defs by hand over the layer's expressions -/
theorem vw_nil {K : PySem.W.Frag} {F : Hp} : Vw K F [] [] := ⟨rfl, fun i d e => by simp at e⟩
theorem vw_cons {K : PySem.W.Frag} {F : Hp} {σ : St} {ρ : VEnv} {v : Option V} {d : Option D} (h : ∀ x, d = some x → ∃ u, v = some u ∧ Dt K F u x) (r : Vw K F σ ρ) : Vw K F (v :: σ) (d :: ρ) := ⟨by rw [List.length_cons, List.length_cons, r.len], fun i e he => by
  cases i with
  | zero =>
    have he : some d = some (some e) := he
    cases he
    obtain ⟨u, rfl, hu⟩ := h e rfl
    exact ⟨u, rfl, hu⟩
  | succ i => exact r.get i e he⟩
theorem vw_some {K : PySem.W.Frag} {F : Hp} {σ : St} {ρ : VEnv} {v : V} {d : D} (h : Dt K F v d) (r : Vw K F σ ρ) : Vw K F (some v :: σ) (some d :: ρ) := vw_cons (fun x e => by cases e; exact ⟨v, rfl, h⟩) r
theorem vw_none {K : PySem.W.Frag} {F : Hp} {σ : St} {ρ : VEnv} {v : Option V} (r : Vw K F σ ρ) : Vw K F (v :: σ) (none :: ρ) := vw_cons (fun x e => nomatch e) r
end Du

namespace Du
open PySem PySem.Spec PyProof.Rows L2 Dear
set_option maxHeartbeats 400000
/-! ### k86: what the doors tell, taken by the two clauses -/
noncomputable def DX (k : Int) (t w : D) : Res D := if k < 9 then FX__law_stage_two [.int k, t] else if k < 21 then FX__law_tongue_alone [.int k, t] else if k < 35 then FX__law_with_wants [.int k, t, w] else FX__law_wants_alone [.int k, w]
def exT (q : D) : Ex := ⟨"NoTongue", [("part", q)]⟩
def exW (q : D) : Ex := ⟨"NoWants", [("number", q)]⟩
open Classical in
noncomputable def told (r : Res D) : Res D := if h : ∃ q, r = .exc (exT q) then .ok (.tup [.str "tongue", Classical.choose h]) else if h : ∃ q, r = .exc (exW q) then .ok (.tup [.str "wants", Classical.choose h]) else .bad
noncomputable def F__law_told : List D → Res D
  | [.int k, t, w] => told (DX k t w)
  | _ => .bad
theorem exT_inj {p q : D} (h : (Res.exc (exT p) : Res D) = .exc (exT q)) : p = q := by
  unfold exT at h
  injection h with h
  injection h with _ h
  exact congrArg Prod.snd (List.cons.inj h).1
theorem exW_inj {p q : D} (h : (Res.exc (exW p) : Res D) = .exc (exW q)) : p = q := by
  unfold exW at h
  injection h with h
  injection h with _ h
  exact congrArg Prod.snd (List.cons.inj h).1
theorem tw_ne : ¬ ((Str.ofString "NoWants" : Str) = Str.ofString "NoTongue") := by decide +kernel
theorem told_t {q : D} : told (.exc (exT q)) = .ok (.tup [.str "tongue", q]) := by
  have h : ∃ p, (Res.exc (exT q) : Res D) = .exc (exT p) := ⟨q, rfl⟩
  unfold told
  rw [dif_pos h, ← exT_inj (Classical.choose_spec h)]
theorem told_w {q : D} : told (.exc (exW q)) = .ok (.tup [.str "wants", q]) := by
  have h : ∃ p, (Res.exc (exW q) : Res D) = .exc (exW p) := ⟨q, rfl⟩
  have n : ¬ ∃ p, (Res.exc (exW q) : Res D) = .exc (exT p) := by
    rintro ⟨p, e⟩
    unfold exW exT at e
    injection e with e
    injection e with e _
    exact tw_ne e
  unfold told
  rw [dif_neg n, dif_pos h, ← exW_inj (Classical.choose_spec h)]
theorem told_inv {r : Res D} {d : D} (h : told r = .ok d) : (∃ q, r = .exc (exT q) ∧ d = .tup [.str "tongue", q]) ∨ ∃ q, r = .exc (exW q) ∧ d = .tup [.str "wants", q] := by
  by_cases c : ∃ q, r = .exc (exT q)
  · obtain ⟨q, rfl⟩ := c
    rw [told_t] at h
    cases h
    exact .inl ⟨q, rfl, rfl⟩
  · by_cases c2 : ∃ q, r = .exc (exW q)
    · obtain ⟨q, rfl⟩ := c2
      rw [told_w] at h
      cases h
      exact .inr ⟨q, rfl, rfl⟩
    · unfold told at h
      rw [dif_neg c, dif_neg c2] at h
      cases h
theorem exm_kit {K : PySem.W.Frag} {A C : Value} (e : PySem.W.exmOne K C C = some true) (q : PySem.W.kitOne K A C = some false) : PySem.W.exmOne K A C = some false := by
  unfold PySem.W.exmOne at e ⊢
  unfold PySem.W.kitOne at q
  split at e
  · rename_i c
    rw [if_pos c]
    split at q
    · cases q
    · exact q
  · cases e
noncomputable def f86 (n : Int) : VEnv → Res Bool := bT (eOp dLt (eVar 0) (eC (.int n)))
theorem f86_e (n k : Int) (r : VEnv) : f86 n (some (.int k) :: r) = .ok (decide (k < n)) := by
  unfold f86
  simp
section
variable {P : Program} {w : World} {K : PySem.W.Frag} {mg : Str → Option Value} {base : Heap}
theorem ok__law_told (T : Txt K mg) : OkF P w K mg base CX0 (13 + 1) "_law_told" ["_law_way", "_law_tongue", "_law_wants_here"] (sp0 K F__law_told) := by
  have o1 := okX__law_stage_two (P := P) (w := w) (base := base) T
  have o2 := okX__law_tongue_alone (P := P) (w := w) (base := base) T
  have o3 := okX__law_with_wants (P := P) (w := w) (base := base) T
  have o4 := okX__law_wants_alone (P := P) (w := w) (base := base) T
  refine T.f__law_told.ok c__law_told (fun vs H Q E h => ?_) (fun f cdv A outer s H vs Q E hr h => ?_)
  · obtain ⟨ds, G, sG, hd, d, e, _⟩ := h
    unfold F__law_told at e
    split at e
    · exact hd.length
    · cases e
  · obtain ⟨ds, G, sG, hd, d, e, Z⟩ := h
    unfold F__law_told at e
    split at e
    · rename_i k t w'
      cases hd with
      | cons d1 hd =>
      cases hd with
      | cons d2 hd =>
      cases hd with
      | cons d3 hd =>
      cases hd
      have := d1.intE
      subst this
      rename_i v2 v3
      refine ⟨_, (pss_cons (ps_set (i := 3) c__law_told.nd rfl (Or.inl rfl) (fe_tup (K := K) (xm := none) (fa_cons fe_str (fa_cons fe_non fa_nil))))
        (pss_cons (ps_tryN (i := 4) rfl rfl c__law_told.nd rfl rfl takes0 (fun W pn xe tk _ =>
          (pss_one (ps_if (show FT K none _ _ (f86 9) from ft_cmp op_lt opd_lt gb_cmp (fe_var 0) fe_int)
            (pss_one (ps_expr (pe_cx o1 hr tk (pa_cons (pv 0) (pa_cons (pv 1) pa_nil)))))
            (pss_one (ps_if (show FT K none _ _ (f86 21) from ft_cmp op_lt opd_lt gb_cmp (fe_var 0) fe_int)
              (pss_one (ps_expr (pe_cx o2 hr tk (pa_cons (pv 0) (pa_cons (pv 1) pa_nil)))))
              (pss_one (ps_if (show FT K none _ _ (f86 35) from ft_cmp op_lt opd_lt gb_cmp (fe_var 0) fe_int)
                (pss_one (ps_expr (pe_cx o3 hr tk (pa_cons (pv 0) (pa_cons (pv 1) (pa_cons (pv 2) pa_nil))))))
                (pss_one (ps_expr (pe_cx o4 hr tk (pa_cons (pv 0) (pa_cons (pv 2) pa_nil))))))))))))
          (.cons ⟨rfl, by decide, Or.inl T.C_NoTongue⟩ (fun a oe cls d pn hz hf => (pss_one (ps_set (i := 3) c__law_told.nd rfl (Or.inl rfl) (pe_tup (pa_cons pe_str (pa_cons (pe_xf (XfC.of T.X_NoTongue.c) T.X_NoTongue.n hz hf (pv 4)) pa_nil))))))
          (.cons ⟨rfl, by decide, Or.inl T.C_NoWants⟩ (fun a oe cls d pn hz hf => (pss_one (ps_set (i := 3) c__law_told.nd rfl (Or.inl rfl) (pe_tup (pa_cons pe_str (pa_cons (pe_xf (XfC.of T.X_NoWants.c) T.X_NoWants.n hz hf (pv 4)) pa_nil)))))) .nil)))
        (pss_one (ps_ret (pv 3))))), ?_⟩
      refine ⟨G, [some (.int k), some t, some w', none, none], sG, vw_some d1 (vw_some d2 (vw_some d3 (vw_none (vw_none vw_nil)))), ?_⟩
      have e0 : eTup (aCons (eC (.str "good")) (aCons (eC .non) aNil)) [some (.int k), some t, some w', none, none] = .ok (.tup [.str "good", .non]) := by simp
      show Po _ _ _ _ _ _ (eTup _ _) _
      rw [e0]
      intro v4 F1 H1 g1 d4
      have g10 := g1
      have vw : Vw K F1 [some (.int k), some v2, some v3, some v4, none] [some (.int k), some t, some w', none, none] := vw_some (.int k) (vw_some (d2.same g1.ff) (vw_some (d3.same g1.ff) (vw_none (vw_none vw_nil))))
      have vw1 := vw
      by_cases c1 : k < 9
      · refine ⟨F1, _, g1.fh, vw1, ?_⟩
        rw [f86_e, decide_eq_true c1]
        intro b2 F2 H2 k2 hb2
        cases hb2
        refine iteT ?_
        have g2 := g1.trans k2
        have vw2 := vw1.same k2.ff
        refine ⟨_, rfl, _, rfl, [.int k, t], F2, g2.fh, .cons (.int _) (.cons (d2.same g2.ff) .nil), ?_⟩
        rcases told_inv e with ⟨q, hx, rfl⟩ | ⟨q, hx, rfl⟩
        · unfold DX at hx
          rw [if_pos c1] at hx
          rw [hx]
          intro C dd G' H' g' hx'
          obtain ⟨hc, y, v, rfl, hy, dv⟩ := hx'
          have ec : C = .ref T.A.NoTongue := by
            have hc : mg "NoTongue" = some C := hc; have := T.C_NoTongue
            rw [this] at hc
            exact (Option.some.inj hc).symm
          subst ec
          refine ⟨true, T.e_NoTongue, fun _ a ha => ?_, fun q => nomatch q⟩
          refine ⟨_, rfl, rfl, rfl, y, _, v, rfl, g'.fh _ _ hy, rfl, (by show 2 ≤ sizeLine; decide), fun p hp => ?_⟩
          refine ⟨_, rfl, ?_⟩
          have gn : Gr G' H' (upd G' p (.tup [.str "tongue", v])) (upd H' p (.tup [.str "tongue", v])) := .new g'.fh hp
          exact Z _ _ _ ((g2.trans g').trans gn) (.tup upd_same (.cons (.str _) (.cons (dv.same gn.ff) .nil)))
        · unfold DX at hx
          rw [if_pos c1] at hx
          rw [hx]
          intro C dd G' H' g' hx'
          obtain ⟨hc, y, v, rfl, hy, dv⟩ := hx'
          have ec : C = .ref T.A.NoWants := by
            have hc : mg "NoWants" = some C := hc; have := T.C_NoWants
            rw [this] at hc
            exact (Option.some.inj hc).symm
          subst ec
          refine ⟨false, exm_kit T.e_NoTongue T.q_NoWants_NoTongue, (fun q => nomatch q), fun _ => ⟨true, T.e_NoWants, fun _ a ha => ?_, fun q => nomatch q⟩⟩
          refine ⟨_, rfl, rfl, rfl, y, _, v, rfl, g'.fh _ _ hy, rfl, (by show 2 ≤ sizeLine; decide), fun p hp => ?_⟩
          refine ⟨_, rfl, ?_⟩
          have gn : Gr G' H' (upd G' p (.tup [.str "wants", v])) (upd H' p (.tup [.str "wants", v])) := .new g'.fh hp
          exact Z _ _ _ ((g2.trans g').trans gn) (.tup upd_same (.cons (.str _) (.cons (dv.same gn.ff) .nil)))
      · by_cases c2 : k < 21
        · refine ⟨F1, _, g1.fh, vw1, ?_⟩
          rw [f86_e, decide_eq_false c1]
          intro b2 F2 H2 k2 hb2
          cases hb2
          refine iteF ?_
          have g2 := g1.trans k2
          have vw2 := vw1.same k2.ff
          refine ⟨F2, _, g2.fh, vw2, ?_⟩
          rw [f86_e, decide_eq_true c2]
          intro b3 F3 H3 k3 hb3
          cases hb3
          refine iteT ?_
          have g3 := g2.trans k3
          have vw3 := vw2.same k3.ff
          refine ⟨_, rfl, _, rfl, [.int k, t], F3, g3.fh, .cons (.int _) (.cons (d2.same g3.ff) .nil), ?_⟩
          rcases told_inv e with ⟨q, hx, rfl⟩ | ⟨q, hx, rfl⟩
          · unfold DX at hx
            rw [if_neg c1, if_pos c2] at hx
            rw [hx]
            intro C dd G' H' g' hx'
            obtain ⟨hc, y, v, rfl, hy, dv⟩ := hx'
            have ec : C = .ref T.A.NoTongue := by
              have hc : mg "NoTongue" = some C := hc; have := T.C_NoTongue
              rw [this] at hc
              exact (Option.some.inj hc).symm
            subst ec
            refine ⟨true, T.e_NoTongue, fun _ a ha => ?_, fun q => nomatch q⟩
            refine ⟨_, rfl, rfl, rfl, y, _, v, rfl, g'.fh _ _ hy, rfl, (by show 2 ≤ sizeLine; decide), fun p hp => ?_⟩
            refine ⟨_, rfl, ?_⟩
            have gn : Gr G' H' (upd G' p (.tup [.str "tongue", v])) (upd H' p (.tup [.str "tongue", v])) := .new g'.fh hp
            exact Z _ _ _ ((g3.trans g').trans gn) (.tup upd_same (.cons (.str _) (.cons (dv.same gn.ff) .nil)))
          · unfold DX at hx
            rw [if_neg c1, if_pos c2] at hx
            rw [hx]
            intro C dd G' H' g' hx'
            obtain ⟨hc, y, v, rfl, hy, dv⟩ := hx'
            have ec : C = .ref T.A.NoWants := by
              have hc : mg "NoWants" = some C := hc; have := T.C_NoWants
              rw [this] at hc
              exact (Option.some.inj hc).symm
            subst ec
            refine ⟨false, exm_kit T.e_NoTongue T.q_NoWants_NoTongue, (fun q => nomatch q), fun _ => ⟨true, T.e_NoWants, fun _ a ha => ?_, fun q => nomatch q⟩⟩
            refine ⟨_, rfl, rfl, rfl, y, _, v, rfl, g'.fh _ _ hy, rfl, (by show 2 ≤ sizeLine; decide), fun p hp => ?_⟩
            refine ⟨_, rfl, ?_⟩
            have gn : Gr G' H' (upd G' p (.tup [.str "wants", v])) (upd H' p (.tup [.str "wants", v])) := .new g'.fh hp
            exact Z _ _ _ ((g3.trans g').trans gn) (.tup upd_same (.cons (.str _) (.cons (dv.same gn.ff) .nil)))
        · by_cases c3 : k < 35
          · refine ⟨F1, _, g1.fh, vw1, ?_⟩
            rw [f86_e, decide_eq_false c1]
            intro b2 F2 H2 k2 hb2
            cases hb2
            refine iteF ?_
            have g2 := g1.trans k2
            have vw2 := vw1.same k2.ff
            refine ⟨F2, _, g2.fh, vw2, ?_⟩
            rw [f86_e, decide_eq_false c2]
            intro b3 F3 H3 k3 hb3
            cases hb3
            refine iteF ?_
            have g3 := g2.trans k3
            have vw3 := vw2.same k3.ff
            refine ⟨F3, _, g3.fh, vw3, ?_⟩
            rw [f86_e, decide_eq_true c3]
            intro b4 F4 H4 k4 hb4
            cases hb4
            refine iteT ?_
            have g4 := g3.trans k4
            have vw4 := vw3.same k4.ff
            refine ⟨_, rfl, _, rfl, _, rfl, [.int k, t, w'], F4, g4.fh, .cons (.int _) (.cons (d2.same g4.ff) (.cons (d3.same g4.ff) .nil)), ?_⟩
            rcases told_inv e with ⟨q, hx, rfl⟩ | ⟨q, hx, rfl⟩
            · unfold DX at hx
              rw [if_neg c1, if_neg c2, if_pos c3] at hx
              rw [hx]
              intro C dd G' H' g' hx'
              obtain ⟨hc, y, v, rfl, hy, dv⟩ := hx'
              have ec : C = .ref T.A.NoTongue := by
                have hc : mg "NoTongue" = some C := hc; have := T.C_NoTongue
                rw [this] at hc
                exact (Option.some.inj hc).symm
              subst ec
              refine ⟨true, T.e_NoTongue, fun _ a ha => ?_, fun q => nomatch q⟩
              refine ⟨_, rfl, rfl, rfl, y, _, v, rfl, g'.fh _ _ hy, rfl, (by show 2 ≤ sizeLine; decide), fun p hp => ?_⟩
              refine ⟨_, rfl, ?_⟩
              have gn : Gr G' H' (upd G' p (.tup [.str "tongue", v])) (upd H' p (.tup [.str "tongue", v])) := .new g'.fh hp
              exact Z _ _ _ ((g4.trans g').trans gn) (.tup upd_same (.cons (.str _) (.cons (dv.same gn.ff) .nil)))
            · unfold DX at hx
              rw [if_neg c1, if_neg c2, if_pos c3] at hx
              rw [hx]
              intro C dd G' H' g' hx'
              obtain ⟨hc, y, v, rfl, hy, dv⟩ := hx'
              have ec : C = .ref T.A.NoWants := by
                have hc : mg "NoWants" = some C := hc; have := T.C_NoWants
                rw [this] at hc
                exact (Option.some.inj hc).symm
              subst ec
              refine ⟨false, exm_kit T.e_NoTongue T.q_NoWants_NoTongue, (fun q => nomatch q), fun _ => ⟨true, T.e_NoWants, fun _ a ha => ?_, fun q => nomatch q⟩⟩
              refine ⟨_, rfl, rfl, rfl, y, _, v, rfl, g'.fh _ _ hy, rfl, (by show 2 ≤ sizeLine; decide), fun p hp => ?_⟩
              refine ⟨_, rfl, ?_⟩
              have gn : Gr G' H' (upd G' p (.tup [.str "wants", v])) (upd H' p (.tup [.str "wants", v])) := .new g'.fh hp
              exact Z _ _ _ ((g4.trans g').trans gn) (.tup upd_same (.cons (.str _) (.cons (dv.same gn.ff) .nil)))
          · refine ⟨F1, _, g1.fh, vw1, ?_⟩
            rw [f86_e, decide_eq_false c1]
            intro b2 F2 H2 k2 hb2
            cases hb2
            refine iteF ?_
            have g2 := g1.trans k2
            have vw2 := vw1.same k2.ff
            refine ⟨F2, _, g2.fh, vw2, ?_⟩
            rw [f86_e, decide_eq_false c2]
            intro b3 F3 H3 k3 hb3
            cases hb3
            refine iteF ?_
            have g3 := g2.trans k3
            have vw3 := vw2.same k3.ff
            refine ⟨F3, _, g3.fh, vw3, ?_⟩
            rw [f86_e, decide_eq_false c3]
            intro b4 F4 H4 k4 hb4
            cases hb4
            refine iteF ?_
            have g4 := g3.trans k4
            have vw4 := vw3.same k4.ff
            refine ⟨_, rfl, _, rfl, [.int k, w'], F4, g4.fh, .cons (.int _) (.cons (d3.same g4.ff) .nil), ?_⟩
            rcases told_inv e with ⟨q, hx, rfl⟩ | ⟨q, hx, rfl⟩
            · unfold DX at hx
              rw [if_neg c1, if_neg c2, if_neg c3] at hx
              rw [hx]
              intro C dd G' H' g' hx'
              obtain ⟨hc, y, v, rfl, hy, dv⟩ := hx'
              have ec : C = .ref T.A.NoTongue := by
                have hc : mg "NoTongue" = some C := hc; have := T.C_NoTongue
                rw [this] at hc
                exact (Option.some.inj hc).symm
              subst ec
              refine ⟨true, T.e_NoTongue, fun _ a ha => ?_, fun q => nomatch q⟩
              refine ⟨_, rfl, rfl, rfl, y, _, v, rfl, g'.fh _ _ hy, rfl, (by show 2 ≤ sizeLine; decide), fun p hp => ?_⟩
              refine ⟨_, rfl, ?_⟩
              have gn : Gr G' H' (upd G' p (.tup [.str "tongue", v])) (upd H' p (.tup [.str "tongue", v])) := .new g'.fh hp
              exact Z _ _ _ ((g4.trans g').trans gn) (.tup upd_same (.cons (.str _) (.cons (dv.same gn.ff) .nil)))
            · unfold DX at hx
              rw [if_neg c1, if_neg c2, if_neg c3] at hx
              rw [hx]
              intro C dd G' H' g' hx'
              obtain ⟨hc, y, v, rfl, hy, dv⟩ := hx'
              have ec : C = .ref T.A.NoWants := by
                have hc : mg "NoWants" = some C := hc; have := T.C_NoWants
                rw [this] at hc
                exact (Option.some.inj hc).symm
              subst ec
              refine ⟨false, exm_kit T.e_NoTongue T.q_NoWants_NoTongue, (fun q => nomatch q), fun _ => ⟨true, T.e_NoWants, fun _ a ha => ?_, fun q => nomatch q⟩⟩
              refine ⟨_, rfl, rfl, rfl, y, _, v, rfl, g'.fh _ _ hy, rfl, (by show 2 ≤ sizeLine; decide), fun p hp => ?_⟩
              refine ⟨_, rfl, ?_⟩
              have gn : Gr G' H' (upd G' p (.tup [.str "wants", v])) (upd H' p (.tup [.str "wants", v])) := .new g'.fh hp
              exact Z _ _ _ ((g4.trans g').trans gn) (.tup upd_same (.cons (.str _) (.cons (dv.same gn.ff) .nil)))
    · cases e
end
end Du

namespace Du
open PySem PySem.Spec PyProof.Rows L2 Dear
/-! ### a call without arguments -/
theorem fe_call0 {K : PySem.W.Frag} {X : Cx} {x : Str} {k k' : Nat} {ps : List Str} {f : List D → Res D} {p pos : Pos} (O : Dear.OkF X.prog X.w X.K X.mg X.base CX0 k x ps (sp0 K f)) (hr : Room k' X.A) (hk : k ≤ k' := by decide) (hg : Gl X x := by rfl)
    (hdb : (x == ("__debug__" : Str)) = false := by decide) : FE K none X (.Call (.Name x p) [] [] pos) (eCall f aNil) := by
  obtain ⟨fa', fd, hm, hkp, hb, F⟩ := O
  refine PE.to (pe_call0 F (hr.mono hk) hg hm hkp hb .nil pass0 hdb) fun σ H Q ⟨G, ρ, sG, vw, k⟩ => ?_
  refine ⟨[], G, sG, .nil, ?_⟩
  have k : Po (RD K) K none σ G H (f []) Q := k
  cases e : f [] with
  | ok d => rw [e] at k; exact ⟨d, rfl, k⟩
  | exc x => rw [e] at k; exact k.elim
  | bad => rw [e] at k; exact k.elim
end Du

namespace Du
open PySem PySem.Spec PyProof.Rows L2 Dear
noncomputable def B__law_draws_1 : Env → Out := (sIf [] (bT (eVar 4))
(sSeq (need 6 (sApp 6 [] (eOp dMod (eVar 3) (eVar 8))))
(sAsg [] (eOp dDiv (eVar 3) (eVar 8)) (tgN 3)))
(sSeq (sAsg [] (eOp dMod (eOp dAdd (eOp dAdd (eOp dMul (eVar 5) (eVar 5)) (eOp dMul (eC (.int 104729)) (eOp dAdd (eVar 1) (eVar 7)))) (eC (.int 11))) (eC (.int 2147483587))) (tgN 5))
(need 6 (sApp 6 [] (eOp dMod (eOp dDiv (eVar 5) (eC (.int 16))) (eVar 8))))))
theorem B__law_draws_1_u (ρ : Env) : B__law_draws_1 ρ = (sIf [] (bT (eVar 4))
(sSeq (need 6 (sApp 6 [] (eOp dMod (eVar 3) (eVar 8))))
(sAsg [] (eOp dDiv (eVar 3) (eVar 8)) (tgN 3)))
(sSeq (sAsg [] (eOp dMod (eOp dAdd (eOp dAdd (eOp dMul (eVar 5) (eVar 5)) (eOp dMul (eC (.int 104729)) (eOp dAdd (eVar 1) (eVar 7)))) (eC (.int 11))) (eC (.int 2147483587))) (tgN 5))
(need 6 (sApp 6 [] (eOp dMod (eOp dDiv (eVar 5) (eC (.int 16))) (eVar 8)))))) ρ := rfl
noncomputable def B__law_draws : Env → Out := (sSeq (sAsg [] (eCall dAbs (aCons (eVar 0) aNil)) (tgN 3))
(sSeq (sAsg [] (eOp dGe (eVar 3) (eOp dPow (eC (.int 10)) (eC (.int 18)))) (tgN 4))
(sSeq (sAsg [] (eOp dMod (eOp dMul (eOp dAdd (eOp dAdd (eOp dMod (eVar 3) (eC (.int 1000000007))) (eOp dMul (eC (.int 7919)) (eVar 1))) (eC (.int 1))) (eC (.int 48271))) (eC (.int 2147483629))) (tgN 5))
(sSeq (sOwn 6 [] (eLst aNil))
(sSeq (sFor [] (iEnumD (aCons (eVar 2) aNil)) (tgT [(tgN 7), (tgN 8)])
B__law_draws_1
[7, 8])
(sRet [6] (eVar 6)))))))
theorem B__law_draws_u (ρ : Env) : B__law_draws ρ = (sSeq (sAsg [] (eCall dAbs (aCons (eVar 0) aNil)) (tgN 3))
(sSeq (sAsg [] (eOp dGe (eVar 3) (eOp dPow (eC (.int 10)) (eC (.int 18)))) (tgN 4))
(sSeq (sAsg [] (eOp dMod (eOp dMul (eOp dAdd (eOp dAdd (eOp dMod (eVar 3) (eC (.int 1000000007))) (eOp dMul (eC (.int 7919)) (eVar 1))) (eC (.int 1))) (eC (.int 48271))) (eC (.int 2147483629))) (tgN 5))
(sSeq (sOwn 6 [] (eLst aNil))
(sSeq (sFor [] (iEnumD (aCons (eVar 2) aNil)) (tgT [(tgN 7), (tgN 8)])
B__law_draws_1
[7, 8])
(sRet [6] (eVar 6))))))) ρ := rfl
noncomputable def F__law_draws : List D → Res D := runD (["_law_cell_here", "_law_k", "_law_sizes"] : List Str).length n__law_draws.length B__law_draws
theorem ok__law_draws {P : Program} {w : World} {K : PySem.W.Frag} {mg : Str → Option Value} {base : Heap} (T : Txt K mg) : OkF P w K mg base CX0 (0 + 1) "_law_draws" ["_law_cell_here", "_law_k", "_law_sizes"] (sp0 K F__law_draws) :=
  ok0 (g := B__law_draws) T.f__law_draws c__law_draws fun f cdv A outer s H E hr => 
(fss_cons (fs_asg (L := []) (fe_callB call_abs cd_abs T.b_abs (fa_cons (fe_var 0) fa_nil)) (fg_name 3 c__law_draws.nd))
(fss_cons (fs_asg (L := []) (fe_cmp op_ge opd_ge (fe_var 3) (fe_op op_pow opd_pow fe_int fe_int)) (fg_name 4 c__law_draws.nd))
(fss_cons (fs_asg (L := []) (fe_op op_mod opd_mod (fe_op op_mulA opd_mul (fe_op (op_addA K) opd_add (fe_op (op_addA K) opd_add (fe_op op_mod opd_mod (fe_var 3) fe_int) (fe_op op_mulA opd_mul fe_int (fe_var 1))) fe_int) fe_int) fe_int) (fg_name 5 c__law_draws.nd))
(fss_cons (fs_own (L := []) 6 (fw_lst fa_nil) c__law_draws.nd)
(fss_cons (fs_for (L := []) [7, 8] PassesOwn.never (fi_enum T.b_enumerate (fa_cons (fe_var 2) fa_nil) len1) (fg_tup (fgs_cons (fg_name 7 c__law_draws.nd) (fgs_cons (fg_name 8 c__law_draws.nd) fgs_nil)))
(fss_one (fs_if (L := []) (ft_tru (fe_var 4))
(fss_cons (fs_app (L := []) 6 (fe_op op_mod opd_mod (fe_var 3) (fe_var 8)))
(fss_one (fs_asg (L := []) (fe_op op_fdivW opd_div (fe_var 3) (fe_var 8)) (fg_name 3 c__law_draws.nd))))
(fss_cons (fs_asg (L := []) (fe_op op_mod opd_mod (fe_op (op_addA K) opd_add (fe_op (op_addA K) opd_add (fe_op op_mulA opd_mul (fe_var 5) (fe_var 5)) (fe_op op_mulA opd_mul fe_int (fe_op (op_addA K) opd_add (fe_var 1) (fe_var 7)))) fe_int) fe_int) (fg_name 5 c__law_draws.nd))
(fss_one (fs_app (L := []) 6 (fe_op op_mod opd_mod (fe_op op_fdivW opd_div (fe_var 5) fe_int) (fe_var 8))))))))
(fss_one (fs_ret (L := [6]) (fe_var 6))))))))

noncomputable def B__law_tongues : Env → Out := (sSeq (sAsg [] (eTup (aCons (eC (.str "a")) (aCons (eTup (aCons (eC (.int 1)) (aCons (eC (.int 1)) aNil))) (aCons (eTup (aCons (eC (.int 1)) (aCons (eC (.int 1)) aNil))) aNil)))) (tgN 0))
(sSeq (sAsg [] (eTup (aCons (eC (.str "b")) (aCons (eTup (aCons (eC (.int 1)) (aCons (eC (.int 2)) aNil))) (aCons (eC .non) aNil)))) (tgN 1))
(sSeq (sAsg [] (eLst (aCons (eVar 0) (aCons (eVar 1) aNil))) (tgN 2))
(sSeq (sOwn 3 [] (eComp [6] (iAny (eC (.str "abcdefg"))) (tgN 6) bYes (eTup (aCons (eVar 6) (aCons (eTup (aCons (eC (.int 1)) (aCons (eC (.int 1)) aNil))) (aCons (eTup (aCons (eC (.int 1)) (aCons (eC (.int 1)) aNil))) aNil))))))
(sSeq (sAsg [] (eLst (aCons (eTup (aCons (eC .non) (aCons (eC .non) aNil))) (aCons (eTup (aCons (eLst (aCons (eVar 2) (aCons (eLst aNil) (aCons (eLst aNil) (aCons (eC (.int 2)) aNil))))) (aCons (eC .non) aNil))) (aCons (eTup (aCons (eTup (aCons (eVar 2) (aCons (eLst aNil) (aCons (eLst aNil) aNil)))) (aCons (eC .non) aNil))) (aCons (eTup (aCons (eTup (aCons (eVar 2) (aCons (eLst aNil) (aCons (eLst aNil) (aCons (eC (.int 2)) (aCons (eC (.int 1)) aNil)))))) (aCons (eC .non) aNil))) aNil))))) (tgN 4))
(sSeq (sAsg [3] (eLst (aCons (eVar 3) (aCons (eLst (aCons (eVar 0) aNil)) (aCons (eCall dTuple (aCons (eVar 2) aNil)) (aCons (eLst (aCons (eVar 0) (aCons (eVar 0) aNil))) (aCons (eLst (aCons (eVar 0) (aCons (eTup (aCons (eC (.str "b")) (aCons (eTup (aCons (eC (.int 0)) (aCons (eC (.int 1)) aNil))) (aCons (eC .non) aNil)))) aNil))) (aCons (eLst (aCons (eVar 0) (aCons (eTup (aCons (eC (.str "b")) (aCons (eTup (aCons (eC (.int 2)) (aCons (eC (.int 4)) aNil))) (aCons (eC .non) aNil)))) aNil))) aNil))))))) (tgN 5))
(sSeq (sAsg [] (eOp dAdd (eVar 5) (eLst (aCons (eLst (aCons (eTup (aCons (eC (.str "ab")) (aCons (eTup (aCons (eC (.int 1)) (aCons (eC (.int 1)) aNil))) (aCons (eC .non) aNil)))) (aCons (eVar 1) aNil))) (aCons (eLst (aCons (eVar 0) (aCons (eTup (aCons (eC (.str "b")) (aCons (eTup (aCons (eC (.int 1)) (aCons (eC (.int 1)) aNil))) (aCons (eTup (aCons (eC (.int 0)) (aCons (eC (.int 1)) aNil))) aNil)))) aNil))) (aCons (eC .non) aNil))))) (tgN 5))
(sSeq (sAsg [] (eOp dAdd (eVar 4) (eComp [7] (iAny (eVar 5)) (tgN 7) bYes (eTup (aCons (eTup (aCons (eVar 7) (aCons (eLst aNil) (aCons (eLst aNil) (aCons (eC (.int 0)) aNil))))) (aCons (eC (.str "signs")) aNil))))) (tgN 4))
(sSeq (sAsg [] (eOp dAdd (eVar 4) (eComp [8] (iAny (eLst (aCons (eLst (aCons (eC (.str "c")) aNil)) (aCons (eLst (aCons (eC (.str "a")) (aCons (eC (.str "a")) aNil))) (aCons (eC (.str "a")) aNil))))) (tgN 8) bYes (eTup (aCons (eTup (aCons (eVar 2) (aCons (eVar 8) (aCons (eLst aNil) (aCons (eC (.int 0)) aNil))))) (aCons (eC (.str "firsts")) aNil))))) (tgN 4))
(sSeq (sAsg [] (eOp dAdd (eVar 4) (eComp [9] (iAny (eLst (aCons (eLst (aCons (eC (.str "abc")) aNil)) (aCons (eLst (aCons (eC (.str "ab")) (aCons (eC (.str "ab")) aNil))) (aCons (eC .non) aNil))))) (tgN 9) bYes (eTup (aCons (eTup (aCons (eVar 2) (aCons (eLst aNil) (aCons (eVar 9) (aCons (eC (.int 9)) aNil))))) (aCons (eC (.str "pairs")) aNil))))) (tgN 4))
(sSeq (sAsg [] (eOp dAdd (eVar 4) (eComp [10] (iAny (eLst (aCons (eC (.int 0)) (aCons (eC (.int 9)) (aCons (eC (.bl true)) aNil))))) (tgN 10) bYes (eTup (aCons (eTup (aCons (eVar 2) (aCons (eLst aNil) (aCons (eLst aNil) (aCons (eVar 10) aNil))))) (aCons (eC (.str "longest")) aNil))))) (tgN 4))
(sRet [] (eOp dAdd (eVar 4) (eLst (aCons (eTup (aCons (eTup (aCons (eVar 2) (aCons (eLst (aCons (eC (.str "a")) aNil)) (aCons (eLst (aCons (eC (.str "bb")) aNil)) (aCons (eC (.int 3)) aNil))))) (aCons (eC (.str "good")) aNil))) aNil)))))))))))))))
noncomputable def F__law_tongues : List D → Res D := runD ([] : List Str).length n__law_tongues.length B__law_tongues
theorem ok__law_tongues {P : Program} {w : World} {K : PySem.W.Frag} {mg : Str → Option Value} {base : Heap} (T : Txt K mg) : OkF P w K mg base CX0 (0 + 1) "_law_tongues" [] (sp0 K F__law_tongues) :=
  ok0 (g := B__law_tongues) T.f__law_tongues c__law_tongues fun f cdv A outer s H E hr => 
(fss_cons (fs_asg (L := []) (fe_tup (fa_cons fe_str (fa_cons (fe_tup (fa_cons fe_int (fa_cons fe_int fa_nil))) (fa_cons (fe_tup (fa_cons fe_int (fa_cons fe_int fa_nil))) fa_nil)))) (fg_name 0 c__law_tongues.nd))
(fss_cons (fs_asg (L := []) (fe_tup (fa_cons fe_str (fa_cons (fe_tup (fa_cons fe_int (fa_cons fe_int fa_nil))) (fa_cons fe_non fa_nil)))) (fg_name 1 c__law_tongues.nd))
(fss_cons (fs_asg (L := []) (fe_lst (fa_cons (fe_var 0) (fa_cons (fe_var 1) fa_nil))) (fg_name 2 c__law_tongues.nd))
(fss_cons (fs_ownLc (L := []) 3 [("_law_letter", 6)] c__law_tongues.nd (fi_any fe_str) (fun _ _ _ _ _ => (fg_name 6 c__law_tongues.nd)) (fun _ _ _ _ _ => fts_nil) (fun _ _ _ _ _ => (fe_tup (fa_cons (fe_var 6) (fa_cons (fe_tup (fa_cons fe_int (fa_cons fe_int fa_nil))) (fa_cons (fe_tup (fa_cons fe_int (fa_cons fe_int fa_nil))) fa_nil))))) (blkOk_by (own := [("_law_letter", 6)]) (N := n__law_tongues) (sc := defScope s__law_tongues) (by decide +kernel)) (sw_true rfl rfl rfl (by decide +kernel)))
(fss_cons (fs_asg (L := []) (fe_lst (fa_cons (fe_tup (fa_cons fe_non (fa_cons fe_non fa_nil))) (fa_cons (fe_tup (fa_cons (fe_lst (fa_cons (fe_var 2) (fa_cons (fe_lst fa_nil) (fa_cons (fe_lst fa_nil) (fa_cons fe_int fa_nil))))) (fa_cons fe_non fa_nil))) (fa_cons (fe_tup (fa_cons (fe_tup (fa_cons (fe_var 2) (fa_cons (fe_lst fa_nil) (fa_cons (fe_lst fa_nil) fa_nil)))) (fa_cons fe_non fa_nil))) (fa_cons (fe_tup (fa_cons (fe_tup (fa_cons (fe_var 2) (fa_cons (fe_lst fa_nil) (fa_cons (fe_lst fa_nil) (fa_cons fe_int (fa_cons fe_int fa_nil)))))) (fa_cons fe_non fa_nil))) fa_nil))))) (fg_name 4 c__law_tongues.nd))
(fss_cons (fs_asg (L := [3]) (fe_lst (fa_cons (fe_var 3) (fa_cons (fe_lst (fa_cons (fe_var 0) fa_nil)) (fa_cons (fe_callT (call_tuple_of_k K) cd_tuple T.b_tuple (fa_cons (fe_var 2) fa_nil)) (fa_cons (fe_lst (fa_cons (fe_var 0) (fa_cons (fe_var 0) fa_nil))) (fa_cons (fe_lst (fa_cons (fe_var 0) (fa_cons (fe_tup (fa_cons fe_str (fa_cons (fe_tup (fa_cons fe_int (fa_cons fe_int fa_nil))) (fa_cons fe_non fa_nil)))) fa_nil))) (fa_cons (fe_lst (fa_cons (fe_var 0) (fa_cons (fe_tup (fa_cons fe_str (fa_cons (fe_tup (fa_cons fe_int (fa_cons fe_int fa_nil))) (fa_cons fe_non fa_nil)))) fa_nil))) fa_nil))))))) (fg_name 5 c__law_tongues.nd))
(fss_cons (fs_asg (L := []) (fe_op (op_addA K) opd_add (fe_var 5) (fe_lst (fa_cons (fe_lst (fa_cons (fe_tup (fa_cons fe_str (fa_cons (fe_tup (fa_cons fe_int (fa_cons fe_int fa_nil))) (fa_cons fe_non fa_nil)))) (fa_cons (fe_var 1) fa_nil))) (fa_cons (fe_lst (fa_cons (fe_var 0) (fa_cons (fe_tup (fa_cons fe_str (fa_cons (fe_tup (fa_cons fe_int (fa_cons fe_int fa_nil))) (fa_cons (fe_tup (fa_cons fe_int (fa_cons fe_int fa_nil))) fa_nil)))) fa_nil))) (fa_cons fe_non fa_nil))))) (fg_name 5 c__law_tongues.nd))
(fss_cons (fs_asg (L := []) (fe_op (op_addA K) opd_add (fe_var 4) (fe_comp [("_law_signs", 7)] c__law_tongues.nd (fi_any (fe_var 5)) (fun _ _ _ _ _ => (fg_name 7 c__law_tongues.nd)) (fun _ _ _ _ _ => fts_nil) (fun _ _ _ _ _ => (fe_tup (fa_cons (fe_tup (fa_cons (fe_var 7) (fa_cons (fe_lst fa_nil) (fa_cons (fe_lst fa_nil) (fa_cons fe_int fa_nil))))) (fa_cons fe_str fa_nil)))) (blkOk_by (own := [("_law_signs", 7)]) (N := n__law_tongues) (sc := defScope s__law_tongues) (by decide +kernel)))) (fg_name 4 c__law_tongues.nd))
(fss_cons (fs_asg (L := []) (fe_op (op_addA K) opd_add (fe_var 4) (fe_comp [("_law_firsts", 8)] c__law_tongues.nd (fi_any (fe_lst (fa_cons (fe_lst (fa_cons fe_str fa_nil)) (fa_cons (fe_lst (fa_cons fe_str (fa_cons fe_str fa_nil))) (fa_cons fe_str fa_nil))))) (fun _ _ _ _ _ => (fg_name 8 c__law_tongues.nd)) (fun _ _ _ _ _ => fts_nil) (fun _ _ _ _ _ => (fe_tup (fa_cons (fe_tup (fa_cons (fe_var 2) (fa_cons (fe_var 8) (fa_cons (fe_lst fa_nil) (fa_cons fe_int fa_nil))))) (fa_cons fe_str fa_nil)))) (blkOk_by (own := [("_law_firsts", 8)]) (N := n__law_tongues) (sc := defScope s__law_tongues) (by decide +kernel)))) (fg_name 4 c__law_tongues.nd))
(fss_cons (fs_asg (L := []) (fe_op (op_addA K) opd_add (fe_var 4) (fe_comp [("_law_pairs", 9)] c__law_tongues.nd (fi_any (fe_lst (fa_cons (fe_lst (fa_cons fe_str fa_nil)) (fa_cons (fe_lst (fa_cons fe_str (fa_cons fe_str fa_nil))) (fa_cons fe_non fa_nil))))) (fun _ _ _ _ _ => (fg_name 9 c__law_tongues.nd)) (fun _ _ _ _ _ => fts_nil) (fun _ _ _ _ _ => (fe_tup (fa_cons (fe_tup (fa_cons (fe_var 2) (fa_cons (fe_lst fa_nil) (fa_cons (fe_var 9) (fa_cons fe_int fa_nil))))) (fa_cons fe_str fa_nil)))) (blkOk_by (own := [("_law_pairs", 9)]) (N := n__law_tongues) (sc := defScope s__law_tongues) (by decide +kernel)))) (fg_name 4 c__law_tongues.nd))
(fss_cons (fs_asg (L := []) (fe_op (op_addA K) opd_add (fe_var 4) (fe_comp [("_law_longest", 10)] c__law_tongues.nd (fi_any (fe_lst (fa_cons fe_int (fa_cons fe_int (fa_cons fe_bl fa_nil))))) (fun _ _ _ _ _ => (fg_name 10 c__law_tongues.nd)) (fun _ _ _ _ _ => fts_nil) (fun _ _ _ _ _ => (fe_tup (fa_cons (fe_tup (fa_cons (fe_var 2) (fa_cons (fe_lst fa_nil) (fa_cons (fe_lst fa_nil) (fa_cons (fe_var 10) fa_nil))))) (fa_cons fe_str fa_nil)))) (blkOk_by (own := [("_law_longest", 10)]) (N := n__law_tongues) (sc := defScope s__law_tongues) (by decide +kernel)))) (fg_name 4 c__law_tongues.nd))
(fss_one (fs_ret (L := []) (fe_op (op_addA K) opd_add (fe_var 4) (fe_lst (fa_cons (fe_tup (fa_cons (fe_tup (fa_cons (fe_var 2) (fa_cons (fe_lst (fa_cons fe_str fa_nil)) (fa_cons (fe_lst (fa_cons fe_str fa_nil)) (fa_cons fe_int fa_nil))))) (fa_cons fe_str fa_nil))) fa_nil))))))))))))))))

noncomputable def B__law_wants : Env → Out := (sSeq (sAsg [] (eLst (aCons (eTup (aCons (eC (.str "a")) (aCons (eC (.int 1)) aNil))) aNil)) (tgN 0))
(sSeq (sAsg [] (eLst (aCons (eTup (aCons (eC .non) (aCons (eC .non) aNil))) (aCons (eTup (aCons (eLst aNil) (aCons (eC .non) aNil))) (aCons (eTup (aCons (eTup (aCons (eTup (aCons (eC (.str "a")) (aCons (eC (.int 1)) aNil))) aNil)) (aCons (eC .non) aNil))) (aCons (eTup (aCons (eOp dMul (eVar 0) (eC (.int 21))) (aCons (eC .non) aNil))) (aCons (eTup (aCons (eLst (aCons (eTup (aCons (eC (.str "a")) (aCons (eC (.int 1)) aNil))) (aCons (eTup (aCons (eC (.str "a")) (aCons (eC (.int 2)) aNil))) aNil))) (aCons (eC (.int 1)) aNil))) aNil)))))) (tgN 1))
(sSeq (sAsg [] (eOp dAdd (eVar 1) (eLst (aCons (eTup (aCons (eLst (aCons (eTup (aCons (eC (.str "A")) (aCons (eC (.int 1)) aNil))) aNil)) (aCons (eC (.int 0)) aNil))) (aCons (eTup (aCons (eLst (aCons (eLst (aCons (eC (.str "a")) (aCons (eC (.int 1)) aNil))) aNil)) (aCons (eC (.int 0)) aNil))) (aCons (eTup (aCons (eLst (aCons (eTup (aCons (eC (.str "a")) (aCons (eC (.bl true)) aNil))) aNil)) (aCons (eC (.int 0)) aNil))) (aCons (eTup (aCons (eLst (aCons (eTup (aCons (eC (.str "a")) (aCons (eUn dNeg (eC (.int 1))) aNil))) aNil)) (aCons (eC (.int 0)) aNil))) (aCons (eTup (aCons (eLst (aCons (eTup (aCons (eC (.str "a")) (aCons (eOp dAdd (eOp dPow (eC (.int 10)) (eC (.int 9))) (eC (.int 1))) aNil))) aNil)) (aCons (eC (.int 0)) aNil))) aNil))))))) (tgN 1))
(sRet [] (eOp dAdd (eVar 1) (eLst (aCons (eTup (aCons (eLst (aCons (eTup (aCons (eC (.str "a")) (aCons (eC (.int 1)) aNil))) (aCons (eTup (aCons (eC (.str "b")) (aCons (eC .non) aNil))) aNil))) (aCons (eC (.int 1)) aNil))) (aCons (eTup (aCons (eLst (aCons (eTup (aCons (eC (.str "a")) (aCons (eC (.int 1)) (aCons (eC (.int 1)) aNil)))) aNil)) (aCons (eC (.int 0)) aNil))) (aCons (eTup (aCons (eVar 0) (aCons (eC (.str "good")) aNil))) aNil)))))))))
noncomputable def F__law_wants : List D → Res D := runD ([] : List Str).length n__law_wants.length B__law_wants
theorem ok__law_wants {P : Program} {w : World} {K : PySem.W.Frag} {mg : Str → Option Value} {base : Heap} (T : Txt K mg) : OkF P w K mg base CX0 (0 + 1) "_law_wants" [] (sp0 K F__law_wants) :=
  ok0 (g := B__law_wants) T.f__law_wants c__law_wants fun f cdv A outer s H E hr => 
(fss_cons (fs_asg (L := []) (fe_lst (fa_cons (fe_tup (fa_cons fe_str (fa_cons fe_int fa_nil))) fa_nil)) (fg_name 0 c__law_wants.nd))
(fss_cons (fs_asg (L := []) (fe_lst (fa_cons (fe_tup (fa_cons fe_non (fa_cons fe_non fa_nil))) (fa_cons (fe_tup (fa_cons (fe_lst fa_nil) (fa_cons fe_non fa_nil))) (fa_cons (fe_tup (fa_cons (fe_tup (fa_cons (fe_tup (fa_cons fe_str (fa_cons fe_int fa_nil))) fa_nil)) (fa_cons fe_non fa_nil))) (fa_cons (fe_tup (fa_cons (fe_op op_mulA opd_mul (fe_var 0) fe_int) (fa_cons fe_non fa_nil))) (fa_cons (fe_tup (fa_cons (fe_lst (fa_cons (fe_tup (fa_cons fe_str (fa_cons fe_int fa_nil))) (fa_cons (fe_tup (fa_cons fe_str (fa_cons fe_int fa_nil))) fa_nil))) (fa_cons fe_int fa_nil))) fa_nil)))))) (fg_name 1 c__law_wants.nd))
(fss_cons (fs_asg (L := []) (fe_op (op_addA K) opd_add (fe_var 1) (fe_lst (fa_cons (fe_tup (fa_cons (fe_lst (fa_cons (fe_tup (fa_cons fe_str (fa_cons fe_int fa_nil))) fa_nil)) (fa_cons fe_int fa_nil))) (fa_cons (fe_tup (fa_cons (fe_lst (fa_cons (fe_lst (fa_cons fe_str (fa_cons fe_int fa_nil))) fa_nil)) (fa_cons fe_int fa_nil))) (fa_cons (fe_tup (fa_cons (fe_lst (fa_cons (fe_tup (fa_cons fe_str (fa_cons fe_bl fa_nil))) fa_nil)) (fa_cons fe_int fa_nil))) (fa_cons (fe_tup (fa_cons (fe_lst (fa_cons (fe_tup (fa_cons fe_str (fa_cons (fe_un un_neg und_neg fe_int) fa_nil))) fa_nil)) (fa_cons fe_int fa_nil))) (fa_cons (fe_tup (fa_cons (fe_lst (fa_cons (fe_tup (fa_cons fe_str (fa_cons (fe_op (op_addA K) opd_add (fe_op op_pow opd_pow fe_int fe_int) fe_int) fa_nil))) fa_nil)) (fa_cons fe_int fa_nil))) fa_nil))))))) (fg_name 1 c__law_wants.nd))
(fss_one (fs_ret (L := []) (fe_op (op_addA K) opd_add (fe_var 1) (fe_lst (fa_cons (fe_tup (fa_cons (fe_lst (fa_cons (fe_tup (fa_cons fe_str (fa_cons fe_int fa_nil))) (fa_cons (fe_tup (fa_cons fe_str (fa_cons fe_non fa_nil))) fa_nil))) (fa_cons fe_int fa_nil))) (fa_cons (fe_tup (fa_cons (fe_lst (fa_cons (fe_tup (fa_cons fe_str (fa_cons fe_int (fa_cons fe_int fa_nil)))) fa_nil)) (fa_cons fe_int fa_nil))) (fa_cons (fe_tup (fa_cons (fe_var 0) (fa_cons fe_str fa_nil))) fa_nil))))))))))

noncomputable def B_law_1 : Env → Out := (sSeq (sAsg [] (eCall F__law_draws (aCons (eVar 2) (aCons (eVar 1) (aCons (eLst (aCons (eC (.int 39)) (aCons (eC (.int 23)) (aCons (eC (.int 13)) (aCons (eC (.int 3)) aNil))))) aNil)))) (tgN 3))
(sSeq (sAsg [] (eOp dIx (eCall F__law_tongues aNil) (eOp dIx (eLst (aCons (eOp dIx (eVar 3) (eC (.int 1))) (aCons (eOp dIx (eVar 3) (eC (.int 1))) (aCons (eC (.int 22)) aNil)))) (eOp dIx (eVar 3) (eC (.int 3))))) (tgT [(tgN 4), (tgN 5)]))
(sSeq (sAsg [] (eOp dIx (eCall F__law_wants aNil) (eOp dIx (eVar 3) (eC (.int 2)))) (tgT [(tgN 6), (tgN 7)]))
(sSeq (sAsg [] (eTup (aCons (eC (.str "good")) (aCons (eC .non) aNil))) (tgN 8))
(sSeq (sIf [] (bAnd (bT (eOp dLt (eOp dIx (eVar 3) (eC (.int 0))) (eC (.int 35)))) (bT (eOp dNe (eVar 5) (eC (.str "good")))))
(sAsg [] (eTup (aCons (eC (.str "tongue")) (aCons (eVar 5) aNil))) (tgN 8))
(sIf [] (bAnd (bT (eOp dGt (eOp dIx (eVar 3) (eC (.int 0))) (eC (.int 20)))) (bT (eOp dNe (eVar 7) (eC (.str "good")))))
(sAsg [] (eTup (aCons (eC (.str "wants")) (aCons (eVar 7) aNil))) (tgN 8))
sPass))
(sIf [] (bAnd (bT (eOp dNe (eVar 8) (eTup (aCons (eC (.str "good")) (aCons (eC .non) aNil))))) (bT (eOp dNe (eCall F__law_told (aCons (eOp dIx (eVar 3) (eC (.int 0))) (aCons (eVar 4) (aCons (eVar 6) aNil)))) (eVar 8))))
(sRet [] (eC (.bl false)))
sPass))))))
theorem B_law_1_u (ρ : Env) : B_law_1 ρ = (sSeq (sAsg [] (eCall F__law_draws (aCons (eVar 2) (aCons (eVar 1) (aCons (eLst (aCons (eC (.int 39)) (aCons (eC (.int 23)) (aCons (eC (.int 13)) (aCons (eC (.int 3)) aNil))))) aNil)))) (tgN 3))
(sSeq (sAsg [] (eOp dIx (eCall F__law_tongues aNil) (eOp dIx (eLst (aCons (eOp dIx (eVar 3) (eC (.int 1))) (aCons (eOp dIx (eVar 3) (eC (.int 1))) (aCons (eC (.int 22)) aNil)))) (eOp dIx (eVar 3) (eC (.int 3))))) (tgT [(tgN 4), (tgN 5)]))
(sSeq (sAsg [] (eOp dIx (eCall F__law_wants aNil) (eOp dIx (eVar 3) (eC (.int 2)))) (tgT [(tgN 6), (tgN 7)]))
(sSeq (sAsg [] (eTup (aCons (eC (.str "good")) (aCons (eC .non) aNil))) (tgN 8))
(sSeq (sIf [] (bAnd (bT (eOp dLt (eOp dIx (eVar 3) (eC (.int 0))) (eC (.int 35)))) (bT (eOp dNe (eVar 5) (eC (.str "good")))))
(sAsg [] (eTup (aCons (eC (.str "tongue")) (aCons (eVar 5) aNil))) (tgN 8))
(sIf [] (bAnd (bT (eOp dGt (eOp dIx (eVar 3) (eC (.int 0))) (eC (.int 20)))) (bT (eOp dNe (eVar 7) (eC (.str "good")))))
(sAsg [] (eTup (aCons (eC (.str "wants")) (aCons (eVar 7) aNil))) (tgN 8))
sPass))
(sIf [] (bAnd (bT (eOp dNe (eVar 8) (eTup (aCons (eC (.str "good")) (aCons (eC .non) aNil))))) (bT (eOp dNe (eCall F__law_told (aCons (eOp dIx (eVar 3) (eC (.int 0))) (aCons (eVar 4) (aCons (eVar 6) aNil)))) (eVar 8))))
(sRet [] (eC (.bl false)))
sPass)))))) ρ := rfl
noncomputable def B_law : Env → Out := (sSeq (sFor [] (iEnumD (aCons (eOp dAdd (eLst (aCons (eC (.int 0)) aNil)) (eSl (eVar 0) pNo (pYes (eC (.int 60))))) aNil)) (tgT [(tgN 1), (tgN 2)])
B_law_1
[1, 2, 3, 4, 5, 6, 7, 8])
(sRet [] (eC (.bl true))))
theorem B_law_u (ρ : Env) : B_law ρ = (sSeq (sFor [] (iEnumD (aCons (eOp dAdd (eLst (aCons (eC (.int 0)) aNil)) (eSl (eVar 0) pNo (pYes (eC (.int 60))))) aNil)) (tgT [(tgN 1), (tgN 2)])
B_law_1
[1, 2, 3, 4, 5, 6, 7, 8])
(sRet [] (eC (.bl true)))) ρ := rfl
noncomputable def F_law : List D → Res D := runD (["_law_script"] : List Str).length n_law.length B_law
theorem ok_law {P : Program} {w : World} {K : PySem.W.Frag} {mg : Str → Option Value} {base : Heap} (T : Txt K mg) {f : Addr} {fd : FuncData} (F : L2.Fun K "law" "law" s_law f fd) : FnOk P w K mg base CX0 (14 + 1) f fd ["_law_script"] (sp0 K F_law) :=
  okL (g := B_law) F c_law fun f cdv A outer s H E hr => 
(fss_cons (fs_for (L := []) [1, 2, 3, 4, 5, 6, 7, 8] PassesOwn.never (fi_enum T.b_enumerate (fa_cons (fe_op (op_addA K) opd_add (fe_lst (fa_cons fe_int fa_nil)) (fe_sl (fe_var 0) fo_no (fo_yes fe_int))) fa_nil) len1) (fg_tup (fgs_cons (fg_name 1 c_law.nd) (fgs_cons (fg_name 2 c_law.nd) fgs_nil)))
(fss_cons (fs_asg (L := []) (fe_call (ok__law_draws T) hr (fa_cons (fe_var 2) (fa_cons (fe_var 1) (fa_cons (fe_lst (fa_cons fe_int (fa_cons fe_int (fa_cons fe_int (fa_cons fe_int fa_nil))))) fa_nil)))) (fg_name 3 c_law.nd))
(fss_cons (fs_asg (L := []) (fe_ix (ix_A (K := K) (u1 hr.units)) opd_ix (fe_call0 (ok__law_tongues T) hr) (fe_ix (ix_A (K := K) (u1 hr.units)) opd_ix (fe_lst (fa_cons (fe_ix (ix_A (K := K) (u1 hr.units)) opd_ix (fe_var 3) fe_int) (fa_cons (fe_ix (ix_A (K := K) (u1 hr.units)) opd_ix (fe_var 3) fe_int) (fa_cons fe_int fa_nil)))) (fe_ix (ix_A (K := K) (u1 hr.units)) opd_ix (fe_var 3) fe_int))) (fg_tup (fgs_cons (fg_name 4 c_law.nd) (fgs_cons (fg_name 5 c_law.nd) fgs_nil))))
(fss_cons (fs_asg (L := []) (fe_ix (ix_A (K := K) (u1 hr.units)) opd_ix (fe_call0 (ok__law_wants T) hr) (fe_ix (ix_A (K := K) (u1 hr.units)) opd_ix (fe_var 3) fe_int)) (fg_tup (fgs_cons (fg_name 6 c_law.nd) (fgs_cons (fg_name 7 c_law.nd) fgs_nil))))
(fss_cons (fs_asg (L := []) (fe_tup (fa_cons fe_str (fa_cons fe_non fa_nil))) (fg_name 8 c_law.nd))
(fss_cons (fs_if (L := []) (ft_w (fw_and (ft_cmp op_lt opd_lt gb_cmp (fe_ix (ix_A (K := K) (u1 hr.units)) opd_ix (fe_var 3) fe_int) fe_int) (fw_and1 (ft_cmp (op_neA (K := K) hr.units) opd_ne gb_ne (fe_var 5) fe_str))))
(fss_one (fs_asg (L := []) (fe_tup (fa_cons fe_str (fa_cons (fe_var 5) fa_nil))) (fg_name 8 c_law.nd)))
(fss_one (fs_if (L := []) (ft_w (fw_and (ft_cmp op_gt opd_gt gb_cmp (fe_ix (ix_A (K := K) (u1 hr.units)) opd_ix (fe_var 3) fe_int) fe_int) (fw_and1 (ft_cmp (op_neA (K := K) hr.units) opd_ne gb_ne (fe_var 7) fe_str))))
(fss_one (fs_asg (L := []) (fe_tup (fa_cons fe_str (fa_cons (fe_var 7) fa_nil))) (fg_name 8 c_law.nd)))
fss_nil)))
(fss_one (fs_if (L := []) (ft_w (fw_and (ft_cmp (op_neA (K := K) hr.units) opd_ne gb_ne (fe_var 8) (fe_tup (fa_cons fe_str (fa_cons fe_non fa_nil)))) (fw_and1 (ft_cmp (op_neA (K := K) hr.units) opd_ne gb_ne (fe_call (ok__law_told T) hr (fa_cons (fe_ix (ix_A (K := K) (u1 hr.units)) opd_ix (fe_var 3) fe_int) (fa_cons (fe_var 4) (fa_cons (fe_var 6) fa_nil)))) (fe_var 8)))))
(fss_one (fs_ret (L := []) fe_bl))
fss_nil))))))))
(fss_one (fs_ret (L := []) fe_bl)))

end Du

namespace Du
open PySem PySem.Spec PyProof.Rows L2 Dear
/-! ### what every law's front shares: fractions, tongues, texts -/
@[simp] theorem F_is_whole_int (i : Int) : F_is_whole [.int i] = .ok (.bl true) := by rfl
theorem is_fr (x y : Int) (r : Int) (h : F_divisor [.int y, .int (if x < 0 then -x else x)] = .ok (.int r)) (h1 : 1 ≤ y) : F_is_fraction [.tup [.int x, .int y]] = .ok (.bl (decide (r = 1))) := by
  show outR (B_is_fraction [some (.frz (.tup [.int x, .int y])), none, none]) = _
  simp [B_is_fraction, dLen, h, show ¬ y < 1 by omega]
theorem divisor_e : ∀ (n : Nat) (a : Nat), F_divisor [.int a, .int n] = .ok (.int (Nat.gcd n a)) := by
  have key : ∀ (n a : Nat), outR (B_divisor [some (.frz (.int a)), some (.frz (.int n))]) = .ok (.int (Nat.gcd n a)) := by
    intro n
    induction n using Nat.strongRecOn with
    | ind n ih =>
      intro a
      unfold B_divisor
      rw [sSeq_e, sWhile_e]
      by_cases hn : n = 0
      · subst hn
        simp
      · have hp : 0 < n := by omega
        have := ih (a % n) (Nat.mod_lt _ (by omega)) n
        unfold B_divisor at this
        rw [sSeq_e] at this
        simp [hp, B_divisor_1_u]
        rw [← Int.natCast_emod, this, Nat.gcd_rec n a]
  intro n a
  exact key n a
/-- a price: a fraction above nothing, lowest terms -/
def Price (d : D) : Prop := ∃ x y : Nat, d = .tup [.int x, .int y] ∧ 0 < x ∧ 0 < y ∧ Nat.gcd x y = 1 ∧ x < 2 ^ 62 ∧ y < 2 ^ 62
structure Tg where
  signs : List (Nat × D × D)
  firsts : List (List Nat)
  pairs : List (List Nat)
  long : Nat
def rowD (r : Nat × D × D) : D := .tup [.str (txt [r.1]), r.2.1, r.2.2]
abbrev txs (l : List (List Nat)) : D := .lst (l.map fun v => .str (txt v))
def Tg.d (T : Tg) : D := .tup [.lst (T.signs.map rowD), txs T.firsts, txs T.pairs, .int T.long]
/-- may the sign c come behind what ends on l (no sign, or one)? -/
def Tg.comes (T : Tg) (l : List Nat) (c : Nat) : Bool := if l = [] then !decide ([c] ∈ T.firsts) else !decide (l ++ [c] ∈ T.pairs)
/-- the texts one sign longer than w -/
def Tg.longer (T : Tg) (w : List Nat) : List (List Nat) := (T.signs.filter fun r => T.comes (lastL w) r.1).map fun r => w ++ [r.1]
def Tg.step (T : Tg) (l : List (List Nat)) : List (List Nat) := l.flatMap T.longer
def Tg.level (T : Tg) : Nat → List (List Nat)
  | 0 => [[]]
  | n + 1 => T.step (T.level n)
/-- all texts up to n signs, shorter ones first -/
def Tg.upto (T : Tg) : Nat → List (List Nat)
  | 0 => []
  | n + 1 => T.upto n ++ T.level (n + 1)
/-- a source of draws: what is left of the cell, and the seed -/
def Src (d : D) : Prop := ∃ c s : Int, d = .lst [.int c, .int s] ∧ 0 ≤ s ∧ s < 2 ^ 31
end Du

namespace Du
open PySem PySem.Spec PyProof.Rows L2 Dear
/-! ### the program lets a good tongue by -/
theorem dAll_true {α : Type} (l : List α) (q : α → D) (h : ∀ a ∈ l, q a = .bl true) : dAll [.lst (l.map q)] = .ok (.bl true) := by
  have e : l.map q = (l.map fun _ => true).map D.bl := by
    rw [List.map_map]
    exact List.map_congr_left fun a ha => by rw [h a ha]; rfl
  rw [e]
  show (match asBls _ with | some bs => Res.ok (D.bl (bs.all id)) | none => .bad) = _
  rw [asBls_map]
  simp
theorem filter_yes {l : List D} : l.filter (fun _ => true) = l := List.filter_eq_self.mpr fun _ _ => rfl
theorem is_fraction_e {d : D} (h : Price d) : F_is_fraction [d] = .ok (.bl true) := by
  obtain ⟨x, y, rfl, h1, h2, h3, h4, h5⟩ := h
  have e := divisor_e x y
  have := is_fr x y (Nat.gcd x y : Nat) (by rw [if_neg (by omega)]; exact e) (by omega)
  rw [this, h3]
  rfl
theorem is_price_e {d : D} (h : Price d) : F_is_price [d] = .ok (.bl true) := by
  have e := is_fraction_e h
  obtain ⟨x, y, rfl, h1, h2, h3, h4, h5⟩ := h
  show outR (B_is_price [some (.frz (.tup [.int x, .int y]))]) = _
  simp [B_is_price_u, e, h1]
theorem abc_mem (c : Nat) (h1 : 97 ≤ c) (h2 : c ≤ 122) : c ∈ (Str.ofString "abcdefghijklmnopqrstuvwxyz").cps.toList := by
  have : ∀ i : Fin 26, 97 + i.val ∈ (Str.ofString "abcdefghijklmnopqrstuvwxyz").cps.toList := by decide +kernel
  have := this ⟨c - 97, by omega⟩
  rwa [show 97 + (c - 97) = c by omega] at this
theorem dIn_sign {neg : Bool} {c : Nat} {b : Str} : dIn neg (.str (txt [c])) (.str b) = .ok (.bl (neg ^^ decide (c ∈ b.cps.toList))) := rfl
theorem is_letter_tongues_e {c : Nat} (h1 : 97 ≤ c) (h2 : c ≤ 122) : F_is_letter_tongues [.str (txt [c])] = .ok (.bl true) := by
  show outR (B_is_letter_tongues [some (.frz (.str (txt [c])))]) = _
  simp [B_is_letter_tongues_u, txt_length, dIn_sign, abc_mem c h1 h2]
structure GoodRow (r : Nat × D × D) : Prop where
  lo : 97 ≤ r.1
  hi : r.1 ≤ 122
  pr : Price r.2.1
  la : r.2.2 = .non ∨ Price r.2.2
theorem is_sign_e {r : Nat × D × D} (h : GoodRow r) : F_is_sign [rowD r] = .ok (.bl true) := by
  show outR (B_is_sign [some (.frz (rowD r)), none, none, none]) = _
  rcases h.la with e | e
  · simp [B_is_sign_u, rowD, is_letter_tongues_e h.lo h.hi, is_price_e h.pr, e]
  · have e2 : isNon r.2.2 = false := by obtain ⟨x, y, e3, _⟩ := e; rw [e3]; rfl
    simp [B_is_sign_u, rowD, is_letter_tongues_e h.lo h.hi, is_price_e h.pr, is_price_e e, e2]
/-- what every law's tongue has -/
structure Good (T : Tg) : Prop where
  lo : 2 ≤ T.signs.length
  hi : T.signs.length ≤ 6
  row : ∀ r ∈ T.signs, GoodRow r
  nd : (T.signs.map (·.1)).Nodup
  fs : ∀ v ∈ T.firsts, ∃ c, v = [c] ∧ c ∈ T.signs.map (·.1)
  fnd : T.firsts.Nodup
  ps : ∀ v ∈ T.pairs, ∃ a b, v = [a, b] ∧ a ∈ T.signs.map (·.1) ∧ b ∈ T.signs.map (·.1)
  pnd : T.pairs.Nodup
  fl : T.firsts.length ≤ 1000
  pl : T.pairs.length ≤ 1000
  l0 : 1 ≤ T.long
  l1 : T.long ≤ 8
theorem dd_len' {l : List Str} (h : l.Nodup) : (Dear.dd l).length = l.length := by
  unfold Dear.dd
  rw [Dear.dd_nodup [] h]
  rfl
theorem are_signs_e {T : Tg} (h : Good T) : F_are_signs [.lst (T.signs.map rowD)] = .ok (.bl true) := by
  have h0 := h.lo
  have h1 := h.hi
  have hl : (T.signs.map rowD).length ≤ 16777215 := by rw [List.length_map]; omega
  have c1 : eComp [1] (iAny (eVar 0)) (tgN 1) bYes (eCall F_is_sign (aCons (eVar 1) aNil)) [some (.lst (T.signs.map rowD)), none] = .ok (.lst ((T.signs.map rowD).map fun _ => .bl true)) := by
    rw [eComp_of (ds := T.signs.map rowD) (fun _ => true) (fun _ => .bl true) (by simp) hl, filter_yes]
    intro d hd
    obtain ⟨r, hr, rfl⟩ := List.mem_map.mp hd
    refine ⟨_, rfl, by simp, by simp, fun _ => ?_⟩
    simp [is_sign_e (h.row r hr)]
  have c2 : eComp [1] (iAny (eVar 0)) (tgN 1) bYes (eOp dIx (eVar 1) (eC (.int 0))) [some (.lst (T.signs.map rowD)), none] = .ok (.lst ((T.signs.map fun r => txt [r.1]).map D.str)) := by
    have : (T.signs.map fun r => txt [r.1]).map D.str = ((T.signs.map rowD)).map fun d => match d with | .tup (x :: _) => x | _ => .non := by
      rw [List.map_map, List.map_map]
      exact List.map_congr_left fun r _ => rfl
    rw [this, eComp_of (ds := T.signs.map rowD) (fun _ => true) (fun d => match d with | .tup (x :: _) => x | _ => .non) (by simp) hl, filter_yes]
    intro d hd
    obtain ⟨r, hr, rfl⟩ := List.mem_map.mp hd
    refine ⟨_, rfl, by simp, by simp, fun _ => ?_⟩
    simp [rowD]
  have a1 := dAll_true T.signs ((fun _ => D.bl true) ∘ rowD) (fun _ _ => rfl)
  have nd : (T.signs.map fun r => txt [r.1]).Nodup := by
    exact List.pairwise_map.mpr ((List.pairwise_map.mp h.nd).imp fun hne e => hne (by simpa using txt_inj e))
  have c3 : eLenSet (eComp [1] (iAny (eVar 0)) (tgN 1) bYes (eOp dIx (eVar 1) (eC (.int 0)))) [some (.lst (T.signs.map rowD)), none] = .ok (.int T.signs.length) := by
    unfold eLenSet
    rw [c2, Res.bind_ok]
    show (match asStrs _ with | some zs => _ | none => _) = _
    rw [asStrs_map]
    have e := dd_len' nd
    rw [List.length_map] at e
    dsimp only
    rw [if_pos (Nat.ble_eq_true_of_le (by rw [List.length_map]; omega)), e]
  show outR (B_are_signs [some (.frz (.lst (T.signs.map rowD))), none]) = _
  simp [B_are_signs_u, show T.signs.length ≤ 16777215 by omega, show (2 : Int) ≤ T.signs.length by omega, show (T.signs.length : Int) ≤ 6 by omega, c1, a1, c3]
theorem cutD_pre {α : Type} {xs : List α} {j : Nat} : cutD xs none (some (j : Int)) = xs.take j := by
  unfold cutD
  rw [HT.sIx_none, HT.sIx_nat, List.drop_zero, Nat.sub_zero]
  by_cases h : j ≤ xs.length
  · rw [Nat.min_eq_left h]
  · rw [Nat.min_eq_right (by omega), List.take_length, List.take_of_length_le (by omega)]
theorem numbered_mem : ∀ {ds : List D} {k : Nat} {d : D}, d ∈ numbered k ds → ∃ i x, ds[i]? = some x ∧ d = .tup [.int ((k + i : Nat) : Int), x]
  | [], _, _, h => by cases h
  | x :: r, k, d, h => by
    rcases List.mem_cons.mp (show d ∈ _ :: numbered (k + 1) r from h) with e | e
    · exact ⟨0, x, rfl, by rw [e]; rfl⟩
    · obtain ⟨i, y, h1, h2⟩ := numbered_mem e
      exact ⟨i + 1, y, h1, by rw [h2, show k + 1 + i = k + (i + 1) by omega]⟩
theorem unlike_e {l : List (List Nat)} {n : Nat} {cs : List Nat} (hn : n ≤ 1000) (hl : l.length ≤ 16777215) (nd : l.Nodup) (h : ∀ v ∈ l, v.length = n ∧ ∀ c ∈ v, c ∈ cs) : F_are_unlike_texts [txs l, .int n, txs (cs.map fun c => [c])] = .ok (.bl true) := by
  have turn : ∀ d ∈ numbered 0 (l.map fun v => D.str (txt v)), ∃ as ρ', tgT [(tgN 3), (tgN 4)] d = .ok as ∧ B_are_unlike_texts_1 (setS [some (.frz (txs l)), some (.frz (.int n)), some (.frz (txs (cs.map fun c => [c]))), none, none, none] as) = .nx ρ' ∧ clr [3, 4, 5] ρ' = [some (.frz (txs l)), some (.frz (.int n)), some (.frz (txs (cs.map fun c => [c]))), none, none, none] := by
    intro d hd
    obtain ⟨i, x, h1, rfl⟩ := numbered_mem hd
    rw [Nat.zero_add]
    rw [List.getElem?_map] at h1
    obtain ⟨v, h2, rfl⟩ := Option.map_eq_some_iff.mp h1
    have hv := h v (List.mem_of_getElem? h2)
    have ni : ¬ v ∈ l.take i := by
      intro m
      obtain ⟨k, hk, e⟩ := List.mem_iff_getElem.mp m
      rw [List.getElem_take] at e
      rw [List.length_take] at hk
      obtain ⟨hi, e2⟩ := List.getElem?_eq_some_iff.mp h2
      have := (List.getElem_inj nd).mp (e.trans e2.symm)
      omega
    have c1 : ∀ x5, eComp [5] (iAny (eVar 4)) (tgN 5) bYes (eOp (dIn false) (eVar 5) (eVar 2)) [some (txs l), some (.int n), some (txs (cs.map fun c => [c])), some (.int i), some (.str (txt v)), x5] = .ok (.lst (v.map fun _ => D.bl true)) := by
      intro x5
      have sv : signs (txt v) = v.map fun c => D.str (txt [c]) := by unfold signs; rw [txt_list]; rfl
      rw [eComp_of (ds := signs (txt v)) (fun _ => true) (fun _ => .bl true) (by simp) (by rw [sv, List.length_map, hv.1]; omega), filter_yes, sv, List.map_map]
      · rfl
      · intro d hd
        rw [sv] at hd
        obtain ⟨c, hc, rfl⟩ := List.mem_map.mp hd
        refine ⟨_, rfl, by simp, by simp, fun _ => ?_⟩
        have hcs := hv.2 c hc
        have := dIn_txts (neg := false) (w := [c]) (l := cs.map fun c => [c])
        simp [hcs] at this
        simp [txs, this]
    have a1 := dAll_true v (fun _ => D.bl true) (fun _ _ => rfl)
    have i1 : dIn false (.str (txt v)) (.lst ((l.map fun v => D.str (txt v)).take i)) = .ok (.bl false) := by rw [← List.map_take, dIn_txts]; simp [ni]
    have s1 : dSl (txs l) none (some (i : Int)) = .ok (.lst ((l.map fun v => D.str (txt v)).take i)) := by
      show Res.ok (D.lst (cutD _ none _)) = _
      rw [cutD_pre]
    refine ⟨_, [some (.frz (txs l)), some (.frz (.int n)), some (.frz (txs (cs.map fun c => [c]))), some (.frz (.int i)), some (.frz (.str (txt v))), none], rfl, ?_, rfl⟩
    have c2 := c1 none
    have l1 : v.length ≤ 16777215 := by rw [hv.1]; omega
    simp [B_are_unlike_texts_1_u, txt_length, hv.1, s1, i1, c2, a1, show n ≤ 16777215 by omega]
  show outR (B_are_unlike_texts [some (.frz (txs l)), some (.frz (.int n)), some (.frz (txs (cs.map fun c => [c]))), none, none, none]) = _
  have f := forL_same turn
  have e1 : dEnum [txs l] = .ok (numbered 0 (l.map fun v => D.str (txt v))) := rfl
  have k1 : isKind "list" (txs l) = .ok (.bl true) := by simp
  simp [B_are_unlike_texts_u, e1, f, k1]
end Du

namespace Du
open PySem PySem.Spec PyProof.Rows L2 Dear
/-! ### letters by a start and a step -/
abbrev abcB : Str := "abcdefghijklmnopqrstuvwxyz"
def codeB (start step k : Nat) : Nat := 97 + (start + step * k) % 26
def Stp (st : Nat) : Prop := st = 1 ∨ st = 3 ∨ st = 7 ∨ st = 25
end Du

namespace Du
open PySem PySem.Spec PyProof.Rows L2 Dear
/-! ### author C's draws alone -/
/-- drawn numbers, each below its size -/
def InSz (ds ms : List Int) : Prop := Paired (fun d m => 0 ≤ d ∧ d < m) ds ms
theorem InSz.length {ds ms : List Int} (h : InSz ds ms) : ds.length = ms.length := Paired.length h
theorem InSz.at {ds ms : List Int} (h : InSz ds ms) {i : Nat} {m : Int} (e : ms[i]? = some m) : ∃ d : Int, ds[i]? = some d ∧ 0 ≤ d ∧ d < m := by
  induction h generalizing i with
  | nil => simp at e
  | cons h _ ih =>
    cases i with
    | zero =>
      simp at e
      subst e
      exact ⟨_, by simp, h.1, h.2⟩
    | succ i => simpa using ih (by simpa using e)
def drS (c k : Int) (sz : D) (num : Int) (g : Bool) (mix : Int) (found : List Int) (x7 x8 : Option Slot) : Env := [some (.frz (.int c)), some (.frz (.int k)), some (.frz sz), some (.frz (.int num)), some (.frz (.bl g)), some (.frz (.int mix)), some (.own false (.lst (found.map D.int))), x7, x8]
theorem dr1_e (c k : Int) (sz : D) (g : Bool) (hk : 0 ≤ k) (hk2 : k ≤ 1000) : ∀ (ms : List Int) (t : Nat) (num mix : Int) (found : List Int), (∀ m ∈ ms, 0 < m ∧ m < 2 ^ 62) → 0 ≤ num → 0 ≤ mix → mix < 2 ^ 31 → t + ms.length ≤ 1000 → found.length ≤ t →
    ∃ num' mix' ds, forL (tgT [(tgN 7), (tgN 8)]) B__law_draws_1 [7, 8] (numbered t (ms.map D.int)) (drS c k sz num g mix found none none) = .nx (drS c k sz num' g mix' (found ++ ds) none none) ∧ InSz ds ms
  | [], _, num, mix, found, _, _, _, _, _, _ => ⟨num, mix, [], by rw [List.append_nil]; rfl, .nil⟩
  | m :: ms, t, num, mix, found, hm, h0, h1, h2, ht, hf => by
    obtain ⟨m0, m1⟩ := hm m List.mem_cons_self
    rw [List.length_cons] at ht
    have one : ∃ num' mix' d, B__law_draws_1 (drS c k sz num g mix found (some (.frz (.int (t : Nat)))) (some (.frz (.int m)))) = .nx (drS c k sz num' g mix' (found ++ [d]) (some (.frz (.int (t : Nat)))) (some (.frz (.int m)))) ∧ (0 ≤ d ∧ d < m) ∧ 0 ≤ num' ∧ 0 ≤ mix' ∧ mix' < 2 ^ 31 := by
      cases g with
      | true =>
        refine ⟨num / m, mix, num % m, ?_, ⟨Int.emod_nonneg _ (by omega), Int.emod_lt_of_pos _ m0⟩, Int.ediv_nonneg h0 (by omega), h1, h2⟩
        have f1 := cdiv (a := num) m0 (by omega)
        rw [B__law_draws_1_u]
        simp [drS, m0, f1, show found.length ≤ 16777215 by omega]
      | false =>
        have e1 : 0 ≤ (mix * mix + 104729 * (k + t) + 11) % 2147483587 := Int.emod_nonneg _ (by decide)
        have e2 : (mix * mix + 104729 * (k + t) + 11) % 2147483587 < 2147483587 := Int.emod_lt_of_pos _ (by decide)
        refine ⟨num, (mix * mix + 104729 * (k + t) + 11) % 2147483587, (mix * mix + 104729 * (k + t) + 11) % 2147483587 / 16 % m, ?_, ⟨Int.emod_nonneg _ (by omega), Int.emod_lt_of_pos _ m0⟩, h0, e1, by omega⟩
        have f1 := cmul (a := mix) (b := mix) (by omega) (by omega) (by omega) (by omega)
        have f2 := cmul (a := 104729) (b := k + t) (by omega) (by omega) (by omega) (by omega)
        have f3 := cdiv (a := (mix * mix + 104729 * (k + t) + 11) % 2147483587) (b := 16) (by omega) (by omega)
        rw [B__law_draws_1_u]
        simp [drS, m0, f1, f2, f3, show found.length ≤ 16777215 by omega]
    obtain ⟨num', mix', d, e1, hd, i0, i1, i2⟩ := one
    obtain ⟨num2, mix2, ds, e2, hs⟩ := dr1_e c k sz g hk hk2 ms (t + 1) num' mix' (found ++ [d]) (fun x hx => hm x (List.mem_cons_of_mem _ hx)) i0 i1 i2 (by omega) (by rw [List.length_append, List.length_singleton]; omega)
    refine ⟨num2, mix2, d :: ds, ?_, .cons hd hs⟩
    show forL _ _ _ (.tup [.int (t : Nat), .int m] :: numbered (t + 1) (ms.map D.int)) _ = _
    rw [forL_cons]
    show forK _ _ _ _ (B__law_draws_1 (drS c k sz num g mix found (some (.frz (.int (t : Nat)))) (some (.frz (.int m))))) = _
    rw [e1, forK_nx, show found ++ d :: ds = found ++ [d] ++ ds by simp]
    exact e2
def dsD (ds : List Int) : D := .lst (ds.map D.int)
theorem draws_e (c : Int) {k : Int} (hk : 0 ≤ k) (hk2 : k ≤ 1000) {ms : List Int} (hm : ∀ m ∈ ms, 0 < m ∧ m < 2 ^ 62) (hl : ms.length ≤ 900) : ∃ ds, F__law_draws [.int c, .int k, dsD ms] = .ok (dsD ds) ∧ InSz ds ms := by
  obtain ⟨a, ha, ea⟩ : ∃ a : Int, 0 ≤ a ∧ (if c < 0 then -c else c) = a := ⟨_, by split <;> omega, rfl⟩
  have m1 := cmul (a := 7919) (b := k) (by omega) (by omega) (by omega) (by omega)
  have r1 : 0 ≤ a % 1000000007 := Int.emod_nonneg _ (by decide)
  have r2 : a % 1000000007 < 1000000007 := Int.emod_lt_of_pos _ (by decide)
  have m2 := cmul (a := a % 1000000007 + 7919 * k + 1) (b := 48271) (by omega) (by omega) (by omega) (by omega)
  have q1 : 0 ≤ (a % 1000000007 + 7919 * k + 1) * 48271 % 2147483629 := Int.emod_nonneg _ (by decide)
  have q2 : (a % 1000000007 + 7919 * k + 1) * 48271 % 2147483629 < 2147483629 := Int.emod_lt_of_pos _ (by decide)
  obtain ⟨num', mix', ds, e1, hs⟩ := dr1_e c k (dsD ms) (decide (1000000000000000000 ≤ a)) hk hk2 ms 0 a ((a % 1000000007 + 7919 * k + 1) * 48271 % 2147483629) [] hm ha q1 (by omega) (by omega) (Nat.le_refl _)
  refine ⟨ds, ?_, hs⟩
  show outR (B__law_draws [some (.frz (.int c)), some (.frz (.int k)), some (.frz (dsD ms)), none, none, none, none, none, none]) = _
  have : B__law_draws [some (.frz (.int c)), some (.frz (.int k)), some (.frz (dsD ms)), none, none, none, none, none, none] = .rt (dsD ds) [some (.frz (.int c)), some (.frz (.int k)), some (.frz (dsD ms)), some (.frz (.int num')), some (.frz (.bl (decide (1000000000000000000 ≤ a)))), some (.frz (.int mix')), some (.frz (dsD ds)), none, none] := by
    rw [B__law_draws_u]
    refine seq_to (ρ' := [some (.frz (.int c)), some (.frz (.int k)), some (.frz (dsD ms)), some (.frz (.int a)), none, none, none, none, none]) (by simp [ea]) ?_
    refine seq_to (ρ' := [some (.frz (.int c)), some (.frz (.int k)), some (.frz (dsD ms)), some (.frz (.int a)), some (.frz (.bl (decide (1000000000000000000 ≤ a)))), none, none, none, none]) (by simp) ?_
    refine seq_to (ρ' := [some (.frz (.int c)), some (.frz (.int k)), some (.frz (dsD ms)), some (.frz (.int a)), some (.frz (.bl (decide (1000000000000000000 ≤ a)))), some (.frz (.int ((a % 1000000007 + 7919 * k + 1) * 48271 % 2147483629))), none, none, none]) (by simp [m1, m2]) ?_
    refine seq_to (ρ' := drS c k (dsD ms) a (decide (1000000000000000000 ≤ a)) ((a % 1000000007 + 7919 * k + 1) * 48271 % 2147483629) [] none none) (by simp [drS]) ?_
    refine seq_to (for_to (ds := numbered 0 (ms.map D.int)) (ρ' := drS c k (dsD ms) a (decide (1000000000000000000 ≤ a)) ((a % 1000000007 + 7919 * k + 1) * 48271 % 2147483629) [] none none) rfl rfl e1) ?_
    simp [drS, dsD]
  rw [this]
  rfl
theorem ds_at {ds ms : List Int} (h : InSz ds ms) (i : Nat) {m : Int} (e : ms[i]? = some m) : ∃ d : Nat, dIx (dsD ds) (.int (i : Nat)) = .ok (.int (d : Nat)) ∧ (d : Int) < m ∧ ds[i]? = some (d : Int) := by
  obtain ⟨d, e1, e2, e3⟩ := h.at e
  refine ⟨d.toNat, ?_, by omega, by rw [e1]; congr 1; omega⟩
  have : ((d.toNat : Nat) : Int) = d := by omega
  rw [this]
  unfold dsD
  rw [dIx_lst, atI_nat (by omega), Int.toNat_natCast, List.getElem?_map, e1]
  rfl
end Du

namespace Du
open PySem PySem.Spec PyProof.Rows L2 Dear
set_option maxHeartbeats 400000
theorem lookX_e {T : Tg} (h : Good T) : FX_look_at_tongue [T.d] = .ok .non := by
  have h0 := h.lo
  have h1 := h.hi
  have hl : (T.signs.map rowD).length ≤ 16777215 := by rw [List.length_map]; omega
  have c2 : ∀ x0 x2 x3 x4 x5 : Option D, eComp [6] (iAny (eVar 1)) (tgN 6) bYes (eOp dIx (eVar 6) (eC (.int 0))) [x0, some (.lst (T.signs.map rowD)), x2, x3, x4, x5, none] = .ok (txs ((T.signs.map (·.1)).map fun c => [c])) := by
    intro x0 x2 x3 x4 x5
    have : ((T.signs.map (·.1)).map fun c => [c]).map (fun v => D.str (txt v)) = ((T.signs.map rowD)).map fun d => match d with | .tup (x :: _) => x | _ => .non := by
      rw [List.map_map, List.map_map, List.map_map]
      exact List.map_congr_left fun r _ => rfl
    unfold txs
    rw [this, eComp_of (ds := T.signs.map rowD) (fun _ => true) (fun d => match d with | .tup (x :: _) => x | _ => .non) (by simp) hl, filter_yes]
    intro d hd
    obtain ⟨r, hr, rfl⟩ := List.mem_map.mp hd
    refine ⟨_, rfl, by simp, by simp, fun _ => ?_⟩
    simp [rowD]
  have u1 := unlike_e (n := 1) (cs := T.signs.map (·.1)) (by omega) (by have := h.fl; omega) h.fnd (fun v hv => by
    obtain ⟨c, e, m⟩ := h.fs v hv
    subst e
    exact ⟨rfl, fun x hx => by rw [List.mem_singleton.mp hx]; exact m⟩)
  have ph : ∀ v ∈ T.pairs, v.length = 2 ∧ ∀ c ∈ v, c ∈ T.signs.map (·.1) := fun v hv => by
    obtain ⟨a, b, e, m1, m2⟩ := h.ps v hv
    subst e
    refine ⟨rfl, fun x hx => ?_⟩
    rcases List.mem_cons.mp hx with e | hx
    · rw [e]; exact m1
    · rw [List.mem_singleton.mp hx]; exact m2
  have u2 := unlike_e (n := 2) (cs := T.signs.map (·.1)) (by omega) (by have := h.pl; omega) h.pnd ph
  have w1 : F_is_whole [.int (T.long : Nat)] = .ok (.bl true) := by rfl
  have l0 := h.l0
  have l1 := h.l1
  show outR (BX_look_at_tongue [some (.frz T.d), none, none, none, none, none, none]) = _
  have s1 := are_signs_e h
  simp at u1 u2
  have s1 := nx_ok s1
  have u1 := nx_ok u1
  have u2 := nx_ok u2
  have w1 := nx_ok w1
  simp [BX_look_at_tongue_u, Tg.d, s1, c2, u1, u2, w1, show (1 : Int) ≤ T.long by omega, show (T.long : Int) ≤ 8 by omega]

end Du

namespace Du
open PySem PySem.Spec PyProof.Rows L2 Dear
/-! ### k05: each door looks at the tongue first -/
def nt (d : D) : Ex := ⟨"NoTongue", [("part", d)]⟩
/-! what look_at_tongue refuses -/
def lkS (t : D) : Env := [some (.frz t), none, none, none, none, none, none]
theorem lk_none {t : D} (h : (bOr (bNot (bT (eIsi "tuple" (eVar 0)))) (bT (eOp dNe (eCall dLen (aCons (eVar 0) aNil)) (eC (.int 4))))) [some t, none, none, none, none, none, none] = .ok true) : FX_look_at_tongue [t] = .exc (nt .non) := by
  show outR (BX_look_at_tongue (lkS t)) = _
  have v : view [] (lkS t) = [some t, none, none, none, none, none, none] := rfl
  rw [BX_look_at_tongue_u, sSeq_e, sIf_e, v, h, atR_ok, ifC_t, sRaiseI_c rfl, seqK_ex]
  rfl
def lk4 (a b c d : D) : Env := [some (.frz (.tup [a, b, c, d])), some (.frz a), some (.frz b), some (.frz c), some (.frz d), none, none]
/-- a part of the right form: what is asked first of it -/
theorem lk_signs {a b c d : D} (h : F_are_signs [a] = .ok (.bl false)) : FX_look_at_tongue [.tup [a, b, c, d]] = .exc (nt (.str "signs")) := by
  show outR (BX_look_at_tongue (lkS (.tup [a, b, c, d]))) = _
  have h' := nx_ok h
  have r : ∀ ρ : Env, sRaiseI "NoTongue" "part" [] (eC (.str "signs")) ρ = .ex (nt (.str "signs")) (aft [] (.str "signs") ρ) := fun ρ => sRaiseI_c (by decide +kernel)
  simp [BX_look_at_tongue_u, lkS, h', r]
def rwD (rows : List (Nat × D × D)) : D := .lst (rows.map rowD)
def nmD (rows : List (Nat × D × D)) : D := txs (rows.map fun r => [r.1])
theorem lk_comp {rows : List (Nat × D × D)} (hl : rows.length ≤ 16777215) {x0 x2 x3 x4 x5 : Option D} : eComp [6] (iAny (eVar 1)) (tgN 6) bYes (eOp dIx (eVar 6) (eC (.int 0))) [x0, some (rwD rows), x2, x3, x4, x5, none] = .ok (nmD rows) := by
  unfold nmD txs
  rw [List.map_map]
  refine eComp_all (F := rowD) _ (by simp [rwD]) hl fun r hr => ⟨_, rfl, by simp, ?_⟩
  simp [rowD]
theorem lk_firsts {rows : List (Nat × D × D)} (hl : rows.length ≤ 16777215) {b c d : D} (h0 : F_are_signs [rwD rows] = .ok (.bl true)) (h : F_are_unlike_texts [b, .int 1, nmD rows] = .ok (.bl false)) : FX_look_at_tongue [.tup [rwD rows, b, c, d]] = .exc (nt (.str "firsts")) := by
  show outR (BX_look_at_tongue (lkS (.tup [rwD rows, b, c, d]))) = _
  have h0' := nx_ok h0
  have h' := nx_ok h
  have c1 := fun x0 x2 x3 x4 x5 => lk_comp hl (x0 := x0) (x2 := x2) (x3 := x3) (x4 := x4) (x5 := x5)
  have r : ∀ ρ : Env, sRaiseI "NoTongue" "part" [] (eC (.str "firsts")) ρ = .ex (nt (.str "firsts")) (aft [] (.str "firsts") ρ) := fun ρ => sRaiseI_c (by decide +kernel)
  simp [BX_look_at_tongue_u, lkS, h0', h', c1, r]
theorem lk_pairs {rows : List (Nat × D × D)} (hl : rows.length ≤ 16777215) {b c d : D} (h0 : F_are_signs [rwD rows] = .ok (.bl true)) (h1 : F_are_unlike_texts [b, .int 1, nmD rows] = .ok (.bl true)) (h : F_are_unlike_texts [c, .int 2, nmD rows] = .ok (.bl false)) : FX_look_at_tongue [.tup [rwD rows, b, c, d]] = .exc (nt (.str "pairs")) := by
  show outR (BX_look_at_tongue (lkS (.tup [rwD rows, b, c, d]))) = _
  have h0' := nx_ok h0
  have h1' := nx_ok h1
  have h' := nx_ok h
  have c1 := fun x0 x2 x3 x4 x5 => lk_comp hl (x0 := x0) (x2 := x2) (x3 := x3) (x4 := x4) (x5 := x5)
  have r : ∀ ρ : Env, sRaiseI "NoTongue" "part" [] (eC (.str "pairs")) ρ = .ex (nt (.str "pairs")) (aft [] (.str "pairs") ρ) := fun ρ => sRaiseI_c (by decide +kernel)
  simp [BX_look_at_tongue_u, lkS, h0', h1', h', c1, r]
theorem lk_long {rows : List (Nat × D × D)} (hl : rows.length ≤ 16777215) {b c d : D} (h0 : F_are_signs [rwD rows] = .ok (.bl true)) (h1 : F_are_unlike_texts [b, .int 1, nmD rows] = .ok (.bl true)) (h2 : F_are_unlike_texts [c, .int 2, nmD rows] = .ok (.bl true))
    (h : ∀ x0 x1 x2 x3 x5 x6 : Option D, (bOr (bNot (bT (eCall (nx F_is_whole) (aCons (eVar 4) aNil)))) (bNot (bT (eChain dLe dLe (eC (.int 1)) (eVar 4) (eC (.int 8)))))) [x0, x1, x2, x3, some d, x5, x6] = .ok true) : FX_look_at_tongue [.tup [rwD rows, b, c, d]] = .exc (nt (.str "longest")) := by
  show outR (BX_look_at_tongue (lkS (.tup [rwD rows, b, c, d]))) = _
  have h0' := nx_ok h0
  have h1' := nx_ok h1
  have h2' := nx_ok h2
  have c1 := fun x0 x2 x3 x4 x5 => lk_comp hl (x0 := x0) (x2 := x2) (x3 := x3) (x4 := x4) (x5 := x5)
  have r : ∀ ρ : Env, sRaiseI "NoTongue" "part" [] (eC (.str "longest")) ρ = .ex (nt (.str "longest")) (aft [] (.str "longest") ρ) := fun ρ => sRaiseI_c (by decide +kernel)
  rw [BX_look_at_tongue_u]
  have : ∃ ρ', sSeq (sIf [] (bOr (bNot (bT (eIsi "tuple" (eVar 0)))) (bT (eOp dNe (eCall dLen (aCons (eVar 0) aNil)) (eC (.int 4))))) (sRaiseI "NoTongue" "part" [] (eC .non)) sPass) (sAsg [] (eVar 0) (tgT [(tgN 1), (tgN 2), (tgN 3), (tgN 4)])) (lkS (.tup [rwD rows, b, c, d])) = .nx ρ' ∧ ρ' = lk4 (rwD rows) b c d := ⟨_, by simp [lkS]; rfl, rfl⟩
  refine congrArg outR ?_ |>.trans (outR_ex (ρ := [some (.frz (.tup [rwD rows, b, c, d])), some (.frz (rwD rows)), some (.frz b), some (.frz c), some (.frz d), some (.own false (nmD rows)), none]))
  refine seq_to (ρ' := lkS (.tup [rwD rows, b, c, d])) (by simp [lkS]) ?_
  refine seq_to (ρ' := lk4 (rwD rows) b c d) (by simp [lkS, lk4]) ?_
  refine seq_to (ρ' := lk4 (rwD rows) b c d) (by simp [lk4, h0']) ?_
  refine seq_to (ρ' := [some (.frz (.tup [rwD rows, b, c, d])), some (.frz (rwD rows)), some (.frz b), some (.frz c), some (.frz d), some (.own false (nmD rows)), none]) (by
    rw [own_to (d := nmD rows) (by exact c1 _ _ _ _ _)]
    simp [lk4, nmD]) ?_
  refine seq_to (ρ' := [some (.frz (.tup [rwD rows, b, c, d])), some (.frz (rwD rows)), some (.frz b), some (.frz c), some (.frz d), some (.own false (nmD rows)), none]) (by simp [h1']) ?_
  refine seq_to (ρ' := [some (.frz (.tup [rwD rows, b, c, d])), some (.frz (rwD rows)), some (.frz b), some (.frz c), some (.frz d), some (.own false (nmD rows)), none]) (by simp [h2']) ?_
  rw [sIf_e]
  have v : view [] [some (.frz (.tup [rwD rows, b, c, d])), some (.frz (rwD rows)), some (.frz b), some (.frz c), some (.frz d), some (.own false (nmD rows)), none] = [some (.tup [rwD rows, b, c, d]), some (rwD rows), some b, some c, some d, none, none] := rfl
  rw [v, h, atR_ok, ifC_t, r]
  simp
end Du

namespace Du
open PySem PySem.Spec PyProof.Rows L2 Dear
/-! ### k05: signs that are none -/
def isF (f : List D → Res D) (d : D) : Prop := f [d] = .ok (.bl false)
theorem sig_kind {d : D} (h : isKind "list" d = .ok (.bl false)) : isF F_are_signs d := by
  show outR (B_are_signs [some (.frz d), none]) = _
  simp [B_are_signs_u, h]
theorem sig_len {ds : List D} (hl : ds.length ≤ 16777215) (h : ds.length < 2 ∨ 6 < ds.length) : isF F_are_signs (.lst ds) := by
  show outR (B_are_signs [some (.frz (.lst ds)), none]) = _
  rcases h with h | h
  · simp [B_are_signs_u, hl, show ¬ (2 : Int) ≤ ds.length by omega]
  · by_cases c : (2 : Int) ≤ ds.length
    · simp [B_are_signs_u, hl, c, show ¬ (ds.length : Int) ≤ 6 by omega]
    · omega
theorem sig_all {ds : List D} (h2 : 2 ≤ ds.length) (h6 : ds.length ≤ 6) (p : D → Bool) (hp : ∀ d ∈ ds, F_is_sign [d] = .ok (.bl (p d))) : eComp [1] (iAny (eVar 0)) (tgN 1) bYes (eCall F_is_sign (aCons (eVar 1) aNil)) [some (.lst ds), none] = .ok (.lst (ds.map fun d => .bl (p d))) := by
  refine eComp_all (F := fun d => d) _ (by simp) (by omega) fun d hd => ⟨_, rfl, by simp, ?_⟩
  simp [hp d hd]
theorem sig_bad {ds : List D} (h2 : 2 ≤ ds.length) (h6 : ds.length ≤ 6) (p : D → Bool) (hp : ∀ d ∈ ds, F_is_sign [d] = .ok (.bl (p d))) {x : D} (hx : x ∈ ds) (px : p x = false) : isF F_are_signs (.lst ds) := by
  show outR (B_are_signs [some (.frz (.lst ds)), none]) = _
  have a : dAll [.lst (ds.map fun d => .bl (p d))] = .ok (.bl false) := by
    rw [dAll_map]
    have : ds.all p = false := List.all_eq_false.mpr ⟨x, hx, by rw [px]; exact Bool.false_ne_true⟩
    rw [this]
  simp [B_are_signs_u, show ds.length ≤ 16777215 by omega, show (2 : Int) ≤ ds.length by omega, show (ds.length : Int) ≤ 6 by omega, sig_all h2 h6 p hp, a]
theorem sig_dup {rows : List (Nat × D × D)} (h2 : 2 ≤ rows.length) (h6 : rows.length ≤ 6) (hp : ∀ r ∈ rows, GoodRow r) (hd : ¬ (rows.map (·.1)).Nodup) : isF F_are_signs (.lst (rows.map rowD)) := by
  show outR (B_are_signs [some (.frz (.lst (rows.map rowD))), none]) = _
  have c1 := sig_all (ds := rows.map rowD) (by rw [List.length_map]; exact h2) (by rw [List.length_map]; exact h6) (fun _ => true) (fun d hd => by
    obtain ⟨r, hr, rfl⟩ := List.mem_map.mp hd
    exact is_sign_e (hp r hr))
  have a : dAll [.lst ((rows.map rowD).map fun _ => .bl true)] = .ok (.bl true) := dAll_true (rows.map rowD) (fun _ => D.bl true) (fun _ _ => rfl)
  have c2 : eComp [1] (iAny (eVar 0)) (tgN 1) bYes (eOp dIx (eVar 1) (eC (.int 0))) [some (.lst (rows.map rowD)), none] = .ok (.lst ((rows.map fun r => txt [r.1]).map D.str)) := by
    rw [List.map_map]
    refine eComp_all (F := rowD) _ (by simp) (by omega) fun r hr => ⟨_, rfl, by simp, ?_⟩
    simp [rowD]
  have ne : ¬ (Dear.dd (rows.map fun r => txt [r.1])).length = rows.length := by
    intro e
    have := Dear.dd_full (xs := rows.map fun r => txt [r.1]) (by rw [e, List.length_map])
    refine hd (List.pairwise_map.mpr ((List.pairwise_map.mp this).imp fun hne e => hne (by rw [e])))
  have c3 : eLenSet (eComp [1] (iAny (eVar 0)) (tgN 1) bYes (eOp dIx (eVar 1) (eC (.int 0)))) [some (.lst (rows.map rowD)), none] = .ok (.int (Dear.dd (rows.map fun r => txt [r.1])).length) := by
    unfold eLenSet
    rw [c2, Res.bind_ok]
    show (match asStrs _ with | some zs => _ | none => _) = _
    rw [asStrs_map]
    dsimp only
    rw [if_pos (Nat.ble_eq_true_of_le (by rw [List.length_map]; omega))]
  have ne' : ¬ (((Dear.dd (rows.map fun r => txt [r.1])).length : Int) = rows.length) := by omega
  have v : view [] [some (.frz (.lst (rows.map rowD))), none] = [some (.lst (rows.map rowD)), none] := rfl
  have k1 : sIf [] (bOr (bNot (bT (eIsi "list" (eVar 0)))) (bNot (bT (eChain dLe dLe (eC (.int 2)) (eCall dLen (aCons (eVar 0) aNil)) (eC (.int 6)))))) (sRet [] (eC (.bl false))) sPass [some (.frz (.lst (rows.map rowD))), none] = .nx [some (.frz (.lst (rows.map rowD))), none] := by
    simp [show rows.length ≤ 16777215 by omega, show (2 : Int) ≤ rows.length by omega, show (rows.length : Int) ≤ 6 by omega]
  rw [B_are_signs_u, sSeq_e, k1, seqK_nx, sSeq_e, sIf_e, v, bNot_e, bT_e, eCall_e, aCons_e, c1, aNil_e, cons2_ok, bd_ok, a, bd_ok, dTru_bl, bd_ok]
  show outR (seqK _ (ifC _ _ _ (!true))) = _
  rw [Bool.not_true, ifC_f, sPass_e, seqK_nx, sRet_e, v, eOp_e, c3]
  show outR (atR _ _ (op2 dEq (.ok (.int _)) (bd dLen (.ok [.lst (rows.map rowD)])))) = _
  rw [bd_ok, dLen_lst (by rw [List.length_map]; omega), op2_ok, List.length_map, dEq_int, decide_eq_false ne', atR_ok]
  rfl
/-! one sign -/
theorem sgn_letter {a b c : D} (h : isF F_is_letter_tongues a) : isF F_is_sign (.tup [a, b, c]) := by
  show outR (B_is_sign [some (.frz (.tup [a, b, c])), none, none, none]) = _
  unfold isF at h
  simp [B_is_sign_u, h]
theorem sgn_price {a b c : D} (h0 : F_is_letter_tongues [a] = .ok (.bl true)) (h : isF F_is_price b) : isF F_is_sign (.tup [a, b, c]) := by
  show outR (B_is_sign [some (.frz (.tup [a, b, c])), none, none, none]) = _
  unfold isF at h
  simp [B_is_sign_u, h0, h]
theorem sgn_last {a b c : D} (h0 : F_is_letter_tongues [a] = .ok (.bl true)) (h1 : F_is_price [b] = .ok (.bl true)) (hn : isNon c = false) (h : isF F_is_price c) : isF F_is_sign (.tup [a, b, c]) := by
  show outR (B_is_sign [some (.frz (.tup [a, b, c])), none, none, none]) = _
  unfold isF at h
  simp [B_is_sign_u, h0, h1, hn, h]
theorem let_len {w : List Nat} (hl : w.length ≤ 1000) (h : w.length ≠ 1) : isF F_is_letter_tongues (.str (txt w)) := by
  show outR (B_is_letter_tongues [some (.frz (.str (txt w)))]) = _
  simp [B_is_letter_tongues_u, txt_length, show w.length ≤ 16777215 by omega, show ¬ ((w.length : Int) = 1) by omega]
theorem pr_fr {d : D} (h : isF F_is_fraction d) : isF F_is_price d := by
  show outR (B_is_price [some (.frz d)]) = _
  unfold isF at h
  simp [B_is_price_u, h]
@[simp] theorem whole_bl (b : Bool) : F_is_whole [.bl b] = .ok (.bl false) := by cases b <;> rfl
@[simp] theorem whole_non : F_is_whole [.non] = .ok (.bl false) := by rfl
@[simp] theorem whole_str (z : Str) : F_is_whole [.str z] = .ok (.bl false) := by rfl
@[simp] theorem whole_lst (z : List D) : F_is_whole [.lst z] = .ok (.bl false) := by rfl
@[simp] theorem whole_tup (z : List D) : F_is_whole [.tup z] = .ok (.bl false) := by rfl
theorem fr_gcd {x y g : Nat} (hy : 1 ≤ y) (h : Nat.gcd x y = g) (h1 : g ≠ 1) : isF F_is_fraction (.tup [.int x, .int y]) := by
  have e := divisor_e x y
  have := is_fr x y (Nat.gcd x y : Nat) (by rw [if_neg (by omega)]; exact e) (by omega)
  unfold isF
  rw [this, h, decide_eq_false (by omega)]
theorem pr_neg {i j : Int} (hj : 1 ≤ j) (h : i ≤ 0) : isF F_is_price (.tup [.int i, .int j]) := by
  obtain ⟨n, rfl⟩ : ∃ n : Nat, j = n := ⟨j.toNat, by omega⟩
  obtain ⟨m, hm⟩ : ∃ m : Nat, (if i < 0 then -i else i) = m := ⟨(if i < 0 then -i else i).toNat, by split <;> omega⟩
  have e := divisor_e m n
  have f := is_fr i n (Nat.gcd m n : Nat) (by rw [hm]; exact e) hj
  show outR (B_is_price [some (.frz (.tup [.int i, .int (n : Int)]))]) = _
  by_cases c : ((Nat.gcd m n : Nat) : Int) = 1
  · rw [decide_eq_true c] at f
    simp [B_is_price_u, f, show ¬ 0 < i by omega]
  · rw [decide_eq_false c] at f
    simp [B_is_price_u, f]
end Du

namespace Du
open PySem PySem.Spec PyProof.Rows L2 Dear
/-! ### k05: bans that are none -/
theorem numbered_app : ∀ {a b : List D} {k : Nat}, numbered k (a ++ b) = numbered k a ++ numbered (k + a.length) b
  | [], b, k => rfl
  | x :: a, b, k => by
    show _ :: numbered (k + 1) (a ++ b) = _ :: (numbered (k + 1) a ++ _)
    rw [numbered_app, List.length_cons, show k + 1 + a.length = k + (a.length + 1) by omega]
theorem unl_kind {d n nm : D} (h : isKind "list" d = .ok (.bl false)) : F_are_unlike_texts [d, n, nm] = .ok (.bl false) := by
  show outR (B_are_unlike_texts [some (.frz d), some (.frz n), some (.frz nm), none, none, none]) = _
  simp [B_are_unlike_texts_u, h]
def unS5 (thing : D) (n : Nat) (nm : D) : Env := [some (.frz thing), some (.frz (.int n)), some (.frz nm), none, none, none]
/-- texts that are right, then one that isn't -/
theorem unl_bad {l : List (List Nat)} {n : Nat} {cs : List Nat} {x : D} (hn : n ≤ 1000) (hl : l.length ≤ 1000) (nd : l.Nodup) (h : ∀ v ∈ l, v.length = n ∧ ∀ c ∈ v, c ∈ cs)
    (hx : ∃ ρ', B_are_unlike_texts_1 [some (.frz (.lst ((l.map fun v => .str (txt v)) ++ [x]))), some (.frz (.int n)), some (.frz (txs (cs.map fun c => [c]))), some (.frz (.int (l.length : Nat))), some (.frz x), none] = .rt (.bl false) ρ') :
    F_are_unlike_texts [.lst ((l.map fun v => .str (txt v)) ++ [x]), .int n, txs (cs.map fun c => [c])] = .ok (.bl false) := by
  have turn : ∀ d ∈ numbered 0 (l.map fun v => D.str (txt v)), ∃ as ρ', tgT [(tgN 3), (tgN 4)] d = .ok as ∧ B_are_unlike_texts_1 (setS (unS5 (.lst ((l.map fun v => .str (txt v)) ++ [x])) n (txs (cs.map fun c => [c]))) as) = .nx ρ' ∧ clr [3, 4, 5] ρ' = unS5 (.lst ((l.map fun v => .str (txt v)) ++ [x])) n (txs (cs.map fun c => [c])) := by
    intro d hd
    obtain ⟨i, y, h1, rfl⟩ := numbered_mem hd
    rw [Nat.zero_add]
    rw [List.getElem?_map] at h1
    obtain ⟨v, h2, rfl⟩ := Option.map_eq_some_iff.mp h1
    have hv := h v (List.mem_of_getElem? h2)
    have hi : i < l.length := (List.getElem?_eq_some_iff.mp h2).1
    have ni : ¬ v ∈ l.take i := by
      intro m
      obtain ⟨k, hk, e⟩ := List.mem_iff_getElem.mp m
      rw [List.getElem_take] at e
      rw [List.length_take] at hk
      obtain ⟨hi, e2⟩ := List.getElem?_eq_some_iff.mp h2
      have := (List.getElem_inj nd).mp (e.trans e2.symm)
      omega
    have c1 : ∀ x5, eComp [5] (iAny (eVar 4)) (tgN 5) bYes (eOp (dIn false) (eVar 5) (eVar 2)) [some (.lst ((l.map fun v => .str (txt v)) ++ [x])), some (.int n), some (txs (cs.map fun c => [c])), some (.int i), some (.str (txt v)), x5] = .ok (.lst (v.map fun _ => D.bl true)) := by
      intro x5
      have sv : signs (txt v) = v.map fun c => D.str (txt [c]) := by unfold signs; rw [txt_list]; rfl
      refine eComp_all (F := fun c => D.str (txt [c])) _ (by simp [sv]) (by rw [hv.1]; omega) fun c hc => ⟨_, rfl, by simp, ?_⟩
      have hcs := hv.2 c hc
      have := dIn_txts (neg := false) (w := [c]) (l := cs.map fun c => [c])
      simp [hcs] at this
      simp [txs, this]
    have a1 := dAll_true v (fun _ => D.bl true) (fun _ _ => rfl)
    have i1 : dIn false (.str (txt v)) (.lst ((l.map fun v => D.str (txt v)).take i)) = .ok (.bl false) := by rw [← List.map_take, dIn_txts]; simp [ni]
    have s1 : dSl (.lst ((l.map fun v => .str (txt v)) ++ [x])) none (some (i : Int)) = .ok (.lst ((l.map fun v => D.str (txt v)).take i)) := by
      show Res.ok (D.lst (cutD _ none _)) = _
      rw [cutD_pre, List.take_append_of_le_length (by rw [List.length_map]; omega)]
    refine ⟨_, [some (.frz (.lst ((l.map fun v => .str (txt v)) ++ [x]))), some (.frz (.int n)), some (.frz (txs (cs.map fun c => [c]))), some (.frz (.int i)), some (.frz (.str (txt v))), none], rfl, ?_, rfl⟩
    have c2 := c1 none
    have l1 : v.length ≤ 16777215 := by rw [hv.1]; omega
    simp [unS5, B_are_unlike_texts_1_u, txt_length, hv.1, s1, i1, c2, a1, show n ≤ 16777215 by omega]
  have f := forL_same (l := [3, 4, 5]) turn
  obtain ⟨ρ', hx⟩ := hx
  have f2 : forL (tgT [(tgN 3), (tgN 4)]) B_are_unlike_texts_1 [3, 4, 5] (numbered 0 ((l.map fun v => D.str (txt v)) ++ [x])) (unS5 (.lst ((l.map fun v => .str (txt v)) ++ [x])) n (txs (cs.map fun c => [c]))) = .rt (.bl false) ρ' := by
    rw [numbered_app, forL_app f]
    · have en : numbered (0 + (l.map fun v => D.str (txt v)).length) [x] = [.tup [.int (l.length : Nat), x]] := by rw [List.length_map, Nat.zero_add]; rfl
      have e : tgT [(tgN 3), (tgN 4)] (.tup [.int (l.length : Nat), x]) = .ok [(3, .int (l.length : Nat)), (4, x)] := rfl
      have es : setS (unS5 (.lst ((l.map fun v => .str (txt v)) ++ [x])) n (txs (cs.map fun c => [c]))) [(3, .int (l.length : Nat)), (4, x)] = [some (.frz (.lst ((l.map fun v => .str (txt v)) ++ [x]))), some (.frz (.int n)), some (.frz (txs (cs.map fun c => [c]))), some (.frz (.int (l.length : Nat))), some (.frz x), none] := rfl
      rw [en, forL_cons, e, forT_ok, es, hx, forK_rt]
    · intro d hd ρ as e ρ2 e2
      rw [B_are_unlike_texts_1_u] at e2
      revert e2
      rw [sSeq_e, sIf_e]
      generalize (bOr (bNot (bT (eIsi "str" (eVar 4)))) (bOr (bT (eOp dNe (eCall dLen (aCons (eVar 4) aNil)) (eVar 1))) (bT (eOp (dIn false) (eVar 4) (eSl (eVar 0) pNo (pYes (eVar 3))))))) _ = r1
      intro e2
      have nb : ∀ {c : VEnv → Res Bool} {ρ3 ρ4 : Env}, sIf [] c (sRet [] (eC (.bl false))) sPass ρ3 ≠ .bk ρ4 := by
        intro c ρ3 ρ4 h
        rw [sIf_e] at h
        cases hc : c (view [] ρ3) with
        | ok b => rw [hc] at h; cases b <;> simp at h
        | exc x => rw [hc] at h; cases h
        | bad => rw [hc] at h; cases h
      cases r1 with
      | ok b =>
        cases b with
        | true => simp at e2
        | false =>
          rw [atR_ok, ifC_f, sPass_e, seqK_nx] at e2
          exact nb e2
      | exc x => cases e2
      | bad => cases e2
  show outR (B_are_unlike_texts (unS5 (.lst ((l.map fun v => .str (txt v)) ++ [x])) n (txs (cs.map fun c => [c])))) = _
  have e1 : dEnum [.lst ((l.map fun v => .str (txt v)) ++ [x])] = .ok (numbered 0 ((l.map fun v => D.str (txt v)) ++ [x])) := rfl
  rw [B_are_unlike_texts_u]
  have k1 : sIf [] (bNot (bT (eIsi "list" (eVar 0)))) (sRet [] (eC (.bl false))) sPass (unS5 (.lst ((l.map fun v => .str (txt v)) ++ [x])) n (txs (cs.map fun c => [c]))) = .nx (unS5 (.lst ((l.map fun v => .str (txt v)) ++ [x])) n (txs (cs.map fun c => [c]))) := by simp [unS5]
  rw [sSeq_e, k1, seqK_nx, sSeq_e, sFor_e]
  have k2 : iEnumD (aCons (eVar 0) aNil) (view [] (unS5 (.lst ((l.map fun v => .str (txt v)) ++ [x])) n (txs (cs.map fun c => [c])))) = .ok (numbered 0 ((l.map fun v => D.str (txt v)) ++ [x])) := by
    rw [iEnumD_e, aCons_e, aNil_e]
    show bd dEnum (.ok [.lst ((l.map fun v => .str (txt v)) ++ [x])]) = _
    rw [bd_ok, e1]
  have k3 : shut [] (unS5 (.lst ((l.map fun v => .str (txt v)) ++ [x])) n (txs (cs.map fun c => [c]))) = unS5 (.lst ((l.map fun v => .str (txt v)) ++ [x])) n (txs (cs.map fun c => [c])) := rfl
  rw [k2, atR_ok, sForC_e, k3, f2]
  rfl
/-- .. of another length -/
theorem unB_len {l : List (List Nat)} {n : Nat} {cs w : List Nat} (hn : n ≤ 1000) (hl : l.length ≤ 1000) (nd : l.Nodup) (h : ∀ v ∈ l, v.length = n ∧ ∀ c ∈ v, c ∈ cs) (hw : w.length ≤ 1000) (hx : w.length ≠ n) : F_are_unlike_texts [.lst ((l.map fun v => .str (txt v)) ++ [.str (txt w)]), .int n, txs (cs.map fun c => [c])] = .ok (.bl false) :=
  unl_bad hn hl nd h ⟨[some (.frz (.lst ((l.map fun v => .str (txt v)) ++ [.str (txt w)]))), some (.frz (.int n)), some (.frz (txs (cs.map fun c => [c]))), some (.frz (.int (l.length : Nat))), some (.frz (.str (txt w))), none], by rw [B_are_unlike_texts_1_u]; simp [txt_length, show w.length ≤ 16777215 by omega, hx, show ¬ ((w.length : Int) = n) by omega]⟩
theorem un_slice {l : List (List Nat)} {x : D} : dSl (.lst ((l.map fun v => .str (txt v)) ++ [x])) none (some ((l.length : Nat) : Int)) = .ok (.lst (l.map fun v => D.str (txt v))) := by
  show Res.ok (D.lst (cutD _ none _)) = _
  rw [cutD_pre, List.take_append_of_le_length (by rw [List.length_map]; omega), List.take_of_length_le (by rw [List.length_map]; omega)]
/-- .. one twice -/
theorem unB_dup {l : List (List Nat)} {n : Nat} {cs w : List Nat} (hn : n ≤ 1000) (hl : l.length ≤ 1000) (nd : l.Nodup) (h : ∀ v ∈ l, v.length = n ∧ ∀ c ∈ v, c ∈ cs) (hw : w.length = n) (hx : w ∈ l) : F_are_unlike_texts [.lst ((l.map fun v => .str (txt v)) ++ [.str (txt w)]), .int n, txs (cs.map fun c => [c])] = .ok (.bl false) := by
  have i1 : dIn false (.str (txt w)) (.lst (l.map fun v => D.str (txt v))) = .ok (.bl true) := by rw [dIn_txts]; simp [hx]
  exact unl_bad hn hl nd h ⟨[some (.frz (.lst ((l.map fun v => .str (txt v)) ++ [.str (txt w)]))), some (.frz (.int n)), some (.frz (txs (cs.map fun c => [c]))), some (.frz (.int (l.length : Nat))), some (.frz (.str (txt w))), none], by rw [B_are_unlike_texts_1_u]; simp [txt_length, hw, show n ≤ 16777215 by omega, un_slice, i1]⟩
/-- .. of a strange sign -/
theorem unB_far {l : List (List Nat)} {n : Nat} {cs w : List Nat} (hn : n ≤ 1000) (hl : l.length ≤ 1000) (nd : l.Nodup) (h : ∀ v ∈ l, v.length = n ∧ ∀ c ∈ v, c ∈ cs) (hw : w.length = n) (hx : w ∉ l) {c : Nat} (hc : c ∈ w) (hf : c ∉ cs) : F_are_unlike_texts [.lst ((l.map fun v => .str (txt v)) ++ [.str (txt w)]), .int n, txs (cs.map fun c => [c])] = .ok (.bl false) := by
  have i1 : dIn false (.str (txt w)) (.lst (l.map fun v => D.str (txt v))) = .ok (.bl false) := by rw [dIn_txts]; simp [hx]
  have sv : signs (txt w) = w.map fun c => D.str (txt [c]) := by unfold signs; rw [txt_list]; rfl
  have c1 : eComp [5] (iAny (eVar 4)) (tgN 5) bYes (eOp (dIn false) (eVar 5) (eVar 2)) [some (.lst ((l.map fun v => .str (txt v)) ++ [.str (txt w)])), some (.int n), some (txs (cs.map fun c => [c])), some (.int (l.length : Nat)), some (.str (txt w)), none] = .ok (.lst (w.map fun c => D.bl (decide (c ∈ cs)))) := by
    refine eComp_all (F := fun c => D.str (txt [c])) _ (by simp [sv]) (by omega) fun c hc => ⟨_, rfl, by simp, ?_⟩
    have := dIn_txts (neg := false) (w := [c]) (l := cs.map fun c => [c])
    simp at this
    simp [txs, this]
  have a1 : dAll [.lst (w.map fun c => D.bl (decide (c ∈ cs)))] = .ok (.bl false) := by
    rw [dAll_map]
    have : (w.all fun c => decide (c ∈ cs)) = false := List.all_eq_false.mpr ⟨c, hc, by simp [hf]⟩
    rw [this]
  exact unl_bad hn hl nd h ⟨[some (.frz (.lst ((l.map fun v => .str (txt v)) ++ [.str (txt w)]))), some (.frz (.int n)), some (.frz (txs (cs.map fun c => [c]))), some (.frz (.int (l.length : Nat))), some (.frz (.str (txt w))), none], by rw [B_are_unlike_texts_1_u]; simp [txt_length, hw, show n ≤ 16777215 by omega, un_slice, i1, c1, a1]⟩
end Du

namespace Du
open PySem PySem.Spec PyProof.Rows L2 Dear
/-! ### a good tongue is like itself -/
theorem Price.ly {p : D} (h : Price p) : Ly 1 p := by
  obtain ⟨x, y, rfl, _⟩ := h
  exact .tup (forall_cons .int (forall_cons .int forall_nil))
theorem one_asc {c : Nat} (h : c < 128) : Asc [c] := fun x hx => by rw [List.mem_singleton.mp hx]; exact h
theorem Good.ly {T : Tg} (h : Good T) : Ly 4 T.d := by
  have as : ∀ {c : Nat}, c ∈ T.signs.map (·.1) → c < 128 := fun hc => by
    obtain ⟨r, hr, rfl⟩ := List.mem_map.mp hc
    have := (h.row r hr).hi
    omega
  have key : ∀ (l : List (List Nat)), (∀ v ∈ l, ∀ c ∈ v, c ∈ T.signs.map (·.1)) → Ly 3 (txs l) := fun l hl => .txts fun v hv c hc => as (hl v hv c hc)
  refine .tup (forall_cons (.lst fun d hd => ?_) (forall_cons (key _ fun v hv c hc => ?_) (forall_cons (key _ fun v hv c hc => ?_) (forall_cons .int forall_nil))))
  · obtain ⟨r, hr, rfl⟩ := List.mem_map.mp hd
    have g := h.row r hr
    refine .tup (forall_cons (.txt (one_asc (by have := g.hi; omega))) (forall_cons g.pr.ly (forall_cons ?_ forall_nil)))
    rcases g.la with e | e
    · rw [e]; exact .non
    · exact e.ly
  · obtain ⟨a, e, m⟩ := h.fs v hv
    subst e
    rw [List.mem_singleton.mp hc]
    exact m
  · obtain ⟨a, b, e, m1, m2⟩ := h.ps v hv
    subst e
    rcases List.mem_cons.mp hc with e | hc
    · rw [e]; exact m1
    · rw [List.mem_singleton.mp hc]; exact m2
end Du

namespace Du
open PySem PySem.Spec PyProof.Rows L2 Dear
/-! ### a good tongue's bans; signs of which the first is none -/
theorem nmD_e (rows : List (Nat × D × D)) : nmD rows = txs ((rows.map (·.1)).map fun c => [c]) := by
  show txs _ = txs ((rows.map (·.1)).map _)
  rw [List.map_map]
  rfl
theorem goodF {T : Tg} (h : Good T) : F_are_unlike_texts [txs T.firsts, .int 1, nmD T.signs] = .ok (.bl true) := by
  rw [nmD_e]
  exact unlike_e (n := 1) (cs := T.signs.map (·.1)) (by omega) (by have := h.fl; omega) h.fnd (fun v hv => by
    obtain ⟨c, e, m⟩ := h.fs v hv
    subst e
    exact ⟨rfl, fun x hx => by rw [List.mem_singleton.mp hx]; exact m⟩)
theorem pairs_two {T : Tg} (h : Good T) : ∀ v ∈ T.pairs, v.length = 2 ∧ ∀ c ∈ v, c ∈ T.signs.map (·.1) := fun v hv => by
  obtain ⟨a, b, e, m1, m2⟩ := h.ps v hv
  subst e
  refine ⟨rfl, fun x hx => ?_⟩
  rcases List.mem_cons.mp hx with e | hx
  · rw [e]; exact m1
  · rw [List.mem_singleton.mp hx]; exact m2
theorem goodP {T : Tg} (h : Good T) : F_are_unlike_texts [txs T.pairs, .int 2, nmD T.signs] = .ok (.bl true) := by
  rw [nmD_e]
  exact unlike_e (n := 2) (cs := T.signs.map (·.1)) (by omega) (by have := h.pl; omega) h.pnd (pairs_two h)
end Du

namespace Du
open PySem PySem.Spec PyProof.Rows L2 Dear
/-! ### k86: the tongues that are none -/
set_option maxHeartbeats 1000000
set_option maxRecDepth 100000
def o11 : D := .tup [.int 1, .int 1]
def o12 : D := .tup [.int 1, .int 2]
def sOne : D := .tup [.str "a", o11, o11]
def sTwo : D := .tup [.str "b", o12, .non]
def gS : D := .lst [sOne, sTwo]
def oddL : List D := [.lst ([97, 98, 99, 100, 101, 102, 103].map fun c => .tup [.str (txt [c]), o11, o11]), .lst [sOne], .tup [sOne, sTwo], .lst [sOne, sOne], .lst [sOne, .tup [.str "b", .tup [.int 0, .int 1], .non]], .lst [sOne, .tup [.str "b", .tup [.int 2, .int 4], .non]],
  .lst [.tup [.str "ab", o11, .non], sTwo], .lst [sOne, .tup [.str "b", o11, .tup [.int 0, .int 1]]], .non]
def fstL : List D := [.lst [.str "c"], .lst [.str "a", .str "a"], .str "a"]
def prsL : List D := [.lst [.str "abc"], .lst [.str "ab", .str "ab"], .non]
def lngL : List D := [.int 0, .int 9, .bl true]
def kndL : List (D × D) := [(.non, .non), (.lst [gS, .lst [], .lst [], .int 2], .non), (.tup [gS, .lst [], .lst []], .non), (.tup [gS, .lst [], .lst [], .int 2, .int 1], .non)]
def LT : List (D × D) := kndL ++ (oddL.map fun s => (.tup [s, .lst [], .lst [], .int 0], .str "signs")) ++ (fstL.map fun s => (.tup [gS, s, .lst [], .int 0], .str "firsts")) ++ (prsL.map fun s => (.tup [gS, .lst [], s, .int 9], .str "pairs")) ++ (lngL.map fun s => (.tup [gS, .lst [], .lst [], s], .str "longest"))
def gT : D := .tup [gS, .lst [.str "a"], .lst [.str "bb"], .int 3]
def tp (x : D × D) : D := .tup [x.1, x.2]
theorem tongues_e : F__law_tongues [] = .ok (.lst ((LT ++ [(gT, D.str "good")]).map tp)) := by rfl
theorem st_a : (Str.ofString "a" : Str) = txt [97] := by decide +kernel
theorem st_b : (Str.ofString "b" : Str) = txt [98] := by decide +kernel
theorem st_c : (Str.ofString "c" : Str) = txt [99] := by decide +kernel
theorem st_ab : (Str.ofString "ab" : Str) = txt [97, 98] := by decide +kernel
theorem st_bb : (Str.ofString "bb" : Str) = txt [98, 98] := by decide +kernel
theorem st_abc : (Str.ofString "abc" : Str) = txt [97, 98, 99] := by decide +kernel
def rG : List (Nat × D × D) := [(97, o11, o11), (98, o12, .non)]
theorem p11 : Price o11 := ⟨1, 1, rfl, by decide, by decide, by decide, by decide, by decide⟩
theorem p12 : Price o12 := ⟨1, 2, rfl, by decide, by decide, by decide, by decide, by decide⟩
theorem gS_e : gS = rwD rG := by
  unfold gS sOne sTwo
  rw [st_a, st_b]
  rfl
theorem row1 : GoodRow (97, o11, o11) := ⟨by decide, by decide, p11, .inr p11⟩
theorem row2 : GoodRow (98, o12, .non) := ⟨by decide, by decide, p12, .inl rfl⟩
theorem good_of {fs ps : List (List Nat)} {n : Nat} (h1 : ∀ v ∈ fs, ∃ c, v = [c] ∧ c ∈ [97, 98]) (h2 : fs.Nodup) (h3 : ∀ v ∈ ps, ∃ a b, v = [a, b] ∧ a ∈ [97, 98] ∧ b ∈ [97, 98]) (h4 : ps.Nodup) (h5 : fs.length ≤ 10) (h6 : ps.length ≤ 10) (h7 : 1 ≤ n) (h8 : n ≤ 8) : Good ⟨rG, fs, ps, n⟩ where
  lo := by show 2 ≤ rG.length; decide
  hi := by show rG.length ≤ 6; decide
  row := by
    unfold rG
    exact forall_cons row1 (forall_cons row2 forall_nil)
  nd := by show (rG.map (·.1)).Nodup; decide
  fs := h1
  fnd := h2
  ps := h3
  pnd := h4
  fl := by show fs.length ≤ 1000; omega
  pl := by show ps.length ≤ 1000; omega
  l0 := h7
  l1 := h8
def T0 : Tg := ⟨rG, [], [], 3⟩
def T8 : Tg := ⟨rG, [[97]], [[98, 98]], 3⟩
theorem g0 : Good T0 := good_of (fun v hv => nomatch hv) List.nodup_nil (fun v hv => nomatch hv) List.nodup_nil (by decide) (by decide) (by decide) (by decide)
theorem g8 : Good T8 := good_of (forall_cons ⟨97, rfl, by decide⟩ forall_nil) (by decide) (forall_cons ⟨98, 98, rfl, by decide, by decide⟩ forall_nil) (by decide) (by decide) (by decide) (by decide) (by decide)
theorem gT_e : gT = T8.d := by
  unfold gT
  rw [gS_e, st_a, st_bb]
  rfl
theorem lookG : FX_look_at_tongue [gT] = .ok .non := by
  rw [gT_e]
  exact lookX_e g8
theorem one_e : F_is_sign [sOne] = .ok (.bl true) := by
  unfold sOne
  rw [st_a]
  exact is_sign_e row1
theorem two_e : F_is_sign [sTwo] = .ok (.bl true) := by
  unfold sTwo
  rw [st_b]
  exact is_sign_e row2
theorem sig_pair {x y : D} {p q : Bool} (hx : F_is_sign [x] = .ok (.bl p)) (hy : F_is_sign [y] = .ok (.bl q)) (h : p = false ∨ q = false) : isF F_are_signs (.lst [x, y]) := by
  let r : D → Bool := fun d => match F_is_sign [d] with
    | .ok (.bl b) => b
    | _ => true
  have rx : r x = p := by show (match F_is_sign [x] with | .ok (.bl b) => b | _ => true) = _; rw [hx]
  have ry : r y = q := by show (match F_is_sign [y] with | .ok (.bl b) => b | _ => true) = _; rw [hy]
  have all : ∀ d ∈ [x, y], F_is_sign [d] = .ok (.bl (r d)) := forall_cons (by rw [rx]; exact hx) (forall_cons (by rw [ry]; exact hy) forall_nil)
  rcases h with h | h
  · exact sig_bad (by show 2 ≤ 2; decide) (by show 2 ≤ 6; decide) r all (x := x) (by simp) (by rw [rx]; exact h)
  · exact sig_bad (by show 2 ≤ 2; decide) (by show 2 ≤ 6; decide) r all (x := y) (by simp) (by rw [ry]; exact h)
theorem lb : F_is_letter_tongues [.str (txt [98])] = .ok (.bl true) := is_letter_tongues_e (by decide) (by decide)
theorem np0 : isF F_is_price (.tup [.int 0, .int 1]) := pr_neg (by decide) (by decide)
theorem odd_bad : ∀ s ∈ oddL, F_are_signs [s] = .ok (.bl false) := by
  unfold oddL
  refine forall_cons (sig_len (by decide) (.inr (by decide))) (forall_cons (sig_len (by decide) (.inl (by show 1 < 2; decide))) (forall_cons (sig_kind (by simp)) (forall_cons ?_ (forall_cons (sig_pair one_e (q := false) ?_ (.inr rfl)) (forall_cons (sig_pair one_e (q := false) ?_ (.inr rfl)) (forall_cons (sig_pair (p := false) ?_ two_e (.inl rfl)) (forall_cons (sig_pair one_e (q := false) ?_ (.inr rfl)) (forall_cons (sig_kind (by simp)) forall_nil))))))))
  · have := sig_dup (rows := [(97, o11, o11), (97, o11, o11)]) (by decide) (by decide) (forall_cons row1 (forall_cons row1 forall_nil)) (by decide)
    unfold sOne
    rw [st_a]
    exact this
  · rw [st_b]
    exact sgn_price lb np0
  · rw [st_b]
    exact sgn_price lb (pr_fr (fr_gcd (x := 2) (y := 4) (g := 2) (by decide) (by decide) (by decide)))
  · rw [st_ab]
    exact sgn_letter (let_len (by decide) (by decide))
  · rw [st_b]
    exact sgn_last lb (is_price_e p11) rfl np0
theorem sG : F_are_signs [rwD rG] = .ok (.bl true) := are_signs_e g0
theorem u1 : F_are_unlike_texts [.lst [], .int 1, nmD rG] = .ok (.bl true) := goodF g0
theorem u2 : F_are_unlike_texts [.lst [], .int 2, nmD rG] = .ok (.bl true) := goodP g0
theorem nmG : nmD rG = txs ([97, 98].map fun c => [c]) := nmD_e rG
theorem fst_bad : ∀ s ∈ fstL, F_are_unlike_texts [s, .int 1, nmD rG] = .ok (.bl false) := by
  unfold fstL
  refine forall_cons ?_ (forall_cons ?_ (forall_cons (unl_kind (by simp)) forall_nil))
  · rw [st_c, nmG]
    exact unB_far (l := []) (n := 1) (cs := [97, 98]) (w := [99]) (by decide) (by decide) List.nodup_nil (fun v hv => nomatch hv) rfl (fun m => nomatch m) (c := 99) List.mem_cons_self (by decide)
  · rw [st_a, nmG]
    exact unB_dup (l := [[97]]) (n := 1) (cs := [97, 98]) (w := [97]) (by decide) (by decide) (by decide) (forall_cons ⟨rfl, by decide⟩ forall_nil) rfl List.mem_cons_self
theorem prs_bad : ∀ s ∈ prsL, F_are_unlike_texts [s, .int 2, nmD rG] = .ok (.bl false) := by
  unfold prsL
  refine forall_cons ?_ (forall_cons ?_ (forall_cons (unl_kind (by simp)) forall_nil))
  · rw [st_abc, nmG]
    exact unB_len (l := []) (n := 2) (cs := [97, 98]) (w := [97, 98, 99]) (by decide) (by decide) List.nodup_nil (fun v hv => nomatch hv) (by decide) (by decide)
  · rw [st_ab, nmG]
    exact unB_dup (l := [[97, 98]]) (n := 2) (cs := [97, 98]) (w := [97, 98]) (by decide) (by decide) (by decide) (forall_cons ⟨rfl, by decide⟩ forall_nil) rfl List.mem_cons_self
theorem lng_bad : ∀ d ∈ lngL, ∀ x0 x1 x2 x3 x5 x6 : Option D, (bOr (bNot (bT (eCall (nx F_is_whole) (aCons (eVar 4) aNil)))) (bNot (bT (eChain dLe dLe (eC (.int 1)) (eVar 4) (eC (.int 8)))))) [x0, x1, x2, x3, some d, x5, x6] = .ok true := by
  have wi : ∀ k : Int, nx F_is_whole [.int k] = .ok (.bl true) := fun k => nx_ok (by rfl)
  have wb : nx F_is_whole [.bl true] = .ok (.bl false) := nx_ok (whole_bl true)
  unfold lngL
  exact forall_cons (fun _ _ _ _ _ _ => by simp [wi]) (forall_cons (fun _ _ _ _ _ _ => by simp [wi]) (forall_cons (fun _ _ _ _ _ _ => by simp [wb]) forall_nil))
theorem forall_app {α : Type} {P : α → Prop} {a b : List α} (h1 : ∀ x ∈ a, P x) (h2 : ∀ x ∈ b, P x) : ∀ x ∈ a ++ b, P x := fun x hx => by
  rcases List.mem_append.mp hx with h | h
  · exact h1 x h
  · exact h2 x h
theorem forall_map {α β : Type} {P : β → Prop} {f : α → β} {a : List α} (h1 : ∀ x ∈ a, P (f x)) : ∀ x ∈ a.map f, P x := fun x hx => by
  obtain ⟨y, hy, rfl⟩ := List.mem_map.mp hx
  exact h1 y hy
theorem LT_bad : ∀ x ∈ LT, FX_look_at_tongue [x.1] = .exc (exT x.2) := by
  have hl : rG.length ≤ 16777215 := by decide
  unfold LT
  refine forall_app (forall_app (forall_app (forall_app ?_ (forall_map fun s hs => lk_signs (odd_bad s hs))) (forall_map fun s hs => ?_)) (forall_map fun s hs => ?_)) (forall_map fun s hs => ?_)
  · unfold kndL
    exact forall_cons (lk_none (by simp)) (forall_cons (lk_none (by simp)) (forall_cons (lk_none (by simp)) (forall_cons (lk_none (by simp)) forall_nil)))
  · show FX_look_at_tongue [.tup [gS, s, .lst [], .int 0]] = _
    rw [gS_e]
    exact lk_firsts hl sG (fst_bad s hs)
  · show FX_look_at_tongue [.tup [gS, .lst [], s, .int 9]] = _
    rw [gS_e]
    exact lk_pairs hl sG u1 (prs_bad s hs)
  · show FX_look_at_tongue [.tup [gS, .lst [], .lst [], s]] = _
    rw [gS_e]
    exact lk_long hl sG u1 u2 (lng_bad s hs)
end Du

namespace Du
open PySem PySem.Spec PyProof.Rows L2 Dear
/-! ### k86: the wants that are none -/
set_option maxHeartbeats 1000000
set_option maxRecDepth 100000
def wG : D := .lst [.tup [.str "a", .int 1]]
def LW : List (D × D) := [(.non, .non), (.lst [], .non), (.tup [.tup [.str "a", .int 1]], .non), (.lst (List.replicate 21 (.tup [.str "a", .int 1])), .non), (.lst [.tup [.str "a", .int 1], .tup [.str "a", .int 2]], .int 1),
  (.lst [.tup [.str "A", .int 1]], .int 0), (.lst [.lst [.str "a", .int 1]], .int 0), (.lst [.tup [.str "a", .bl true]], .int 0), (.lst [.tup [.str "a", .int (-1)]], .int 0), (.lst [.tup [.str "a", .int 1000000001]], .int 0),
  (.lst [.tup [.str "a", .int 1], .tup [.str "b", .non]], .int 1), (.lst [.tup [.str "a", .int 1, .int 1]], .int 0)]
theorem wants_e : F__law_wants [] = .ok (.lst ((LW ++ [(wG, D.str "good")]).map tp)) := by rfl
def raiseC (c f : Str) (L : List Nat) (ρ : Env) (d : D) : Out := if fmtOk d = true then .ex ⟨c, [(f, d)]⟩ (aft L d ρ) else .bad
@[simp] theorem sRaiseI_e {c f : Str} {L : List Nat} {fa : VEnv → Res D} {ρ : Env} : sRaiseI c f L fa ρ = atR (raiseC c f L ρ) (shut L ρ) (fa (view L ρ)) := eAt_e
@[simp] theorem raiseC_non {c f : Str} {L : List Nat} {ρ : Env} : raiseC c f L ρ .non = .ex ⟨c, [(f, .non)]⟩ ρ := if_pos rfl
theorem raiseC_int {c f : Str} {L : List Nat} {ρ : Env} {i : Int} (h : i.natAbs < 2 ^ 64) : raiseC c f L ρ (.int i) = .ex ⟨c, [(f, .int i)]⟩ ρ := if_pos (decide_eq_true h)
theorem lw_kind {x : D} (h : isKind "list" x = .ok (.bl false)) : FX_look_at_wants [x] = .exc (exW .non) := by
  show outR (BX_look_at_wants [some (.frz x), none, none, none]) = _
  simp [BX_look_at_wants_u, h, exW]
theorem lw_len {ds : List D} (hl : ds.length ≤ 1000) (h : ds.length < 1 ∨ 20 < ds.length) : FX_look_at_wants [.lst ds] = .exc (exW .non) := by
  show outR (BX_look_at_wants [some (.frz (.lst ds)), none, none, none]) = _
  rcases h with h | h
  · simp [BX_look_at_wants_u, show ds.length ≤ 16777215 by omega, show ¬ (1 : Int) ≤ ds.length by omega, exW]
  · simp [BX_look_at_wants_u, show ds.length ≤ 16777215 by omega, show (1 : Int) ≤ ds.length by omega, show ¬ (ds.length : Int) ≤ 20 by omega, exW]
def lwS (ds : List D) (kv : List (D × D)) (x2 x3 : Option Slot) : Env := [some (.frz (.lst ds)), some (.own false (.dct false kv)), x2, x3]
theorem lw_head {ds : List D} (h1 : 1 ≤ ds.length) (h2 : ds.length ≤ 20) : FX_look_at_wants [.lst ds] = outR (forL (tgT [(tgN 2), (tgN 3)]) BX_look_at_wants_1 [2, 3] (numbered 0 ds) (lwS ds [] none none)) := by
  show outR (BX_look_at_wants [some (.frz (.lst ds)), none, none, none]) = _
  rw [BX_look_at_wants_u]
  congr 1
  refine seq_to (ρ' := [some (.frz (.lst ds)), none, none, none]) (by simp [show ds.length ≤ 16777215 by omega, show (1 : Int) ≤ ds.length by omega, show (ds.length : Int) ≤ 20 by omega]) ?_
  refine seq_to (ρ' := lwS ds [] none none) (by simp [lwS]) ?_
  exact for_to (ds := numbered 0 ds) rfl rfl rfl
theorem lw_bad {ds : List D} {kv : List (D × D)} {k : Nat} {x : D} {tl : List D} (hk : k ≤ 100) (h : F_is_want [x] = .ok (.bl false)) : forL (tgT [(tgN 2), (tgN 3)]) BX_look_at_wants_1 [2, 3] (.tup [.int (k : Nat), x] :: tl) (lwS ds kv none none) = .ex (exW (.int (k : Nat))) (lwS ds kv (some (.frz (.int (k : Nat)))) (some (.frz x))) := by
  rw [forL_cons]
  show forK _ _ _ _ (BX_look_at_wants_1 (lwS ds kv (some (.frz (.int (k : Nat)))) (some (.frz x)))) = _
  have r := fun ρ : Env => raiseC_int (c := "NoWants") (f := "number") (L := []) (ρ := ρ) (i := (k : Int)) (by omega)
  have : BX_look_at_wants_1 (lwS ds kv (some (.frz (.int (k : Nat)))) (some (.frz x))) = .ex (exW (.int (k : Nat))) (lwS ds kv (some (.frz (.int (k : Nat)))) (some (.frz x))) := by
    simp [BX_look_at_wants_1_u, lwS, nx_ok h, r, exW]
  rw [this]
  rfl
theorem lw_good {ds : List D} {kv : List (D × D)} {k : Nat} {w : List Nat} {v : D} {tl : List D} (hkv : kv.length ≤ 100) (h : F_is_want [.tup [.str (txt w), v]] = .ok (.bl true)) (hn : (dGet kv (.str (txt w))).isSome = false) :
    forL (tgT [(tgN 2), (tgN 3)]) BX_look_at_wants_1 [2, 3] (.tup [.int (k : Nat), .tup [.str (txt w), v]] :: tl) (lwS ds kv none none) = forL (tgT [(tgN 2), (tgN 3)]) BX_look_at_wants_1 [2, 3] tl (lwS ds (dPut kv (.str (txt w)) (.bl true)) none none) := by
  rw [forL_cons]
  show forK _ _ _ _ (BX_look_at_wants_1 (lwS ds kv (some (.frz (.int (k : Nat)))) (some (.frz (.tup [.str (txt w), v]))))) = _
  have i1 : dIn false (.str (txt w)) (.dct false kv) = .ok (.bl false) := by rw [dIn_dct rfl, hn]; rfl
  have : BX_look_at_wants_1 (lwS ds kv (some (.frz (.int (k : Nat)))) (some (.frz (.tup [.str (txt w), v])))) = .nx (lwS ds (dPut kv (.str (txt w)) (.bl true)) (some (.frz (.int (k : Nat)))) (some (.frz (.tup [.str (txt w), v])))) := by
    simp [BX_look_at_wants_1_u, lwS, nx_ok h, i1, show kv.length ≤ 16777215 by omega]
  rw [this]
  rfl
theorem lw_dup {ds : List D} {kv : List (D × D)} {k : Nat} {w : List Nat} {v : D} {tl : List D} (hk : k ≤ 100) (h : F_is_want [.tup [.str (txt w), v]] = .ok (.bl true)) (hn : (dGet kv (.str (txt w))).isSome = true) :
    forL (tgT [(tgN 2), (tgN 3)]) BX_look_at_wants_1 [2, 3] (.tup [.int (k : Nat), .tup [.str (txt w), v]] :: tl) (lwS ds kv none none) = .ex (exW (.int (k : Nat))) (lwS ds kv (some (.frz (.int (k : Nat)))) (some (.frz (.tup [.str (txt w), v])))) := by
  rw [forL_cons]
  show forK _ _ _ _ (BX_look_at_wants_1 (lwS ds kv (some (.frz (.int (k : Nat)))) (some (.frz (.tup [.str (txt w), v]))))) = _
  have i1 : dIn false (.str (txt w)) (.dct false kv) = .ok (.bl true) := by rw [dIn_dct rfl, hn]; rfl
  have r := fun ρ : Env => raiseC_int (c := "NoWants") (f := "number") (L := []) (ρ := ρ) (i := (k : Int)) (by omega)
  have : BX_look_at_wants_1 (lwS ds kv (some (.frz (.int (k : Nat)))) (some (.frz (.tup [.str (txt w), v])))) = .ex (exW (.int (k : Nat))) (lwS ds kv (some (.frz (.int (k : Nat)))) (some (.frz (.tup [.str (txt w), v])))) := by
    simp [BX_look_at_wants_1_u, lwS, nx_ok h, i1, r, exW]
  rw [this]
  rfl
/-! one want -/
theorem name_e {w : List Nat} (h1 : 1 ≤ w.length) (h2 : w.length ≤ 8) : F_is_name [.str (txt w)] = .ok (.bl (w.all fun c => decide (c ∈ (Str.ofString "abcdefghijklmnopqrstuvwxyz").cps.toList))) := by
  have sv : signs (txt w) = w.map fun c => D.str (txt [c]) := by unfold signs; rw [txt_list]; rfl
  have c1 : eComp [1] (iAny (eVar 0)) (tgN 1) bYes (eOp (dIn false) (eVar 1) (eC (.str "abcdefghijklmnopqrstuvwxyz"))) [some (.str (txt w)), none] = .ok (.lst (w.map fun c => D.bl (decide (c ∈ (Str.ofString "abcdefghijklmnopqrstuvwxyz").cps.toList)))) := by
    refine eComp_all (F := fun c => D.str (txt [c])) _ (by simp [sv]) (by omega) fun c hc => ⟨_, rfl, by simp, ?_⟩
    simp [dIn_sign]
  have a := dAll_map (l := w) (f := fun c => decide (c ∈ (Str.ofString "abcdefghijklmnopqrstuvwxyz").cps.toList))
  show outR (B_is_name [some (.frz (.str (txt w))), none]) = _
  have v : view [] [some (.frz (.str (txt w))), none] = [some (.str (txt w)), none] := rfl
  have : B_is_name [some (.frz (.str (txt w))), none] = .rt (.bl (w.all fun c => decide (c ∈ (Str.ofString "abcdefghijklmnopqrstuvwxyz").cps.toList))) [some (.frz (.str (txt w))), none] := by
    rw [B_is_name_u]
    refine seq_to (ρ' := [some (.frz (.str (txt w))), none]) (by simp [txt_length, show w.length ≤ 16777215 by omega, show (1 : Int) ≤ w.length by omega, show (w.length : Int) ≤ 8 by omega]) ?_
    rw [sRet_e, v, eCall_e, aCons_e, c1, aNil_e, cons2_ok, bd_ok, a, atR_ok]
    rfl
  rw [this]
  rfl
theorem na : F_is_name [.str (txt [97])] = .ok (.bl true) := by
  rw [name_e (by decide) (by decide)]
  have : ([97].all fun c => decide (c ∈ (Str.ofString "abcdefghijklmnopqrstuvwxyz").cps.toList)) = true := by decide +kernel
  rw [this]
theorem nb : F_is_name [.str (txt [98])] = .ok (.bl true) := by
  rw [name_e (by decide) (by decide)]
  have : ([98].all fun c => decide (c ∈ (Str.ofString "abcdefghijklmnopqrstuvwxyz").cps.toList)) = true := by decide +kernel
  rw [this]
theorem nA : F_is_name [.str (txt [65])] = .ok (.bl false) := by
  rw [name_e (by decide) (by decide)]
  have : ([65].all fun c => decide (c ∈ (Str.ofString "abcdefghijklmnopqrstuvwxyz").cps.toList)) = false := by decide +kernel
  rw [this]
theorem want_i {w : List Nat} {i : Int} (h : F_is_name [.str (txt w)] = .ok (.bl true)) : F_is_want [.tup [.str (txt w), .int i]] = .ok (.bl (decide (0 ≤ i) && decide (i ≤ 1000000000))) := by
  show outR (B_is_want [some (.frz (.tup [.str (txt w), .int i]))]) = _
  by_cases c : 0 ≤ i
  · by_cases c2 : i ≤ 1000000000 <;> simp [B_is_want_u, h, c, c2]
  · simp [B_is_want_u, h, c]
theorem want_k {w : List Nat} {d : D} (h : F_is_name [.str (txt w)] = .ok (.bl true)) (hd : F_is_whole [d] = .ok (.bl false)) : F_is_want [.tup [.str (txt w), d]] = .ok (.bl false) := by
  show outR (B_is_want [some (.frz (.tup [.str (txt w), d]))]) = _
  simp [B_is_want_u, h, hd]
theorem want_n {w : List Nat} {d : D} (h : F_is_name [.str (txt w)] = .ok (.bl false)) : F_is_want [.tup [.str (txt w), d]] = .ok (.bl false) := by
  show outR (B_is_want [some (.frz (.tup [.str (txt w), d]))]) = _
  simp [B_is_want_u, h]
theorem want_t {d : D} (h : isKind "tuple" d = .ok (.bl false)) : F_is_want [d] = .ok (.bl false) := by
  show outR (B_is_want [some (.frz d)]) = _
  simp [B_is_want_u, h]
theorem want_3 {a b c : D} : F_is_want [.tup [a, b, c]] = .ok (.bl false) := by
  show outR (B_is_want [some (.frz (.tup [a, b, c]))]) = _
  simp [B_is_want_u]
theorem w1 : F_is_want [.tup [.str (txt [97]), .int 1]] = .ok (.bl true) := want_i na
theorem lw_one {x : D} (h : F_is_want [x] = .ok (.bl false)) : FX_look_at_wants [.lst [x]] = .exc (exW (.int 0)) := by
  rw [lw_head (by show 1 ≤ 1; decide) (by show 1 ≤ 20; decide)]
  have := lw_bad (ds := [x]) (kv := []) (k := 0) (tl := []) (by decide) h
  show outR (forL _ _ _ [.tup [.int ((0 : Nat) : Int), x]] _) = _
  rw [this]
  rfl
theorem LW_bad : ∀ x ∈ LW, FX_look_at_wants [x.1] = .exc (exW x.2) := by
  have eA : (Str.ofString "A" : Str) = txt [65] := by decide +kernel
  have g0 : (dGet ([] : List (D × D)) (.str (txt [97]))).isSome = false := rfl
  have p0 : dPut [] (.str (txt [97])) (.bl true) = [(D.str (txt [97]), D.bl true)] := dPut_new fun p hp => nomatch hp
  have g1 : (dGet [(D.str (txt [97]), D.bl true)] (.str (txt [97]))).isSome = true := by rw [dGet_cons, if_pos rfl]; rfl
  unfold LW
  refine forall_cons (lw_kind (by simp)) (forall_cons (lw_len (by decide) (.inl (by decide))) (forall_cons (lw_kind (by simp)) (forall_cons (lw_len (by rw [List.length_replicate]; decide) (.inr (by rw [List.length_replicate]; decide))) (forall_cons ?_ (forall_cons (lw_one ?_) (forall_cons (lw_one (want_t (by simp))) (forall_cons (lw_one ?_) (forall_cons (lw_one ?_) (forall_cons (lw_one ?_) (forall_cons ?_ (forall_cons (lw_one want_3) forall_nil)))))))))))
  · show FX_look_at_wants [.lst [.tup [.str "a", .int 1], .tup [.str "a", .int 2]]] = _
    rw [st_a, lw_head (by show 1 ≤ 2; decide) (by show 2 ≤ 20; decide)]
    show outR (forL _ _ _ [.tup [.int ((0 : Nat) : Int), .tup [.str (txt [97]), .int 1]], .tup [.int ((1 : Nat) : Int), .tup [.str (txt [97]), .int 2]]] _) = _
    rw [lw_good (by decide) w1 g0, p0, lw_dup (by decide) (want_i na) g1]
    rfl
  · rw [eA]
    exact want_n nA
  · rw [st_a]
    exact want_k na (whole_bl true)
  · rw [st_a]
    exact want_i na
  · rw [st_a]
    exact want_i na
  · show FX_look_at_wants [.lst [.tup [.str "a", .int 1], .tup [.str "b", .non]]] = _
    rw [st_a, st_b, lw_head (by show 1 ≤ 2; decide) (by show 2 ≤ 20; decide)]
    show outR (forL _ _ _ [.tup [.int ((0 : Nat) : Int), .tup [.str (txt [97]), .int 1]], .tup [.int ((1 : Nat) : Int), .tup [.str (txt [98]), .non]]] _) = _
    rw [lw_good (by decide) w1 g0, p0, lw_bad (by decide) (want_k nb whole_non)]
    rfl
end Du

namespace Du
open PySem PySem.Spec PyProof.Rows L2 Dear
/-! ### k86: each door (printed by mk86p.py) -/
set_option maxHeartbeats 1000000
theorem eComp_x {vs : List Nat} {it : VEnv → Res (List D)} {tg : Tgt} {c : VEnv → Res Bool} {f : VEnv → Res D} {ρ : VEnv} {x : Ex} (h : it ρ = .exc x) : eComp vs it tg c f ρ = .exc x := by
  unfold eComp
  rw [h]
  rfl
section
variable {t w' : D} {x : Ex}
theorem d_may_come {a1 a2 : D} (h : FX_look_at_tongue [t] = .exc x) : FX_may_come [t, a1, a2] = .exc x := by
  have hc := h
  show outR (BX_may_come [some (.frz t), some (.frz a1), some (.frz a2)]) = _
  simp [BX_may_come_u, hc]
theorem d_may_stand {a1 : D} (h : FX_look_at_tongue [t] = .exc x) : FX_may_stand [t, a1] = .exc x := by
  have hc := h
  show outR (BX_may_stand [some (.frz t), some (.frz a1)]) = _
  simp [BX_may_stand_u, hc]
theorem d_is_word {a1 : D} (h : FX_look_at_tongue [t] = .exc x) : FX_is_word [t, a1] = .exc x := by
  have hc := h
  show outR (BX_is_word [some (.frz t), some (.frz a1)]) = _
  simp [BX_is_word_u, hc]
theorem d_way_of {a1 : D} (h : FX_look_at_tongue [t] = .exc x) : FX_way_of [t, a1] = .exc x := by
  have hc := h
  show outR (BX_way_of [some (.frz t), some (.frz a1), none, none]) = _
  simp [BX_way_of_u, hc]
theorem d_price_of (h : FX_look_at_tongue [t] = .exc x) : FX_price_of [t, .str "a"] = .exc x := by
  have hc := fun a : D => d_way_of (a1 := a) h
  obtain ⟨b, hb⟩ : ∃ b, dSl (.str "a") none (some (-1)) = .ok b := ⟨_, rfl⟩
  show outR (BX_price_of [some (.frz t), some (.frz (.str "a"))]) = _
  simp [BX_price_of_u, hc, hb]
theorem d_counts_by_length (h : FX_look_at_tongue [t] = .exc x) : FX_counts_by_length [t] = .exc x := by
  have hc := h
  show outR (BX_counts_by_length [some (.frz t), none, none, none]) = _
  simp [BX_counts_by_length_u, hc]
theorem d_word_counts (h : FX_look_at_tongue [t] = .exc x) : FX_word_counts [t] = .exc x := by
  have hc := (d_counts_by_length h)
  show outR (BX_word_counts [some (.frz t), none, none, none, none, none, none]) = _
  simp [BX_word_counts_u, hc]
theorem d_text_counts (h : FX_look_at_tongue [t] = .exc x) : FX_text_counts [t] = .exc x := by
  have hc := d_counts_by_length h
  show outR (BX_text_counts [some (.frz t), none, none]) = _
  rw [BX_text_counts_u, sRet_e, eComp_x (x := x) (by simp [hc])]
  rfl
theorem d_words_of (h : FX_look_at_tongue [t] = .exc x) : FX_words_of [t] = .exc x := by
  have hc := (d_word_counts h)
  show outR (BX_words_of [some (.frz t), none, none, none, none, none, none, none, none]) = _
  simp [BX_words_of_u, hc]
theorem d_comes_ahead {a1 a2 : D} (h : FX_look_at_tongue [t] = .exc x) : FX_comes_ahead [t, a1, a2] = .exc x := by
  have hc := h
  show outR (BX_comes_ahead [some (.frz t), some (.frz a1), some (.frz a2), none, none]) = _
  simp [BX_comes_ahead_u, hc]
theorem d_tree_of {a1 : D} (h : FX_look_at_tongue [t] = .exc x) : FX_tree_of [t, a1] = .exc x := by
  have hc := h
  show outR (BX_tree_of [some (.frz t), some (.frz a1), none, none, none, none]) = _
  simp [BX_tree_of_u, hc]
theorem d_book_of {a1 a2 : D} (h : FX_look_at_tongue [t] = .exc x) : FX_book_of [t, a1, a2] = .exc x := by
  have hc := h
  show outR (BX_book_of [some (.frz t), some (.frz a1), some (.frz a2), none, none]) = _
  simp [BX_book_of_u, hc]
theorem d_columns_of {a1 : D} (h : FX_look_at_tongue [t] = .exc x) : FX_columns_of [t, a1] = .exc x := by
  have hc := h
  show outR (BX_columns_of [some (.frz t), some (.frz a1), none, none, none, none, none, none, none, none, none, none]) = _
  simp [BX_columns_of_u, hc]
theorem d_candidates_of {a1 : D} (h : FX_look_at_tongue [t] = .exc x) : FX_candidates_of [t, a1] = .exc x := by
  have hc := h
  show outR (BX_candidates_of [some (.frz t), some (.frz a1)]) = _
  simp [BX_candidates_of_u, hc]
theorem d_sets_by_size {a1 : D} (h : FX_look_at_tongue [t] = .exc x) : FX_sets_by_size [t, a1] = .exc x := by
  have hc := h
  show outR (BX_sets_by_size [some (.frz t), some (.frz a1)]) = _
  simp [BX_sets_by_size_u, hc]
theorem d_books_many {a1 a2 : D} (h : FX_look_at_tongue [t] = .exc x) : FX_books_many [t, a1, a2] = .exc x := by
  have hc := fun a : D => d_sets_by_size (a1 := a) h
  show outR (BX_books_many [some (.frz t), some (.frz a1), some (.frz a2), none, none]) = _
  simp [BX_books_many_u, hc]
theorem d_all_books {a1 a2 : D} (h : FX_look_at_tongue [t] = .exc x) : FX_all_books [t, a1, a2] = .exc x := by
  have hc := h
  show outR (BX_all_books [some (.frz t), some (.frz a1), some (.frz a2), none, none]) = _
  simp [BX_all_books_u, hc]
theorem d_turned_tongue {a1 : D} (h : FX_look_at_tongue [t] = .exc x) : FX_turned_tongue [t, a1] = .exc x := by
  have hc := h
  show outR (BX_turned_tongue [some (.frz t), some (.frz a1), none, none, none, none, none, none, none, none, none, none]) = _
  simp [BX_turned_tongue_u, hc]
theorem d_turned_text {a1 a2 : D} (h : FX_look_at_tongue [t] = .exc x) : FX_turned_text [t, a1, a2] = .exc x := by
  have hc := h
  show outR (BX_turned_text [some (.frz t), some (.frz a1), some (.frz a2)]) = _
  simp [BX_turned_text_u, hc]
theorem d_turned_book {a1 a2 : D} (h : FX_look_at_tongue [t] = .exc x) : FX_turned_book [t, a1, a2] = .exc x := by
  have hc := h
  show outR (BX_turned_book [some (.frz t), some (.frz a1), some (.frz a2), none]) = _
  simp [BX_turned_book_u, hc]
theorem d_dearer {a1 : D} (h : FX_look_at_tongue [t] = .exc x) : FX_dearer [t, a1] = .exc x := by
  have hc := h
  show outR (BX_dearer [some (.frz t), some (.frz a1), none, none, none, none, none, none, none, none]) = _
  simp [BX_dearer_u, hc]
theorem dc_Judge_t {a3 : D} (h : FX_look_at_tongue [t] = .exc x) : FC_Judge [t, w', a3] = .exc x := by
  have hc0 := h
  show outR (BC_Judge [none, some (.frz t), some (.frz w'), some (.frz a3), none, none, none]) = _
  simp [BC_Judge_u, hc0]
theorem dc_Judge_w {a3 : D} {d : D} (h : FX_look_at_tongue [t] = .ok d) (hw : FX_look_at_wants [w'] = .exc x) : FC_Judge [t, w', a3] = .exc x := by
  have hc0 := h
  have hc1 := hw
  show outR (BC_Judge [none, some (.frz t), some (.frz w'), some (.frz a3), none, none, none]) = _
  simp [BC_Judge_u, hc0, hc1]
theorem dc_Seeker_t {a3 a4 : D} (h : FX_look_at_tongue [t] = .exc x) : FC_Seeker [t, w', a3, a4] = .exc x := by
  have hc0 := dc_Judge_t (w' := w') (a3 := a3) h
  show outR (BC_Seeker [none, some (.frz t), some (.frz w'), some (.frz a3), some (.frz a4)]) = _
  simp [BC_Seeker_u, hc0]
theorem dc_Seeker_w {a3 a4 : D} {d : D} (h : FX_look_at_tongue [t] = .ok d) (hw : FX_look_at_wants [w'] = .exc x) : FC_Seeker [t, w', a3, a4] = .exc x := by
  have hc0 := dc_Judge_w (a3 := a3) h hw
  show outR (BC_Seeker [none, some (.frz t), some (.frz w'), some (.frz a3), some (.frz a4)]) = _
  simp [BC_Seeker_u, hc0]
theorem dc_Keeper_t {a3 a4 : D} (h : FX_look_at_tongue [t] = .exc x) : FC_Keeper [t, w', a3, a4] = .exc x := by
  have hc0 := h
  show outR (BC_Keeper [none, some (.frz t), some (.frz w'), some (.frz a3), some (.frz a4), none, none, none, none]) = _
  simp [BC_Keeper_u, hc0]
theorem dc_Keeper_w {a3 a4 : D} {d : D} (h : FX_look_at_tongue [t] = .ok d) (hw : FX_look_at_wants [w'] = .exc x) : FC_Keeper [t, w', a3, a4] = .exc x := by
  have hc0 := h
  have hc1 := hw
  show outR (BC_Keeper [none, some (.frz t), some (.frz w'), some (.frz a3), some (.frz a4), none, none, none, none]) = _
  simp [BC_Keeper_u, hc0, hc1]
theorem db_what_is_wrong_t {a2 a3 : D} (h : FX_look_at_tongue [t] = .exc x) : FX_what_is_wrong [t, w', a2, a3] = .exc x := by
  have hc0 := h
  show outR (BX_what_is_wrong [some (.frz t), some (.frz w'), some (.frz a2), some (.frz a3), none, none]) = _
  simp [BX_what_is_wrong_u, hc0]
theorem db_what_is_wrong_w {a2 a3 : D} {d : D} (h : FX_look_at_tongue [t] = .ok d) (hw : FX_look_at_wants [w'] = .exc x) : FX_what_is_wrong [t, w', a2, a3] = .exc x := by
  have hc0 := h
  have hc1 := hw
  show outR (BX_what_is_wrong [some (.frz t), some (.frz w'), some (.frz a2), some (.frz a3), none, none]) = _
  simp [BX_what_is_wrong_u, hc0, hc1]
theorem db_cost_of_t {a2 : D} (h : FX_look_at_tongue [t] = .exc x) : FX_cost_of [t, w', a2] = .exc x := by
  have hc0 := h
  show outR (BX_cost_of [some (.frz t), some (.frz w'), some (.frz a2), none, none]) = _
  simp [BX_cost_of_u, hc0]
theorem db_cost_of_w {a2 : D} {d : D} (h : FX_look_at_tongue [t] = .ok d) (hw : FX_look_at_wants [w'] = .exc x) : FX_cost_of [t, w', a2] = .exc x := by
  have hc0 := h
  have hc1 := hw
  show outR (BX_cost_of [some (.frz t), some (.frz w'), some (.frz a2), none, none]) = _
  simp [BX_cost_of_u, hc0, hc1]
theorem db_lets_floors_t {a2 a3 : D} (h : FX_look_at_tongue [t] = .exc x) : FX_lets_floors [t, w', a2, a3] = .exc x := by
  have hc0 := h
  show outR (BX_lets_floors [some (.frz t), some (.frz w'), some (.frz a2), some (.frz a3), none, none]) = _
  simp [BX_lets_floors_u, hc0]
theorem db_lets_floors_w {a2 a3 : D} {d : D} (h : FX_look_at_tongue [t] = .ok d) (hw : FX_look_at_wants [w'] = .exc x) : FX_lets_floors [t, w', a2, a3] = .exc x := by
  have hc0 := h
  have hc1 := hw
  show outR (BX_lets_floors [some (.frz t), some (.frz w'), some (.frz a2), some (.frz a3), none, none]) = _
  simp [BX_lets_floors_u, hc0, hc1]
theorem db_cheapest_book_t {a2 : D} (h : FX_look_at_tongue [t] = .exc x) : FX_cheapest_book [t, w', a2] = .exc x := by
  have hc0 := h
  show outR (BX_cheapest_book [some (.frz t), some (.frz w'), some (.frz a2), none]) = _
  simp [BX_cheapest_book_u, hc0]
theorem db_cheapest_book_w {a2 : D} {d : D} (h : FX_look_at_tongue [t] = .ok d) (hw : FX_look_at_wants [w'] = .exc x) : FX_cheapest_book [t, w', a2] = .exc x := by
  have hc0 := h
  have hc1 := hw
  show outR (BX_cheapest_book [some (.frz t), some (.frz w'), some (.frz a2), none]) = _
  simp [BX_cheapest_book_u, hc0, hc1]
theorem db_lets_shares_t {a2 : D} (h : FX_look_at_tongue [t] = .exc x) : FX_lets_shares [t, w', a2] = .exc x := by
  have hc0 := h
  show outR (BX_lets_shares [some (.frz t), some (.frz w'), some (.frz a2), none, none, none, none, none, none, none, none]) = _
  simp [BX_lets_shares_u, hc0]
theorem db_lets_shares_w {a2 : D} {d : D} (h : FX_look_at_tongue [t] = .ok d) (hw : FX_look_at_wants [w'] = .exc x) : FX_lets_shares [t, w', a2] = .exc x := by
  have hc0 := h
  have hc1 := hw
  show outR (BX_lets_shares [some (.frz t), some (.frz w'), some (.frz a2), none, none, none, none, none, none, none, none]) = _
  simp [BX_lets_shares_u, hc0, hc1]
theorem db_shares_for_t (h : FX_look_at_tongue [t] = .exc x) : FX_shares_for [t, w'] = .exc x := by
  have hc0 := h
  show outR (BX_shares_for [some (.frz t), some (.frz w'), none, none, none, none, none]) = _
  simp [BX_shares_for_u, hc0]
theorem db_shares_for_w {d : D} (h : FX_look_at_tongue [t] = .ok d) (hw : FX_look_at_wants [w'] = .exc x) : FX_shares_for [t, w'] = .exc x := by
  have hc0 := h
  have hc1 := hw
  show outR (BX_shares_for [some (.frz t), some (.frz w'), none, none, none, none, none]) = _
  simp [BX_shares_for_u, hc0, hc1]
theorem db_is_reason_t {a2 a3 a4 : D} (h : FX_look_at_tongue [t] = .exc x) : FX_is_reason [t, w', a2, a3, a4] = .exc x := by
  have hc0 := dc_Judge_t (w' := w') (a3 := a2) h
  show outR (BX_is_reason [some (.frz t), some (.frz w'), some (.frz a2), some (.frz a3), some (.frz a4)]) = _
  simp [BX_is_reason_u, hc0]
theorem db_is_reason_w {a2 a3 a4 : D} {d : D} (h : FX_look_at_tongue [t] = .ok d) (hw : FX_look_at_wants [w'] = .exc x) : FX_is_reason [t, w', a2, a3, a4] = .exc x := by
  have hc0 := dc_Judge_w (w' := w') (a3 := a2) h hw
  show outR (BX_is_reason [some (.frz t), some (.frz w'), some (.frz a2), some (.frz a3), some (.frz a4)]) = _
  simp [BX_is_reason_u, hc0]
theorem db_lets_tree_t {a2 a3 : D} (h : FX_look_at_tongue [t] = .exc x) : FX_lets_tree [t, w', a2, a3] = .exc x := by
  have hc0 := dc_Judge_t (w' := w') (a3 := a2) h
  show outR (BX_lets_tree [some (.frz t), some (.frz w'), some (.frz a2), some (.frz a3)]) = _
  simp [BX_lets_tree_u, hc0]
theorem db_lets_tree_w {a2 a3 : D} {d : D} (h : FX_look_at_tongue [t] = .ok d) (hw : FX_look_at_wants [w'] = .exc x) : FX_lets_tree [t, w', a2, a3] = .exc x := by
  have hc0 := dc_Judge_w (w' := w') (a3 := a2) h hw
  show outR (BX_lets_tree [some (.frz t), some (.frz w'), some (.frz a2), some (.frz a3)]) = _
  simp [BX_lets_tree_u, hc0]
theorem db_seek_book_t {a2 a3 : D} (h : FX_look_at_tongue [t] = .exc x) : FX_seek_book [t, w', a2, a3] = .exc x := by
  have hc0 := dc_Seeker_t (w' := w') (a3 := a2) (a4 := a3) h
  show outR (BX_seek_book [some (.frz t), some (.frz w'), some (.frz a2), some (.frz a3), none, none]) = _
  simp [BX_seek_book_u, hc0]
theorem db_seek_book_w {a2 a3 : D} {d : D} (h : FX_look_at_tongue [t] = .ok d) (hw : FX_look_at_wants [w'] = .exc x) : FX_seek_book [t, w', a2, a3] = .exc x := by
  have hc0 := dc_Seeker_w (w' := w') (a3 := a2) (a4 := a3) h hw
  show outR (BX_seek_book [some (.frz t), some (.frz w'), some (.frz a2), some (.frz a3), none, none]) = _
  simp [BX_seek_book_u, hc0]
theorem db_bound_book_t {a2 a3 : D} (h : FX_look_at_tongue [t] = .exc x) : FX_bound_book [t, w', a2, a3] = .exc x := by
  have hc0 := h
  show outR (BX_bound_book [some (.frz t), some (.frz w'), some (.frz a2), some (.frz a3), none]) = _
  simp [BX_bound_book_u, hc0]
theorem db_bound_book_w {a2 a3 : D} {d : D} (h : FX_look_at_tongue [t] = .ok d) (hw : FX_look_at_wants [w'] = .exc x) : FX_bound_book [t, w', a2, a3] = .exc x := by
  have hc0 := h
  have hc1 := hw
  show outR (BX_bound_book [some (.frz t), some (.frz w'), some (.frz a2), some (.frz a3), none]) = _
  simp [BX_bound_book_u, hc0, hc1]
theorem db_mend_t {a2 a3 a4 : D} (h : FX_look_at_tongue [t] = .exc x) : FX_mend [t, w', a2, a3, a4] = .exc x := by
  have hc0 := h
  show outR (BX_mend [some (.frz t), some (.frz w'), some (.frz a2), some (.frz a3), some (.frz a4), none, none, none, none, none]) = _
  simp [BX_mend_u, hc0]
theorem db_mend_w {a2 a3 a4 : D} {d : D} (h : FX_look_at_tongue [t] = .ok d) (hw : FX_look_at_wants [w'] = .exc x) : FX_mend [t, w', a2, a3, a4] = .exc x := by
  have hc0 := h
  have hc1 := hw
  show outR (BX_mend [some (.frz t), some (.frz w'), some (.frz a2), some (.frz a3), some (.frz a4), none, none, none, none, none]) = _
  simp [BX_mend_u, hc0, hc1]
theorem db_costs_of_all_t {a2 : D} (h : FX_look_at_tongue [t] = .exc x) : FX_costs_of_all [t, w', a2] = .exc x := by
  have hc0 := h
  show outR (BX_costs_of_all [some (.frz t), some (.frz w'), some (.frz a2), none, none, none, none, none]) = _
  simp [BX_costs_of_all_u, hc0]
theorem db_costs_of_all_w {a2 : D} {d : D} (h : FX_look_at_tongue [t] = .ok d) (hw : FX_look_at_wants [w'] = .exc x) : FX_costs_of_all [t, w', a2] = .exc x := by
  have hc0 := h
  have hc1 := hw
  show outR (BX_costs_of_all [some (.frz t), some (.frz w'), some (.frz a2), none, none, none, none, none]) = _
  simp [BX_costs_of_all_u, hc0, hc1]
theorem db_write_case_t {a : D} (h : FX_look_at_tongue [t] = .exc x) : FX_write_case [.tup [t, w', a]] = .exc x := by
  show outR (BX_write_case [some (.frz (.tup [t, w', a])), none, none, none, none, none, none, none, none, none, none, none, none, none, none]) = _
  simp [BX_write_case_u, h]
theorem db_write_case_w {a : D} {d : D} (h : FX_look_at_tongue [t] = .ok d) (hw : FX_look_at_wants [w'] = .exc x) : FX_write_case [.tup [t, w', a]] = .exc x := by
  show outR (BX_write_case [some (.frz (.tup [t, w', a])), none, none, none, none, none, none, none, none, none, none, none, none, none, none]) = _
  simp [BX_write_case_u, h, hw]
theorem dw_claim_of_floors {a1 : D} (hw : FX_look_at_wants [w'] = .exc x) : FX_claim_of_floors [w', a1] = .exc x := by
  show outR (BX_claim_of_floors [some (.frz w'), some (.frz a1)]) = _
  simp [BX_claim_of_floors_u, hw]
theorem dw_put_wants {a1 : D} (hw : FX_look_at_wants [w'] = .exc x) : FX_put_wants [w', a1] = .exc x := by
  show outR (BX_put_wants [some (.frz w'), some (.frz a1)]) = _
  simp [BX_put_wants_u, hw]
theorem dw_more_often {a1 : D} (hw : FX_look_at_wants [w'] = .exc x) : FX_more_often [w', a1] = .exc x := by
  show outR (BX_more_often [some (.frz w'), some (.frz a1), none, none]) = _
  simp [BX_more_often_u, hw]
theorem stage2_e (h : FX_look_at_tongue [t] = .exc x) {k : Int} (h0 : 0 ≤ k) (h1 : k < 9) : FX__law_stage_two [.int k, t] = .exc x := by
  have e0 := fun a1 : D => d_may_stand (a1 := a1) h
  have e1 := fun a1 : D => d_is_word (a1 := a1) h
  have e2 := fun a1 a2 : D => d_may_come (a1 := a1) (a2 := a2) h
  have e3 := fun a1 : D => d_way_of (a1 := a1) h
  have e4 := d_price_of h
  have e5 := d_words_of h
  have e6 := d_word_counts h
  have e7 := d_text_counts h
  have c : k = 0 ∨ k = 1 ∨ k = 2 ∨ k = 3 ∨ k = 4 ∨ k = 5 ∨ k = 6 ∨ k = 7 ∨ k = 8 := by omega
  show outR (BX__law_stage_two [some (.frz (.int k)), some (.frz t)]) = _
  rcases c with rfl | rfl | rfl | rfl | rfl | rfl | rfl | rfl | rfl <;> simp [BX__law_stage_two_u, h, e0, e1, e2, e3, e4, e5, e6, e7]
theorem alone_e (h : FX_look_at_tongue [t] = .exc x) {k : Int} (h0 : 9 ≤ k) (h1 : k < 21) : FX__law_tongue_alone [.int k, t] = .exc x := by
  have e0 := fun a1 a2 : D => d_comes_ahead (a1 := a1) (a2 := a2) h
  have e1 := fun a1 : D => d_tree_of (a1 := a1) h
  have e2 := fun a1 a2 : D => d_book_of (a1 := a1) (a2 := a2) h
  have e3 := fun a1 : D => d_columns_of (a1 := a1) h
  have e4 := fun a1 : D => d_candidates_of (a1 := a1) h
  have e5 := fun a1 : D => d_sets_by_size (a1 := a1) h
  have e6 := fun a1 a2 : D => d_books_many (a1 := a1) (a2 := a2) h
  have e7 := fun a1 a2 : D => d_all_books (a1 := a1) (a2 := a2) h
  have e8 := fun a1 : D => d_turned_tongue (a1 := a1) h
  have e9 := fun a1 a2 : D => d_turned_text (a1 := a1) (a2 := a2) h
  have e10 := fun a1 a2 : D => d_turned_book (a1 := a1) (a2 := a2) h
  have e11 := fun a1 : D => d_dearer (a1 := a1) h
  have c : k = 9 ∨ k = 10 ∨ k = 11 ∨ k = 12 ∨ k = 13 ∨ k = 14 ∨ k = 15 ∨ k = 16 ∨ k = 17 ∨ k = 18 ∨ k = 19 ∨ k = 20 := by omega
  show outR (BX__law_tongue_alone [some (.frz (.int k)), some (.frz t)]) = _
  rcases c with rfl | rfl | rfl | rfl | rfl | rfl | rfl | rfl | rfl | rfl | rfl | rfl <;> simp [BX__law_tongue_alone_u, e0, e1, e2, e3, e4, e5, e6, e7, e8, e9, e10, e11]
theorem with_t (h : FX_look_at_tongue [t] = .exc x) {k : Int} (h0 : 21 ≤ k) (h1 : k < 35) : FX__law_with_wants [.int k, t, w'] = .exc x := by
  have e0 := fun a2 a3 : D => db_what_is_wrong_t (w' := w') (a2 := a2) (a3 := a3) h
  have e1 := fun a2 : D => db_cost_of_t (w' := w') (a2 := a2) h
  have e2 := fun a2 a3 : D => db_lets_floors_t (w' := w') (a2 := a2) (a3 := a3) h
  have e3 := fun a2 : D => db_cheapest_book_t (w' := w') (a2 := a2) h
  have e4 := fun a2 : D => db_lets_shares_t (w' := w') (a2 := a2) h
  have e5 := db_shares_for_t (w' := w')  h
  have e6 := fun a2 a3 a4 : D => db_is_reason_t (w' := w') (a2 := a2) (a3 := a3) (a4 := a4) h
  have e7 := fun a2 a3 : D => db_lets_tree_t (w' := w') (a2 := a2) (a3 := a3) h
  have e8 := fun a2 a3 : D => db_seek_book_t (w' := w') (a2 := a2) (a3 := a3) h
  have e9 := fun a2 a3 : D => db_bound_book_t (w' := w') (a2 := a2) (a3 := a3) h
  have e10 := fun a2 a3 a4 : D => db_mend_t (w' := w') (a2 := a2) (a3 := a3) (a4 := a4) h
  have e11 := fun a2 : D => db_costs_of_all_t (w' := w') (a2 := a2) h
  have ek := fun a3 a4 : D => dc_Keeper_t (w' := w') (a3 := a3) (a4 := a4) h
  have ec := fun a : D => db_write_case_t (w' := w') (a := a) h
  have c : k = 21 ∨ k = 22 ∨ k = 23 ∨ k = 24 ∨ k = 25 ∨ k = 26 ∨ k = 27 ∨ k = 28 ∨ k = 29 ∨ k = 30 ∨ k = 31 ∨ k = 32 ∨ k = 33 ∨ k = 34 := by omega
  show outR (BX__law_with_wants [some (.frz (.int k)), some (.frz t), some (.frz w')]) = _
  rcases c with rfl | rfl | rfl | rfl | rfl | rfl | rfl | rfl | rfl | rfl | rfl | rfl | rfl | rfl <;> simp [BX__law_with_wants_u, e0, e1, e2, e3, e4, e5, e6, e7, e8, e9, e10, e11, ek, ec]
theorem with_w {d : D} (h : FX_look_at_tongue [t] = .ok d) (hw : FX_look_at_wants [w'] = .exc x) {k : Int} (h0 : 21 ≤ k) (h1 : k < 35) : FX__law_with_wants [.int k, t, w'] = .exc x := by
  have e0 := fun a2 a3 : D => db_what_is_wrong_w (w' := w') (a2 := a2) (a3 := a3) h hw
  have e1 := fun a2 : D => db_cost_of_w (w' := w') (a2 := a2) h hw
  have e2 := fun a2 a3 : D => db_lets_floors_w (w' := w') (a2 := a2) (a3 := a3) h hw
  have e3 := fun a2 : D => db_cheapest_book_w (w' := w') (a2 := a2) h hw
  have e4 := fun a2 : D => db_lets_shares_w (w' := w') (a2 := a2) h hw
  have e5 := db_shares_for_w (w' := w')  h hw
  have e6 := fun a2 a3 a4 : D => db_is_reason_w (w' := w') (a2 := a2) (a3 := a3) (a4 := a4) h hw
  have e7 := fun a2 a3 : D => db_lets_tree_w (w' := w') (a2 := a2) (a3 := a3) h hw
  have e8 := fun a2 a3 : D => db_seek_book_w (w' := w') (a2 := a2) (a3 := a3) h hw
  have e9 := fun a2 a3 : D => db_bound_book_w (w' := w') (a2 := a2) (a3 := a3) h hw
  have e10 := fun a2 a3 a4 : D => db_mend_w (w' := w') (a2 := a2) (a3 := a3) (a4 := a4) h hw
  have e11 := fun a2 : D => db_costs_of_all_w (w' := w') (a2 := a2) h hw
  have ek := fun a3 a4 : D => dc_Keeper_w (w' := w') (a3 := a3) (a4 := a4) h hw
  have ec := fun a : D => db_write_case_w (w' := w') (a := a) h hw
  have c : k = 21 ∨ k = 22 ∨ k = 23 ∨ k = 24 ∨ k = 25 ∨ k = 26 ∨ k = 27 ∨ k = 28 ∨ k = 29 ∨ k = 30 ∨ k = 31 ∨ k = 32 ∨ k = 33 ∨ k = 34 := by omega
  show outR (BX__law_with_wants [some (.frz (.int k)), some (.frz t), some (.frz w')]) = _
  rcases c with rfl | rfl | rfl | rfl | rfl | rfl | rfl | rfl | rfl | rfl | rfl | rfl | rfl | rfl <;> simp [BX__law_with_wants_u, e0, e1, e2, e3, e4, e5, e6, e7, e8, e9, e10, e11, ek, ec]
theorem wants_alone_e (hw : FX_look_at_wants [w'] = .exc x) {k : Int} (h0 : 35 ≤ k) (h1 : k < 39) : FX__law_wants_alone [.int k, w'] = .exc x := by
  have e0 := fun a1 : D => dw_claim_of_floors (a1 := a1) hw
  have e1 := fun a1 : D => dw_put_wants (a1 := a1) hw
  have e2 := fun a1 : D => dw_more_often (a1 := a1) hw
  have c : k = 35 ∨ k = 36 ∨ k = 37 ∨ k = 38 := by omega
  show outR (BX__law_wants_alone [some (.frz (.int k)), some (.frz w')]) = _
  rcases c with rfl | rfl | rfl | rfl <;> simp [BX__law_wants_alone_u, hw, e0, e1, e2]
end
end Du

namespace Du
open PySem PySem.Spec PyProof.Rows L2 Dear
/-! ### k86: the law -/
set_option maxHeartbeats 1000000
set_option maxRecDepth 100000
structure Q86 (s : Str) (q : D) : Prop where
  ng : dNe q (.str "good") = .ok (.bl true)
  ly : Ly 1 q
  dg : dNe (.tup [.str s, q]) (.tup [.str "good", .non]) = .ok (.bl true)
theorem Q86.self {s : Str} {q : D} (h : Q86 s q) (hs : Ly 1 (.str s)) : dNe (.tup [.str s, q]) (.tup [.str s, q]) = .ok (.bl false) := dNe_self ((Ly.tup (n := 1) (forall_cons hs (forall_cons h.ly forall_nil))).lay (by decide))
theorem q_non {s : Str} (h : dNe (.tup [.str s, .non]) (.tup [.str "good", .non]) = .ok (.bl true)) : Q86 s .non := ⟨by rfl, .non, h⟩
theorem LT_good : ∀ x ∈ LT, Q86 "tongue" x.2 := by
  unfold LT
  refine forall_app (forall_app (forall_app (forall_app ?_ (forall_map fun s hs => ⟨by rfl, ⟨by rfl, by show 0 ≤ 1; decide⟩, by rfl⟩)) (forall_map fun s hs => ⟨by rfl, ⟨by rfl, by show 0 ≤ 1; decide⟩, by rfl⟩)) (forall_map fun s hs => ⟨by rfl, ⟨by rfl, by show 0 ≤ 1; decide⟩, by rfl⟩)) (forall_map fun s hs => ⟨by rfl, ⟨by rfl, by show 0 ≤ 1; decide⟩, by rfl⟩)
  unfold kndL
  exact forall_cons (q_non (by rfl)) (forall_cons (q_non (by rfl)) (forall_cons (q_non (by rfl)) (forall_cons (q_non (by rfl)) forall_nil)))
theorem q_int {i : Int} : Q86 "wants" (.int i) := ⟨by rfl, .int, by rfl⟩
theorem LW_good : ∀ x ∈ LW, Q86 "wants" x.2 := by
  unfold LW
  refine forall_cons (q_non (by rfl)) (forall_cons (q_non (by rfl)) (forall_cons (q_non (by rfl)) (forall_cons (q_non (by rfl)) (forall_cons q_int (forall_cons q_int ?_)))))
  exact forall_cons q_int (forall_cons q_int (forall_cons q_int (forall_cons q_int (forall_cons q_int (forall_cons q_int forall_nil)))))
theorem gg : dNe (.str "good") (.str "good") = .ok (.bl false) := by rfl
theorem gn : dNe (.tup [.str "good", .non]) (.tup [.str "good", .non]) = .ok (.bl false) := by rfl
theorem lyT : Ly 1 (.str "tongue") := ⟨by rfl, by decide⟩
theorem lyW : Ly 1 (.str "wants") := ⟨by rfl, by decide⟩
/-- the good one, or one of the others -/
theorem pickT {j : Nat} (h : j < 23) : ∃ x : D × D, dIx (.lst ((LT ++ [(gT, D.str "good")]).map tp)) (.int (j : Nat)) = .ok (tp x) ∧ (x ∈ LT ∨ x = (gT, .str "good")) := by
  have hl : j < (LT ++ [(gT, D.str "good")]).length := h
  refine ⟨(LT ++ [(gT, D.str "good")])[j], dIx_at (F := tp) (List.getElem?_eq_getElem hl), ?_⟩
  rcases List.mem_append.mp (List.getElem_mem hl) with m | m
  · exact .inl m
  · exact .inr (List.mem_singleton.mp m)
theorem pickW {j : Nat} (h : j < 13) : ∃ x : D × D, dIx (.lst ((LW ++ [(wG, D.str "good")]).map tp)) (.int (j : Nat)) = .ok (tp x) ∧ (x ∈ LW ∨ x = (wG, .str "good")) := by
  have hl : j < (LW ++ [(wG, D.str "good")]).length := h
  refine ⟨(LW ++ [(wG, D.str "good")])[j], dIx_at (F := tp) (List.getElem?_eq_getElem hl), ?_⟩
  rcases List.mem_append.mp (List.getElem_mem hl) with m | m
  · exact .inl m
  · exact .inr (List.mem_singleton.mp m)
theorem told_te {t w : D} {q : D} (h : FX_look_at_tongue [t] = .exc (exT q)) {k : Int} (h0 : 0 ≤ k) (h1 : k < 35) : F__law_told [.int k, t, w] = .ok (.tup [.str "tongue", q]) := by
  show told (DX k t w) = _
  have : DX k t w = .exc (exT q) := by
    unfold DX
    by_cases c1 : k < 9
    · rw [if_pos c1]
      exact stage2_e h h0 c1
    · rw [if_neg c1]
      by_cases c2 : k < 21
      · rw [if_pos c2]
        exact alone_e h (by omega) c2
      · rw [if_neg c2, if_pos h1]
        exact with_t h (by omega) h1
  rw [this, told_t]
theorem told_we {t w d : D} {q : D} (hw : FX_look_at_wants [w] = .exc (exW q)) {k : Int} (h0 : 20 < k) (h1 : k < 39) (h : FX_look_at_tongue [t] = .ok d ∨ 35 ≤ k) : F__law_told [.int k, t, w] = .ok (.tup [.str "wants", q]) := by
  show told (DX k t w) = _
  have : DX k t w = .exc (exW q) := by
    unfold DX
    rw [if_neg (by omega), if_neg (by omega)]
    by_cases c : k < 35
    · rw [if_pos c]
      rcases h with h | h
      · exact with_w h hw (by omega) c
      · omega
    · rw [if_neg c]
      exact wants_alone_e hw (by omega) h1
  rw [this, told_w]
def lS8 (s : D) (x1 x2 x3 x4 x5 x6 x7 x8 : Option Slot) : Env := [some (.frz s), x1, x2, x3, x4, x5, x6, x7, x8]
theorem body86 {s : D} (k : Nat) (hk : k ≤ 100) (c : Int) : ∃ x3 x4 x5 x6 x7 x8, B_law_1 (lS8 s (some (.frz (.int (k : Nat)))) (some (.frz (.int c))) none none none none none none) = .nx (lS8 s (some (.frz (.int (k : Nat)))) (some (.frz (.int c))) x3 x4 x5 x6 x7 x8) := by
  obtain ⟨row, ed, hs⟩ := draws_e c (k := (k : Nat)) (by omega) (by omega) (ms := [39, 23, 13, 3]) (by decide) (by decide)
  have ed : F__law_draws [.int c, .int (k : Nat), .lst [.int 39, .int 23, .int 13, .int 3]] = .ok (dsD row) := ed
  obtain ⟨r0, x0, b0, _⟩ := ds_at hs 0 (m := 39) rfl
  obtain ⟨r1, x1, b1, _⟩ := ds_at hs 1 (m := 23) rfl
  obtain ⟨r2, x2, b2, _⟩ := ds_at hs 2 (m := 13) rfl
  obtain ⟨r3, x3, b3, _⟩ := ds_at hs 3 (m := 3) rfl
  have x0 : dIx (dsD row) (.int 0) = .ok (.int (r0 : Nat)) := x0
  have x1 : dIx (dsD row) (.int 1) = .ok (.int (r1 : Nat)) := x1
  have x2 : dIx (dsD row) (.int 2) = .ok (.int (r2 : Nat)) := x2
  have x3 : dIx (dsD row) (.int 3) = .ok (.int (r3 : Nat)) := x3
  obtain ⟨j, hj, ej⟩ : ∃ j : Nat, j < 23 ∧ dIx (.lst [.int (r1 : Nat), .int (r1 : Nat), .int 22]) (.int (r3 : Nat)) = .ok (.int (j : Nat)) := by
    have : r3 = 0 ∨ r3 = 1 ∨ r3 = 2 := by omega
    rcases this with rfl | rfl | rfl
    · exact ⟨r1, by omega, rfl⟩
    · exact ⟨r1, by omega, rfl⟩
    · exact ⟨22, by omega, rfl⟩
  obtain ⟨x, ex, hx⟩ := pickT hj
  obtain ⟨y, ey, hy⟩ := pickW (j := r2) (by omega)
  have te := tongues_e
  have we := wants_e
  generalize D.lst ((LT ++ [(gT, D.str "good")]).map tp) = tl at *
  generalize D.lst ((LW ++ [(wG, D.str "good")]).map tp) = wl at *
  unfold tp at ex ey
  have key : ∃ (due : D) (z : Bool), (sIf [] (bAnd (bT (eOp dLt (eOp dIx (eVar 3) (eC (.int 0))) (eC (.int 35)))) (bT (eOp dNe (eVar 5) (eC (.str "good")))))
      (sAsg [] (eTup (aCons (eC (.str "tongue")) (aCons (eVar 5) aNil))) (tgN 8))
      (sIf [] (bAnd (bT (eOp dGt (eOp dIx (eVar 3) (eC (.int 0))) (eC (.int 20)))) (bT (eOp dNe (eVar 7) (eC (.str "good")))))
      (sAsg [] (eTup (aCons (eC (.str "wants")) (aCons (eVar 7) aNil))) (tgN 8))
      sPass)) (lS8 s (some (.frz (.int (k : Nat)))) (some (.frz (.int c))) (some (.frz (dsD row))) (some (.frz x.1)) (some (.frz x.2)) (some (.frz y.1)) (some (.frz y.2)) (some (.frz (.tup [.str "good", .non])))) = .nx (lS8 s (some (.frz (.int (k : Nat)))) (some (.frz (.int c))) (some (.frz (dsD row))) (some (.frz x.1)) (some (.frz x.2)) (some (.frz y.1)) (some (.frz y.2)) (some (.frz due))) ∧ dNe due (.tup [.str "good", .non]) = .ok (.bl z) ∧ (z = true → F__law_told [.int (r0 : Nat), x.1, y.1] = .ok due ∧ dNe due due = .ok (.bl false)) := by
    by_cases c1 : r0 < 35 ∧ x ∈ LT
    · obtain ⟨c1, c2⟩ := c1
      have q := LT_good x c2
      refine ⟨.tup [.str "tongue", x.2], true, ?_, q.dg, fun _ => ⟨told_te (LT_bad x c2) (by omega) (by omega), q.self lyT⟩⟩
      have := q.ng
      generalize dsD row = w at *
      generalize (D.str "good") = gd at *
      cases im : imm x.2 <;> simp [lS8, x0, show ((r0 : Nat) : Int) < 35 by omega, this, im]
    · have n1 : r0 < 35 → x = (gT, .str "good") := fun c => by
        rcases hx with hx | hx
        · exact absurd ⟨c, hx⟩ c1
        · exact hx
      have b1 : (bAnd (bT (eOp dLt (eOp dIx (eVar 3) (eC (.int 0))) (eC (.int 35)))) (bT (eOp dNe (eVar 5) (eC (.str "good"))))) (view [] (lS8 s (some (.frz (.int (k : Nat)))) (some (.frz (.int c))) (some (.frz (dsD row))) (some (.frz x.1)) (some (.frz x.2)) (some (.frz y.1)) (some (.frz y.2)) (some (.frz (.tup [.str "good", .non]))))) = .ok false := by
        by_cases c : r0 < 35
        · have e := congrArg Prod.snd (n1 c)
          dsimp only at e
          have g := gg
          rw [← e] at g
          generalize dsD row = w at *
          rw [e] at g ⊢
          generalize (D.str "good") = gd at *
          simp [lS8, x0, show ((r0 : Nat) : Int) < 35 by omega, g]
        · generalize dsD row = w at *
          generalize (D.str "good") = gd at *
          simp [lS8, x0, show ¬ ((r0 : Nat) : Int) < 35 by omega]
      by_cases c2 : 20 < r0 ∧ y ∈ LW
      · obtain ⟨c2, c3⟩ := c2
        have q := LW_good y c3
        have lk : FX_look_at_tongue [x.1] = .ok .non ∨ (35 : Int) ≤ (r0 : Nat) := by
          by_cases c : r0 < 35
          · rw [n1 c]
            exact .inl lookG
          · exact .inr (by omega)
        refine ⟨.tup [.str "wants", y.2], true, ?_, q.dg, fun _ => ⟨told_we (LW_bad y c3) (by omega) (by omega) lk, q.self lyW⟩⟩
        rw [sIf_e, b1, atR_ok, ifC_f]
        have := q.ng
        generalize dsD row = w at *
        generalize (D.str "good") = gd at *
        cases im : imm y.2 <;> simp [lS8, x0, show (20 : Int) < ((r0 : Nat) : Int) by omega, this, im]
      · refine ⟨.tup [.str "good", .non], false, ?_, gn, fun z => nomatch z⟩
        rw [sIf_e, b1, atR_ok, ifC_f]
        by_cases c : 20 < r0
        · have e : y = (wG, .str "good") := by
            rcases hy with hy | hy
            · exact absurd ⟨c, hy⟩ c2
            · exact hy
          have e := congrArg Prod.snd e
          dsimp only at e
          have g := gg
          generalize dsD row = w at *
          rw [e]
          generalize (D.str "good") = gd at *
          simp [lS8, x0, show (20 : Int) < ((r0 : Nat) : Int) by omega, g]
        · generalize dsD row = w at *
          generalize (D.str "good") = gd at *
          simp [lS8, x0, show ¬ (20 : Int) < ((r0 : Nat) : Int) by omega]
  obtain ⟨due, z, h1, h2, h3⟩ := key
  rw [B_law_1_u]
  refine ⟨some (.frz (dsD row)), some (.frz x.1), some (.frz x.2), some (.frz y.1), some (.frz y.2), some (.frz due), ?_⟩
  refine seq_to (ρ' := lS8 s (some (.frz (.int (k : Nat)))) (some (.frz (.int c))) (some (.frz (dsD row))) none none none none none) (by
    generalize dsD row = w at *
    simp [lS8, ed]) ?_
  refine seq_to (ρ' := lS8 s (some (.frz (.int (k : Nat)))) (some (.frz (.int c))) (some (.frz (dsD row))) (some (.frz x.1)) (some (.frz x.2)) none none none) (by
    have e1 : eLst (aCons (eOp dIx (eVar 3) (eC (.int 1))) (aCons (eOp dIx (eVar 3) (eC (.int 1))) (aCons (eC (.int 22)) aNil))) [some s, some (.int (k : Nat)), some (.int c), some (dsD row), none, none, none, none, none] = .ok (.lst [.int (r1 : Nat), .int (r1 : Nat), .int 22]) := by
      generalize dsD row = w at *
      simp [x1]
    have e2 : eOp dIx (eCall F__law_tongues aNil) (eOp dIx (eLst (aCons (eOp dIx (eVar 3) (eC (.int 1))) (aCons (eOp dIx (eVar 3) (eC (.int 1))) (aCons (eC (.int 22)) aNil)))) (eOp dIx (eVar 3) (eC (.int 3)))) [some s, some (.int (k : Nat)), some (.int c), some (dsD row), none, none, none, none, none] = .ok (.tup [x.1, x.2]) := by
      rw [eOp_e, eOp_e, e1]
      generalize D.lst [.int (r1 : Nat), .int (r1 : Nat), .int 22] = l3 at *
      generalize dsD row = w at *
      simp [te, x3, ej, ex]
    rw [sAsg_e]
    show atR _ _ (eOp dIx (eCall F__law_tongues aNil) _ [some s, some (.int (k : Nat)), some (.int c), some (dsD row), none, none, none, none, none]) = _
    rw [e2, atR_ok]
    cases im : imms [x.1, x.2] <;> simp [lS8, im]) ?_
  refine seq_to (ρ' := lS8 s (some (.frz (.int (k : Nat)))) (some (.frz (.int c))) (some (.frz (dsD row))) (some (.frz x.1)) (some (.frz x.2)) (some (.frz y.1)) (some (.frz y.2)) none) (by
    generalize dsD row = w at *
    cases im : imms [y.1, y.2] <;> simp [lS8, we, x2, ey]) ?_
  refine seq_to (ρ' := lS8 s (some (.frz (.int (k : Nat)))) (some (.frz (.int c))) (some (.frz (dsD row))) (some (.frz x.1)) (some (.frz x.2)) (some (.frz y.1)) (some (.frz y.2)) (some (.frz (.tup [.str "good", .non])))) (by
    generalize dsD row = w at *
    simp [lS8]) ?_
  refine seq_to h1 ?_
  clear h1
  generalize dsD row = w at *
  cases z with
  | false =>
    generalize (D.str "good") = gd at *
    simp [lS8, h2]
  | true =>
    obtain ⟨h4, h5⟩ := h3 rfl
    generalize (D.str "good") = gd at *
    simp [lS8, h2, x0, h4, h5]
theorem law_e (ns : List Int) (hl : ns.length ≤ 63) : F_law [.scr ns] = .ok (.bl true) := by
  let cs : List Int := 0 :: cutD ns none (some 60)
  have cl : cs.length ≤ 100 := by
    show (cutD ns none (some 60)).length + 1 ≤ 100
    have : (cutD ns none (some 60)).length ≤ ns.length := by
      unfold cutD
      rw [List.length_take, List.length_drop]
      omega
    omega
  have da : dAdd (.lst [.int 0]) (.lst ((cutD ns none (some 60)).map D.int)) = .ok (dsD cs) := by
    have : (cutD ns none (some 60)).length + 1 ≤ 100 := cl
    rw [dAdd_lst (by rw [List.length_map, List.length_singleton]; omega)]
    rfl
  have e1 : forL (tgT [(tgN 1), (tgN 2)]) B_law_1 [1, 2, 3, 4, 5, 6, 7, 8] (numbered 0 (cs.map D.int)) (lS8 (.scr ns) none none none none none none none none) = .nx (lS8 (.scr ns) none none none none none none none none) := by
    refine forL_same fun d hd => ?_
    obtain ⟨i, x, hx, rfl⟩ := numbered_mem hd
    rw [List.getElem?_map] at hx
    obtain ⟨c, hc, rfl⟩ := Option.map_eq_some_iff.mp hx
    have hi : i < cs.length := (List.getElem?_eq_some_iff.mp hc).1
    rw [Nat.zero_add]
    obtain ⟨x3, x4, x5, x6, x7, x8, e⟩ := body86 (s := .scr ns) i (by omega) c
    exact ⟨_, _, rfl, e, rfl⟩
  show outR (B_law (lS8 (.scr ns) none none none none none none none none)) = _
  have : B_law (lS8 (.scr ns) none none none none none none none none) = .rt (.bl true) (lS8 (.scr ns) none none none none none none none none) := by
    rw [B_law_u]
    refine seq_to (for_to (ds := numbered 0 (cs.map D.int)) (ρ' := lS8 (.scr ns) none none none none none none none none) (by
      have sl : dSl (.scr ns) none (some 60) = .ok (.lst ((cutD ns none (some 60)).map D.int)) := rfl
      have en : dEnum [dsD cs] = .ok (numbered 0 (cs.map D.int)) := rfl
      generalize numbered 0 (cs.map D.int) = nb at *
      generalize dsD cs = cd at *
      unfold iEnumD
      simp [lS8, sl, da, en]) rfl e1) ?_
    simp [lS8]
  rw [this]
  rfl
end Du

namespace Dear
open PySem PySem.Spec PyProof.Rows L2
/-- law's: a list of at most 63 ints is handed in, True comes out -/
def spLaw (K : PySem.W.Frag) : Sp := fun vs H Q _ => ∃ (a : Addr) (ns : List Int), vs = [.ref a] ∧ SqL K H a (ns.map V.int) ∧ ns.length ≤ 63 ∧ ∀ H', Q (.bl true) H'
end Dear

namespace Dear
open PySem PySem.Spec PyProof.Rows L2
theorem ok_law {P : Program} {w : World} {K : PySem.W.Frag} {mg : Str → Option Value} {base : Heap} (T : Txt K mg) {f : Addr} {fd : FuncData} (F : L2.Fun K "law" "law" s_law f fd) : FnOk P w K mg base CX0 20 f fd ["_law_script"] (spLaw K) := (Du.law_of (Du.ok_law T F) Du.law_e).mono (by decide)
end Dear

namespace Dear
open PySem PySem.Spec PyProof.Rows L2
theorem walk {l : PySem.W.OpenLaw} {q : Program} {loose : List Str} {XP : (Str → Option Value) → Heap → Prop} {YP : World → Heap → Prop} {d : DefRec} {K : Params → PySem.W.Frag} (hn : l.most = some 63) (hdf : d.params.defaults = [])
    (hY : ∀ (w : World) (h : Heap), YP w h → (K w.params).In h)
    (F : ∀ (w : World) (mg : Str → Option Value) (fa : Addr) (h : Heap), (K w.params).In h → h.Ns mainGlobals mg → mg d.name = some (.ref fa) →
      ∃ fd : FuncData, (∀ (s : Shared) (u : Value), BindsTo s fd ⟨[u], []⟩ [("_law_script", u)]) ∧ ∀ base : Heap, (K w.params).In base → base.Ns mainGlobals mg → FnOk l.prog w (K w.params) mg base CX0 20 fa fd ["_law_script"] (spLaw (K w.params))) :
    PySem.W.WalkO q loose XP YP l.row.toRowW d [] (fun f vs => PySem.call f vs) :=
  L2.walk_of (n := 63) (k := 20) (x := "_law_script") (CX := fun _ => CX0) (sp := fun w => spLaw (K w.params)) hn (by decide) hdf ⟨rfl, by decide, by decide⟩ hY F (fun _ _ a ns hl _ hS => ⟨a, ns, rfl, hS, hl, fun _ => rfl⟩) fun _ _ _ _ _ z => z
theorem fin {l : PySem.W.OpenLaw} {w : World} {K : PySem.W.Frag} {h : Heap} {mg : Str → Option Value} {fa : Addr} (X : K.In h) (G : h.Ns mainGlobals mg) (hfa : mg "law" = some (.ref fa)) (T : Txt K mg) :
    ∃ fd : FuncData, (∀ (s : Shared) (v : Value), BindsTo s fd ⟨[v], []⟩ [("_law_script", v)]) ∧ ∀ base : Heap, K.In base → base.Ns mainGlobals mg → FnOk l.prog w K mg base CX0 20 fa fd ["_law_script"] (spLaw K) := by
  obtain ⟨f, fd, hm, F, hb⟩ := id T.f_law
  have e := hfa.symm.trans hm
  cases e
  refine ⟨fd, fun s v => ?_, fun base _ _ => (ok_law T F).mono (by decide)⟩
  obtain ⟨oc, od, kV, doc, pm, an, cdv, ct, osl, rfl, lk, hcd⟩ := F.ex
  exact .of_eq rfl
end Dear

namespace Oh
open PySem PySem.Spec PyProof.Rows L2 He Dear
section
variable {fb : PySem.W.Frag → List (List Bool)} {fn : List DefD} {K : PySem.W.Frag}
theorem Says.one (c : Says fb fn K) : (fb K).all (fun l => l.all fun b => b) = true ∧ fn.all (fun d => d.ok K) = true ∧ fn.map (fun d => fnW K d.at_) = fn.map DefD.val := by
  obtain ⟨p, q⟩ := Prod.mk.inj (show ((fb K).all (fun l => l.all fun b => b) && fn.all fun d => d.ok K, fn.map fun d => fnW K d.at_) = (true, fn.map DefD.val) from c)
  exact ⟨(ba p).1, (ba p).2, q⟩
theorem Says.fact (c : Says fb fn K) (i j : Nat) {l : List Bool} {b : Bool} (h : (fb K)[i]? = some l := by rfl) (h2 : l[j]? = some b := by rfl) : b = true :=
  List.all_eq_true.mp (List.all_eq_true.mp c.one.1 l (List.mem_of_getElem? h)) b (List.mem_of_getElem? h2)
theorem Says.def_ (c : Says fb fn K) (i : Nat) {d : DefD} (h : fn[i]? = some d := by rfl) : ∃ fd, FunD K d.name d.qual d.params d.body d.scope (d.dvs K) (d.kws K) (fAd K d.at_) fd := by
  have z := congrArg (fun l => l[i]?) c.one.2.2
  rw [List.getElem?_map, List.getElem?_map, h] at z
  exact DefD.funD (Option.some.inj z) (List.all_eq_true.mp c.one.2.1 d (List.mem_of_getElem? h))
end
section
variable {K : PySem.W.Frag} {mg : Str → Option Value} {x y m q : Str} {st : Stmt} {ps : List Str} {f C : Addr}
theorem fun_of {fd : FuncData} {kws : List (Str × V)} (F : FunD K x q (defArgs st) (defBody st) (defScope st) [] kws f fd) : L2.Fun K x q st f fd := by
  obtain ⟨oc, od, dV, kV, doc, pm, an, cdv, ct, osl, e, l, c, hd, _⟩ := F.ex
  rcases hd with ⟨_, e2⟩ | ⟨e2, _⟩
  · subst e2
    exact ⟨⟨oc, od, kV, doc, pm, an, cdv, ct, osl, e, l, c⟩, F.kp⟩
  · exact absurd rfl e2
/-- how arguments come to the parameters of a plain def -/
def Bi (x q : Str) (st : Stmt) (ps : List Str) : Prop := ∀ (kV doc pm : Value) (an : Option Addr) (cdv ct : Value) (us : List Value), us.length = ps.length → bindArgs (PySem.W.fnOf x q (defArgs st) (defBody st) (defScope st) .none kV doc pm an cdv ct) ⟨us, []⟩ = pure (ps.zip us)
theorem df_of (g : mg x = some (.ref f)) (F : ∃ fd, FunD K x x (defArgs st) (defBody st) (defScope st) [] [] f fd) (b : Bi x x st ps) : Df K mg x st ps := by
  obtain ⟨fd, F⟩ := F
  exact ⟨f, fd, g, fun_of F, F.bindsN b⟩
theorem dfA_of (g : mg y = some (.ref f)) (F : ∃ fd, FunD K x x (defArgs st) (defBody st) (defScope st) [] [] f fd) (b : Bi x x st ps) : DfA K mg y x st ps := by
  obtain ⟨fd, F⟩ := F
  exact ⟨f, fd, g, fun_of F, F.bindsN b⟩
theorem dfM_of (g : Meth K C m f) (F : ∃ fd, FunD K m q (defArgs st) (defBody st) (defScope st) [] [] f fd) (b : Bi m q st ps) : DfM K C m q st ps := by
  obtain ⟨fd, F⟩ := F
  exact ⟨f, fd, g, fun_of F, F.bindsN b⟩
theorem dfC_of (h : mg x = some (.ref C)) (g : L2.Mk K C f) (F : ∃ fd, FunD K "__init__" q (defArgs st) (defBody st) (defScope st) [] [] f fd) (b : Bi "__init__" q st ps) : DfC K mg x C q st ps := by
  obtain ⟨fd, F⟩ := F
  exact ⟨h, f, fd, g, fun_of F, F.bindsN b⟩
theorem dfCD_of {dvs : List V} (h : mg x = some (.ref C)) (g : L2.Mk K C f) (F : ∃ fd, FunD K "__init__" q (defArgs st) (defBody st) (defScope st) dvs [] f fd) (hd : dvs ≠ []) (hz : dvs.drop dvs.length = [])
    (h2 : ∀ (T : Addr) (kV doc pm : Value) (an : Option Addr) (cdv ct : Value) (us its : List Value), us.length = ps.length → its.length = dvs.length →
      ∃ k, bindArgs (PySem.W.fnOf "__init__" q (defArgs st) (defBody st) (defScope st) (.ref T) kV doc pm an cdv ct) ⟨us, []⟩ = seqItems? (.ref T) >>= k ∧ k (some its.toArray) = pure (ps.zip (us ++ its.drop dvs.length))) : DfCD K mg x C q st ps dvs := by
  obtain ⟨fd, F⟩ := F
  refine ⟨h, f, fd, g, F, ?_⟩
  obtain ⟨ds, v, b⟩ := F.binds1 ps.length dvs.length hd (by omega) h2
  rw [hz] at v
  cases v
  exact b
theorem dfI_of {z : Str} (i1 : PySem.W.findIn K (.ref C) "__init__" = some (some (.ref f))) (i2 : PySem.W.typeIn K (.ref f) = some (.type "function")) (F : ∃ fd, FunD K "__init__" q (defArgs st) (defBody st) (defScope st) [] [] f fd) (b : Bi "__init__" q st ["self", z]) : DfI K C q st z := by
  obtain ⟨fd, F⟩ := F
  exact ⟨f, fd, i1, i2, fun_of F, F.bindsN b⟩
theorem dfD_of {dvs : List V} (g : mg x = some (.ref f)) (F : ∃ fd, FunD K x x (defArgs st) (defBody st) (defScope st) dvs [] f fd) (hd : dvs ≠ []) {m : Nat} (hn : m + dvs.length = ps.length) (hz : dvs.drop dvs.length = [])
    (h1 : ∀ (T : Addr) (kV doc pm : Value) (an : Option Addr) (cdv ct : Value) (us its : List Value), us.length = m → its.length = dvs.length →
      ∃ k, bindArgs (PySem.W.fnOf x x (defArgs st) (defBody st) (defScope st) (.ref T) kV doc pm an cdv ct) ⟨us, []⟩ = seqItems? (.ref T) >>= k ∧ k (some its.toArray) = pure (ps.zip (us ++ its.drop 0)))
    (h2 : ∀ (T : Addr) (kV doc pm : Value) (an : Option Addr) (cdv ct : Value) (us its : List Value), us.length = ps.length → its.length = dvs.length →
      ∃ k, bindArgs (PySem.W.fnOf x x (defArgs st) (defBody st) (defScope st) (.ref T) kV doc pm an cdv ct) ⟨us, []⟩ = seqItems? (.ref T) >>= k ∧ k (some its.toArray) = pure (ps.zip (us ++ its.drop dvs.length))) : DfD K mg x st ps dvs := by
  obtain ⟨fd, F⟩ := F
  refine ⟨f, fd, g, F, F.binds1 m 0 hd (by omega) h1, ?_⟩
  obtain ⟨ds, v, b⟩ := F.binds1 ps.length dvs.length hd (by omega) h2
  rw [hz] at v
  cases v
  exact b
end
/-! ### an own exception class with an own __init__ -/
theorem oexC_of {K : PySem.W.Frag} {C : Addr} {bm : List Value} (h : excB K C bm = true) (hb : PySem.HandSPX.refsVE bm = true) (sa : PySem.W.findIn K (.ref C) "__setattr__" = some (some (.builtin "object.__setattr__"))) (s : PySem.W.subIn K (.ref C) (.type "BaseException") = some true)
    (t : PySem.W.typeIn K (.ref C) = some (.type "type")) (k : PySem.W.keepIn K (.ref C) = true) : OexC K C := by
  refine ⟨?_, sa, s, t, k⟩
  unfold excB at h
  split at h
  · rename_i t1 dd cd sl ho
    split at h
    · rename_i k0 k1 k2 k3 n k5 hs
      obtain ⟨h1, h⟩ := ba h
      obtain ⟨h2, h⟩ := ba h
      obtain ⟨h3, h⟩ := ba h
      obtain ⟨h4, h5⟩ := ba h
      have e1 := of_decide_eq_true h1
      have e2 := of_decide_eq_true h2
      have e3 := of_decide_eq_true h3
      subst e1 e2
      obtain ⟨nm, bs, mro, ns, qn, hd, sn, sub, ab, col, del⟩ := cd
      dsimp only at e3 h4 h5
      rw [Bool.not_eq_true'] at h4
      subst e3 h4 h5
      have hsl : sl = #[k0, k1, k2, k3, some (.builtin "ValueError.__new__"), k5] := by
        obtain ⟨l⟩ := sl
        simp only at hs
        rw [hs]
      subst hsl
      exact ⟨nm, qn, ns, bs, bm, sn, sub, ab, col, dd, k0, k1, k2, k3, k5, ho, hb⟩
    · cases h
  · cases h
theorem val_of {o : Option PySem.W.CFound} {n : String} (h : valB o n = true) : o = some (.val (.builtin n)) := by
  unfold valB at h
  split at h
  · rw [of_decide_eq_true h]
  · cases h
/-! ### constants and tuples of the top -/
theorem vB_ok {K : PySem.W.Frag} {h : Heap} {mg : Str → Option Value} (X : K.In h) (G : h.Ns mainGlobals mg) {x : Str} {v : V} (c : vB K x v = true) : ∃ u, mg x = some u ∧ RelV v u := by
  unfold vB at c
  split at c
  · rename_i u e
    exact ⟨u, PySem.W.mg_of X G e, relB_ok c⟩
  · cases c
theorem str_of {K : PySem.W.Frag} {h : Heap} {mg : Str → Option Value} (X : K.In h) (G : h.Ns mainGlobals mg) {x z : Str} (c : vB K x (.str z) = true) : ∃ t, mg x = some (.str z t) := by
  obtain ⟨u, e, r⟩ := vB_ok X G c
  obtain ⟨t, r⟩ := r
  subst r
  exact ⟨t, e⟩
theorem int_of {K : PySem.W.Frag} {h : Heap} {mg : Str → Option Value} (X : K.In h) (G : h.Ns mainGlobals mg) {x : Str} {i : Int} (c : vB K x (.int i) = true) : ∃ t, mg x = some (.int i t) := by
  obtain ⟨u, e, r⟩ := vB_ok X G c
  obtain ⟨t, r⟩ := r
  subst r
  exact ⟨t, e⟩
end Oh
namespace Dear
open PySem PySem.Spec PyProof.Rows L2
noncomputable def ohTxt {K : PySem.W.Frag} {h : Heap} {mg : Str → Option Value} (X : K.In h) (G : h.Ns mainGlobals mg) (c : Oh.SaysL ohPs K) : Txt K mg :=
  ⟨⟨He.ga K "DearError", He.ga K "NoNumber", He.ga K "NoBook", He.ga K "NoTree", He.ga K "TooMany", He.ga K "NoTurn", He.ga K "NoTongue", He.ga K "NoWants", He.ga K "Sets", He.ga K "Lister", He.ga K "Search", He.ga K "Keeper", He.ga K "Judge", He.ga K "Seeker"⟩,
   (PySem.W.mg_of X G (of_decide_eq_true ((c.at_ 0).fact 0 0))),
   (PySem.W.mg_of X G (of_decide_eq_true ((c.at_ 0).fact 1 0))),
   (PySem.W.mg_of X G (of_decide_eq_true ((c.at_ 0).fact 2 0))),
   (PySem.W.mg_of X G (of_decide_eq_true ((c.at_ 0).fact 3 0))),
   (PySem.W.mg_of X G (of_decide_eq_true ((c.at_ 0).fact 4 0))),
   (PySem.W.mg_of X G (of_decide_eq_true ((c.at_ 0).fact 5 0))),
   (PySem.W.mg_of X G (of_decide_eq_true ((c.at_ 0).fact 6 0))),
   (PySem.W.mg_of X G (of_decide_eq_true ((c.at_ 0).fact 7 0))),
   ⟨PySem.W.mg_of X G (of_decide_eq_true ((c.at_ 0).fact 4 0)), ((c.at_ 0).fact 8 0), ((c.at_ 0).fact 8 1), (of_decide_eq_true ((c.at_ 0).fact 8 2)), (of_decide_eq_true ((c.at_ 0).fact 8 3)), ⟨(of_decide_eq_true ((c.at_ 0).fact 8 4)), (of_decide_eq_true ((c.at_ 0).fact 8 5)), (of_decide_eq_true ((c.at_ 0).fact 8 6)), ((c.at_ 0).fact 8 7), (of_decide_eq_true ((c.at_ 0).fact 8 8)), (of_decide_eq_true ((c.at_ 0).fact 8 9)), (of_decide_eq_true ((c.at_ 0).fact 8 10)), (of_decide_eq_true ((c.at_ 0).fact 8 11))⟩⟩,
   ⟨PySem.W.mg_of X G (of_decide_eq_true ((c.at_ 0).fact 0 0)), (of_decide_eq_true ((c.at_ 0).fact 9 0)), ((c.at_ 0).fact 9 1), Oh.val_of ((c.at_ 0).fact 9 2)⟩,
   ⟨PySem.W.mg_of X G (of_decide_eq_true ((c.at_ 0).fact 6 0)), Oh.oexC_of ((c.at_ 0).fact 10 0) rfl (of_decide_eq_true ((c.at_ 0).fact 10 1)) (of_decide_eq_true ((c.at_ 0).fact 10 2)) (of_decide_eq_true ((c.at_ 0).fact 10 3)) ((c.at_ 0).fact 10 4), (of_decide_eq_true ((c.at_ 0).fact 10 5)), ⟨(of_decide_eq_true ((c.at_ 0).fact 10 6)), (of_decide_eq_true ((c.at_ 0).fact 10 7)), (of_decide_eq_true ((c.at_ 0).fact 10 8)), ((c.at_ 0).fact 10 9), (of_decide_eq_true ((c.at_ 0).fact 10 10)), (of_decide_eq_true ((c.at_ 0).fact 10 11)), (of_decide_eq_true ((c.at_ 0).fact 10 12)), (of_decide_eq_true ((c.at_ 0).fact 10 13))⟩⟩,
   (Oh.dfI_of (st := s_NoTongue___init__) (of_decide_eq_true ((c.at_ 0).fact 10 14)) (of_decide_eq_true ((c.at_ 0).fact 10 15)) ((c.at_ 2).def_ 0) (fun _ _ _ _ _ _ us hl => match us, hl with | [_, _], _ => rfl)),
   ⟨PySem.W.mg_of X G (of_decide_eq_true ((c.at_ 0).fact 7 0)), Oh.oexC_of ((c.at_ 0).fact 11 0) rfl (of_decide_eq_true ((c.at_ 0).fact 11 1)) (of_decide_eq_true ((c.at_ 0).fact 11 2)) (of_decide_eq_true ((c.at_ 0).fact 11 3)) ((c.at_ 0).fact 11 4), (of_decide_eq_true ((c.at_ 0).fact 11 5)), ⟨(of_decide_eq_true ((c.at_ 0).fact 11 6)), (of_decide_eq_true ((c.at_ 0).fact 11 7)), (of_decide_eq_true ((c.at_ 0).fact 11 8)), ((c.at_ 0).fact 11 9), (of_decide_eq_true ((c.at_ 0).fact 11 10)), (of_decide_eq_true ((c.at_ 0).fact 11 11)), (of_decide_eq_true ((c.at_ 0).fact 11 12)), (of_decide_eq_true ((c.at_ 0).fact 11 13))⟩⟩,
   (Oh.dfI_of (st := s_NoWants___init__) (of_decide_eq_true ((c.at_ 0).fact 11 14)) (of_decide_eq_true ((c.at_ 0).fact 11 15)) ((c.at_ 2).def_ 1) (fun _ _ _ _ _ _ us hl => match us, hl with | [_, _], _ => rfl)),
   (of_decide_eq_true ((c.at_ 0).fact 12 0)),
   (of_decide_eq_true ((c.at_ 0).fact 13 0)),
   (of_decide_eq_true ((c.at_ 0).fact 14 0)),
   ⟨((c.at_ 0).fact 18 1), ((c.at_ 0).fact 18 2), ((c.at_ 0).fact 18 3), (of_decide_eq_true ((c.at_ 0).fact 18 4))⟩,
   (Oh.dfCD_of (st := s_Keeper___init__) (PySem.W.mg_of X G (of_decide_eq_true ((c.at_ 0).fact 18 0))) ⟨((c.at_ 0).fact 18 5), (of_decide_eq_true ((c.at_ 0).fact 19 0)), ((c.at_ 0).fact 19 1), ((c.at_ 0).fact 18 6)⟩ ((c.at_ 2).def_ 2) (by simp) rfl (fun _ _ _ _ _ _ _ us its h1 h2 => match us, its, h1, h2 with | [_, _, _, _, _], [_, _], _, _ => ⟨_, rfl, rfl⟩)),
   (Oh.dfM_of (st := s_Keeper_book_now) ⟨(of_decide_eq_true ((c.at_ 0).fact 20 0)), ((c.at_ 0).fact 20 1), ((c.at_ 0).fact 20 2)⟩ ((c.at_ 2).def_ 3) (fun _ _ _ _ _ _ us hl => match us, hl with | [_], _ => rfl)),
   ⟨((c.at_ 0).fact 21 1), ((c.at_ 0).fact 21 2), ((c.at_ 0).fact 21 3), (of_decide_eq_true ((c.at_ 0).fact 21 4))⟩,
   (Oh.dfC_of (st := s_Judge___init__) (PySem.W.mg_of X G (of_decide_eq_true ((c.at_ 0).fact 21 0))) ⟨((c.at_ 0).fact 21 5), (of_decide_eq_true ((c.at_ 0).fact 22 0)), ((c.at_ 0).fact 22 1), ((c.at_ 0).fact 21 6)⟩ ((c.at_ 2).def_ 4) (fun _ _ _ _ _ _ us hl => match us, hl with | [_, _, _, _], _ => rfl)),
   (Oh.dfM_of (st := s_Judge_is_so) ⟨(of_decide_eq_true ((c.at_ 0).fact 23 0)), ((c.at_ 0).fact 23 1), ((c.at_ 0).fact 23 2)⟩ ((c.at_ 2).def_ 5) (fun _ _ _ _ _ _ us hl => match us, hl with | [_, _, _], _ => rfl)),
   (Oh.dfM_of (st := s_Judge_is_tree) ⟨(of_decide_eq_true ((c.at_ 0).fact 24 0)), ((c.at_ 0).fact 24 1), ((c.at_ 0).fact 24 2)⟩ ((c.at_ 2).def_ 6) (fun _ _ _ _ _ _ us hl => match us, hl with | [_, _, _, _], _ => rfl)),
   (Oh.dfC_of (st := s_Seeker___init__) (PySem.W.mg_of X G (of_decide_eq_true ((c.at_ 0).fact 25 0))) ⟨((c.at_ 0).fact 25 5), (of_decide_eq_true ((c.at_ 0).fact 26 0)), ((c.at_ 0).fact 26 1), ((c.at_ 0).fact 25 6)⟩ ((c.at_ 2).def_ 7) (fun _ _ _ _ _ _ us hl => match us, hl with | [_, _, _, _, _], _ => rfl)),
   (Oh.df_of (st := s_is_whole) (PySem.W.mg_of X G (of_decide_eq_true ((c.at_ 0).fact 27 0))) ((c.at_ 2).def_ 8) (fun _ _ _ _ _ _ us hl => match us, hl with | [_], _ => rfl)),
   (Oh.df_of (st := s_is_name) (PySem.W.mg_of X G (of_decide_eq_true ((c.at_ 0).fact 28 0))) ((c.at_ 2).def_ 9) (fun _ _ _ _ _ _ us hl => match us, hl with | [_], _ => rfl)),
   (Oh.df_of (st := s_divisor) (PySem.W.mg_of X G (of_decide_eq_true ((c.at_ 0).fact 29 0))) ((c.at_ 2).def_ 10) (fun _ _ _ _ _ _ us hl => match us, hl with | [_, _], _ => rfl)),
   (Oh.df_of (st := s_is_fraction) (PySem.W.mg_of X G (of_decide_eq_true ((c.at_ 0).fact 30 0))) ((c.at_ 2).def_ 11) (fun _ _ _ _ _ _ us hl => match us, hl with | [_], _ => rfl)),
   (Oh.df_of (st := s_lowest) (PySem.W.mg_of X G (of_decide_eq_true ((c.at_ 0).fact 31 0))) ((c.at_ 2).def_ 12) (fun _ _ _ _ _ _ us hl => match us, hl with | [_, _], _ => rfl)),
   (Oh.df_of (st := s_plus) (PySem.W.mg_of X G (of_decide_eq_true ((c.at_ 0).fact 32 0))) ((c.at_ 2).def_ 13) (fun _ _ _ _ _ _ us hl => match us, hl with | [_, _], _ => rfl)),
   (Oh.df_of (st := s_is_price) (PySem.W.mg_of X G (of_decide_eq_true ((c.at_ 0).fact 33 0))) ((c.at_ 2).def_ 14) (fun _ _ _ _ _ _ us hl => match us, hl with | [_], _ => rfl)),
   (Oh.dfA_of (st := s_is_letter_tongues) (PySem.W.mg_of X G (of_decide_eq_true ((c.at_ 0).fact 34 0))) ((c.at_ 2).def_ 15) (fun _ _ _ _ _ _ us hl => match us, hl with | [_], _ => rfl)),
   (Oh.df_of (st := s_is_sign) (PySem.W.mg_of X G (of_decide_eq_true ((c.at_ 0).fact 35 0))) ((c.at_ 2).def_ 16) (fun _ _ _ _ _ _ us hl => match us, hl with | [_], _ => rfl)),
   (Oh.df_of (st := s_are_signs) (PySem.W.mg_of X G (of_decide_eq_true ((c.at_ 0).fact 36 0))) ((c.at_ 2).def_ 17) (fun _ _ _ _ _ _ us hl => match us, hl with | [_], _ => rfl)),
   (Oh.df_of (st := s_are_unlike_texts) (PySem.W.mg_of X G (of_decide_eq_true ((c.at_ 0).fact 37 0))) ((c.at_ 2).def_ 18) (fun _ _ _ _ _ _ us hl => match us, hl with | [_, _, _], _ => rfl)),
   (Oh.df_of (st := s_look_at_tongue) (PySem.W.mg_of X G (of_decide_eq_true ((c.at_ 0).fact 38 0))) ((c.at_ 2).def_ 19) (fun _ _ _ _ _ _ us hl => match us, hl with | [_], _ => rfl)),
   (Oh.df_of (st := s_may_come) (PySem.W.mg_of X G (of_decide_eq_true ((c.at_ 0).fact 39 0))) ((c.at_ 2).def_ 20) (fun _ _ _ _ _ _ us hl => match us, hl with | [_, _, _], _ => rfl)),
   (Oh.df_of (st := s_lasts_in) (PySem.W.mg_of X G (of_decide_eq_true ((c.at_ 0).fact 40 0))) ((c.at_ 2).def_ 21) (fun _ _ _ _ _ _ us hl => match us, hl with | [_], _ => rfl)),
   (Oh.df_of (st := s_may_stand) (PySem.W.mg_of X G (of_decide_eq_true ((c.at_ 0).fact 41 0))) ((c.at_ 2).def_ 22) (fun _ _ _ _ _ _ us hl => match us, hl with | [_, _], _ => rfl)),
   (Oh.df_of (st := s_is_word) (PySem.W.mg_of X G (of_decide_eq_true ((c.at_ 0).fact 42 0))) ((c.at_ 2).def_ 23) (fun _ _ _ _ _ _ us hl => match us, hl with | [_, _], _ => rfl)),
   (Oh.df_of (st := s_way_of) (PySem.W.mg_of X G (of_decide_eq_true ((c.at_ 0).fact 43 0))) ((c.at_ 2).def_ 24) (fun _ _ _ _ _ _ us hl => match us, hl with | [_, _], _ => rfl)),
   (Oh.df_of (st := s_price_of) (PySem.W.mg_of X G (of_decide_eq_true ((c.at_ 0).fact 44 0))) ((c.at_ 3).def_ 0) (fun _ _ _ _ _ _ us hl => match us, hl with | [_, _], _ => rfl)),
   (Oh.df_of (st := s_counts_by_length) (PySem.W.mg_of X G (of_decide_eq_true ((c.at_ 0).fact 45 0))) ((c.at_ 3).def_ 1) (fun _ _ _ _ _ _ us hl => match us, hl with | [_], _ => rfl)),
   (Oh.df_of (st := s_word_counts) (PySem.W.mg_of X G (of_decide_eq_true ((c.at_ 0).fact 46 0))) ((c.at_ 3).def_ 2) (fun _ _ _ _ _ _ us hl => match us, hl with | [_], _ => rfl)),
   (Oh.df_of (st := s_text_counts) (PySem.W.mg_of X G (of_decide_eq_true ((c.at_ 0).fact 47 0))) ((c.at_ 3).def_ 3) (fun _ _ _ _ _ _ us hl => match us, hl with | [_], _ => rfl)),
   (Oh.df_of (st := s_words_of) (PySem.W.mg_of X G (of_decide_eq_true ((c.at_ 0).fact 48 0))) ((c.at_ 3).def_ 4) (fun _ _ _ _ _ _ us hl => match us, hl with | [_], _ => rfl)),
   (Oh.df_of (st := s_is_want) (PySem.W.mg_of X G (of_decide_eq_true ((c.at_ 0).fact 49 0))) ((c.at_ 3).def_ 5) (fun _ _ _ _ _ _ us hl => match us, hl with | [_], _ => rfl)),
   (Oh.df_of (st := s_look_at_wants) (PySem.W.mg_of X G (of_decide_eq_true ((c.at_ 0).fact 50 0))) ((c.at_ 3).def_ 6) (fun _ _ _ _ _ _ us hl => match us, hl with | [_], _ => rfl)),
   (Oh.df_of (st := s_lets_floors) (PySem.W.mg_of X G (of_decide_eq_true ((c.at_ 0).fact 51 0))) ((c.at_ 3).def_ 7) (fun _ _ _ _ _ _ us hl => match us, hl with | [_, _, _, _], _ => rfl)),
   (Oh.df_of (st := s_claim_of_floors) (PySem.W.mg_of X G (of_decide_eq_true ((c.at_ 0).fact 52 0))) ((c.at_ 3).def_ 8) (fun _ _ _ _ _ _ us hl => match us, hl with | [_, _], _ => rfl)),
   (Oh.df_of (st := s_sets_by_size) (PySem.W.mg_of X G (of_decide_eq_true ((c.at_ 0).fact 53 0))) ((c.at_ 3).def_ 9) (fun _ _ _ _ _ _ us hl => match us, hl with | [_, _], _ => rfl)),
   (Oh.df_of (st := s_books_many) (PySem.W.mg_of X G (of_decide_eq_true ((c.at_ 0).fact 54 0))) ((c.at_ 3).def_ 10) (fun _ _ _ _ _ _ us hl => match us, hl with | [_, _, _], _ => rfl)),
   (Oh.df_of (st := s_all_books) (PySem.W.mg_of X G (of_decide_eq_true ((c.at_ 0).fact 55 0))) ((c.at_ 3).def_ 11) (fun _ _ _ _ _ _ us hl => match us, hl with | [_, _, _], _ => rfl)),
   (Oh.df_of (st := s_costs_of_all) (PySem.W.mg_of X G (of_decide_eq_true ((c.at_ 0).fact 56 0))) ((c.at_ 3).def_ 12) (fun _ _ _ _ _ _ us hl => match us, hl with | [_, _, _], _ => rfl)),
   (Oh.df_of (st := s_cheapest_book) (PySem.W.mg_of X G (of_decide_eq_true ((c.at_ 0).fact 57 0))) ((c.at_ 3).def_ 13) (fun _ _ _ _ _ _ us hl => match us, hl with | [_, _, _], _ => rfl)),
   (Oh.df_of (st := s_bound_book) (PySem.W.mg_of X G (of_decide_eq_true ((c.at_ 0).fact 58 0))) ((c.at_ 3).def_ 14) (fun _ _ _ _ _ _ us hl => match us, hl with | [_, _, _, _], _ => rfl)),
   (Oh.df_of (st := s_comes_ahead) (PySem.W.mg_of X G (of_decide_eq_true ((c.at_ 0).fact 59 0))) ((c.at_ 3).def_ 15) (fun _ _ _ _ _ _ us hl => match us, hl with | [_, _, _], _ => rfl)),
   (Oh.dfD_of (st := s_what_is_wrong) (PySem.W.mg_of X G (of_decide_eq_true ((c.at_ 1).fact 0 0))) ((c.at_ 3).def_ 16) (by simp) rfl rfl (fun _ _ _ _ _ _ _ us its h1 h2 => match us, its, h1, h2 with | [_, _, _], [_], _, _ => ⟨_, rfl, rfl⟩) (fun _ _ _ _ _ _ _ us its h1 h2 => match us, its, h1, h2 with | [_, _, _, _], [_], _, _ => ⟨_, rfl, rfl⟩)),
   (Oh.df_of (st := s_cost_of) (PySem.W.mg_of X G (of_decide_eq_true ((c.at_ 1).fact 1 0))) ((c.at_ 3).def_ 17) (fun _ _ _ _ _ _ us hl => match us, hl with | [_, _, _], _ => rfl)),
   (Oh.df_of (st := s_write_case) (PySem.W.mg_of X G (of_decide_eq_true ((c.at_ 1).fact 2 0))) ((c.at_ 3).def_ 18) (fun _ _ _ _ _ _ us hl => match us, hl with | [_], _ => rfl)),
   (Oh.df_of (st := s_columns_of) (PySem.W.mg_of X G (of_decide_eq_true ((c.at_ 1).fact 3 0))) ((c.at_ 3).def_ 19) (fun _ _ _ _ _ _ us hl => match us, hl with | [_, _], _ => rfl)),
   (Oh.df_of (st := s_mend) (PySem.W.mg_of X G (of_decide_eq_true ((c.at_ 1).fact 4 0))) ((c.at_ 3).def_ 20) (fun _ _ _ _ _ _ us hl => match us, hl with | [_, _, _, _, _], _ => rfl)),
   (Oh.df_of (st := s_candidates_of) (PySem.W.mg_of X G (of_decide_eq_true ((c.at_ 1).fact 5 0))) ((c.at_ 3).def_ 21) (fun _ _ _ _ _ _ us hl => match us, hl with | [_, _], _ => rfl)),
   (Oh.df_of (st := s_lets_shares) (PySem.W.mg_of X G (of_decide_eq_true ((c.at_ 1).fact 6 0))) ((c.at_ 3).def_ 22) (fun _ _ _ _ _ _ us hl => match us, hl with | [_, _, _], _ => rfl)),
   (Oh.df_of (st := s_is_reason) (PySem.W.mg_of X G (of_decide_eq_true ((c.at_ 1).fact 7 0))) ((c.at_ 3).def_ 23) (fun _ _ _ _ _ _ us hl => match us, hl with | [_, _, _, _, _], _ => rfl)),
   (Oh.df_of (st := s_lets_tree) (PySem.W.mg_of X G (of_decide_eq_true ((c.at_ 1).fact 8 0))) ((c.at_ 3).def_ 24) (fun _ _ _ _ _ _ us hl => match us, hl with | [_, _, _, _], _ => rfl)),
   (Oh.df_of (st := s_shares_for) (PySem.W.mg_of X G (of_decide_eq_true ((c.at_ 1).fact 9 0))) ((c.at_ 4).def_ 0) (fun _ _ _ _ _ _ us hl => match us, hl with | [_, _], _ => rfl)),
   (Oh.df_of (st := s_seek_book) (PySem.W.mg_of X G (of_decide_eq_true ((c.at_ 1).fact 10 0))) ((c.at_ 4).def_ 1) (fun _ _ _ _ _ _ us hl => match us, hl with | [_, _, _, _], _ => rfl)),
   (Oh.df_of (st := s_tree_of) (PySem.W.mg_of X G (of_decide_eq_true ((c.at_ 1).fact 11 0))) ((c.at_ 4).def_ 2) (fun _ _ _ _ _ _ us hl => match us, hl with | [_, _], _ => rfl)),
   (Oh.df_of (st := s_book_of) (PySem.W.mg_of X G (of_decide_eq_true ((c.at_ 1).fact 12 0))) ((c.at_ 4).def_ 3) (fun _ _ _ _ _ _ us hl => match us, hl with | [_, _, _], _ => rfl)),
   (Oh.df_of (st := s_turned_tongue) (PySem.W.mg_of X G (of_decide_eq_true ((c.at_ 1).fact 13 0))) ((c.at_ 4).def_ 4) (fun _ _ _ _ _ _ us hl => match us, hl with | [_, _], _ => rfl)),
   (Oh.df_of (st := s_turned_text) (PySem.W.mg_of X G (of_decide_eq_true ((c.at_ 1).fact 14 0))) ((c.at_ 4).def_ 5) (fun _ _ _ _ _ _ us hl => match us, hl with | [_, _, _], _ => rfl)),
   (Oh.df_of (st := s_turned_book) (PySem.W.mg_of X G (of_decide_eq_true ((c.at_ 1).fact 15 0))) ((c.at_ 4).def_ 6) (fun _ _ _ _ _ _ us hl => match us, hl with | [_, _, _], _ => rfl)),
   (Oh.df_of (st := s_put_wants) (PySem.W.mg_of X G (of_decide_eq_true ((c.at_ 1).fact 16 0))) ((c.at_ 4).def_ 7) (fun _ _ _ _ _ _ us hl => match us, hl with | [_, _], _ => rfl)),
   (Oh.df_of (st := s_dearer) (PySem.W.mg_of X G (of_decide_eq_true ((c.at_ 1).fact 17 0))) ((c.at_ 4).def_ 8) (fun _ _ _ _ _ _ us hl => match us, hl with | [_, _], _ => rfl)),
   (Oh.df_of (st := s_more_often) (PySem.W.mg_of X G (of_decide_eq_true ((c.at_ 1).fact 18 0))) ((c.at_ 4).def_ 9) (fun _ _ _ _ _ _ us hl => match us, hl with | [_, _], _ => rfl)),
   (Oh.df_of (st := s__law_draws) (PySem.W.mg_of X G (of_decide_eq_true ((c.at_ 1).fact 19 0))) ((c.at_ 4).def_ 10) (fun _ _ _ _ _ _ us hl => match us, hl with | [_, _, _], _ => rfl)),
   (Oh.df_of (st := s__law_stage_two) (PySem.W.mg_of X G (of_decide_eq_true ((c.at_ 1).fact 20 0))) ((c.at_ 4).def_ 11) (fun _ _ _ _ _ _ us hl => match us, hl with | [_, _], _ => rfl)),
   (Oh.df_of (st := s__law_tongue_alone) (PySem.W.mg_of X G (of_decide_eq_true ((c.at_ 1).fact 21 0))) ((c.at_ 4).def_ 12) (fun _ _ _ _ _ _ us hl => match us, hl with | [_, _], _ => rfl)),
   (Oh.df_of (st := s__law_with_wants) (PySem.W.mg_of X G (of_decide_eq_true ((c.at_ 1).fact 22 0))) ((c.at_ 4).def_ 13) (fun _ _ _ _ _ _ us hl => match us, hl with | [_, _, _], _ => rfl)),
   (Oh.df_of (st := s__law_wants_alone) (PySem.W.mg_of X G (of_decide_eq_true ((c.at_ 1).fact 23 0))) ((c.at_ 4).def_ 14) (fun _ _ _ _ _ _ us hl => match us, hl with | [_, _], _ => rfl)),
   (Oh.df_of (st := s__law_told) (PySem.W.mg_of X G (of_decide_eq_true ((c.at_ 1).fact 24 0))) ((c.at_ 4).def_ 15) (fun _ _ _ _ _ _ us hl => match us, hl with | [_, _, _], _ => rfl)),
   (Oh.df_of (st := s__law_tongues) (PySem.W.mg_of X G (of_decide_eq_true ((c.at_ 1).fact 25 0))) ((c.at_ 4).def_ 16) (fun _ _ _ _ _ _ us hl => match us, hl with | [], _ => rfl)),
   (Oh.df_of (st := s__law_wants) (PySem.W.mg_of X G (of_decide_eq_true ((c.at_ 1).fact 26 0))) ((c.at_ 4).def_ 17) (fun _ _ _ _ _ _ us hl => match us, hl with | [], _ => rfl)),
   (Oh.df_of (st := s_law) (PySem.W.mg_of X G (of_decide_eq_true ((c.at_ 1).fact 27 0))) ((c.at_ 4).def_ 18) (fun _ _ _ _ _ _ us hl => match us, hl with | [_], _ => rfl)),
   (Oh.str_of X G ((c.at_ 1).fact 28 0)),
   (Oh.int_of X G ((c.at_ 1).fact 29 0)),
   (Oh.str_of X G ((c.at_ 1).fact 30 0)),
   (Oh.int_of X G ((c.at_ 1).fact 31 0)),
   (Oh.int_of X G ((c.at_ 1).fact 32 0)),
   (Oh.int_of X G ((c.at_ 1).fact 33 0)),
   (Oh.int_of X G ((c.at_ 1).fact 34 0)),
   (Oh.int_of X G ((c.at_ 1).fact 35 0)),
   (Oh.int_of X G ((c.at_ 1).fact 36 0)),
   (PySem.W.mg_none_of X G (of_decide_eq_true ((c.at_ 1).fact 37 0))),
   (PySem.W.mg_none_of X G (of_decide_eq_true ((c.at_ 1).fact 38 0))),
   (PySem.W.mg_none_of X G (of_decide_eq_true ((c.at_ 1).fact 39 0))),
   (PySem.W.mg_none_of X G (of_decide_eq_true ((c.at_ 1).fact 40 0))),
   (PySem.W.mg_none_of X G (of_decide_eq_true ((c.at_ 1).fact 41 0))),
   (PySem.W.mg_none_of X G (of_decide_eq_true ((c.at_ 1).fact 42 0))),
   (PySem.W.mg_none_of X G (of_decide_eq_true ((c.at_ 1).fact 43 0))),
   (PySem.W.mg_none_of X G (of_decide_eq_true ((c.at_ 1).fact 44 0))),
   (PySem.W.mg_none_of X G (of_decide_eq_true ((c.at_ 1).fact 45 0))),
   (PySem.W.mg_none_of X G (of_decide_eq_true ((c.at_ 1).fact 46 0))),
   (PySem.W.mg_none_of X G (of_decide_eq_true ((c.at_ 1).fact 47 0))),
   (PySem.W.mg_none_of X G (of_decide_eq_true ((c.at_ 1).fact 48 0))),
   (PySem.W.mg_none_of X G (of_decide_eq_true ((c.at_ 1).fact 49 0)))⟩
end Dear
open PySem PySem.W PySem.Calls PyProof.Rows
set_option maxRecDepth 100000 in
set_option maxHeartbeats 0 in
theorem PySem.Challenge.cw_dearsigns_k86_whole_all_doors_holds : PySem.Challenge.rw_dearsigns_k86_whole_all_doors.Holds := by
  refine Dear.ohTop (L2.walk_ofE (l := PySem.Challenge.rw_dearsigns_k86_whole_all_doors) (n := 63) (k := 20) (x := "_law_script") (CX := L2.CX0) rfl (by decide) (by kernel_rfl) ⟨rfl, by decide, by decide⟩ ?F (fun _ _ _ _ z => z))
  case F =>
    intro w mg fa h Y G hm
    obtain ⟨K, KX, c⟩ := Y
    have en : (HandSHeadRun.topDef Dear.ohR.prog 212).name = ("law" : PySem.Str) := by kernel_rfl
    rw [en] at hm
    obtain ⟨fd, hb, hF⟩ := Dear.fin (l := PySem.Challenge.rw_dearsigns_k86_whole_all_doors) (w := w) KX G hm (Dear.ohTxt KX G c)
    exact ⟨K, fd, Dear.spLaw K, KX, hb, fun H a ns hl _ hS => ⟨a, ns, rfl, hS, hl, fun _ => rfl⟩, hF⟩
#print axioms PySem.Challenge.cw_dearsigns_k86_whole_all_doors_holds

