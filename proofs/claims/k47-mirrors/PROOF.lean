import PyProof.Rows.All
import Wide.All
import OpenK.AllK
import Wide.FinOn
import KE.KStateDown
import Lean
import HandS.Base
import HandS.Call
import HandS.Ends
import HandS.More
import HandS.Words
import HandS.WordsExc
import HandS.Defaults
import HandS.Head0
import HandS.Head1
import HandS.Head2
import HandS.HeadEnd
import HandS.HeadHook1
import HandS.HeadHook2
import HandS.ExcIs
import PySem.Challenge.RW_eatenorders_k47_whole_mirrors_and_what_s
import HandS.List
import HandS.Comp
import HandS.Dict
import HandS.Iter
import HandS.DictComp
import HandS.IsInst
import HandS.TupAny
import HandS.Zip
import HandS.Conv
import HandS.Evl
import HandS.SortInts
import HandS.SetFor
import HandS.TupSets
import HandS.WideBits
import HandS.Flow
import HandS.Codes
import KE.GoesMore
import PyProof.EnumMake
import PyProof.EnumFor
import HandS.Style
import HandS.Text
import HandS.Strs
import HandS.Exc
import HandS.ExcOwn
section
set_option Elab.async false
set_option linter.all false
set_option maxRecDepth 100000
set_option maxHeartbeats 0
/-! the text's defs by their places; the head: facts by names, the run -/
namespace Mk
open PySem PySem.Spec PyProof.Rows L2
abbrev R : PySem.W.OpenRow := PySem.W.OpenLaw.row PySem.Challenge.rw_eatenorders_k47_whole_mirrors_and_what_s
def top (i : Nat) : Stmt := PySem.Challenge.pw_eatenorders_k47_whole_mirrors_and_what_s.main.body.getD i (.Pass ⟨0, 0, 0, 0⟩)

abbrev s_is_number : Stmt := top 6
abbrev s_is_from : Stmt := top 7
abbrev s_is_within : Stmt := top 8
abbrev s_is_long : Stmt := top 9
abbrev s_tupled : Stmt := top 10
abbrev s_ascends : Stmt := top 11
abbrev s_are_numbers : Stmt := top 12
abbrev s_is_pair_of : Stmt := top 14
abbrev s_directs_by : Stmt := top 15
abbrev s_ups_by : Stmt := top 16
abbrev s_follows_by : Stmt := top 17
abbrev s_ties_by : Stmt := top 18
abbrev s_ties_of : Stmt := top 19
abbrev s_by_pairs_in : Stmt := top 20
abbrev s_follow_none : Stmt := top 21
abbrev s_is_order : Stmt := top 22
abbrev s_sure_order : Stmt := top 23
abbrev s_ups_in : Stmt := top 24
abbrev s_downs_in : Stmt := top 25
abbrev s_pairs_in : Stmt := top 26
abbrev s_part_in : Stmt := top 27
abbrev s_are_pieces_in : Stmt := top 29
abbrev s_is_left_in : Stmt := top 30
abbrev s_sure_left : Stmt := top 31
abbrev s_bitten_in : Stmt := top 32
abbrev s_bits_for : Stmt := top 35
abbrev s_pieces_for : Stmt := top 36
abbrev s_tops_by_bits : Stmt := top 37
abbrev s_lefts_by_bits : Stmt := top 38
abbrev s_least_without : Stmt := top 39
abbrev s_worths_by_bits : Stmt := top 40
abbrev s_worth_in : Stmt := top 41
abbrev s_is_row_of_images : Stmt := top 43
abbrev s_is_mirror_in : Stmt := top 44
abbrev s_sure_mirror : Stmt := top 45
abbrev s_is_mirror : Stmt := top 46
abbrev s_mirror_sure : Stmt := top 47
abbrev s_stays_in : Stmt := top 48
abbrev s_stays : Stmt := top 49
abbrev s_moved_pairs : Stmt := top 50
abbrev s_staying_order : Stmt := top 51
abbrev s_worth_by_mirror : Stmt := top 52
abbrev s_is_even_in : Stmt := top 53
abbrev s_is_even : Stmt := top 54
abbrev s_even_sure : Stmt := top 55
abbrev s_mirror_reply : Stmt := top 56
abbrev s_mirror_left : Stmt := top 57
abbrev s__law_box : Stmt := top 59
abbrev s__law_take : Stmt := top 60
abbrev s__law_cells : Stmt := top 61
abbrev s__law_of : Stmt := top 62
abbrev s__law_pick : Stmt := top 63
abbrev s__law_lists : Stmt := top 64
abbrev s__law_same : Stmt := top 65
abbrev s__law_net : Stmt := top 66
abbrev s__law_ups : Stmt := top 67
abbrev s__law_bits : Stmt := top 68
abbrev s__law_pieces : Stmt := top 69
abbrev s__law_lefts : Stmt := top 70
abbrev s__law_least_out : Stmt := top 71
abbrev s__law_worths : Stmt := top 72
abbrev s__law_set : Stmt := top 73
abbrev s__law_worth : Stmt := top 74
abbrev s__law_aside : Stmt := top 75
abbrev s__law_heap : Stmt := top 76
abbrev s__law_part : Stmt := top 77
abbrev s__law_order : Stmt := top 78
abbrev s__law_loose_net : Stmt := top 79
abbrev s__law_twinned : Stmt := top 80
abbrev s__law_both_ways : Stmt := top 81
abbrev s__law_is_mirror : Stmt := top 82
abbrev s__law_turnings : Stmt := top 83
abbrev s__law_bite : Stmt := top 84
abbrev s__law_some_left : Stmt := top 85
abbrev s__law_heard : Stmt := top 86
abbrev s__law_by_hand_right : Stmt := top 87
abbrev s__law_right : Stmt := top 88
abbrev s_law : Stmt := top 89
def dd (x : Str) (i : Nat) : He.DefD := ⟨(x, none), x, x, defArgs (top i), defBody (top i), defScope (top i), [], []⟩
def fn0 : List He.DefD := [dd "is_number" 6, dd "is_from" 7, dd "is_within" 8, dd "is_long" 9, dd "tupled" 10, dd "ascends" 11, dd "are_numbers" 12, dd "is_pair_of" 14, dd "directs_by" 15, dd "ups_by" 16, dd "follows_by" 17, dd "ties_by" 18, dd "ties_of" 19, dd "by_pairs_in" 20, dd "follow_none" 21, dd "is_order" 22, dd "sure_order" 23, dd "ups_in" 24, dd "downs_in" 25, dd "pairs_in" 26, dd "part_in" 27, dd "are_pieces_in" 29, dd "is_left_in" 30, dd "sure_left" 31, dd "bitten_in" 32, dd "bits_for" 35, dd "pieces_for" 36, dd "tops_by_bits" 37, dd "lefts_by_bits" 38, dd "least_without" 39]
def fn1 : List He.DefD := [dd "worths_by_bits" 40, dd "worth_in" 41, dd "is_row_of_images" 43, dd "is_mirror_in" 44, dd "sure_mirror" 45, dd "is_mirror" 46, dd "mirror_sure" 47, dd "stays_in" 48, dd "stays" 49, dd "moved_pairs" 50, dd "staying_order" 51, dd "worth_by_mirror" 52, dd "is_even_in" 53, dd "is_even" 54, dd "even_sure" 55, dd "mirror_reply" 56, dd "mirror_left" 57, dd "_law_box" 59, dd "_law_take" 60, dd "_law_cells" 61, dd "_law_of" 62, dd "_law_pick" 63, dd "_law_lists" 64, dd "_law_same" 65, dd "_law_net" 66, dd "_law_ups" 67, dd "_law_bits" 68, dd "_law_pieces" 69, dd "_law_lefts" 70, dd "_law_least_out" 71]
def fn2 : List He.DefD := [dd "_law_worths" 72, dd "_law_set" 73, dd "_law_worth" 74, dd "_law_aside" 75, dd "_law_heap" 76, dd "_law_part" 77, dd "_law_order" 78, dd "_law_loose_net" 79, dd "_law_twinned" 80, dd "_law_both_ways" 81, dd "_law_is_mirror" 82, dd "_law_turnings" 83, dd "_law_bite" 84, dd "_law_some_left" 85, dd "_law_heard" 86, dd "_law_by_hand_right" 87, dd "_law_right" 88, dd "law" 89]
def fn : List He.DefD := fn0 ++ fn1 ++ fn2
def fa0 : List He.Fa := [.glo "is_number", .glo "is_from", .glo "is_within", .glo "is_long", .glo "tupled", .glo "ascends", .glo "are_numbers", .glo "is_pair_of", .glo "directs_by", .glo "ups_by", .glo "follows_by", .glo "ties_by", .glo "ties_of", .glo "by_pairs_in", .glo "follow_none", .glo "is_order", .glo "sure_order", .glo "ups_in", .glo "downs_in", .glo "pairs_in", .glo "part_in", .glo "are_pieces_in", .glo "is_left_in", .glo "sure_left", .glo "bitten_in", .glo "bits_for", .glo "pieces_for", .glo "tops_by_bits", .glo "lefts_by_bits", .glo "least_without"]
def fa1 : List He.Fa := [.glo "worths_by_bits", .glo "worth_in", .glo "is_row_of_images", .glo "is_mirror_in", .glo "sure_mirror", .glo "is_mirror", .glo "mirror_sure", .glo "stays_in", .glo "stays", .glo "moved_pairs", .glo "staying_order", .glo "worth_by_mirror", .glo "is_even_in", .glo "is_even", .glo "even_sure", .glo "mirror_reply", .glo "mirror_left", .glo "_law_box", .glo "_law_take", .glo "_law_cells", .glo "_law_of", .glo "_law_pick", .glo "_law_lists", .glo "_law_same", .glo "_law_net", .glo "_law_ups", .glo "_law_bits", .glo "_law_pieces", .glo "_law_lefts", .glo "_law_least_out"]
def fa2 : List He.Fa := [.glo "_law_worths", .glo "_law_set", .glo "_law_worth", .glo "_law_aside", .glo "_law_heap", .glo "_law_part", .glo "_law_order", .glo "_law_loose_net", .glo "_law_twinned", .glo "_law_both_ways", .glo "_law_is_mirror", .glo "_law_turnings", .glo "_law_bite", .glo "_law_some_left", .glo "_law_heard", .glo "_law_by_hand_right", .glo "_law_right", .glo "law", .free "LookupError", .free "ValueError", .free "abs", .free "all", .free "any", .free "bool", .free "dict", .free "enumerate", .free "int", .free "isinstance", .free "len", .free "list"]
def fa3 : List He.Fa := [.free "max", .free "min", .free "range", .free "set", .free "sorted", .free "str", .free "sum", .free "super", .free "tuple", .free "zip", .int "FEW" 2000, .exc "CanNot", .exm "CanNot" "CanNot" true, .glo "CanNot"]
def fa : List He.Fa := fa0 ++ fa1 ++ fa2 ++ fa3
def nm0 : List Str := ["NoPiece", "CanNot", "TooMany", "Unfit", "is_number", "is_from", "is_within", "is_long", "tupled", "ascends", "are_numbers", "is_pair_of", "directs_by", "ups_by", "follows_by", "ties_by", "ties_of", "by_pairs_in", "follow_none", "is_order", "sure_order", "ups_in", "downs_in", "pairs_in", "part_in", "are_pieces_in", "is_left_in", "sure_left", "bitten_in", "FEW"]
def nm1 : List Str := ["bits_for", "pieces_for", "tops_by_bits", "lefts_by_bits", "least_without", "worths_by_bits", "worth_in", "is_row_of_images", "is_mirror_in", "sure_mirror", "is_mirror", "mirror_sure", "stays_in", "stays", "moved_pairs", "staying_order", "worth_by_mirror", "is_even_in", "is_even", "even_sure", "mirror_reply", "mirror_left", "_law_box", "_law_take", "_law_cells", "_law_of", "_law_pick", "_law_lists", "_law_same", "_law_net"]
def nm2 : List Str := ["_law_ups", "_law_bits", "_law_pieces", "_law_lefts", "_law_least_out", "_law_worths", "_law_set", "_law_worth", "_law_aside", "_law_heap", "_law_part", "_law_order", "_law_loose_net", "_law_twinned", "_law_both_ways", "_law_is_mirror", "_law_turnings", "_law_bite", "_law_some_left", "_law_heard", "_law_by_hand_right", "_law_right"]
def nm : List Str := nm0 ++ nm1 ++ nm2

/-- what isinstance asks of the error that is caught -/
def exB (K : PySem.W.Frag) : Bool :=
  let C := He.ga K "CanNot"
  He.eqO (PySem.W.findIn K (.ref C) "__getattribute__") (some (some (.builtin "BaseException.__getattribute__"))) &&
  (He.eqO (PySem.W.findIn K (.ref C) "__getattr__") (some none) &&
  (decide (PySem.W.subIn K (.ref C) (.type "BaseException") = some true) &&
  (PySem.W.hasDictIn K C &&
  (He.eqO (PySem.W.findIn K (.ref C) "__class__") (some (some (.builtin "object.__class__"))) &&
  (He.eqO (PySem.W.specialIn K (.builtin "object.__class__") "__get__") (some (some (.builtin "getset_descriptor.__get__"))) &&
  (decide (PySem.W.takesIn K (.builtin "object.__class__") = some true) &&
  (decide (PySem.W.mroIn K C (.type "object") = some true) &&
  decide (PySem.W.kitOne K (.ref C) (.type "ValueError") = some true))))))))
theorem exB_ok {K : PySem.W.Frag} (h : exB K = true) : ExcC K (He.ga K "CanNot") ∧ PySem.W.kitOne K (.ref (He.ga K "CanNot")) (.type "ValueError") = some true := by
  obtain ⟨h1, h⟩ := He.ba h
  obtain ⟨h2, h⟩ := He.ba h
  obtain ⟨h3, h⟩ := He.ba h
  obtain ⟨h4, h⟩ := He.ba h
  obtain ⟨h5, h⟩ := He.ba h
  obtain ⟨h6, h⟩ := He.ba h
  obtain ⟨h7, h⟩ := He.ba h
  obtain ⟨h8, h9⟩ := He.ba h
  exact ⟨⟨He.eqO_ok h1, He.eqO_ok h2, of_decide_eq_true h3, h4, He.eqO_ok h5, He.eqO_ok h6, of_decide_eq_true h7, of_decide_eq_true h8⟩, of_decide_eq_true h9⟩
abbrev AlX : Type := Bool × He.AlD
def obsX (K : PySem.W.Frag) : AlX := (exB K, He.obsD fa fn K)
def SaysX (K : PySem.W.Frag) : Prop := obsX K = (true, He.valD fn)
def obsXG (g : Addr → Option Obj) : AlX := obsX (He.frG g (He.asD g 4))
def hk : PySem.W.Hook where
  α := AlX
  obs := fun s => obsXG s.heap.get?
  val := fun _ => (true, He.valD fn)
  says := fun _ h => ∃ K : PySem.W.Frag, K.In h ∧ SaysX K
  of := fun _ _ e => ⟨_, He.frG_in, e⟩
  keeps := fun _ _ _ ⟨K, hK, c⟩ k => ⟨K, PySem.W.Frag.In.keeps hK k, c⟩
theorem SaysX.d {K : PySem.W.Frag} (h : SaysX K) : He.SaysD fa fn K := congrArg (fun z : AlX => z.2) h
theorem SaysX.e {K : PySem.W.Frag} (h : SaysX K) : exB K = true := congrArg (fun z : AlX => z.1) h
def ob (s : PySem.W.SharedT) : AlX := obsXG (HandSHeadRun.getT s)
theorem ob_eq (s : PySem.W.SharedT) : ob s = hk.obs s.abs := by
  have e : HandSHeadRun.getT s = s.abs.heap.get? := funext (HandSHeadRun.getT_eq s)
  unfold ob
  rw [e] <;> rfl
end Mk
end

section
set_option Elab.async false
set_option linter.all false
set_option maxRecDepth 100000
set_option maxHeartbeats 0
namespace Mk
open PySem PySem.Spec PyProof.Rows L2
theorem run (w : World) : HandSHeadRun.RunEq R (PySem.W.view R.prog [89]) hk ob 6000 nm w := by
  intro os
  kernel_rfl
end Mk
end

section
set_option Elab.async false
set_option linter.all false
set_option maxRecDepth 100000
set_option maxHeartbeats 2000000
/-! values on the heap as plain data; what an expression gives as data -/
namespace Mk
open PySem PySem.Spec PyProof.Rows L2
open Evl (Ex)

inductive Da where
  | non | bl (b : Bool) | int (i : Int) | str (x : Str)
  | tup (l : List Da) | lst (l : List Da) | dic (l : List (Int × Da))
abbrev nat (k : Nat) : Da := .int (k : Int)
abbrev nats (l : List Nat) : List Da := l.map nat
abbrev pr (p : Nat × Nat) : Da := .tup [nat p.1, nat p.2]

mutual
/-- v, in H, is the data d -/
inductive Rp (H : Hp) : V → Da → Prop
  | non : Rp H .non .non
  | bl (b : Bool) : Rp H (.bl b) (.bl b)
  | int (i : Int) : Rp H (.int i) (.int i)
  | str (x : Str) : Rp H (.str x) (.str x)
  | tup {a : Addr} {vs : List V} {ds : List Da} : H a = some (.tup vs) → RpA H vs ds → Rp H (.ref a) (.tup ds)
  | lst {a : Addr} {vs : List V} {ds : List Da} : H a = some (.lst vs) → RpA H vs ds → Rp H (.ref a) (.lst ds)
  | dic {a : Addr} {vs : List (Key × V)} {ds : List (Int × Da)} : H a = some (.dK vs) → RpD H vs ds → Rp H (.ref a) (.dic ds)
inductive RpA (H : Hp) : List V → List Da → Prop
  | nil : RpA H [] []
  | cons {v : V} {vs : List V} {d : Da} {ds : List Da} : Rp H v d → RpA H vs ds → RpA H (v :: vs) (d :: ds)
inductive RpD (H : Hp) : List (Key × V) → List (Int × Da) → Prop
  | nil : RpD H [] []
  | cons {k : Int} {v : V} {vs : List (Key × V)} {d : Da} {ds : List (Int × Da)} : Rp H v d → RpD H vs ds → RpD H ((.inl k, v) :: vs) ((k, d) :: ds)
end
mutual
theorem Rp.mono {H H' : Hp} (e : Ex H H') : ∀ {v : V} {d : Da}, Rp H v d → Rp H' v d
  | _, _, .non => .non
  | _, _, .bl b => .bl b
  | _, _, .int i => .int i
  | _, _, .str x => .str x
  | _, _, .tup h r => .tup (e _ _ h) (RpA.mono e r)
  | _, _, .lst h r => .lst (e _ _ h) (RpA.mono e r)
  | _, _, .dic h r => .dic (e _ _ h) (RpD.mono e r)
theorem RpA.mono {H H' : Hp} (e : Ex H H') : ∀ {vs : List V} {ds : List Da}, RpA H vs ds → RpA H' vs ds
  | _, _, .nil => .nil
  | _, _, .cons h r => .cons (Rp.mono e h) (RpA.mono e r)
theorem RpD.mono {H H' : Hp} (e : Ex H H') : ∀ {vs : List (Key × V)} {ds : List (Int × Da)}, RpD H vs ds → RpD H' vs ds
  | _, _, .nil => .nil
  | _, _, .cons h r => .cons (Rp.mono e h) (RpD.mono e r)
end
section
variable {H H' : Hp}
theorem RpA.length : ∀ {vs : List V} {ds : List Da}, RpA H vs ds → vs.length = ds.length
  | _, _, .nil => rfl
  | _, _, .cons _ r => congrArg Nat.succ (RpA.length r)
theorem RpA.get : ∀ {vs : List V} {ds : List Da} {i : Nat} {d : Da}, RpA H vs ds → ds[i]? = some d → ∃ v, vs[i]? = some v ∧ Rp H v d
  | _, _, _, _, .nil, e => by simp at e
  | _, _, 0, _, .cons h _, e => by simp at e; subst e; exact ⟨_, rfl, h⟩
  | _, _, i + 1, d, .cons _ r, e => by
    obtain ⟨v, h1, h2⟩ := RpA.get (i := i) (d := d) r (by simpa using e)
    exact ⟨v, by simpa using h1, h2⟩
theorem RpA.getV : ∀ {vs : List V} {ds : List Da} {i : Nat} {v : V}, RpA H vs ds → vs[i]? = some v → ∃ d, ds[i]? = some d ∧ Rp H v d
  | _, _, _, _, .nil, e => by simp at e
  | _, _, 0, _, .cons h _, e => by simp at e; subst e; exact ⟨_, rfl, h⟩
  | _, _, i + 1, v, .cons _ r, e => by
    obtain ⟨d, h1, h2⟩ := RpA.getV (i := i) (v := v) r (by simpa using e)
    exact ⟨d, by simpa using h1, h2⟩
theorem RpA.append : ∀ {vs ws : List V} {ds es : List Da}, RpA H vs ds → RpA H ws es → RpA H (vs ++ ws) (ds ++ es)
  | _, _, _, _, .nil, s => s
  | _, _, _, _, .cons h r, s => .cons h (RpA.append r s)
theorem RpA.set {v : V} {d : Da} (h : Rp H v d) : ∀ {vs : List V} {ds : List Da} (i : Nat), RpA H vs ds → RpA H (vs.set i v) (ds.set i d)
  | _, _, _, .nil => .nil
  | _, _, 0, .cons _ r => .cons h r
  | _, _, i + 1, .cons h' r => .cons h' (RpA.set h i r)
theorem RpA.take : ∀ {vs : List V} {ds : List Da} (n : Nat), RpA H vs ds → RpA H (vs.take n) (ds.take n)
  | _, _, 0, _ => .nil
  | _, _, _ + 1, .nil => .nil
  | _, _, n + 1, .cons h r => .cons h (RpA.take n r)
theorem RpA.drop : ∀ {vs : List V} {ds : List Da} (n : Nat), RpA H vs ds → RpA H (vs.drop n) (ds.drop n)
  | _, _, 0, r => r
  | _, _, _ + 1, .nil => .nil
  | _, _, n + 1, .cons _ r => RpA.drop n r
theorem RpA.reverse : ∀ {vs : List V} {ds : List Da}, RpA H vs ds → RpA H vs.reverse ds.reverse
  | _, _, .nil => .nil
  | _, _, .cons h r => by
    rw [List.reverse_cons, List.reverse_cons]
    exact (RpA.reverse r).append (.cons h .nil)
theorem RpA.ints : ∀ {vs : List V} {ns : List Int}, RpA H vs (ns.map Da.int) → vs = ns.map V.int
  | _, [], .nil => rfl
  | _, _ :: _, .cons h r => by
    cases h
    rw [RpA.ints r, List.map_cons]
theorem RpA.bls : ∀ {vs : List V} {ns : List Bool}, RpA H vs (ns.map Da.bl) → vs = ns.map V.bl
  | _, [], .nil => rfl
  | _, _ :: _, .cons h r => by
    cases h
    rw [RpA.bls r, List.map_cons]
theorem RpA.ofInts : ∀ ns : List Int, RpA H (ns.map V.int) (ns.map Da.int)
  | [] => .nil
  | n :: r => .cons (.int n) (RpA.ofInts r)
theorem nats_ints (l : List Nat) : nats l = (l.map Int.ofNat).map Da.int := by
  rw [List.map_map] <;> rfl
theorem Rp.isInt {v : V} {i : Int} (h : Rp H v (.int i)) : v = .int i := by cases h <;> rfl
theorem Rp.isBl {v : V} {i : Bool} (h : Rp H v (.bl i)) : v = .bl i := by cases h <;> rfl
theorem Rp.isTup {v : V} {ds : List Da} (h : Rp H v (.tup ds)) : ∃ a vs, v = .ref a ∧ H a = some (.tup vs) ∧ RpA H vs ds := by
  cases h with
  | tup e r => exact ⟨_, _, rfl, e, r⟩
theorem Rp.isLst {v : V} {ds : List Da} (h : Rp H v (.lst ds)) : ∃ a vs, v = .ref a ∧ H a = some (.lst vs) ∧ RpA H vs ds := by
  cases h with
  | lst e r => exact ⟨_, _, rfl, e, r⟩
theorem Rp.isDic {v : V} {ds : List (Int × Da)} (h : Rp H v (.dic ds)) : ∃ a vs, v = .ref a ∧ H a = some (.dK vs) ∧ RpD H vs ds := by
  cases h with
  | dic e r => exact ⟨_, _, rfl, e, r⟩
end

/-! ### how the heap grows: G the part that is known, and stays -/
structure Gr (G H G' H' : Hp) : Prop where
  gg : Ex G G'
  gh : Ex G' H'
  hh : Ex H H'
  nw : ∀ a, H a ≠ none → G' a ≠ none → G a ≠ none
theorem Gr.refl {G H : Hp} (e : Ex G H) : Gr G H G H := ⟨Ex.refl G, e, Ex.refl H, fun _ _ h => h⟩
theorem ex_ne {H H' : Hp} (e : Ex H H') {a : Addr} (h : H a ≠ none) : H' a ≠ none := by
  cases q : H a with
  | none => exact absurd q h
  | some o => rw [e a o q]; exact fun z => nomatch z
theorem ex_no {H H' : Hp} (e : Ex H H') {a : Addr} (h : H' a = none) : H a = none := by
  cases q : H a with
  | none => rfl
  | some o => rw [e a o q] at h; cases h
theorem Gr.trans {G H G1 H1 G2 H2 : Hp} (a : Gr G H G1 H1) (b : Gr G1 H1 G2 H2) : Gr G H G2 H2 :=
  ⟨a.gg.trans b.gg, b.gh, a.hh.trans b.hh, fun x h h2 => a.nw x h (b.nw x (ex_ne a.hh h) h2)⟩
theorem Gr.new {G H : Hp} (e : Ex G H) {p : Addr} {o : HO} (hp : H p = none) : Gr G H (upd G p o) (upd H p o) :=
  ⟨Ex.new (ex_no e hp), fun a u h => by
      by_cases ha : a = p
      · subst ha; rw [upd_same] at h ⊢; exact h
      · rw [upd_ne ha] at h ⊢; exact e a u h,
    Ex.new hp, fun a h h2 => by
      have ha : a ≠ p := fun z => by subst z; exact h hp
      rw [upd_ne ha] at h2; exact h2⟩
/-- new things that are not known -/
theorem Gr.sec {G H H' : Hp} (e : Ex G H) (h : Ex H H') : Gr G H G H' := ⟨Ex.refl G, e.trans h, h, fun _ _ h => h⟩
/-- what is new becomes known -/
theorem Gr.know {G H G' H' : Hp} (g : Gr G H G' H') {p : Addr} {o : HO} (hp : H p = none) (hn : G' p = none) (h : H' p = some o) : Gr G H (upd G' p o) H' :=
  ⟨g.gg.trans (Ex.new hn), fun a u e => by
      by_cases ha : a = p
      · subst ha; rw [upd_same] at e; rw [h]; exact e
      · rw [upd_ne ha] at e; exact g.gh a u e,
    g.hh, fun a h1 h2 => by
      have ha : a ≠ p := fun z => by subst z; exact h1 hp
      rw [upd_ne ha] at h2; exact g.nw a h1 h2⟩
theorem Gr.no {G H G' H' : Hp} (g : Gr G H G' H') {a : Addr} {o : HO} (h : H a = some o) (n : G a = none) : G' a = none := by
  cases q : G' a with
  | none => rfl
  | some u => exact absurd n (g.nw a (by rw [h]; exact fun z => nomatch z) (by rw [q]; exact fun z => nomatch z))

/-! ### slots as data -/
abbrev DE := List (Option Da)
def EnvR (H : Hp) (σ : L2.St) (ρ : DE) : Prop := σ.length = ρ.length ∧ ∀ (i : Nat) (d : Da), ρ[i]? = some (some d) → ∃ v, σ[i]? = some (some v) ∧ Rp H v d
section
variable {H H' : Hp} {σ : L2.St} {ρ : DE}
theorem EnvR.mono (e : Ex H H') (h : EnvR H σ ρ) : EnvR H' σ ρ := ⟨h.1, fun i d q => let ⟨v, a, b⟩ := h.2 i d q; ⟨v, a, b.mono e⟩⟩
theorem EnvR.set {v : V} {d : Da} (h : EnvR H σ ρ) (i : Nat) (r : Rp H v d) : EnvR H (σ.set i (some v)) (ρ.set i (some d)) := by
  refine ⟨by rw [List.length_set, List.length_set, h.1], fun j e q => ?_⟩
  by_cases hj : i = j
  · subst hj
    have hi : i < ρ.length := by
      have := (List.getElem?_eq_some_iff.mp q).1
      rwa [List.length_set] at this
    rw [List.getElem?_set_self hi] at q
    cases q
    exact ⟨v, List.getElem?_set_self (by rw [h.1]; exact hi), r⟩
  · rw [List.getElem?_set_ne hj] at q ⊢
    exact h.2 j e q
theorem EnvR.setN {o : Option V} (h : EnvR H σ ρ) (i : Nat) : EnvR H (σ.set i o) (ρ.set i none) := by
  refine ⟨by rw [List.length_set, List.length_set, h.1], fun j e q => ?_⟩
  by_cases hj : i = j
  · subst hj
    have hi : i < ρ.length := by
      have := (List.getElem?_eq_some_iff.mp q).1
      rwa [List.length_set] at this
    rw [List.getElem?_set_self hi] at q
    cases q
  · rw [List.getElem?_set_ne hj] at q ⊢
    exact h.2 j e q
def wipeD (ρ : DE) : List Nat → DE
  | [] => ρ
  | v :: vs => (wipeD ρ vs).set v none
theorem EnvR.wipe (h : EnvR H σ ρ) : ∀ vs : List Nat, EnvR H (wipe σ vs) (wipeD ρ vs)
  | [] => h
  | v :: vs => (EnvR.wipe h vs).setN v
/-- ρ says no more than ρ' -/
def Le : DE → DE → Prop
  | [], [] => True
  | none :: r, _ :: s => Le r s
  | some d :: r, o :: s => o = some d ∧ Le r s
  | _, _ => False
theorem Le.refl : ∀ ρ : DE, Le ρ ρ
  | [] => trivial
  | none :: r => Le.refl r
  | some _ :: r => ⟨rfl, Le.refl r⟩
theorem Le.len : ∀ {ρ ρ' : DE}, Le ρ ρ' → ρ.length = ρ'.length
  | [], [], _ => rfl
  | none :: r, _ :: s, h => congrArg Nat.succ (Le.len (ρ := r) (ρ' := s) h)
  | some _ :: r, _ :: s, h => congrArg Nat.succ (Le.len (ρ := r) (ρ' := s) h.2)
theorem Le.get : ∀ {ρ ρ' : DE} {i : Nat} {d : Da}, Le ρ ρ' → ρ[i]? = some (some d) → ρ'[i]? = some (some d)
  | [], [], _, _, _, e => e
  | none :: r, _ :: s, 0, _, _, e => by cases e
  | none :: r, _ :: s, i + 1, d, h, e => Le.get (ρ := r) (ρ' := s) (i := i) h (by simpa using e)
  | some _ :: r, _ :: s, 0, _, h, e => by
    cases e
    rw [h.1] <;> rfl
  | some _ :: r, _ :: s, i + 1, d, h, e => Le.get (ρ := r) (ρ' := s) (i := i) h.2 (by simpa using e)
theorem EnvR.le {ρ' : DE} (h : EnvR H σ ρ') (l : Le ρ ρ') : EnvR H σ ρ := ⟨h.1.trans l.len.symm, fun i d q => h.2 i d (l.get q)⟩
end

/-! ### wipe -/
theorem wipe_set {x : Option V} : ∀ {vs : List Nat} {σ : L2.St} {j : Nat}, j ∈ vs → wipe (σ.set j x) vs = wipe σ vs
  | v :: vs, σ, j, h => by
    show (wipe (σ.set j x) vs).set v none = (wipe σ vs).set v none
    by_cases hj : j ∈ vs
    · rw [wipe_set hj]
    · have e : j = v := by
        rcases List.mem_cons.mp h with h | h
        · exact h
        · exact absurd h hj
      subst e
      have q : ∀ ws : List Nat, j ∉ ws → wipe (σ.set j x) ws = (wipe σ ws).set j x := fun ws => by
        induction ws with
        | nil => intro _; rfl
        | cons w ws ih =>
          intro hn
          show (wipe (σ.set j x) ws).set w none = ((wipe σ ws).set w none).set j x
          rw [ih fun z => hn (List.mem_cons_of_mem _ z), List.set_comm]
          exact fun z => hn (z ▸ List.mem_cons_self)
      rw [q vs hj, List.set_set]
theorem wipe_wipe (σ : L2.St) : ∀ vs : List Nat, wipe (wipe σ vs) vs = wipe σ vs := fun vs => by
  have q : ∀ ws : List Nat, (∀ w ∈ ws, w ∈ vs) → wipe (wipe σ ws) vs = wipe σ vs := fun ws => by
    induction ws with
    | nil => intro _; rfl
    | cons w ws ih =>
      intro h
      show wipe ((wipe σ ws).set w none) vs = wipe σ vs
      rw [wipe_set (h w List.mem_cons_self), ih fun z hz => h z (List.mem_cons_of_mem _ hz)]
  exact q vs fun _ h => h

/-! ### what an expression gives, as data -/
def EvD (t : TE) (ρ : DE) (d : Da) : Prop := ∀ (G H : Hp) (σ : L2.St), Ex G H → EnvR G σ ρ → ∀ Q : VK, (∀ v G' H', Gr G H G' H' → Rp G' v d → Q v H') → t σ H Q
/-- a list that is its own -/
def EvL (t : TE) (ρ : DE) (ds : List Da) : Prop := ∀ (G H : Hp) (σ : L2.St), Ex G H → EnvR G σ ρ → ∀ Q : VK,
  (∀ p vs G' H', Gr G H G' H' → H p = none → G' p = none → H' p = some (.lst vs) → RpA G' vs ds → Q (.ref p) H') → t σ H Q
def EvB (t : TT) (ρ : DE) (b : Bool) : Prop := ∀ (G H : Hp) (σ : L2.St), Ex G H → EnvR G σ ρ → ∀ Q : Bool → Hp → Prop, (∀ G' H', Gr G H G' H' → Q b H') → t σ H Q
def EvA (t : TA) (ρ : DE) (ds : List Da) : Prop := ∀ (G H : Hp) (σ : L2.St), Ex G H → EnvR G σ ρ → ∀ Q : List V → Hp → Prop, (∀ vs G' H', Gr G H G' H' → RpA G' vs ds → Q vs H') → t σ H Q
def EvO (t : TO) (ρ : DE) (o : Option Int) : Prop := ∀ (G H : Hp) (σ : L2.St), Ex G H → EnvR G σ ρ → ∀ Q : Option Int → Hp → Prop, (∀ G' H', Gr G H G' H' → Q o H') → t σ H Q
/-- two values, many values, put together -/
def RV (r : R2) (d e f : Da) : Prop := ∀ (G H : Hp) (x y : V), Ex G H → Rp G x d → Rp G y e → ∀ Q : VK, (∀ v G' H', Gr G H G' H' → Rp G' v f → Q v H') → r x y H Q
def RU (r : V → Hp → VK → Prop) (d f : Da) : Prop := ∀ (G H : Hp) (x : V), Ex G H → Rp G x d → ∀ Q : VK, (∀ v G' H', Gr G H G' H' → Rp G' v f → Q v H') → r x H Q
def RC (r : List V → Hp → VK → Prop) (ds : List Da) (f : Da) : Prop := ∀ (G H : Hp) (xs : List V), Ex G H → RpA G xs ds → ∀ Q : VK, (∀ v G' H', Gr G H G' H' → Rp G' v f → Q v H') → r xs H Q
section
variable {t ta tb tc te : TE} {tt tu : TT} {ρ ρ' : DE} {d e f : Da} {ds es : List Da} {r : R2}
theorem EvD.le (h : EvD t ρ d) (l : Le ρ ρ') : EvD t ρ' d := fun G H σ e r Q q => h G H σ e (r.le l) Q q
theorem EvD.to (h : EvD t ρ d) (e : d = f) : EvD t ρ f := e ▸ h
theorem EvL.to (h : EvL t ρ ds) (e : ds = es) : EvL t ρ es := e ▸ h
theorem EvB.to {a b : Bool} (h : EvB tt ρ a) (e : a = b) : EvB tt ρ b := e ▸ h
theorem EvL.toD (h : EvL t ρ ds) : EvD t ρ (.lst ds) := fun G H σ e r Q q => h G H σ e r Q fun p vs G' H' g hp hn hv ra =>
  q _ _ _ (g.know hp hn hv) (.lst upd_same (ra.mono (Ex.new hn)))
theorem evc {v : V} (h : ∀ G, Rp G v d) : EvD (tC v) ρ d := fun G H σ e r Q q => q v G H (.refl e) (h G)
theorem ev_int {i : Int} : EvD (tC (.int i)) ρ (.int i) := evc fun _ => .int i
theorem ev_nat {i : Nat} : EvD (tC (.int (i : Int))) ρ (nat i) := evc fun _ => .int _
theorem ev_bl {b : Bool} : EvD (tC (.bl b)) ρ (.bl b) := evc fun _ => .bl b
theorem ev_non : EvD (tC .non) ρ .non := evc fun _ => .non
theorem ev_str {x : Str} : EvD (tC (.str x)) ρ (.str x) := evc fun _ => .str x
theorem ev_v (i : Nat) (h : ρ[i]? = some (some d) := by rfl) : EvD (tVar i) ρ d := fun G H σ e r Q q => by
  obtain ⟨v, h1, h2⟩ := r.2 i d h
  exact ⟨v, h1, q v G H (.refl e) h2⟩
theorem ev_op (ha : EvD ta ρ d) (hb : EvD tb ρ e) (hr : RV r d e f) : EvD (tOp r ta tb) ρ f := fun G H σ x en Q q =>
  ha G H σ x en _ fun v G1 H1 g1 r1 => hb G1 H1 σ g1.gh (en.mono g1.gg) _ fun u G2 H2 g2 r2 =>
    hr G2 H2 v u g2.gh (r1.mono g2.gg) r2 Q fun w G3 H3 g3 r3 => q w G3 H3 ((g1.trans g2).trans g3) r3
theorem ev_un {r : V → Hp → VK → Prop} (ha : EvD ta ρ d) (hr : RU r d f) : EvD (tUn r ta) ρ f := fun G H σ x en Q q =>
  ha G H σ x en _ fun v G1 H1 g1 r1 => hr G1 H1 v g1.gh r1 Q fun w G3 H3 g3 r3 => q w G3 H3 (g1.trans g3) r3
theorem ea_nil : EvA tNil ρ [] := fun G H σ e r Q q => q [] G H (.refl e) .nil
theorem ea_cons {tr : TA} (ha : EvD ta ρ d) (hr : EvA tr ρ ds) : EvA (tCons ta tr) ρ (d :: ds) := fun G H σ x en Q q =>
  ha G H σ x en _ fun v G1 H1 g1 r1 => hr G1 H1 σ g1.gh (en.mono g1.gg) _ fun vs G2 H2 g2 r2 => q (v :: vs) G2 H2 (g1.trans g2) (.cons (r1.mono g2.gg) r2)
theorem ea1 (ha : EvD ta ρ d) : EvA (tCons ta tNil) ρ [d] := ea_cons ha ea_nil
theorem ea2 (ha : EvD ta ρ d) (hb : EvD tb ρ e) : EvA (tCons ta (tCons tb tNil)) ρ [d, e] := ea_cons ha (ea1 hb)
theorem ea3 (ha : EvD ta ρ d) (hb : EvD tb ρ e) (hc : EvD tc ρ f) : EvA (tCons ta (tCons tb (tCons tc tNil))) ρ [d, e, f] := ea_cons ha (ea2 hb hc)
theorem RpA.small {G : Hp} {vs : List V} (r : RpA G vs ds) (h : ds.length ≤ 100000) : vs.length ≤ sizeLine := by
  rw [r.length]
  exact Evl.sz_of h
theorem ev_tup {tr : TA} (h : EvA tr ρ ds) (hl : ds.length ≤ 100000 := by first | decide | exact Nat.le_of_ble_eq_true rfl) : EvD (tTup tr) ρ (.tup ds) := fun G H σ x en Q q =>
  h G H σ x en _ fun vs G1 H1 g1 r1 => ⟨r1.small hl, fun p hp => q _ _ _ (g1.trans (.new g1.gh hp)) (.tup upd_same (r1.mono (Ex.new (ex_no g1.gh hp))))⟩
theorem el_lst {tr : TA} (h : EvA tr ρ ds) (hl : ds.length ≤ 100000 := by first | decide | exact Nat.le_of_ble_eq_true rfl) : EvL (tLst tr) ρ ds := fun G H σ x en Q q =>
  h G H σ x en _ fun vs G1 H1 g1 r1 => ⟨r1.small hl, fun p hp => q p vs G1 _ (g1.trans (.sec g1.gh (Ex.new hp))) (ex_no g1.hh hp) (ex_no g1.gh hp) upd_same r1⟩
/-- a call of a built-in thing -/
theorem ev_cb {r : List V → Hp → VK → Prop} {tr : TA} (h : EvA tr ρ ds) (hr : RC r ds f) : EvD (tCB r tr) ρ f := fun G H σ x en Q q =>
  h G H σ x en _ fun vs G1 H1 g1 r1 => hr G1 H1 vs g1.gh r1 Q fun v G2 H2 g2 r2 => q v G2 H2 (g1.trans g2) r2

/-! ### tests -/
theorem eb_test {b : Bool} (h : EvD t ρ (.bl b)) : EvB (tTest t) ρ b := fun G H σ x en Q q => h G H σ x en _ fun v G1 H1 g1 r1 => by
  cases r1
  exact ⟨b, rfl, q G1 H1 g1⟩
theorem eb_val {b : Bool} (h : EvD t ρ (.bl b)) : EvB (tB t) ρ b := fun G H σ x en Q q => h G H σ x en _ fun v G1 H1 g1 r1 => by
  cases r1
  exact ⟨b, rfl, q G1 H1 g1⟩
theorem eb_and {a b : Bool} (h1 : EvB tt ρ a) (h2 : a = true → EvB tu ρ b) : EvB (tAnd tt tu) ρ (a && b) := fun G H σ x en Q q => h1 G H σ x en _ fun G1 H1 g1 => by
  cases a with
  | true =>
    show tu σ H1 Q
    exact h2 rfl G1 H1 σ g1.gh (en.mono g1.gg) Q fun G2 H2 g2 => q G2 H2 (g1.trans g2)
  | false => exact q G1 H1 g1
theorem eb_or {a b : Bool} (h1 : EvB tt ρ a) (h2 : a = false → EvB tu ρ b) : EvB (tOr tt tu) ρ (a || b) := fun G H σ x en Q q => h1 G H σ x en _ fun G1 H1 g1 => by
  cases a with
  | false =>
    show tu σ H1 Q
    exact h2 rfl G1 H1 σ g1.gh (en.mono g1.gg) Q fun G2 H2 g2 => q G2 H2 (g1.trans g2)
  | true => exact q G1 H1 g1
theorem eb_not {a : Bool} (h1 : EvB tt ρ a) : EvB (tNot tt) ρ (!a) := fun G H σ x en Q q => h1 G H σ x en _ fun G1 H1 g1 => q G1 H1 g1
theorem ev_and {a b : Bool} (h1 : EvD ta ρ (.bl a)) (h2 : a = true → EvD tb ρ (.bl b)) : EvD (tAndV ta tb) ρ (.bl (a && b)) := fun G H σ x en Q q => h1 G H σ x en _ fun v G1 H1 g1 r1 => by
  cases r1
  refine ⟨a, rfl, ?_⟩
  cases a with
  | true =>
    show tb σ H1 Q
    exact h2 rfl G1 H1 σ g1.gh (en.mono g1.gg) Q fun v G2 H2 g2 r2 => q v G2 H2 (g1.trans g2) r2
  | false => exact q _ G1 H1 g1 (.bl false)
theorem ev_or {a b : Bool} (h1 : EvD ta ρ (.bl a)) (h2 : a = false → EvD tb ρ (.bl b)) : EvD (tOrV ta tb) ρ (.bl (a || b)) := fun G H σ x en Q q => h1 G H σ x en _ fun v G1 H1 g1 r1 => by
  cases r1
  refine ⟨a, rfl, ?_⟩
  cases a with
  | false =>
    show tb σ H1 Q
    exact h2 rfl G1 H1 σ g1.gh (en.mono g1.gg) Q fun v G2 H2 g2 r2 => q v G2 H2 (g1.trans g2) r2
  | true => exact q _ G1 H1 g1 (.bl true)
theorem ev_not {a : Bool} (h1 : EvD ta ρ (.bl a)) : EvD (tNotV ta) ρ (.bl (!a)) := fun G H σ x en Q q => h1 G H σ x en _ fun v G1 H1 g1 r1 => by
  cases r1
  exact ⟨a, rfl, q _ G1 H1 g1 (.bl _)⟩
theorem ev_if {b : Bool} (h : EvB tt ρ b) (h1 : b = true → EvD ta ρ d) (h2 : b = false → EvD tb ρ d) : EvD (tIf tt ta tb) ρ d := fun G H σ x en Q q => h G H σ x en _ fun G1 H1 g1 => by
  cases b with
  | true =>
    show ta σ H1 Q
    exact h1 rfl G1 H1 σ g1.gh (en.mono g1.gg) Q fun v G2 H2 g2 r2 => q v G2 H2 (g1.trans g2) r2
  | false =>
    show tb σ H1 Q
    exact h2 rfl G1 H1 σ g1.gh (en.mono g1.gg) Q fun v G2 H2 g2 r2 => q v G2 H2 (g1.trans g2) r2
end

/-! ### what is gone through: the items as data -/
def ItD (J : It) (xs : List Da) (G : Hp) : Prop := ∀ (G1 H1 : Hp), Ex G G1 → Ex G1 H1 → ∀ i : Nat,
  (i < xs.length → J.go i H1) ∧ (xs.length ≤ i → J.stop i H1) ∧
  ∀ x H2, J.yld i H1 x H2 → ∃ G2 d, Gr G1 H1 G2 H2 ∧ (i < xs.length → xs[i]? = some d ∧ Rp G2 x d)
def EvI (t : TI) (ρ : DE) (xs : List Da) : Prop := ∀ (G H : Hp) (σ : L2.St), Ex G H → EnvR G σ ρ → ∀ R : It → Hp → Prop, (∀ J G' H', Gr G H G' H' → ItD J xs G' → R J H') → t σ H R
theorem ItD.mono {J : It} {xs : List Da} {G G' : Hp} (h : ItD J xs G) (e : Ex G G') : ItD J xs G' := fun G1 H1 a b i => h G1 H1 (e.trans a) b i
theorem itd_list {K : PySem.W.Frag} {a : Addr} {vs : List V} {xs : List Da} {G : Hp} (h : G a = some (.lst vs)) (r : RpA G vs xs) : ItD (Itl K a) xs G := fun G1 H1 e1 e2 i => by
  have hq : SqL K H1 a vs := SqL.of (e2 _ _ (e1 _ _ h))
  refine ⟨fun hi => ?_, fun hi => ⟨vs, hq, by rw [r.length]; exact hi⟩, fun x H2 y => ?_⟩
  · have hi' : i < vs.length := by rw [r.length]; exact hi
    exact ⟨vs, vs[i], hq, by simp [hi']⟩
  · obtain ⟨rfl, f⟩ := y
    have ev := f vs hq
    obtain ⟨d, h1, h2⟩ := r.getV ev
    exact ⟨G1, d, .refl e2, fun _ => ⟨h1, h2.mono e1⟩⟩
theorem itd_tup {K : PySem.W.Frag} {a : Addr} {vs : List V} {xs : List Da} {G : Hp} (h : G a = some (.tup vs)) (r : RpA G vs xs) : ItD (Itt K a) xs G := fun G1 H1 e1 e2 i => by
  have hq : SqT K H1 a vs := SqT.of (e2 _ _ (e1 _ _ h))
  refine ⟨fun hi => ?_, fun hi => ⟨vs, hq, by rw [r.length]; exact hi⟩, fun x H2 y => ?_⟩
  · have hi' : i < vs.length := by rw [r.length]; exact hi
    exact ⟨vs, vs[i], hq, by simp [hi']⟩
  · obtain ⟨rfl, f⟩ := y
    have ev := f vs hq
    obtain ⟨d, h1, h2⟩ := r.getV ev
    exact ⟨G1, d, .refl e2, fun _ => ⟨h1, h2.mono e1⟩⟩
theorem itd_rng {lo : Int} {n : Nat} {G : Hp} : ItD (Itr lo n) ((List.range n).map fun (i : Nat) => .int (lo + (i : Int))) G := fun G1 H1 e1 e2 i => by
  refine ⟨fun hi => (by simpa using hi : i < n), fun hi => (by simpa using hi : n ≤ i), fun x H2 y => ?_⟩
  obtain ⟨rfl, rfl⟩ := y
  refine ⟨G1, .int (lo + (i : Int)), .refl e2, fun hi => ⟨?_, .int _⟩⟩
  have hi' : i < n := by simpa using hi
  rw [List.getElem?_map, List.getElem?_range hi'] <;> rfl
section
variable {ta tb te : TE} {tr : TA} {ρ : DE} {xs ys : List Da} {K : PySem.W.Frag}
theorem ei_list (h : EvD te ρ (.lst xs)) : EvI (iList K te) ρ xs := fun G H σ x en R q => h G H σ x en _ fun v G1 H1 g1 r1 => by
  obtain ⟨a, vs, rfl, ha, ra⟩ := r1.isLst
  exact ⟨a, rfl, ⟨vs, SqL.of (g1.gh _ _ ha)⟩, q _ G1 H1 g1 (itd_list ha ra)⟩
theorem ei_tup (h : EvD te ρ (.tup xs)) : EvI (iTup K te) ρ xs := fun G H σ x en R q => h G H σ x en _ fun v G1 H1 g1 r1 => by
  obtain ⟨a, vs, rfl, ha, ra⟩ := r1.isTup
  exact ⟨a, rfl, ⟨vs, SqT.of (g1.gh _ _ ha)⟩, q _ G1 H1 g1 (itd_tup ha ra)⟩
theorem ei_rng1 {n : Int} (h : EvA tr ρ [.int n]) (h1 : -1000000 ≤ n) (h2 : n ≤ 1000000) : EvI (iRng1 tr) ρ ((List.range n.toNat).map fun (i : Nat) => nat i) := fun G H σ x en R q => h G H σ x en _ fun vs G1 H1 g1 r1 => by
  cases r1 with
  | cons a b =>
    cases b
    cases a
    refine ⟨n, rfl, by omega, by omega, q _ G1 H1 g1 ?_⟩
    have z := itd_rng (lo := 0) (n := n.toNat) (G := G1)
    have e : (fun (i : Nat) => Da.int (0 + (i : Int))) = fun i => nat i := funext fun i => by rw [Int.zero_add]
    rw [e] at z
    exact z
theorem ei_rng2 {lo n : Int} (h : EvA tr ρ [.int lo, .int n]) (h0 : -1000000 ≤ lo ∧ lo ≤ 1000000 ∧ -1000000 ≤ n ∧ n ≤ 1000000) : EvI (iRng2 tr) ρ ((List.range (n - lo).toNat).map fun (i : Nat) => .int (lo + (i : Int))) := fun G H σ x en R q => h G H σ x en _ fun vs G1 H1 g1 r1 => by
  cases r1 with
  | cons a b =>
    cases b with
    | cons b c =>
      cases c
      cases a
      cases b
      exact ⟨lo, n, rfl, by omega, q _ G1 H1 g1 itd_rng⟩
end

/-! ### targets -/
/-- a target that sets some of the slots js -/
def TgD (g : TG) (d : Da) (ρ ρ' : DE) (js : List Nat) : Prop := ∀ (G H : Hp) (σ : L2.St) (v : V), Ex G H → EnvR G σ ρ → Rp G v d → ∀ Q : L2.St → Hp → Prop,
  (∀ σ' G' H', Gr G H G' H' → EnvR G' σ' ρ' → (∀ vs : List Nat, (∀ j ∈ js, j ∈ vs) → wipe σ' vs = wipe σ vs) → (∀ i, i ∉ js → σ'[i]? = σ[i]?) → Q σ' H') → g v σ H Q
theorem tg_name {j : Nat} {d : Da} {ρ : DE} : TgD (gName j) d ρ (ρ.set j (some d)) [j] := fun G H σ v x en r Q q =>
  q _ G H (.refl x) (en.set j r) (fun vs h => wipe_set (h j List.mem_cons_self)) fun i hi => List.getElem?_set_ne fun z => hi (by simp [z])
theorem tg_tup2 {K : PySem.W.Frag} {i j : Nat} {d e : Da} {ρ : DE} : TgD (gTup K 2 (gCons (gName i) (gCons (gName j) gNil))) (.tup [d, e]) ρ ((ρ.set i (some d)).set j (some e)) [i, j] := fun G H σ v x en r Q q => by
  obtain ⟨a, vs, rfl, ha, ra⟩ := r.isTup
  cases ra with
  | cons r1 ra =>
    cases ra with
    | cons r2 ra =>
      cases ra
      refine ⟨a, _, rfl, SqT.of (x _ _ ha), rfl, _, _, rfl, _, _, rfl, rfl, ?_⟩
      refine q _ G H (.refl x) ((en.set i r1).set j r2) (fun vs h => ?_) fun k hk => ?_
      · rw [wipe_set (h j (by simp)), wipe_set (h i (by simp))]
      · have h1 : k ≠ i ∧ k ≠ j := by simpa using hk
        rw [List.getElem?_set_ne (Ne.symm h1.2), List.getElem?_set_ne (Ne.symm h1.1)]
theorem tg_tup3 {K : PySem.W.Frag} {i j k : Nat} {d e f : Da} {ρ : DE} : TgD (gTup K 3 (gCons (gName i) (gCons (gName j) (gCons (gName k) gNil)))) (.tup [d, e, f]) ρ (((ρ.set i (some d)).set j (some e)).set k (some f)) [i, j, k] := fun G H σ v x en r Q q => by
  obtain ⟨a, vs, rfl, ha, ra⟩ := r.isTup
  cases ra with
  | cons r1 ra =>
    cases ra with
    | cons r2 ra =>
      cases ra with
      | cons r3 ra =>
        cases ra
        refine ⟨a, _, rfl, SqT.of (x _ _ ha), rfl, _, _, rfl, _, _, rfl, _, _, rfl, rfl, ?_⟩
        refine q _ G H (.refl x) (((en.set i r1).set j r2).set k r3) (fun vs h => ?_) fun m hm => ?_
        · rw [wipe_set (h k (by simp)), wipe_set (h j (by simp)), wipe_set (h i (by simp))]
        · have h1 : m ≠ i ∧ m ≠ j ∧ m ≠ k := by simpa using hm
          rw [List.getElem?_set_ne (Ne.symm h1.2.2), List.getElem?_set_ne (Ne.symm h1.2.1), List.getElem?_set_ne (Ne.symm h1.1)]
end Mk
end

section
set_option Elab.async false
set_option linter.all false
set_option maxRecDepth 100000
set_option maxHeartbeats 2000000
/-! comprehensions, operators, calls, statements: as data -/
namespace Mk
open PySem PySem.Spec PyProof.Rows L2
open Evl (Ex)
theorem Gr.mut {G H G' H' : Hp} (g : Gr G H G' H') {p : Addr} {o : HO} (hp : H p = none) (hn : G' p = none) : Gr G H G' (upd H' p o) :=
  ⟨g.gg, Ex.mut g.gh hn, Ex.mut g.hh hp, g.nw⟩
section
variable {t ta tb tc te : TE} {tt tu : TT} {tr : TA} {ρ : DE} {d e f : Da} {ds es : List Da} {r : R2} {K : PySem.W.Frag}

/-! ### comprehensions -/
theorem el_lc {wi : TI} {g : TG} {vs js : List Nat} {α : Type} {as : List α} {en : α → Da} {p : α → Bool} {fn : α → Da} {ρ' : α → DE}
    (hi : EvI wi ρ (as.map en)) (hg : ∀ a ∈ as, TgD g (en a) (wipeD ρ vs) (ρ' a) js) (ht : ∀ a ∈ as, EvB tt (ρ' a) (p a)) (hf : ∀ a ∈ as, p a = true → EvD te (ρ' a) (fn a))
    (hz : as.length ≤ 100000) (hjs : ∀ j ∈ js, j ∈ vs := by decide) : EvL (tLc wi g tt te vs) ρ ((as.filter p).map fn) := fun G H σ x env Q q => by
  refine hi G H σ x env _ fun J G1 H1 g1 it D hD => ?_
  refine ⟨fun i m H' => m = as.length - i ∧ i ≤ as.length ∧ ∃ G2 ws, Gr G1 H1 G2 H' ∧ G2 D = none ∧ H' D = some (.lst ws) ∧ RpA G2 ws (((as.take i).filter p).map fn), ⟨as.length, ?_⟩, ?_⟩
  · exact ⟨rfl, Nat.zero_le _, G1, [], ⟨Ex.refl _, g1.gh.trans (Ex.new hD), Ex.new hD, fun _ _ h => h⟩, ex_no g1.gh hD, upd_same, .nil⟩
  rintro i m H' ⟨rfl, hi', G2, ws, g2, nD, eD, rw'⟩
  obtain ⟨h1, h2, h3⟩ := it G2 H' g2.gg g2.gh i
  rw [List.length_map] at h1 h2 h3
  by_cases hlt : i < as.length
  · refine .inr ⟨h1 hlt, fun H'' => ∃ G2 ws, Gr G1 H1 G2 H'' ∧ G2 D = none ∧ H'' D = some (.lst ws) ∧ RpA G2 ws (((as.take (i + 1)).filter p).map fn), fun H'' z => ⟨as.length - (i + 1), by omega, rfl, hlt, z⟩, fun v H2 y => ?_⟩
    obtain ⟨G3, d', g3, k3⟩ := h3 v H2 y
    obtain ⟨k4, r3⟩ := k3 hlt
    have ha : as[i]? = some as[i] := List.getElem?_eq_getElem hlt
    rw [List.getElem?_map, ha] at k4
    have ed : en as[i] = d' := Option.some.inj k4
    subst ed
    have hm : as[i] ∈ as := List.getElem_mem hlt
    have env3 : EnvR G3 (wipe σ vs) (wipeD ρ vs) := (env.mono (g1.gg.trans (g2.gg.trans g3.gg))).wipe vs
    refine hg _ hm G3 H2 _ v g3.gh env3 r3 _ fun σ' G4 H4 g4 env4 hw _ => ⟨(hw vs hjs).trans (wipe_wipe σ vs), ?_⟩
    have n4 := (g3.trans g4).no eD nD
    refine ht _ hm G4 H4 σ' g4.gh env4 _ fun G5 H5 g5 => ?_
    have g25 : Gr G2 H' G5 H5 := (g3.trans g4).trans g5
    have e5 : H5 D = some (.lst ws) := g25.hh _ _ eD
    have etake : as.take (i + 1) = as.take i ++ [as[i]] := by rw [List.take_add_one, ha] <;> rfl
    cases hp : p as[i] with
    | false =>
      refine ⟨G5, ws, g2.trans g25, g25.no eD nD, e5, ?_⟩
      rw [etake, List.filter_append, List.filter_cons, hp]
      simpa using rw'.mono g25.gg
    | true =>
      show te σ' H5 _
      refine hf _ hm hp G5 H5 σ' g5.gh (env4.mono g5.gg) _ fun y' G6 H6 g6 r6 => ?_
      have g26 : Gr G2 H' G6 H6 := g25.trans g6
      have hl : (((as.take i).filter p).map fn).length ≤ i := by
        rw [List.length_map]
        refine Nat.le_trans (List.length_filter_le _ _) ?_
        rw [List.length_take]
        exact Nat.min_le_left _ _
      refine ⟨ws, g26.hh _ _ eD, Evl.sz_lt (by rw [rw'.length]; omega), G6, ws ++ [y'], (g2.trans g26).mut hD (g26.no eD nD), g26.no eD nD, upd_same, ?_⟩
      rw [etake, List.filter_append, List.filter_cons, hp, List.map_append]
      exact (rw'.mono g26.gg).append (.cons r6 .nil)
  · have ei : i = as.length := by omega
    subst ei
    refine .inl ⟨h2 (Nat.le_refl _), q D ws G2 H' (g1.trans g2) (ex_no g1.hh hD) nD eD ?_⟩
    rw [List.take_length] at rw'
    exact rw'
/-- without a test -/
def tYes : TT := fun _ H Q => Q true H
theorem eb_yes : EvB (fun _ H Q => Q true H) ρ true := fun G H σ x en Q q => q G H (.refl x)
theorem el_map {wi : TI} {g : TG} {vs js : List Nat} {α : Type} {as : List α} {en : α → Da} {fn : α → Da} {ρ' : α → DE}
    (hi : EvI wi ρ (as.map en)) (hg : ∀ a ∈ as, TgD g (en a) (wipeD ρ vs) (ρ' a) js) (hf : ∀ a ∈ as, EvD te (ρ' a) (fn a))
    (hz : as.length ≤ 100000) (hjs : ∀ j ∈ js, j ∈ vs := by decide) : EvL (tLc wi g (fun _ H Q => Q true H) te vs) ρ (as.map fn) := by
  have z := el_lc (te := te) (p := fun _ => true) hi hg (fun a _ => eb_yes) (fun a ha _ => hf a ha) hz hjs
  rwa [List.filter_eq_self.mpr (fun _ _ => rfl)] at z

/-! ### operators -/
theorem rv_I0 {g : Int → Int → V} {i j : Int} (h : ∀ G, Rp G (g i j) f) : RV (rI0 g) (.int i) (.int j) f := fun G H x y ex r1 r2 Q q => by
  cases r1
  cases r2
  exact ⟨i, j, rfl, rfl, q _ G H (.refl ex) (h G)⟩
theorem rv_I {C : Int → Int → Prop} {g : Int → Int → V} {i j : Int} (hc : C i j) (h : ∀ G, Rp G (g i j) f) : RV (rI C g) (.int i) (.int j) f := fun G H x y ex r1 r2 Q q => by
  cases r1
  cases r2
  exact ⟨i, j, rfl, rfl, hc, q _ G H (.refl ex) (h G)⟩
theorem ev_i0 {g : Int → Int → V} {i j : Int} (ha : EvD ta ρ (.int i)) (hb : EvD tb ρ (.int j)) (h : ∀ G, Rp G (g i j) f) : EvD (tOp (rI0 g) ta tb) ρ f := ev_op ha hb (rv_I0 h)
theorem ev_add {i j : Int} (ha : EvD ta ρ (.int i)) (hb : EvD tb ρ (.int j)) : EvD (tOp (rI0 fun i j => .int (i + j)) ta tb) ρ (.int (i + j)) := ev_i0 ha hb fun _ => .int _
theorem ev_sub {i j : Int} (ha : EvD ta ρ (.int i)) (hb : EvD tb ρ (.int j)) : EvD (tOp (rI0 fun i j => .int (i - j)) ta tb) ρ (.int (i - j)) := ev_i0 ha hb fun _ => .int _
theorem ev_mul {i j : Int} (ha : EvD ta ρ (.int i)) (hb : EvD tb ρ (.int j)) (hc : CMul i j) : EvD (tOp (rI CMul fun i j => .int (i * j)) ta tb) ρ (.int (i * j)) := ev_op ha hb (rv_I hc fun _ => .int _)
theorem ev_lt {i j : Int} (ha : EvD ta ρ (.int i)) (hb : EvD tb ρ (.int j)) : EvD (tOp (rI0 fun i j => .bl (decide (i < j))) ta tb) ρ (.bl (decide (i < j))) := ev_i0 ha hb fun _ => .bl _
theorem ev_le {i j : Int} (ha : EvD ta ρ (.int i)) (hb : EvD tb ρ (.int j)) : EvD (tOp (rI0 fun i j => .bl (decide (i ≤ j))) ta tb) ρ (.bl (decide (i ≤ j))) := ev_i0 ha hb fun _ => .bl _
theorem ev_gt {i j : Int} (ha : EvD ta ρ (.int i)) (hb : EvD tb ρ (.int j)) : EvD (tOp (rI0 fun i j => .bl (decide (j < i))) ta tb) ρ (.bl (decide (j < i))) := ev_i0 ha hb fun _ => .bl _
theorem ev_ge {i j : Int} (ha : EvD ta ρ (.int i)) (hb : EvD tb ρ (.int j)) : EvD (tOp (rI0 fun i j => .bl (decide (j ≤ i))) ta tb) ρ (.bl (decide (j ≤ i))) := ev_i0 ha hb fun _ => .bl _
/-! numbers from 0 -/
theorem ev_addN {i j : Nat} (ha : EvD ta ρ (nat i)) (hb : EvD tb ρ (nat j)) : EvD (tOp (rI0 fun i j => .int (i + j)) ta tb) ρ (nat (i + j)) := (ev_add ha hb).to (by rw [nat, Int.natCast_add])
theorem ev_ltN {i j : Nat} (ha : EvD ta ρ (nat i)) (hb : EvD tb ρ (nat j)) : EvD (tOp (rI0 fun i j => .bl (decide (i < j))) ta tb) ρ (.bl (decide (i < j))) := (ev_lt ha hb).to (by simp)
theorem ev_leN {i j : Nat} (ha : EvD ta ρ (nat i)) (hb : EvD tb ρ (nat j)) : EvD (tOp (rI0 fun i j => .bl (decide (i ≤ j))) ta tb) ρ (.bl (decide (i ≤ j))) := (ev_le ha hb).to (by simp)
theorem ev_gtN {i j : Nat} (ha : EvD ta ρ (nat i)) (hb : EvD tb ρ (nat j)) : EvD (tOp (rI0 fun i j => .bl (decide (j < i))) ta tb) ρ (.bl (decide (j < i))) := (ev_gt ha hb).to (by simp)
/-- == of flat things -/
theorem ev_eqI {i j : Int} (ha : EvD ta ρ (.int i)) (hb : EvD tb ρ (.int j)) : EvD (tOp rEq ta tb) ρ (.bl (decide (i = j))) := ev_op ha hb fun G H x y ex r1 r2 Q q => by
  cases r1
  cases r2
  refine ⟨rfl, q _ G H (.refl ex) ?_⟩
  have : decide (V.int i = V.int j) = decide (i = j) := by simp
  rw [this]
  exact .bl _
theorem ev_neI {i j : Int} (ha : EvD ta ρ (.int i)) (hb : EvD tb ρ (.int j)) : EvD (tOp rNe ta tb) ρ (.bl (!decide (i = j))) := ev_op ha hb fun G H x y ex r1 r2 Q q => by
  cases r1
  cases r2
  refine ⟨rfl, q _ G H (.refl ex) ?_⟩
  have : decide (V.int i = V.int j) = decide (i = j) := by simp
  rw [this]
  exact .bl _
theorem ev_eqN {i j : Nat} (ha : EvD ta ρ (nat i)) (hb : EvD tb ρ (nat j)) : EvD (tOp rEq ta tb) ρ (.bl (decide (i = j))) := (ev_eqI ha hb).to (by simp [Int.ofNat_inj])
theorem ev_neN {i j : Nat} (ha : EvD ta ρ (nat i)) (hb : EvD tb ρ (nat j)) : EvD (tOp rNe ta tb) ρ (.bl (!decide (i = j))) := (ev_neI ha hb).to (by simp [Int.ofNat_inj])
theorem ev_chain {r' : R2} {b1 b2 : Bool} (ha : EvD ta ρ d) (hb : EvD tb ρ e) (hr : RV r d e (.bl b1)) (hc : b1 = true → EvD tc ρ f) (hr' : b1 = true → RV r' e f (.bl b2)) : EvD (tChain r r' ta tb tc) ρ (.bl (b1 && b2)) := fun G H σ x en Q q =>
  ha G H σ x en _ fun v G1 H1 g1 r1 => hb G1 H1 σ g1.gh (en.mono g1.gg) _ fun u G2 H2 g2 r2 =>
    hr G2 H2 v u g2.gh (r1.mono g2.gg) r2 _ fun w G3 H3 g3 r3 => by
      cases r3
      refine ⟨b1, rfl, ?_⟩
      have g13 := (g1.trans g2).trans g3
      cases b1 with
      | true =>
        show tc σ H3 _
        exact hc rfl G3 H3 σ g3.gh (en.mono g13.gg) _ fun z G4 H4 g4 r4 => hr' rfl G4 H4 u z g4.gh (r2.mono (g3.gg.trans g4.gg)) r4 Q fun y G5 H5 g5 r5 => q y G5 H5 ((g13.trans g4).trans g5) r5
      | false => exact q _ G3 H3 g13 (.bl false)
/-! ### subscripts -/
theorem ev_ixT {i : Int} (ha : EvD ta ρ (.tup ds)) (hb : EvD tb ρ (.int i)) (h : atI ds i = some d) : EvD (tOp (rIx K) ta tb) ρ d := ev_op ha hb fun G H x y ex r1 r2 Q q => by
  obtain ⟨a, vs, rfl, h1, ra⟩ := r1.isTup
  cases r2
  unfold atI at h
  rw [← ra.length] at h
  cases hj : ixN vs.length i with
  | none => rw [hj] at h; cases h
  | some j =>
    rw [hj] at h
    obtain ⟨v, hv, rv⟩ := ra.get (show ds[j]? = some d from h)
    refine .inr (.inl ⟨a, vs, i, v, rfl, rfl, SqT.of (ex _ _ h1), ?_, q v G H (.refl ex) rv⟩)
    unfold atI
    rw [hj]
    exact hv
theorem ev_ixL {i : Int} (ha : EvD ta ρ (.lst ds)) (hb : EvD tb ρ (.int i)) (h : atI ds i = some d) : EvD (tOp (rIx K) ta tb) ρ d := ev_op ha hb fun G H x y ex r1 r2 Q q => by
  obtain ⟨a, vs, rfl, h1, ra⟩ := r1.isLst
  cases r2
  unfold atI at h
  rw [← ra.length] at h
  cases hj : ixN vs.length i with
  | none => rw [hj] at h; cases h
  | some j =>
    rw [hj] at h
    obtain ⟨v, hv, rv⟩ := ra.get (show ds[j]? = some d from h)
    refine .inl ⟨a, vs, i, v, rfl, rfl, SqL.of (ex _ _ h1), ?_, q v G H (.refl ex) rv⟩
    unfold atI
    rw [hj]
    exact hv
theorem ev_ixTN {i : Nat} (ha : EvD ta ρ (.tup ds)) (hb : EvD tb ρ (nat i)) (h : ds[i]? = some d) : EvD (tOp (rIx K) ta tb) ρ d := ev_ixT ha hb (atI_nat h)
theorem ev_ixLN {i : Nat} (ha : EvD ta ρ (.lst ds)) (hb : EvD tb ρ (nat i)) (h : ds[i]? = some d) : EvD (tOp (rIx K) ta tb) ρ d := ev_ixL ha hb (atI_nat h)
/-! ### in -/
theorem inV_ints (k : Int) (ns : List Int) : inV (.int k) (ns.map V.int) = decide (k ∈ ns) := by
  unfold inV
  induction ns with
  | nil => rfl
  | cons n r ih =>
    rw [List.map_cons, List.any_cons, ih]
    have : eqV (.int n) (.int k) = decide (k = n) := by
      show (n == k) = _
      rw [Bool.beq_eq_decide_eq]
      exact decide_eq_decide.mpr eq_comm
    rw [this]
    simp [Bool.decide_or]
theorem flat_ints (ns : List Int) : (ns.map V.int).all flatV = true := by
  rw [List.all_map]
  exact List.all_eq_true.mpr fun _ _ => rfl
theorem rv_inT {neg : Bool} {k : Int} {ns : List Int} : RV (rIn K neg) (.int k) (.tup (ns.map .int)) (.bl (if neg then !decide (k ∈ ns) else decide (k ∈ ns))) := fun G H x y ex r1 r2 Q q => by
  cases r1
  obtain ⟨a, vs, rfl, h1, ra⟩ := r2.isTup
  have e := ra.ints
  subst e
  refine ⟨a, _, rfl, .inr (SqT.of (ex _ _ h1)), rfl, flat_ints ns, ?_⟩
  rw [inV_ints]
  exact q _ G H (.refl ex) (.bl _)
theorem rv_inL {neg : Bool} {k : Int} {ns : List Int} : RV (rIn K neg) (.int k) (.lst (ns.map .int)) (.bl (if neg then !decide (k ∈ ns) else decide (k ∈ ns))) := fun G H x y ex r1 r2 Q q => by
  cases r1
  obtain ⟨a, vs, rfl, h1, ra⟩ := r2.isLst
  have e := ra.ints
  subst e
  refine ⟨a, _, rfl, .inl (SqL.of (ex _ _ h1)), rfl, flat_ints ns, ?_⟩
  rw [inV_ints]
  exact q _ G H (.refl ex) (.bl _)
theorem mem_nats {k : Nat} {ns : List Nat} : (k : Int) ∈ ns.map Int.ofNat ↔ k ∈ ns := by
  rw [List.mem_map]
  constructor
  · rintro ⟨a, h, e⟩
    have : a = k := Int.ofNat.inj e
    exact this ▸ h
  · intro h
    exact ⟨k, h, rfl⟩
theorem ev_inTN {k : Nat} {ns : List Nat} (ha : EvD ta ρ (nat k)) (hb : EvD tb ρ (.tup (nats ns))) : EvD (tOp (rIn K false) ta tb) ρ (.bl (decide (k ∈ ns))) := by
  rw [nats_ints] at hb
  refine (ev_op ha hb rv_inT).to ?_
  simp only [Bool.false_eq_true, if_false, mem_nats]
theorem ev_niTN {k : Nat} {ns : List Nat} (ha : EvD ta ρ (nat k)) (hb : EvD tb ρ (.tup (nats ns))) : EvD (tOp (rIn K true) ta tb) ρ (.bl (!decide (k ∈ ns))) := by
  rw [nats_ints] at hb
  refine (ev_op ha hb rv_inT).to ?_
  simp only [if_true, mem_nats]
theorem ev_niLN {k : Nat} {ns : List Nat} (ha : EvD ta ρ (nat k)) (hb : EvD tb ρ (.lst (nats ns))) : EvD (tOp (rIn K true) ta tb) ρ (.bl (!decide (k ∈ ns))) := by
  rw [nats_ints] at hb
  refine (ev_op ha hb rv_inL).to ?_
  simp only [if_true, mem_nats]
/-! ### built-in calls -/
def rLenS (K : PySem.W.Frag) : List V → Hp → VK → Prop := fun xs H Q => ∃ p ys, xs = [.ref p] ∧ (SqL K H p ys ∨ SqT K H p ys) ∧ Q (.int ys.length) H
theorem rc_lenT : RC (fun xs H Q => ∃ p ys, xs = [V.ref p] ∧ (SqL K H p ys ∨ SqT K H p ys) ∧ Q (.int ys.length) H) [.tup ds] (nat ds.length) := fun G H xs ex r Q q => by
  cases r with
  | cons a b =>
    cases b
    obtain ⟨p, vs, rfl, h1, ra⟩ := a.isTup
    refine ⟨p, vs, rfl, .inr (SqT.of (ex _ _ h1)), ?_⟩
    rw [ra.length]
    exact q _ G H (.refl ex) (.int _)
theorem rc_lenL : RC (fun xs H Q => ∃ p ys, xs = [V.ref p] ∧ (SqL K H p ys ∨ SqT K H p ys) ∧ Q (.int ys.length) H) [.lst ds] (nat ds.length) := fun G H xs ex r Q q => by
  cases r with
  | cons a b =>
    cases b
    obtain ⟨p, vs, rfl, h1, ra⟩ := a.isLst
    refine ⟨p, vs, rfl, .inl (SqL.of (ex _ _ h1)), ?_⟩
    rw [ra.length]
    exact q _ G H (.refl ex) (.int _)
theorem rc_tupL : RC (fun xs H Q => ∃ p ys, xs = [V.ref p] ∧ ((SqL K H p ys ∧ ∀ l, H l = none → Q (.ref l) (upd H l (.tup ys))) ∨ (SqT K H p ys ∧ Q (.ref p) H))) [.lst ds] (.tup ds) := fun G H xs ex r Q q => by
  cases r with
  | cons a b =>
    cases b
    obtain ⟨p, vs, rfl, h1, ra⟩ := a.isLst
    exact ⟨p, vs, rfl, .inl ⟨SqL.of (ex _ _ h1), fun l hl => q _ _ _ (.new ex hl) (.tup upd_same (ra.mono (Ex.new (ex_no ex hl))))⟩⟩
theorem rc_tupT : RC (fun xs H Q => ∃ p ys, xs = [V.ref p] ∧ ((SqL K H p ys ∧ ∀ l, H l = none → Q (.ref l) (upd H l (.tup ys))) ∨ (SqT K H p ys ∧ Q (.ref p) H))) [.tup ds] (.tup ds) := fun G H xs ex r Q q => by
  cases r with
  | cons a b =>
    cases b
    obtain ⟨p, vs, rfl, h1, ra⟩ := a.isTup
    exact ⟨p, vs, rfl, .inr ⟨SqT.of (ex _ _ h1), q _ _ _ (.refl ex) (.tup h1 ra)⟩⟩
/-- list(..) makes a list of its own -/
theorem el_listOf (h : EvD te ρ (.lst ds) ∨ EvD te ρ (.tup ds)) : EvL (tCB (fun xs H Q => ∃ p ys, xs = [V.ref p] ∧ (SqL K H p ys ∨ SqT K H p ys) ∧ ∀ l, H l = none → Q (.ref l) (upd H l (.lst ys))) (tCons te tNil)) ρ ds := fun G H σ x en Q q => by
  rcases h with h | h
  · refine h G H σ x en _ fun v G1 H1 g1 r1 => ?_
    obtain ⟨p, vs, rfl, h1, ra⟩ := r1.isLst
    exact ⟨p, vs, rfl, .inl (SqL.of (g1.gh _ _ h1)), fun l hl => q l vs G1 _ (g1.trans (.sec g1.gh (Ex.new hl))) (ex_no g1.hh hl) (ex_no g1.gh hl) upd_same ra⟩
  · refine h G H σ x en _ fun v G1 H1 g1 r1 => ?_
    obtain ⟨p, vs, rfl, h1, ra⟩ := r1.isTup
    exact ⟨p, vs, rfl, .inr (SqT.of (g1.gh _ _ h1)), fun l hl => q l vs G1 _ (g1.trans (.sec g1.gh (Ex.new hl))) (ex_no g1.hh hl) (ex_no g1.gh hl) upd_same ra⟩
theorem rc_all {bs : List Bool} : RC (rAll K) [.lst (bs.map .bl)] (.bl (bs.all id)) := fun G H xs ex r Q q => by
  cases r with
  | cons a b =>
    cases b
    obtain ⟨p, vs, rfl, h1, ra⟩ := a.isLst
    have e := ra.bls
    subst e
    exact ⟨p, bs, rfl, SqL.of (ex _ _ h1), q _ _ _ (.refl ex) (.bl _)⟩
theorem rc_any {bs : List Bool} : RC (rAny K) [.lst (bs.map .bl)] (.bl (bs.any id)) := fun G H xs ex r Q q => by
  cases r with
  | cons a b =>
    cases b
    obtain ⟨p, vs, rfl, h1, ra⟩ := a.isLst
    have e := ra.bls
    subst e
    exact ⟨p, bs, rfl, SqL.of (ex _ _ h1), q _ _ _ (.refl ex) (.bl _)⟩
theorem rc_sum {ns : List Int} : RC (rSum K) [.lst (ns.map .int)] (.int ns.sum) := fun G H xs ex r Q q => by
  cases r with
  | cons a b =>
    cases b
    obtain ⟨p, vs, rfl, h1, ra⟩ := a.isLst
    have e := ra.ints
    subst e
    exact ⟨p, ns, rfl, SqL.of (ex _ _ h1), q _ _ _ (.refl ex) (.int _)⟩
/-- all(.. for ..), any: of a comprehension of tests -/
theorem ev_all {α : Type} {as : List α} {b : α → Bool} (h : EvD te ρ (.lst (as.map fun a => .bl (b a)))) : EvD (tCB (rAll K) (tCons te tNil)) ρ (.bl (as.all b)) := by
  have e : (as.map fun a => Da.bl (b a)) = (as.map b).map Da.bl := by rw [List.map_map] <;> rfl
  rw [e] at h
  refine (ev_cb (ea1 h) rc_all).to ?_
  rw [List.all_map] <;> rfl
theorem ev_any {α : Type} {as : List α} {b : α → Bool} (h : EvD te ρ (.lst (as.map fun a => .bl (b a)))) : EvD (tCB (rAny K) (tCons te tNil)) ρ (.bl (as.any b)) := by
  have e : (as.map fun a => Da.bl (b a)) = (as.map b).map Da.bl := by rw [List.map_map] <;> rfl
  rw [e] at h
  refine (ev_cb (ea1 h) rc_any).to ?_
  rw [List.any_map] <;> rfl
end

/-! ### a def's promise, as data; its call -/
def spD (R : List Da → Da → Prop) : Sp := fun vs H Q _ => ∃ G ds d, Ex G H ∧ RpA G vs ds ∧ R ds d ∧ ∀ v G' H', Gr G H G' H' → Rp G' v d → Q v H'
theorem ev_call {R : List Da → Da → Prop} {E : XK} {tr : TA} {ρ : DE} {ds : List Da} {d : Da} (h : EvA tr ρ ds) (hR : R ds d) : EvD (tCall (spD R) [] E tr) ρ d := fun G H σ x en Q q =>
  h G H σ x en _ fun vs G1 H1 g1 r1 => ⟨G1, ds, d, g1.gh, by rw [List.append_nil]; exact r1, hR, fun v G2 H2 g2 r2 => q v G2 H2 (g1.trans g2) r2⟩

/-! ### statements: at most one slot holds a thing of its own -/
inductive Ow where
  | no
  | l (i : Nat) (ds : List Da)
  | d (i : Nat) (kvs : List (Int × Da))
  | ll (i : Nat) (dss : List (List Da))
  | ld (i : Nat) (kvss : List (List (Int × Da)))
def Ow.slot : Ow → Option Nat
  | .no => none
  | .l i _ => some i
  | .d i _ => some i
  | .ll i _ => some i
  | .ld i _ => some i
theorem slot_ne {ow : Ow} {i j : Nat} (h : ow.slot = some j) (n : (j == i) = false) : ow.slot ≠ some i := fun e => by
  rw [h] at e
  have z := Option.some.inj e
  subst z
  simp at n
theorem hs1 {α : Type} {O : α → Ow} {i : Nat} (h : ∀ x, (O x).slot ≠ some i) : ∀ x, ∀ j ∈ [i], (O x).slot ≠ some j := fun x j hj => by
  have e : j = i := by simpa using hj
  rw [e]; exact h x
theorem hs2 {α : Type} {O : α → Ow} {i k : Nat} (h : ∀ x, (O x).slot ≠ some i) (h' : ∀ x, (O x).slot ≠ some k) : ∀ x, ∀ j ∈ [i, k], (O x).slot ≠ some j := fun x j hj => by
  have e : j = i ∨ j = k := by simpa using hj
  rcases e with e | e
  · rw [e]; exact h x
  · rw [e]; exact h' x
/-- lists, dicts of its own at the addresses ps -/
inductive OwLs (G H : Hp) : List Addr → List (List Da) → Prop
  | nil : OwLs G H [] []
  | cons {p : Addr} {ps : List Addr} {vs : List V} {ds : List Da} {dss : List (List Da)} : H p = some (.lst vs) → G p = none → RpA G vs ds → OwLs G H ps dss → OwLs G H (p :: ps) (ds :: dss)
inductive OwDs (G H : Hp) : List Addr → List (List (Int × Da)) → Prop
  | nil : OwDs G H [] []
  | cons {p : Addr} {ps : List Addr} {vs : List (Key × V)} {ds : List (Int × Da)} {dss : List (List (Int × Da))} : H p = some (.dK vs) → G p = none → RpD G vs ds → OwDs G H ps dss → OwDs G H (p :: ps) (ds :: dss)
def OwAt (H0 G H : Hp) (σ : L2.St) : Ow → Prop
  | .no => True
  | .l i ds => ∃ a vs, σ[i]? = some (some (.ref a)) ∧ H a = some (.lst vs) ∧ G a = none ∧ H0 a = none ∧ RpA G vs ds
  | .d i ds => ∃ a vs, σ[i]? = some (some (.ref a)) ∧ H a = some (.dK vs) ∧ G a = none ∧ H0 a = none ∧ RpD G vs ds
  | .ll i dss => ∃ a ps, σ[i]? = some (some (.ref a)) ∧ H a = some (.lst (ps.map .ref)) ∧ G a = none ∧ H0 a = none ∧ (a :: ps).Nodup ∧ (∀ p ∈ ps, H0 p = none) ∧ OwLs G H ps dss
  | .ld i dss => ∃ a ps, σ[i]? = some (some (.ref a)) ∧ H a = some (.lst (ps.map .ref)) ∧ G a = none ∧ H0 a = none ∧ (a :: ps).Nodup ∧ (∀ p ∈ ps, H0 p = none) ∧ OwDs G H ps dss
/-- the state: G0, H0 the entry -/
def As (G0 H0 : Hp) (ρ : DE) (ow : Ow) (σ : L2.St) (H : Hp) : Prop := ∃ G, Gr G0 H0 G H ∧ EnvR G σ ρ ∧ OwAt H0 G H σ ow
inductive Oc where
  | nx (ρ : DE) (ow : Ow)
  | rt (d : Da)
def Oc.post (G0 H0 : Hp) (D : Ends) : Oc → Prop
  | .nx ρ ow => ∀ σ H, As G0 H0 ρ ow σ H → D.nx σ H
  | .rt d => ∀ v G H, Gr G0 H0 G H → Rp G v d → D.rt v H
def StD (t : TS) (ρ : DE) (ow : Ow) (o : Oc) : Prop := ∀ (D : Ends) (G0 H0 H : Hp) (σ : L2.St), As G0 H0 ρ ow σ H → o.post G0 H0 D → t D σ H
section
variable {t u : TS} {te ta tb : TE} {tt : TT} {ρ ρ' : DE} {ow ow' : Ow} {o : Oc} {d : Da} {ds : List Da}
theorem OwLs.grow {G H G' H' : Hp} (g : Gr G H G' H') : ∀ {ps : List Addr} {dss : List (List Da)}, OwLs G H ps dss → OwLs G' H' ps dss
  | _, _, .nil => .nil
  | _, _, .cons h n r k => .cons (g.hh _ _ h) (g.no h n) (r.mono g.gg) (OwLs.grow g k)
theorem OwDs.grow {G H G' H' : Hp} (g : Gr G H G' H') : ∀ {ps : List Addr} {dss : List (List (Int × Da))}, OwDs G H ps dss → OwDs G' H' ps dss
  | _, _, .nil => .nil
  | _, _, .cons h n r k => .cons (g.hh _ _ h) (g.no h n) (r.mono g.gg) (OwDs.grow g k)
theorem OwAt.grow {H0 G H G' H' : Hp} {σ : L2.St} (g : Gr G H G' H') : ∀ {ow : Ow}, OwAt H0 G H σ ow → OwAt H0 G' H' σ ow
  | .no, _ => trivial
  | .l i ds, ⟨a, vs, h1, h2, h3, h4, h5⟩ => ⟨a, vs, h1, g.hh _ _ h2, g.no h2 h3, h4, h5.mono g.gg⟩
  | .d i ds, ⟨a, vs, h1, h2, h3, h4, h5⟩ => ⟨a, vs, h1, g.hh _ _ h2, g.no h2 h3, h4, h5.mono g.gg⟩
  | .ll i ds, ⟨a, ps, h1, h2, h3, h4, h5, h6, h7⟩ => ⟨a, ps, h1, g.hh _ _ h2, g.no h2 h3, h4, h5, h6, h7.grow g⟩
  | .ld i ds, ⟨a, ps, h1, h2, h3, h4, h5, h6, h7⟩ => ⟨a, ps, h1, g.hh _ _ h2, g.no h2 h3, h4, h5, h6, h7.grow g⟩
theorem OwAt.slots {H0 G H : Hp} {σ σ' : L2.St} : ∀ {ow : Ow}, (∀ i, ow.slot = some i → σ'[i]? = σ[i]?) → OwAt H0 G H σ ow → OwAt H0 G H σ' ow
  | .no, _, _ => trivial
  | .l i ds, e, ⟨a, vs, h1, h⟩ => ⟨a, vs, (e i rfl).trans h1, h⟩
  | .d i ds, e, ⟨a, vs, h1, h⟩ => ⟨a, vs, (e i rfl).trans h1, h⟩
  | .ll i ds, e, ⟨a, vs, h1, h⟩ => ⟨a, vs, (e i rfl).trans h1, h⟩
  | .ld i ds, e, ⟨a, vs, h1, h⟩ => ⟨a, vs, (e i rfl).trans h1, h⟩
theorem As.le {G0 H0 H : Hp} {σ : L2.St} (h : As G0 H0 ρ' ow σ H) (l : Le ρ ρ') : As G0 H0 ρ ow σ H := let ⟨G, a, b, c⟩ := h; ⟨G, a, b.le l, c⟩
theorem StD.le (h : StD t ρ ow o) (l : Le ρ ρ') : StD t ρ' ow o := fun D G0 H0 H σ a p => h D G0 H0 H σ (a.le l) p
theorem StD.out {ρ1 : DE} (h : StD t ρ ow (.nx ρ1 ow')) (l : Le ρ' ρ1) : StD t ρ ow (.nx ρ' ow') := fun D G0 H0 H σ a p => h D G0 H0 H σ a fun σ' H' a' => p σ' H' (a'.le l)
theorem StD.to {o' : Oc} (h : StD t ρ ow o) (e : o = o') : StD t ρ ow o' := e ▸ h
/-! ### blocks -/
theorem sd_seq (h1 : StD t ρ ow (.nx ρ' ow')) (h2 : StD u ρ' ow' o) : StD (tSeq t u) ρ ow o := fun D G0 H0 H σ a p => h1 { D with nx := u D } G0 H0 H σ a fun σ' H' a' => h2 D G0 H0 H' σ' a' p
theorem sd_seqR (h1 : StD t ρ ow (.rt d)) : StD (tSeq t u) ρ ow (.rt d) := fun D G0 H0 H σ a p => h1 { D with nx := u D } G0 H0 H σ a p
/-- a branch that may return -/
theorem sd_seqB {b : Bool} {o1 : Oc} (h1 : StD t ρ ow (if b then o1 else .nx ρ' ow')) (hr : b = true → ∃ d, o1 = .rt d ∧ o = .rt d) (h2 : b = false → StD u ρ' ow' o) : StD (tSeq t u) ρ ow o := by
  cases b with
  | true =>
    obtain ⟨d, e1, e2⟩ := hr rfl
    subst e1 e2
    exact sd_seqR h1
  | false => exact sd_seq h1 (h2 rfl)
theorem sd_next : StD tNext ρ ow (.nx ρ ow) := fun D G0 H0 H σ a p => p σ H a
theorem sd_if {b : Bool} (h : EvB tt ρ b) (h1 : b = true → StD t ρ ow o) (h2 : b = false → StD u ρ ow o) : StD (tIfS tt t u) ρ ow o := fun D G0 H0 H σ a p => by
  obtain ⟨G, g, en, ok⟩ := a
  refine h G H σ g.gh en _ fun G1 H1 g1 => ?_
  have a1 : As G0 H0 ρ ow σ H1 := ⟨G1, g.trans g1, en.mono g1.gg, ok.grow g1⟩
  cases b with
  | true => exact h1 rfl D G0 H0 H1 σ a1 p
  | false => exact h2 rfl D G0 H0 H1 σ a1 p
theorem sd_ret (h : EvD te ρ d) : StD (tRet te) ρ ow (.rt d) := fun D G0 H0 H σ a p => by
  obtain ⟨G, g, en, ok⟩ := a
  exact h G H σ g.gh en _ fun v G1 H1 g1 r1 => p v G1 H1 (g.trans g1) r1
/-- target = e -/
theorem sd_asgT {g : TG} {js : List Nat} (h : EvD te ρ d) (hg : TgD g d ρ ρ' js) (hs : ∀ j ∈ js, ow.slot ≠ some j := by decide) : StD (tAsg te g) ρ ow (.nx ρ' ow) := fun D G0 H0 H σ a p => by
  obtain ⟨G, g, en, ok⟩ := a
  refine h G H σ g.gh en _ fun v G1 H1 g1 r1 => hg G1 H1 σ v g1.gh (en.mono g1.gg) r1 _ fun σ' G2 H2 g2 en2 _ hk => p σ' H2 ⟨G2, (g.trans g1).trans g2, en2, ?_⟩
  exact ((ok.grow g1).grow g2).slots fun i e => hk i fun z => hs i z e
theorem sd_asg {i : Nat} (h : EvD te ρ d) (hs : ow.slot ≠ some i := by first | decide | exact slot_ne rfl rfl) : StD (tAsg te (gName i)) ρ ow (.nx (ρ.set i (some d)) ow) :=
  sd_asgT h tg_name fun j hj => by
    have e : j = i := by simpa using hj
    rw [e]; exact hs
/-- a list of its own -/
theorem sd_asgL {i : Nat} (h : EvL te ρ ds) (hi : i < ρ.length := by first | decide | exact Nat.le_of_ble_eq_true rfl) : StD (tAsg te (gName i)) ρ .no (.nx (ρ.set i none) (.l i ds)) := fun D G0 H0 H σ a p => by
  obtain ⟨G, g, en, ok⟩ := a
  refine h G H σ g.gh en _ fun q vs G1 H1 g1 hp hn hv ra => p _ H1 ⟨G1, g.trans g1, (en.mono g1.gg).setN i, q, vs, ?_, hv, hn, ex_no g.hh hp, ra⟩
  exact List.getElem?_set_self (by rw [en.1]; exact hi)
/-- what is its own, as it stands, for a look -/
def Ow.vw (ρ : DE) : Ow → DE
  | .no => ρ
  | .l i ds => ρ.set i (some (.lst ds))
  | .d i ds => ρ.set i (some (.dic ds))
  | .ll i dss => ρ.set i (some (.lst (dss.map .lst)))
  | .ld i dss => ρ.set i (some (.lst (dss.map .dic)))
theorem EnvR.know {G G' : Hp} {σ : L2.St} (h : EnvR G σ ρ) (e : Ex G G') {i : Nat} {v : V} (hv : σ[i]? = some (some v)) (r : Rp G' v d) : EnvR G' σ (ρ.set i (some d)) := by
  have z := (h.mono e).set i r
  have hi : i < σ.length := (List.getElem?_eq_some_iff.mp hv).1
  have e2 : σ.set i (some v) = σ := by
    apply List.ext_getElem?
    intro j
    by_cases hj : i = j
    · subst hj
      rw [List.getElem?_set_self hi, hv]
    · rw [List.getElem?_set_ne hj]
  rwa [e2] at z
/-- the heap G with all of what H holds at ps -/
def look (G H : Hp) (ps : List Addr) : Hp := fun a => if a ∈ ps then H a else G a
theorem look_ex {G H : Hp} {ps : List Addr} (h : Ex G H) : Ex G (look G H ps) := fun a u q => by
  unfold look
  split
  · exact h a u q
  · exact q
theorem look_le {G H : Hp} {ps : List Addr} (h : Ex G H) : Ex (look G H ps) H := fun a u q => by
  unfold look at q
  split at q
  · exact q
  · exact h a u q
theorem look_in {G H : Hp} {ps : List Addr} {a : Addr} (h : a ∈ ps) : look G H ps a = H a := if_pos h
theorem gr_look {G0 H0 G H : Hp} {ps : List Addr} (g : Gr G0 H0 G H) (hp : ∀ p ∈ ps, H0 p = none) : Gr G0 H0 (look G H ps) H :=
  ⟨g.gg.trans (look_ex g.gh), look_le g.gh, g.hh, fun a h1 h2 => by
    unfold look at h2
    split at h2
    · exact absurd (hp a (by assumption)) h1
    · exact g.nw a h1 h2⟩
theorem OwLs.rp {G H : Hp} {qs : List Addr} (e : Ex G H) : ∀ {ps : List Addr} {dss : List (List Da)}, (∀ p ∈ ps, p ∈ qs) → OwLs G H ps dss → RpA (look G H qs) (ps.map .ref) (dss.map .lst)
  | _, _, _, .nil => .nil
  | _, _, hq, .cons h n r k => .cons (.lst (by rw [look_in (hq _ List.mem_cons_self)]; exact h) (r.mono (look_ex e))) (OwLs.rp e (fun p hp => hq p (List.mem_cons_of_mem _ hp)) k)
theorem OwDs.rp {G H : Hp} {qs : List Addr} (e : Ex G H) : ∀ {ps : List Addr} {dss : List (List (Int × Da))}, (∀ p ∈ ps, p ∈ qs) → OwDs G H ps dss → RpA (look G H qs) (ps.map .ref) (dss.map .dic)
  | _, _, _, .nil => .nil
  | _, _, hq, .cons h n r k => .cons (.dic (by rw [look_in (hq _ List.mem_cons_self)]; exact h) (r.mono (look_ex e))) (OwDs.rp e (fun p hp => hq p (List.mem_cons_of_mem _ hp)) k)
theorem As.vw {G0 H0 H : Hp} {σ : L2.St} (h : As G0 H0 ρ ow σ H) : ∃ G, Gr G0 H0 G H ∧ EnvR G σ (ow.vw ρ) := by
  obtain ⟨G, g, en, ok⟩ := h
  cases ow with
  | no => exact ⟨G, g, en⟩
  | l i ds =>
    obtain ⟨a, vs, h1, h2, h3, h4, h5⟩ := ok
    refine ⟨_, gr_look (ps := [a]) g fun p hp => by simp at hp; rw [hp]; exact h4, en.know (look_ex g.gh) h1 (.lst (by rw [look_in (by simp)]; exact h2) (h5.mono (look_ex g.gh)))⟩
  | d i ds =>
    obtain ⟨a, vs, h1, h2, h3, h4, h5⟩ := ok
    refine ⟨_, gr_look (ps := [a]) g fun p hp => by simp at hp; rw [hp]; exact h4, en.know (look_ex g.gh) h1 (.dic (by rw [look_in (by simp)]; exact h2) (h5.mono (look_ex g.gh)))⟩
  | ll i dss =>
    obtain ⟨a, ps, h1, h2, h3, h4, h5, h6, h7⟩ := ok
    exact ⟨_, gr_look (ps := a :: ps) g fun p hp => (List.mem_cons.mp hp).elim (fun z => z ▸ h4) (h6 p), en.know (look_ex g.gh) h1 (.lst (by rw [look_in List.mem_cons_self]; exact h2) (h7.rp g.gh fun p hp => List.mem_cons_of_mem _ hp))⟩
  | ld i dss =>
    obtain ⟨a, ps, h1, h2, h3, h4, h5, h6, h7⟩ := ok
    exact ⟨_, gr_look (ps := a :: ps) g fun p hp => (List.mem_cons.mp hp).elim (fun z => z ▸ h4) (h6 p), en.know (look_ex g.gh) h1 (.lst (by rw [look_in List.mem_cons_self]; exact h2) (h7.rp g.gh fun p hp => List.mem_cons_of_mem _ hp))⟩
/-- what was its own is known from here on, and stays -/
theorem sd_frz (h : StD t (ow.vw ρ) .no o) : StD t ρ ow o := fun D G0 H0 H σ a p => by
  obtain ⟨G, g, en⟩ := a.vw
  exact h D G0 H0 H σ ⟨G, g, en, trivial⟩ p
/-- a look that gives a flat thing -/
def Sc : Da → Prop
  | .non => True
  | .bl _ => True
  | .int _ => True
  | .str _ => True
  | _ => False
theorem Rp.sc {H H' : Hp} {v : V} : ∀ {d : Da}, Sc d → Rp H v d → Rp H' v d
  | .non, _, h => by cases h; exact .non
  | .bl _, _, h => by cases h; exact .bl _
  | .int _, _, h => by cases h; exact .int _
  | .str _, _, h => by cases h; exact .str _
theorem As.look {G0 H0 H : Hp} {σ : L2.St} (h : As G0 H0 ρ ow σ H) (hd : EvD te (ow.vw ρ) d) (sc : Sc d) {Q : VK} (q : ∀ v H', As G0 H0 ρ ow σ H' → (∀ G, Rp G v d) → Q v H') : te σ H Q := by
  obtain ⟨G1, g1, en1⟩ := h.vw
  obtain ⟨G, g, en, ok⟩ := h
  refine hd G1 H σ g1.gh en1 Q fun v G2 H2 g2 r2 => q v H2 ⟨G, g.trans (.sec g.gh g2.hh), en, ok.grow (.sec g.gh g2.hh)⟩ fun G => r2.sc sc
theorem As.lookB {G0 H0 H : Hp} {σ : L2.St} {b : Bool} (h : As G0 H0 ρ ow σ H) (hd : EvB tt (ow.vw ρ) b) {Q : Bool → Hp → Prop} (q : ∀ H', As G0 H0 ρ ow σ H' → Q b H') : tt σ H Q := by
  obtain ⟨G1, g1, en1⟩ := h.vw
  obtain ⟨G, g, en, ok⟩ := h
  exact hd G1 H σ g1.gh en1 Q fun G2 H2 g2 => q H2 ⟨G, g.trans (.sec g.gh g2.hh), en, ok.grow (.sec g.gh g2.hh)⟩
theorem sd_asgV {i : Nat} (h : EvD te (ow.vw ρ) d) (sc : Sc d) (hs : ow.slot ≠ some i := by first | decide | exact slot_ne rfl rfl) : StD (tAsg te (gName i)) ρ ow (.nx (ρ.set i (some d)) ow) := fun D G0 H0 H σ a p => by
  refine a.look h sc fun v H' a' rv => ?_
  obtain ⟨G, g, en, ok⟩ := a'
  exact p _ H' ⟨G, g, en.set i (rv G), ok.slots fun j e => List.getElem?_set_ne fun z => hs (by rw [z]; exact e)⟩
theorem sd_ifV {b : Bool} (h : EvB tt (ow.vw ρ) b) (h1 : b = true → StD t ρ ow o) (h2 : b = false → StD u ρ ow o) : StD (tIfS tt t u) ρ ow o := fun D G0 H0 H σ a p => by
  refine a.lookB h fun H' a' => ?_
  cases b with
  | true => exact h1 rfl D G0 H0 H' σ a' p
  | false => exact h2 rfl D G0 H0 H' σ a' p
end
end Mk
end

section
set_option Elab.async false
set_option linter.all false
set_option maxRecDepth 100000
set_option maxHeartbeats 2000000
/-! loops, stores, dicts -/
namespace Mk
open PySem PySem.Spec PyProof.Rows L2
open Evl (Ex)
/-! ### dicts as data -/
def dget (kvs : List (Int × Da)) (k : Int) : Option Da := (kvs.find? fun kv => decide (kv.1 = k)).map (·.2)
def dput (kvs : List (Int × Da)) (k : Int) (v : Da) : List (Int × Da) :=
  if (kvs.any fun kv => decide (kv.1 = k)) = true then kvs.map (fun kv => if kv.1 = k then (kv.1, v) else kv) else kvs ++ [(k, v)]
theorem inl_dec (a b : Int) : decide ((Sum.inl a : Key) = Sum.inl b) = decide (a = b) := by
  by_cases e : a = b
  · subst e; simp
  · rw [decide_eq_false e]
    exact decide_eq_false fun z => e (Sum.inl.inj z)
section
variable {H : Hp}
theorem RpD.get {k : Int} : ∀ {vs : List (Key × V)} {ds : List (Int × Da)}, RpD H vs ds → (valV vs (.inl k) = none ∧ dget ds k = none) ∨ ∃ v d, valV vs (.inl k) = some v ∧ dget ds k = some d ∧ Rp H v d
  | _, _, .nil => .inl ⟨rfl, rfl⟩
  | _, _, .cons (k := j) h r => by
    unfold valV dget
    rw [List.find?_cons, List.find?_cons, inl_dec]
    cases hj : decide (j = k) with
    | true => exact .inr ⟨_, _, rfl, rfl, h⟩
    | false => exact RpD.get r
theorem RpD.length : ∀ {vs : List (Key × V)} {ds : List (Int × Da)}, RpD H vs ds → vs.length = ds.length
  | _, _, .nil => rfl
  | _, _, .cons _ r => congrArg Nat.succ (RpD.length r)
theorem RpD.any {k : Int} : ∀ {vs : List (Key × V)} {ds : List (Int × Da)}, RpD H vs ds → (vs.any fun kv => decide (kv.1 = .inl k)) = ds.any fun kv => decide (kv.1 = k)
  | _, _, .nil => rfl
  | _, _, .cons _ r => by rw [List.any_cons, List.any_cons, inl_dec, RpD.any r]
theorem RpD.upd {k : Int} {v : V} {d : Da} (h : Rp H v d) : ∀ {vs : List (Key × V)} {ds : List (Int × Da)}, RpD H vs ds → RpD H (vs.map fun kv => if kv.1 = .inl k then (kv.1, v) else kv) (ds.map fun kv => if kv.1 = k then (kv.1, d) else kv)
  | _, _, .nil => .nil
  | _, _, .cons (k := j) h' r => by
    rw [List.map_cons, List.map_cons]
    by_cases e : j = k
    · subst e
      rw [if_pos rfl, if_pos rfl]
      exact .cons h (RpD.upd h r)
    · rw [if_neg (fun z => e (Sum.inl.inj z)), if_neg e]
      exact .cons h' (RpD.upd h r)
theorem RpD.snoc {k : Int} {v : V} {d : Da} (h : Rp H v d) : ∀ {vs : List (Key × V)} {ds : List (Int × Da)}, RpD H vs ds → RpD H (vs ++ [(.inl k, v)]) (ds ++ [(k, d)])
  | _, _, .nil => .cons h .nil
  | _, _, .cons h' r => .cons h' (RpD.snoc h r)
theorem RpD.put {k : Int} {v : V} {d : Da} (h : Rp H v d) {vs : List (Key × V)} {ds : List (Int × Da)} (r : RpD H vs ds) : RpD H (putK vs (.inl k) v) (dput ds k d) := by
  unfold putK dput
  rw [r.any]
  split
  · exact r.upd h
  · exact r.snoc h
end
section
variable {te ta tb td ty tv : TE} {ρ : DE} {d : Da} {kvs : List (Int × Da)} {k : Int}
theorem ev_dget (hd : EvD td ρ (.dic kvs)) (hk : EvD ty ρ (.int k)) (h : dget kvs k = some d) : EvD (tDGet td ty) ρ d := fun G H σ x en Q q =>
  hd G H σ x en _ fun v G1 H1 g1 r1 => hk G1 H1 σ g1.gh (en.mono g1.gg) _ fun u G2 H2 g2 r2 => by
    obtain ⟨a, vs, rfl, ha, ra⟩ := (r1.mono g2.gg).isDic
    cases r2
    rcases ra.get (k := k) with ⟨_, e⟩ | ⟨v, d', e1, e2, rv⟩
    · rw [e] at h; cases h
    · rw [e2] at h
      cases h
      exact ⟨a, v, rfl, e1 ▸ DGet.k (k := Sum.inl k) (g2.gh _ _ ha), q v G2 H2 (g1.trans g2) rv⟩
theorem ev_din (hk : EvD ty ρ (.int k)) (hd : EvD td ρ (.dic kvs)) : EvD (tDIn ty td) ρ (.bl (dget kvs k).isSome) := fun G H σ x en Q q =>
  hk G H σ x en _ fun v G1 H1 g1 r1 => hd G1 H1 σ g1.gh (en.mono g1.gg) _ fun u G2 H2 g2 r2 => by
    obtain ⟨a, vs, rfl, ha, ra⟩ := r2.isDic
    cases r1
    refine ⟨a, _, rfl, DGet.k (k := Sum.inl k) (g2.gh _ _ ha), ?_⟩
    rcases ra.get (k := k) with ⟨e1, e⟩ | ⟨v, d', e1, e2, rv⟩
    · rw [e] at q
      rw [e1]
      exact q _ G2 H2 (g1.trans g2) (.bl _)
    · rw [e2] at q
      rw [e1]
      exact q _ G2 H2 (g1.trans g2) (.bl _)
end

/-! ### the base of a state, moved -/
def dom2 (H0 G H : Hp) : Hp := fun a => match H0 a, G a with
  | none, none => none
  | _, _ => H a
theorem dom2_no {H0 G H : Hp} {a : Addr} (h0 : H0 a = none) (hG : G a = none) : dom2 H0 G H a = none := by
  unfold dom2
  rw [h0, hG]
theorem dom2_l {H0 G H : Hp} {a : Addr} {o : HO} (h : H0 a = some o) : dom2 H0 G H a = H a := by
  unfold dom2
  rw [h]
theorem dom2_r {H0 G H : Hp} {a : Addr} {o : HO} (h : G a = some o) : dom2 H0 G H a = H a := by
  unfold dom2
  rw [h]
  cases H0 a <;> rfl
theorem dom2_ne {H0 G H : Hp} {a : Addr} (h : dom2 H0 G H a ≠ none) : H0 a ≠ none ∨ G a ≠ none := by
  cases h0 : H0 a with
  | some o => exact .inl fun z => nomatch z
  | none =>
    cases hG : G a with
    | some o => exact .inr fun z => nomatch z
    | none => exact absurd (dom2_no h0 hG) h
theorem dom2_le {H0 G H : Hp} : Ex (dom2 H0 G H) H := fun a o h => by
  unfold dom2 at h
  split at h
  · cases h
  · exact h
theorem gr_base {G0 H0 G H : Hp} (g : Gr G0 H0 G H) : Gr G (dom2 H0 G H) G H := ⟨Ex.refl _, g.gh, dom2_le, fun _ _ h => h⟩
theorem gr_back {G0 H0 G H G' H' : Hp} (g : Gr G0 H0 G H) (g' : Gr G (dom2 H0 G H) G' H') : Gr G0 H0 G' H' :=
  ⟨g.gg.trans g'.gg, g'.gh, fun a o h => g'.hh a o (by rw [dom2_l h]; exact g.hh a o h), fun a h h' => by
    obtain ⟨o, e⟩ := Option.ne_none_iff_exists'.mp h
    exact g.nw a h (g'.nw a (by rw [dom2_l e, g.hh a o e]; exact fun z => nomatch z) h')⟩
theorem OwAt.base {H0 G H G1 H1 : Hp} {σ : L2.St} (hG : ∀ a, G1 a = none → G a = none) : ∀ {ow : Ow}, OwAt H0 G1 H1 σ ow → OwAt (dom2 H0 G H) G1 H1 σ ow
  | .no, _ => trivial
  | .l i ds, ⟨a, vs, h1, h2, h3, h4, h5⟩ => ⟨a, vs, h1, h2, h3, dom2_no h4 (hG a h3), h5⟩
  | .d i ds, ⟨a, vs, h1, h2, h3, h4, h5⟩ => ⟨a, vs, h1, h2, h3, dom2_no h4 (hG a h3), h5⟩
  | .ll i ds, ⟨a, ps, h1, h2, h3, h4, h5, h6, h7⟩ => ⟨a, ps, h1, h2, h3, dom2_no h4 (hG a h3), h5, fun p hp => dom2_no (h6 p hp) (hG p (by
      have q : ∀ {ps : List Addr} {dss : List (List Da)}, OwLs G1 H1 ps dss → ∀ p ∈ ps, G1 p = none := fun {ps dss} h => by
        induction h with
        | nil => intro p hp; cases hp
        | cons _ n _ _ ih => intro p hp; rcases List.mem_cons.mp hp with rfl | hp; exact n; exact ih p hp
      exact q h7 p hp)), h7⟩
  | .ld i ds, ⟨a, ps, h1, h2, h3, h4, h5, h6, h7⟩ => ⟨a, ps, h1, h2, h3, dom2_no h4 (hG a h3), h5, fun p hp => dom2_no (h6 p hp) (hG p (by
      have q : ∀ {ps : List Addr} {dss : List (List (Int × Da))}, OwDs G1 H1 ps dss → ∀ p ∈ ps, G1 p = none := fun {ps dss} h => by
        induction h with
        | nil => intro p hp; cases hp
        | cons _ n _ _ ih => intro p hp; rcases List.mem_cons.mp hp with rfl | hp; exact n; exact ih p hp
      exact q h7 p hp)), h7⟩
theorem dom2_back {H0 G H : Hp} {a : Addr} (h : dom2 H0 G H a = none) (g : Ex H0 H) : H0 a = none := by
  cases e : H0 a with
  | none => rfl
  | some o =>
    rw [dom2_l e, g a o e] at h
    cases h
theorem OwAt.unbase {H0 G H G1 H1 : Hp} {σ : L2.St} (g : Ex H0 H) : ∀ {ow : Ow}, OwAt (dom2 H0 G H) G1 H1 σ ow → OwAt H0 G1 H1 σ ow
  | .no, _ => trivial
  | .l i ds, ⟨a, vs, h1, h2, h3, h4, h5⟩ => ⟨a, vs, h1, h2, h3, dom2_back h4 g, h5⟩
  | .d i ds, ⟨a, vs, h1, h2, h3, h4, h5⟩ => ⟨a, vs, h1, h2, h3, dom2_back h4 g, h5⟩
  | .ll i ds, ⟨a, ps, h1, h2, h3, h4, h5, h6, h7⟩ => ⟨a, ps, h1, h2, h3, dom2_back h4 g, h5, fun p hp => dom2_back (h6 p hp) g, h7⟩
  | .ld i ds, ⟨a, ps, h1, h2, h3, h4, h5, h6, h7⟩ => ⟨a, ps, h1, h2, h3, dom2_back h4 g, h5, fun p hp => dom2_back (h6 p hp) g, h7⟩
theorem As.back {G0 H0 G H H' : Hp} {σ' : L2.St} {ρ' : DE} {ow' : Ow} (g : Gr G0 H0 G H) (h : As G (dom2 H0 G H) ρ' ow' σ' H') : As G0 H0 ρ' ow' σ' H' := by
  obtain ⟨G1, g1, en, ok⟩ := h
  exact ⟨G1, gr_back g g1, en, ok.unbase g.hh⟩

/-! ### for -/
section
variable {t u : TS} {te ta tb td ty tv : TE} {tt : TT} {ρ : DE} {ow : Ow} {o : Oc} {d : Da} {ds : List Da} {K : PySem.W.Frag}
theorem sd_for {wi : TI} {g : TG} {js : List Nat} {α : Type} {as : List α} {en : α → Da} {S : List α → DE} {O : List α → Ow} {ρ' : List α → α → DE}
    (hi : EvI wi ρ (as.map en)) (h0 : Le (S []) ρ) (h0' : O [] = ow) (hg : ∀ pre a post, as = pre ++ a :: post → TgD g (en a) (S pre) (ρ' pre a) js)
    (hb : ∀ pre a post, as = pre ++ a :: post → StD t (ρ' pre a) (O pre) (.nx (S (pre ++ [a])) (O (pre ++ [a])))) (hs : ∀ pre, ∀ j ∈ js, (O pre).slot ≠ some j) : StD (tFor wi g t) ρ ow (.nx (S as) (O as)) := fun D G0 H0 H σ a p => by
  obtain ⟨G, gr, env, ok⟩ := a
  refine hi G H σ gr.gh env _ fun J G1 H1 g1 it => ?_
  have gb := gr.trans g1
  have A0 : As G1 (dom2 H0 G1 H1) (S []) (O []) σ H1 := ⟨G1, gr_base gb, (env.mono g1.gg).le h0, by rw [h0']; exact OwAt.base (fun _ h => h) (ok.grow g1)⟩
  refine ⟨fun i m σ' H' => m = as.length - i ∧ i ≤ as.length ∧ As G1 (dom2 H0 G1 H1) (S (as.take i)) (O (as.take i)) σ' H', ⟨as.length, rfl, Nat.zero_le _, A0⟩, ?_⟩
  rintro i m σ2 H2 ⟨rfl, hle, A2⟩
  obtain ⟨G2, g2, en2, ok2⟩ := id A2
  obtain ⟨h1, h2, h3⟩ := it G2 H2 g2.gg g2.gh i
  rw [List.length_map] at h1 h2 h3
  by_cases hlt : i < as.length
  · refine .inr ⟨h1 hlt, fun σ' H' => As G1 (dom2 H0 G1 H1) (S (as.take (i + 1))) (O (as.take (i + 1))) σ' H', fun σ' H' z => ⟨as.length - (i + 1), by omega, rfl, hlt, z⟩, fun v H3 y => ?_⟩
    obtain ⟨G3, d', g3, k3⟩ := h3 v H3 y
    obtain ⟨k4, r3⟩ := k3 hlt
    have ha : as[i]? = some as[i] := List.getElem?_eq_getElem hlt
    rw [List.getElem?_map, ha] at k4
    have ed : en as[i] = d' := Option.some.inj k4
    subst ed
    have ecut : as = as.take i ++ as[i] :: as.drop (i + 1) := by rw [List.getElem_cons_drop, List.take_append_drop]
    have etake : as.take (i + 1) = as.take i ++ [as[i]] := by rw [List.take_add_one, ha] <;> rfl
    refine hg _ _ _ ecut G3 H3 σ2 v g3.gh (en2.mono g3.gg) r3 _ fun σ4 G4 H4 g4 en4 _ hk => ?_
    have A4 : As G1 (dom2 H0 G1 H1) (ρ' (as.take i) as[i]) (O (as.take i)) σ4 H4 := ⟨G4, (g2.trans g3).trans g4, en4, ((ok2.grow g3).grow g4).slots fun j e => hk j fun z => hs _ j z e⟩
    refine hb _ _ _ ecut _ _ _ H4 σ4 A4 fun σ5 H5 A5 => ?_
    show As G1 (dom2 H0 G1 H1) (S (as.take (i + 1))) (O (as.take (i + 1))) σ5 H5
    rw [etake]
    exact A5
  · have ei : i = as.length := by omega
    subst ei
    rw [List.take_length] at A2
    exact .inl ⟨h2 (Nat.le_refl _), p _ _ (A2.back gb)⟩
/-- a loop that may return; what it carries stays -/
theorem sd_forR {wi : TI} {g : TG} {js : List Nat} {α : Type} {as : List α} {en : α → Da} {ρ0 : DE} {ρ' : α → DE} {c : α → Bool}
    (hi : EvI wi ρ (as.map en)) (h0 : Le ρ0 ρ) (hg : ∀ a ∈ as, TgD g (en a) ρ0 (ρ' a) js)
    (hb : ∀ a ∈ as, StD t (ρ' a) ow (if c a then .nx ρ0 ow else .rt d)) (hs : ∀ j ∈ js, ow.slot ≠ some j := by decide) : StD (tFor wi g t) ρ ow (if as.all c then .nx ρ0 ow else .rt d) := fun D G0 H0 H σ a p => by
  obtain ⟨G, gr, env, ok⟩ := a
  refine hi G H σ gr.gh env _ fun J G1 H1 g1 it => ?_
  have gb := gr.trans g1
  have A0 : As G1 (dom2 H0 G1 H1) ρ0 ow σ H1 := ⟨G1, gr_base gb, (env.mono g1.gg).le h0, OwAt.base (fun _ h => h) (ok.grow g1)⟩
  refine ⟨fun i m σ' H' => m = as.length - i ∧ i ≤ as.length ∧ As G1 (dom2 H0 G1 H1) ρ0 ow σ' H' ∧ (as.take i).all c = true, ⟨as.length, rfl, Nat.zero_le _, A0, rfl⟩, ?_⟩
  rintro i m σ2 H2 ⟨rfl, hle, A2, hc⟩
  obtain ⟨G2, g2, en2, ok2⟩ := id A2
  obtain ⟨h1, h2, h3⟩ := it G2 H2 g2.gg g2.gh i
  rw [List.length_map] at h1 h2 h3
  by_cases hlt : i < as.length
  · refine .inr ⟨h1 hlt, fun σ' H' => As G1 (dom2 H0 G1 H1) ρ0 ow σ' H' ∧ (as.take (i + 1)).all c = true, fun σ' H' z => ⟨as.length - (i + 1), by omega, rfl, hlt, z⟩, fun v H3 y => ?_⟩
    obtain ⟨G3, d', g3, k3⟩ := h3 v H3 y
    obtain ⟨k4, r3⟩ := k3 hlt
    have ha : as[i]? = some as[i] := List.getElem?_eq_getElem hlt
    have hm : as[i] ∈ as := List.getElem_mem hlt
    rw [List.getElem?_map, ha] at k4
    have ed : en as[i] = d' := Option.some.inj k4
    subst ed
    have etake : as.take (i + 1) = as.take i ++ [as[i]] := by rw [List.take_add_one, ha] <;> rfl
    refine hg _ hm G3 H3 σ2 v g3.gh (en2.mono g3.gg) r3 _ fun σ4 G4 H4 g4 en4 _ hk => ?_
    have A4 : As G1 (dom2 H0 G1 H1) (ρ' as[i]) ow σ4 H4 := ⟨G4, (g2.trans g3).trans g4, en4, ((ok2.grow g3).grow g4).slots fun j e => hk j fun z => hs j z e⟩
    have B := hb _ hm
    cases hci : c as[i] with
    | true =>
      rw [hci] at B
      refine B _ _ _ H4 σ4 A4 fun σ5 H5 A5 => ⟨A5, ?_⟩
      rw [etake, List.all_append, hc, List.all_cons, hci] <;> rfl
    | false =>
      rw [hci] at B
      have hall : as.all c = false := by
        rw [Bool.eq_false_iff]
        intro z
        have := List.all_eq_true.mp z _ hm
        rw [hci] at this
        cases this
      rw [hall] at p
      exact B _ _ _ H4 σ4 A4 fun v G5 H5 g5 r5 => p v G5 H5 (gr_back gb g5) r5
  · have ei : i = as.length := by omega
    subst ei
    rw [List.take_length] at hc
    rw [hc] at p
    exact .inl ⟨h2 (Nat.le_refl _), p _ _ (A2.back gb)⟩

/-! ### changes of what is one's own -/
theorem set_back {α : Type} {l : List α} {i : Nat} {x : α} (h : l[i]? = some x) : l.set i x = l := by
  apply List.ext_getElem?
  intro j
  by_cases hj : i = j
  · subst hj
    rw [List.getElem?_set_self (List.getElem?_eq_some_iff.mp h).1, h]
  · rw [List.getElem?_set_ne hj]
theorem ev_own {i : Nat} {a : Addr} {σ : L2.St} {H : Hp} {Q : VK} (h : σ[i]? = some (some (.ref a))) (q : Q (.ref a) H) : tVar i σ H Q := ⟨_, h, q⟩
/-- xs.append(e) -/
theorem sd_app {i : Nat} (h : EvD te ρ d) (hz : ds.length < 100000) : StD (tDrop (tBM K "list" rAppend (tVar i) (tCons te tNil))) ρ (.l i ds) (.nx ρ (.l i (ds ++ [d]))) := fun D G0 H0 H σ a p => by
  obtain ⟨G, g, en, b, vs, h1, h2, h3, h4, h5⟩ := a
  refine ⟨.ref b, h1, .inl ⟨rfl, vs, SqL.of h2⟩, h G H σ g.gh en _ fun v G1 H1 g1 r1 => ⟨b, vs, v, rfl, rfl, g1.hh _ _ h2, Evl.sz_lt (by rw [h5.length]; exact hz), ?_⟩⟩
  exact p σ _ ⟨G1, (g.trans g1).mut h4 (g1.no h2 h3), en.mono g1.gg, b, vs ++ [v], h1, upd_same, g1.no h2 h3, h4, (h5.mono g1.gg).append (.cons r1 .nil)⟩
/-- .. of a flat thing -/
theorem sd_appV {i : Nat} (h : EvD te ((Ow.l i ds).vw ρ) d) (sc : Sc d) (hz : ds.length < 100000) : StD (tDrop (tBM K "list" rAppend (tVar i) (tCons te tNil))) ρ (.l i ds) (.nx ρ (.l i (ds ++ [d]))) := fun D G0 H0 H σ a p => by
  obtain ⟨G, g, en, b, vs, h1, h2, h3, h4, h5⟩ := id a
  refine ⟨.ref b, h1, .inl ⟨rfl, vs, SqL.of h2⟩, a.look h sc fun v H1 a1 rv => ?_⟩
  obtain ⟨G1, g1, en1, b1, vs1, k1, k2, k3, k4, k5⟩ := a1
  have eb : b1 = b := by
    rw [h1] at k1
    cases k1
    rfl
  subst eb
  refine ⟨b1, vs1, v, rfl, rfl, k2, Evl.sz_lt (by rw [k5.length]; exact hz), ?_⟩
  exact p σ _ ⟨G1, g1.mut k4 k3, en1, b1, vs1 ++ [v], h1, upd_same, k3, k4, k5.append (.cons (rv G1) .nil)⟩
/-- xs.extend(..) -/
theorem sd_ext {i : Nat} {es : List Da} (h : EvD te ρ (.lst es)) (hz : ds.length + es.length ≤ 100000) : StD (tDrop (tBM K "list" rExtend (tVar i) (tCons te tNil))) ρ (.l i ds) (.nx ρ (.l i (ds ++ es))) := fun D G0 H0 H σ a p => by
  obtain ⟨G, g, en, b, vs, h1, h2, h3, h4, h5⟩ := a
  refine ⟨.ref b, h1, .inl ⟨rfl, vs, SqL.of h2⟩, h G H σ g.gh en _ fun v G1 H1 g1 r1 => ?_⟩
  obtain ⟨c, ws, rfl, hc, rc⟩ := r1.isLst
  refine ⟨b, c, vs, ws, rfl, rfl, g1.hh _ _ h2, g1.gh _ _ hc, Evl.sz_of (by rw [h5.length, rc.length]; exact hz), ?_⟩
  exact p σ _ ⟨G1, (g.trans g1).mut h4 (g1.no h2 h3), en.mono g1.gg, b, vs ++ ws, h1, upd_same, g1.no h2 h3, h4, (h5.mono g1.gg).append rc⟩
/-- xs[j] = e, a flat thing -/
theorem sd_setV {i j : Nat} (h : EvD te ((Ow.l i ds).vw ρ) d) (sc : Sc d) (hj : EvD tb ((Ow.l i ds).vw ρ) (nat j)) (hl : j < ds.length) : StD (tAsg te (gSub (tVar i) tb rSetL)) ρ (.l i ds) (.nx ρ (.l i (ds.set j d))) := fun D G0 H0 H σ a p => by
  refine a.look h sc fun v H1 a1 rv => ?_
  obtain ⟨G1, g1, en1, b1, vs1, k1, k2, k3, k4, k5⟩ := id a1
  refine ev_own k1 (a1.look hj trivial fun u H2 a2 ru => ?_)
  obtain ⟨G2, g2, en2, b2, vs2, l1, l2, l3, l4, l5⟩ := a2
  have eb : b2 = b1 := by
    rw [k1] at l1
    cases l1
    rfl
  subst eb
  have eu := (ru G2).isInt
  subst eu
  refine ⟨b2, vs2, (j : Int), j, rfl, rfl, l2, ?_, ?_⟩
  · unfold ixN
    rw [if_pos (Int.natCast_nonneg j), if_pos (by rw [l5.length]; omega)]
    simp
  · exact p σ _ ⟨G2, g2.mut l4 l3, en2, b2, vs2.set j v, l1, upd_same, l3, l4, l5.set (rv G2) j⟩
/-- d[k] = e, a flat thing -/
theorem sd_dputV {i : Nat} {kvs : List (Int × Da)} {k : Int} (h : EvD tv ((Ow.d i kvs).vw ρ) d) (sc : Sc d) (hk : EvD ty ((Ow.d i kvs).vw ρ) (.int k)) (hz : kvs.length < 100000) : StD (sDPut (tVar i) ty tv) ρ (.d i kvs) (.nx ρ (.d i (dput kvs k d))) := fun D G0 H0 H σ a p => by
  refine a.look h sc fun v H1 a1 rv => ?_
  obtain ⟨G1, g1, en1, b1, vs1, k1, k2, k3, k4, k5⟩ := id a1
  refine ev_own k1 (a1.look hk trivial fun u H2 a2 ru => ?_)
  obtain ⟨G2, g2, en2, b2, vs2, l1, l2, l3, l4, l5⟩ := a2
  have eb : b2 = b1 := by
    rw [k1] at l1
    cases l1
    rfl
  subst eb
  have eu := (ru G2).isInt
  subst eu
  refine ⟨b2, _, rfl, DPut.k (k := Sum.inl k) l2 (Evl.sz_lt (by rw [l5.length]; exact hz)), ?_⟩
  exact p σ _ ⟨G2, g2.mut l4 l3, en2, b2, _, l1, upd_same, l3, l4, l5.put (rv G2)⟩
/-- {} -/
theorem sd_asgD {i : Nat} (hi : i < ρ.length := by first | decide | exact Nat.le_of_ble_eq_true rfl) : StD (tAsg tDNewK (gName i)) ρ .no (.nx (ρ.set i none) (.d i [])) := fun D G0 H0 H σ a p => by
  obtain ⟨G, g, en, ok⟩ := a
  intro q hq
  refine p _ _ ⟨G, g.mut (ex_no g.hh hq) (ex_no g.gh hq), en.setN i, q, [], ?_, upd_same, ex_no g.gh hq, ex_no g.hh hq, .nil⟩
  exact List.getElem?_set_self (by rw [en.1]; exact hi)
end
end Mk
end

section
set_option Elab.async false
set_option linter.all false
set_option maxRecDepth 100000
set_option maxHeartbeats 2000000
/-! further rules for operators and walks: lists and tuples alike -/
namespace Mk
open PySem PySem.Spec PyProof.Rows L2
open Evl (Ex)
section
variable {X : Cx}
/-! ### either of two rules -/
theorem opr_or {f : Value → Value → Sem Value} {r r' : R2} (h : OpR X f r) (h' : OpR X f r') : OpR X f (fun x y H Q => r x y H Q ∨ r' x y H Q) := fun pins s σ H x y v u Q I rx ry z =>
  z.elim (h pins s σ H x y v u Q I rx ry) (h' pins s σ H x y v u Q I rx ry)
def rAddA (K : PySem.W.Frag) : R2 := fun x y H Q => (rI0 fun i j => .int (i + j)) x y H Q ∨ rCat x y H Q ∨ rCatA K x y H Q
theorem op_addA : OpR X (binaryOp .Add) (rAddA X.K) := opr_or op_add (opr_or op_cat op_catA)
def rEqA (K : PySem.W.Frag) : R2 := fun x y H Q => rEq x y H Q ∨ rEqD K x y H Q
def rNeA (K : PySem.W.Frag) : R2 := fun x y H Q => rNe x y H Q ∨ rNeD K x y H Q
theorem op_eqA (hu : X.A.units + 64 < cLine) : OpR X (compareOp .Eq) (rEqA X.K) := opr_or op_eq (op_eqD hu)
theorem op_neA (hu : X.A.units + 64 < cLine) : OpR X (compareOp .NotEq) (rNeA X.K) := opr_or op_ne (op_neD hu)
theorem slr_or {r r' : V → Option Int → Option Int → Hp → VK → Prop} (h : SlR X r) (h' : SlR X r') : SlR X (fun x a b H Q => r x a b H Q ∨ r' x a b H Q) := fun pins s σ H x v vl vu lo hi sl Q I rx hs pl pu z =>
  z.elim (h pins s σ H x v vl vu lo hi sl Q I rx hs pl pu) (h' pins s σ H x v vl vu lo hi sl Q I rx hs pl pu)
def rSlSeq (K : PySem.W.Frag) : V → Option Int → Option Int → Hp → VK → Prop := fun x a b H Q => rSlL K x a b H Q ∨ rSlA K x a b H Q
theorem sl_seqA : SlR X (rSlSeq X.K) := slr_or sl_list sl_tupA
/-- a walk over a list or a tuple -/
def iSeq (K : PySem.W.Frag) (te : TE) : TI := fun σ H R => te σ H fun x H1 => ∃ a, x = .ref a ∧ (((∃ xs, SqL K H1 a xs) ∧ R (Itl K a) H1) ∨ ((∃ xs, SqT K H1 a xs) ∧ R (Itt K a) H1))
theorem pi_seq {tg l : Expr} {te : TE} (hl : PE X l te) : PI X tg l (iSeq X.K te) := by
  constructor
  intro pins s σ H R I h
  refine thn (hl.run pins s σ H _ I h) fun v s1 z => ?_
  obtain ⟨x, H1, I1, r1, a, e, q⟩ := z
  subst e
  cases r1
  have new : ∀ b ∈ [s1.heap.objs.size], FpOk X pins H1 b := fun b hb => by
    have e : b = s1.heap.objs.size := by simpa using hb
    rw [e]
    exact I1.fpOk (Nat.le_refl _) (I1.hok.fresh (Nat.le_refl _))
  rcases q with ⟨⟨xs, hx⟩, q⟩ | ⟨⟨xs, hx⟩, q⟩
  · obtain ⟨its, rv, p, hz⟩ := I1.list hx
    refine wpAny_pyIter_list p.isList ⟨s1.heap.objs.size, [s1.heap.objs.size], _, _, H1, rfl, ?_, turn_list a _, ?_, new, q⟩
    · exact I1.kept (t' := s1.toks) fun b o e => Heap.get?_push_of_some _ e
    · exact ⟨_, Heap.get?_push_size _ rfl, rfl, rfl⟩
  · obtain ⟨its, rv, p, hz⟩ := I1.tuple hx
    refine wpAny_pyIter_tuple (show s1.heap.IsTuple a its.toArray from p) ⟨s1.heap.objs.size, [s1.heap.objs.size], _, _, H1, rfl, ?_, turn_tuple a _, ?_, new, q⟩
    · exact I1.kept (t' := s1.toks) fun b o e => Heap.get?_push_of_some _ e
    · exact ⟨_, Heap.get?_push_size _ rfl, rfl, rfl⟩
/-! ### a op b op c op d -/
def tChain3 (r r' r2 : R2) (ta tb tc td : TE) : TE := fun σ H Q => ta σ H fun x H1 => tb σ H1 fun y H2 => r x y H2 fun z H3 => ∃ k, z = .bl k ∧
  (if k = true then tc σ H3 fun u H4 => r' y u H4 fun z' H5 => ∃ k', z' = .bl k' ∧ (if k' = true then td σ H5 fun v H6 => r2 u v H6 Q else Q (.bl false) H5) else Q (.bl false) H3)
theorem pe_chain3 {op op' op2 : CmpOp} {r r' r2 : R2} {a b c d : Expr} {ta tb tc td : TE} {pos : Pos} (ho : OpR X (compareOp op) r) (ho' : OpR X (compareOp op') r') (ho2 : OpR X (compareOp op2) r2) (ha : PE X a ta) (hb : PE X b tb) (hc : PE X c tc) (hd : PE X d td)
    (hm : lastMarks [op, op', op2] [b, c, d] = false := by with_unfolding_all rfl) : PE X (.Compare a [op, op', op2] [b, c, d] pos) (tChain3 r r' r2 ta tb tc td) := by
  constructor
  intro pins s σ H Q I h
  refine Compare_chain (thn (ha.run pins s σ H _ I h) fun v s1 z1 => chain_link ?_) hm
  obtain ⟨x, H1, I1, r1, q1⟩ := z1
  refine thn (hb.run pins s1 σ H1 _ I1 q1) fun u s2 z2 => ?_
  obtain ⟨y, H2, I2, r2', q2⟩ := z2
  refine thn (ho pins s2 σ H2 x y v u _ I2 r1 r2' q2) fun e s3 z3 => ?_
  obtain ⟨z, H3, I3, r3, k, ek, q3⟩ := z3
  subst ek
  cases r3
  refine wpAny_truthy_bool ?_
  cases k with
  | false => exact ite_ff ⟨.bl false, H3, I3, rfl, q3⟩
  | true =>
    refine ite_tt (chain_link (thn (hc.run pins s3 σ H3 _ I3 q3) fun u4 s4 z4 => ?_))
    obtain ⟨y4, H4, I4, r4, q4⟩ := z4
    refine thn (ho' pins s4 σ H4 y y4 u u4 _ I4 r2' r4 q4) fun e5 s5 z5 => ?_
    obtain ⟨z', H5, I5, r5, k', ek', q5⟩ := z5
    subst ek'
    cases r5
    refine wpAny_truthy_bool ?_
    cases k' with
    | false => exact ite_ff ⟨.bl false, H5, I5, rfl, q5⟩
    | true =>
      refine ite_tt (chain_last (thn (hd.run pins s5 σ H5 _ I5 q5) fun u6 s6 z6 => ?_))
      obtain ⟨y6, H6, I6, r6, q6⟩ := z6
      exact ho2 pins s6 σ H6 y4 y6 u4 u6 Q I6 r4 r6 q6
/-! ### sorted(xs), a list or a tuple of ints -/
def rSortedA (K : PySem.W.Frag) : List V → Hp → VK → Prop := fun vs H Q => ∃ (a : Addr) (ns : List Int), vs = [V.ref a] ∧ (SqL K H a (ns.map V.int) ∨ SqT K H a (ns.map V.int)) ∧
  ∀ (ns' : List Int) (p : Addr), ns'.Perm ns → ns'.Pairwise (· ≤ ·) → H p = none → Q (.ref p) (upd H p (.lst (ns'.map V.int)))
end
section
variable {prog : Program} {w : World} {A : Around} {E : Value → Shared → Prop} {s : Shared}
theorem collect_tup {l : Addr} {vs : List Value} {Q : List Value → Shared → Prop} (hl : IsTup s.heap l vs.toArray) (hz : vs.length ≤ sizeLine)
    (h : Q vs { s with heap := (s.heap.push (seqObj "list" #[] 0)).update s.heap.objs.size (Obj.mapSeq (· ++ vs.toArray)) }) : wpAny (model prog w) A (collect (.ref l)) Q E s := by
  obtain ⟨o, ho, hc, n, hd⟩ := hl
  have hp : (s.heap.push (seqObj "list" #[] 0)).get? l = some o := Heap.get?_push_of_some _ ho
  have hn : (s.heap.push (seqObj "list" #[] 0)).get? s.heap.objs.size = some (seqObj "list" #[] 0) := Heap.get?_push_size _ rfl
  have hb : (Builtin.List.listSameRef (.ref s.heap.objs.size) (.ref l) || Value.type "tuple" == Value.type "list" || Value.type "tuple" == Value.type "tuple") = true := by
    rw [show (Value.type "tuple" == Value.type "tuple") = true from by decide, Bool.or_true]
  unfold collect
  refine wpAny_bind (wpAny_runValue (codeAny_builtin entry_proto_collect' (wpAny_bind (wpAny_newList (wpAny_pure ⟨Code.quiet_builtin _ (by decide +kernel), codeAny_builtin entry_list_iadd' ?_⟩)))))
  show wpAny _ _ (Builtin.List.listExtendWith (.ref s.heap.objs.size) (.ref l) (.ref s.heap.objs.size)) _ _ _
  unfold Builtin.List.listExtendWith
  refine wpAny_bind (wpAny_typeOf (T := "tuple") ⟨o, hp, hc⟩ ?_)
  rw [if_pos hb]
  refine wpAny_bind (listItems_at hp hd (wpAny_bind (listItems_at (xs := #[]) (n := 0) hn rfl ?_)))
  rw [if_neg (by simp)]
  refine wpAny_bind (listUpdate_at (xs := #[]) (n := 0) hn rfl (wpAny_pure ?_) (Nat.zero_le _) ?_)
  · refine wpAny_bind (wpAny_load (get?_update_seq hn _) ?_)
    have e : ((#[] : Array Value) ++ vs.toArray).toList = vs := by simp
    show wpAny _ _ (pure ((#[] : Array Value) ++ vs.toArray).toList) Q E _
    rw [e]
    exact wpAny_pure h
  · show (#[] ++ vs.toArray).size ≤ sizeLine + 1
    rw [Array.size_append, List.size_toArray]
    show 0 + vs.length ≤ sizeLine + 1
    omega

theorem sorted_tup {l : Addr} {vs : List Value} {ns : List Int} {Q : Value → Shared → Prop} (hl : IsTup s.heap l vs.toArray) (hi : IntsAre vs ns) (hz : vs.length ≤ sizeLine)
    (h : ∀ out : List Value, IntsAre out (out.map SrtO.iv) → (out.map SrtO.iv).Perm ns → (out.map SrtO.iv).Pairwise (· ≤ ·) → Q (.ref (s.heap.objs.size + 1)) { s with heap := sortedAll s.heap vs out.toArray }) :
    wpAny (model prog w) A (call (.builtin "sorted") [.ref l]) Q E s := by
  have hsz : ((s.heap.push (seqObj "list" #[] 0)).update s.heap.objs.size (Obj.mapSeq (· ++ vs.toArray))).objs.size = s.heap.objs.size + 1 := by
    rw [Heap.size_update, size_push']
  have hoL : (((s.heap.push (seqObj "list" #[] 0)).update s.heap.objs.size (Obj.mapSeq (· ++ vs.toArray))).push (seqObj "list" vs.toArray 0)).get? (s.heap.objs.size + 1) = some (seqObj "list" vs.toArray 0) := by
    rw [← hsz]
    exact Heap.get?_push_size _ rfl
  refine Calls.call_function_entry kind_sorted plain_sorted entry_sorted (args_sorted1 _) ?_
  unfold Builtin.«sorted»
  refine wpAny_bind (m := checkCount "sorted" 1 1 _) (wpAny_pure (wpAny_bind (collect_tup hl hz (wpAny_bind (wpAny_newList ?_ hz)))))
  show wpAny _ _ _ _ _ { s with heap := ((s.heap.push (seqObj "list" #[] 0)).update s.heap.objs.size (Obj.mapSeq (· ++ vs.toArray))).push (seqObj "list" vs.toArray 0) }
  rw [hsz]
  refine wpAny_bind (wpAny_holding (wpAny_call_entry slot_list_sort ⟨_, hoL, rfl⟩ entry_list_sort ?_ (args_list_sort _)))
  refine SrtO.list_sort_ord SrtO.swo_int hoL hz (fun h2 => SrtO.ints_sortable hi h2) fun out h1 h2 => ⟨_, rfl, wpAny_pure ⟨_, rfl, ?_⟩⟩
  obtain ⟨k1, k2, k3⟩ := SrtO.ints_out hi h1 h2
  exact h out k1 k2 k3
end
section
variable {X : Cx}
theorem cr_sortedT2 : CallR X (.builtin "sorted") (fun vs H Q => ∃ (a : Addr) (ns : List Int), vs = [V.ref a] ∧ SqT X.K H a (ns.map V.int) ∧
    ∀ (ns' : List Int) (p : Addr), ns'.Perm ns → ns'.Pairwise (· ≤ ·) → H p = none → Q (.ref p) (upd H p (.lst (ns'.map V.int)))) := by
  intro pins s σ H vs us Q I r h
  obtain ⟨a, ns, rfl, hs, q⟩ := h
  obtain ⟨its, rv, hl, hz⟩ := I.tuple hs
  rw [Vals.ref1 r]
  have hz1 : its.length ≤ sizeLine := by
    rw [← rv.length]
    exact hz
  refine sorted_tup hl rv.ints hz1 fun out k1 k2 k3 => ?_
  obtain ⟨ep, he⟩ := PyProof.Rows.sortedAll_at s.heap its out.toArray
  have hz2 : ((out.map SrtO.iv).map V.int).length ≤ sizeLine := by
    rw [List.length_map] at hz ⊢
    rw [k2.length_eq]
    exact hz
  refine ⟨.ref _, upd H (s.heap.objs.size + 1) (.lst ((out.map SrtO.iv).map V.int)), ?_, rfl, q _ _ k2 k3 (I.hok.fresh (Nat.le_succ _))⟩
  exact I.laid (t' := s.toks) (fun _ _ => PyProof.Rows.sortedAll_old) (Nat.le_succ _) ⟨hz2, out, ep, vals_of_ints k1, he⟩
theorem cr_sortedA : CallR X (.builtin "sorted") (rSortedA X.K) := fun pins s σ H vs us Q I r h => by
  obtain ⟨a, ns, e, hs, q⟩ := h
  rcases hs with hs | hs
  · exact cr_sortedI pins s σ H vs us Q I r ⟨a, ns, e, hs, q⟩
  · exact cr_sortedT2 pins s σ H vs us Q I r ⟨a, ns, e, hs, q⟩
/-! ### d.update(e), another dict -/
def rUpdate : V → List V → Hp → VK → Prop := fun x xs H Q => ∃ (a b : Addr) (kvs more : List (Key × V)), x = .ref a ∧ xs = [.ref b] ∧ a ≠ b ∧ H a = some (.dK kvs) ∧ H b = some (.dK more) ∧ kvs.length + more.length ≤ sizeLine ∧
  Q .non (upd H a (.dK (mergeK kvs more)))
theorem length_mergeK (more : List (Key × V)) : ∀ kvs : List (Key × V), (mergeK kvs more).length ≤ kvs.length + more.length := by
  induction more with
  | nil => intro kvs; exact Nat.le_refl _
  | cons p r ih =>
    intro kvs
    have h1 := ih (putK kvs p.1 p.2)
    have h2 := length_putK kvs p.1 p.2
    show (mergeK (putK kvs p.1 p.2) r).length ≤ kvs.length + (r.length + 1)
    omega
theorem mt_update : MtR X "dict.update" rUpdate := by
  intro pins s σ H x xs v us Q I rx rxs h
  obtain ⟨a, b, kvs, more, rfl, rfl, ne, ha, hb, hz, q⟩ := h
  cases rx
  obtain ⟨z1, s1, vs, rv, dv⟩ := dk_of I.hok ha
  obtain ⟨z2, s2, ws, rw', dw⟩ := dk_of I.hok hb
  have e1 := Paired.length rv
  have e2 := Paired.length rw'
  cases rxs with
  | cons r0 rr =>
    cases rr
    cases r0
    refine call_meetsIn PySem.F.slot_dict_update dv.typeIs PySem.F.entry_dict_update (PySem.F.args_dict_update_2 _ _) (meets_dict_update (mixKind X.prog X.w) a b ne s2) ⟨vs, ws, dv, dw, by omega, fun h' d1 d2 hs => ?_⟩
    refine ⟨.non, _, d_write (t' := s.toks) I (by rw [ha]; trivial) hs ?_ (dk_new (Nat.le_trans (length_mergeK more kvs) hz) s1 (KV.merge rw' rv) d1), rfl, q⟩
    obtain ⟨o, _, _, ho, _⟩ := d1
    exact ⟨o, ho⟩
end
end Mk
end

section
set_option Elab.async false
set_option linter.all false
set_option maxRecDepth 100000
set_option maxHeartbeats 4000000
/-! enumerate of a tuple; a tuple turned about -/
namespace PySem
open PySem.AutoSeq1 (wpAny_loadPart')
theorem mk_enum_new (l : Addr) (items : Array Value) (n : Nat) (dct : Option Addr) (sl : Array (Option Value)) :
    Meets (Builtin.«enumerate.__new__» ⟨[.type "enumerate", .ref l], []⟩) (fun _ R s => s.heap.get? l = some { cls := .type "tuple", dict := dct, data := .seq items n, slots := sl } ∧
      R (.ok (.ret (.ref (s.heap.push { cls := .type "tuple_iterator", data := .fields #[.ref l, .int 0 0] }).objs.size)))
        { s with heap := (s.heap.push { cls := .type "tuple_iterator", data := .fields #[.ref l, .int 0 0] }).push { cls := .type "enumerate", data := .fields #[.none, .bool false, .ref s.heap.objs.size, rawInt 0, .none, .none] } }) := by
  refine .of_wp fun prog w A R s z => ?_
  obtain ⟨hp, g, d, tk, os⟩ := s
  obtain ⟨hl, h⟩ := z
  have q1 := sub_enumerate
  have q2 : Heap.IsTuple (Shared.heap ⟨hp, g, d, tk, os⟩) l items := ⟨_, hl, rfl, n, rfl⟩
  wp_walk using wpAny_loadPart' hl
  refine wpAny_stack_any fun st => wpAny_pure ?_
  split
  · rename_i c _ _ _ _ _
    cases (c == Value.type "enumerate") <;> (wp_walk using wpAny_loadPart' hl, wpAny_pyIter_tuple q2; exact ⟨_, rfl, h⟩)
  · wp_walk using wpAny_loadPart' hl, wpAny_pyIter_tuple q2
    exact ⟨_, rfl, h⟩
section
variable {prog : Program} {w : World} {A : Around} {E : Value → Shared → Prop} {s : Shared}
theorem mk_call_enum {l : Addr} {items : Array Value} {Q : Value → Shared → Prop} (hL : s.heap.IsTuple l items)
    (h : ∀ h', IsEnum h' (s.heap.objs.size + 1) s.heap.objs.size 0 .none → h'.IsTupleIter s.heap.objs.size l 0 →
      (∀ b o, s.heap.get? b = some o → h'.get? b = some o) → Q (.ref (s.heap.objs.size + 1)) { s with heap := h' }) : wpAny (model prog w) A (call (.type "enumerate") [.ref l]) Q E s := by
  obtain ⟨o, hl, hc, n, hd⟩ := hL
  obtain ⟨c, dct, dt, sl⟩ := o
  simp only at hc hd
  subst hc hd
  have hz : (s.heap.push { cls := .type "tuple_iterator", data := .fields #[.ref l, .int 0 0] }).objs.size = s.heap.objs.size + 1 := Heap.size_push ..
  refine callType_new F.called_enumerate (by decide) (F.typeCall_enumerate_1 _) (F.newCall_enumerate_1 _) (fun obj => F.args_object_init_2 obj _) F.entry_enumerate_new (mk_enum_new l items n dct sl) ⟨hl, ?_⟩
  show _ ∧ _
  rw [hz]
  have he : IsEnum ((s.heap.push { cls := .type "tuple_iterator", data := .fields #[.ref l, .int 0 0] }).push
      { cls := .type "enumerate", data := .fields #[.none, .bool false, .ref s.heap.objs.size, rawInt 0, .none, .none] }) (s.heap.objs.size + 1) s.heap.objs.size 0 .none := by
    rw [← hz]
    exact Heap.get?_push_size _ rfl
  refine ⟨⟨_, he, rfl⟩, h _ he ⟨_, Heap.get?_push_of_some _ (Heap.get?_push_size _ rfl), rfl, rfl⟩ fun b o x => ?_⟩
  exact Heap.get?_push_of_some _ (Heap.get?_push_of_some _ x)
end
end PySem
namespace Mk
open PySem PySem.Spec PyProof.Rows L2
open Evl (Ex)
/-- the items of the tuple at a, each with its place in a new pair -/
def IteT (K : PySem.W.Frag) (a : Addr) : It :=
  ⟨fun i H => ∃ (xs : List V) (x : V), SqT K H a xs ∧ xs[i]? = some x, fun i H v H' => ∃ T x, v = .ref T ∧ H T = none ∧ H' = upd H T (.tup [.int (i : Nat), x]) ∧ ∀ xs, SqT K H a xs → xs[i]? = some x,
    fun i H => ∃ xs : List V, SqT K H a xs ∧ xs.length ≤ i⟩
theorem turn_enumT {P : Program} {w : World} {K : PySem.W.Frag} {elts : List Expr} {kk : Nat} {tpos : Pos} (a e it : Addr) :
    Turn P w K (.Tuple elts kk tpos) (IteT K a) [e, it] e (fun i h => (∃ old, IsEnum h e it ((i : Nat) : Int) old) ∧ h.IsTupleIter it a i ∧ e ≠ it ∧ a ≠ it ∧ a ≠ e) where
  mem := by simp
  obj := fun i h st b hb => by
    obtain ⟨⟨old, he⟩, ⟨o, ho, hc, hd⟩, _⟩ := st
    rcases List.mem_cons.mp hb with z | hb
    · subst z
      exact ⟨_, he, fun v q => nomatch q⟩
    · have z : b = it := by simpa using hb
      subst z
      exact ⟨o, ho, fun v q => by rw [hd] at q; cases q⟩
  keep := fun i h h' st k => by
    obtain ⟨⟨old, he⟩, hi, r⟩ := st
    exact ⟨⟨old, k e (by simp) _ he⟩, hi.at fun o q => k it (by simp) o q, r⟩
  item := fun X hP hw hK hc i pins s σ H E I hf st hg => by
    subst hP hw hK
    obtain ⟨⟨old, he⟩, hit, hne, hai, hae⟩ := st
    obtain ⟨xs, x, hq, hx⟩ := hg
    obtain ⟨its, rv, p, hz⟩ := I.tuple hq
    obtain ⟨u, hu, ru⟩ := rv.get hx
    have hel : e < s.heap.objs.size := Heap.lt_size he
    have hil : it < s.heap.objs.size := by
      obtain ⟨_, q, _⟩ := hit
      exact Heap.lt_size q
    have hlt : i < its.toArray.size := by
      rw [List.size_toArray]
      exact (List.getElem?_eq_some_iff.mp hu).1
    refine wpAny_pyNext_enum_itemD (Draws.tuple (A := X.A.in1) (I.ok.hd hc) it a hai its.toArray) he ⟨hit, p⟩ hlt hne (by simp [hne, Ne.symm hae]) fun y h' tk hy ho st' hT hsz hk => ?_
    have ey : y = u := by
      rw [List.getElem?_toArray, hu] at hy
      exact (Option.some.inj hy).symm
    subst ey
    refine ⟨_, rfl, wpAny_letOwnedTupleGo_enum (s := { s with heap := h', toks := tk + 1 }) ho fun h2 he' sb => ?_⟩
    have hT2 := (sb.2 _ (Nat.ne_of_gt hel)).trans hT
    have keep : ∀ b ob, b ∉ [e, it] → s.heap.get? b = some ob → h2.get? b = some ob := fun b ob hb q => by
      have n1 : b ≠ e := fun z => hb (by simp [z])
      have n2 : b ≠ it := fun z => hb (by simp [z])
      exact (sb.2 b n1).trans (hk b ob n1 n2 q)
    have new : ObjOk X.prog X.w (upd H s.heap.objs.size (.tup [.int (i : Nat), x])) h2 s.heap.objs.size (.tup [.int (i : Nat), x]) :=
      ⟨by show 2 ≤ sizeLine; decide, [.int i tk, y], .cons ⟨_, rfl⟩ (.cons ru .nil), ⟨_, hT2, rfl, _, rfl⟩⟩
    have I1 := I.turnedNew (t' := tk + 1) keep hf (Nat.le_refl _) new
    refine ⟨.ref s.heap.objs.size, _, I1, rfl, ⟨_, x, rfl, I.hok.fresh (Nat.le_refl _), rfl, fun ys hy2 => ?_⟩, ⟨⟨y, ?_⟩, ?_, hne, hai, hae⟩, fun b hb => ?_⟩
    · rw [I.tuple_inj hy2 hq]
      exact hx
    · have e1 : ((i + 1 : Nat) : Int) = (i : Int) + 1 := by omega
      rw [e1]
      exact he'
    · exact st'.1.at fun o q => (sb.2 it (Ne.symm hne)).trans q
    · have hb' : b < s.heap.objs.size := by
        rcases List.mem_cons.mp hb with z | hb
        · exact z ▸ hel
        · have z : b = it := by simpa using hb
          exact z ▸ hil
      rw [upd_ne (Nat.ne_of_lt hb')]
      exact (hf b hb).1
  done := fun X hP hw hK hc i pins s σ H E I hf st hg => by
    subst hP hw hK
    obtain ⟨⟨old, he⟩, hit, hne, hai, hae⟩ := st
    obtain ⟨xs, hq, hx⟩ := hg
    obtain ⟨its, rv, p, hz⟩ := I.tuple hq
    obtain ⟨f0, f1, f2, f3, f4, f5⟩ := hf it (by simp)
    have hl := rv.length
    have ends : its.toArray[i]? = none := by
      rw [List.getElem?_toArray]
      exact List.getElem?_eq_none_iff.mpr (by omega)
    have D := Draws.tuple (prog := X.prog) (w := X.w) (A := X.A.in1) (I.ok.hd hc) it a hai its.toArray
    have D2 : Draws X.prog X.w X.A.in1 it [it, a] i (fun _ _ => True) (fun j h => (h.IsTupleIter it a j ∧ h.IsTuple a its.toArray) ∧ j = i) :=
      ⟨fun j h st => D.live j h st.1, fun j h h' st k => ⟨D.frame j h h' st.1 k, st.2⟩, fun j s' Q' E' hj st k => absurd st.2 (Nat.ne_of_lt hj), fun s' Q' E' st k => wpAny_nextOf_tuple_end (I.ok.hd hc) st.1.1 st.1.2 ends k⟩
    exact wpAny_pyNext_enum_endD D2 he ⟨⟨hit, p⟩, rfl⟩ fun h' eb => ⟨rfl, I.turned (t' := s.toks) (fun b o hb q => eb b o hb q) f0 f1 f3 f4 f5⟩
  self := fun A i s Q E st h => by
    obtain ⟨⟨old, he⟩, _⟩ := st
    exact wpAny_pyIter_enum he h
/-- enumerate(xs), a list or a tuple -/
def iEnumA (K : PySem.W.Frag) (ta : TA) : TI := fun σ H R => ta σ H fun vs H1 => ∃ a, vs = [.ref a] ∧ (((∃ xs, SqL K H1 a xs) ∧ R (Ite K a) H1) ∨ ((∃ xs, SqT K H1 a xs) ∧ R (IteT K a) H1))
theorem pi_enumA {X : Cx} {e : Expr} {ta : TA} {p pos tpos : Pos} {elts : List Expr} {kk : Nat} (hg : Gl X "enumerate") (hm : X.mg "enumerate" = none) (ha : PA X [e] ta) (hs : starEach [e] X.env = [(false, eval e X.env)] := by rfl) :
    PI X (.Tuple elts kk tpos) (.Call (.Name "enumerate" p) [e] [] pos) (iEnumA X.K ta) := by
  constructor
  intro pins s σ H R I h
  refine Call_ (ld_blt I hg hm boot_enumerate (PyProof.Rows.callWith_type1 (thn (ha.run pos pins s σ H _ I h) fun us s1 z => ?_) hs rfl))
  obtain ⟨vs, H1, I1, r1, a, ev, q⟩ := z
  subst ev
  cases r1 with
  | cons r0 rr =>
    cases rr
    cases r0
    have new : ∀ b ∈ [s1.heap.objs.size + 1, s1.heap.objs.size], FpOk X pins H1 b := fun b hb => by
      have hle : s1.heap.objs.size ≤ b := by
        rcases List.mem_cons.mp hb with z | hb
        · rw [z]
          exact Nat.le_succ _
        · have z : b = s1.heap.objs.size := by simpa using hb
          rw [z]
          exact Nat.le_refl _
      exact I1.fpOk hle (I1.hok.fresh hle)
    rcases q with ⟨⟨xs, hx⟩, q⟩ | ⟨⟨xs, hx⟩, q⟩
    · obtain ⟨its, rv, p', hz⟩ := I1.list hx
      refine call_enumerate_list p'.isList fun h' he hit hsz hk => wpAny_pyIter_enum he ?_
      exact ⟨s1.heap.objs.size + 1, [s1.heap.objs.size + 1, s1.heap.objs.size], _, _, H1, rfl, I1.kept (t' := s1.toks) hk, turn_enum a _ _, ⟨⟨.none, he⟩, hit, Nat.succ_ne_self _⟩, new, q⟩
    · obtain ⟨its, rv, p', hz⟩ := I1.tuple hx
      have hla : a < s1.heap.objs.size := p'.lt
      refine mk_call_enum (show s1.heap.IsTuple a its.toArray from p') fun h' he hit hk => wpAny_pyIter_enum he ?_
      exact ⟨s1.heap.objs.size + 1, [s1.heap.objs.size + 1, s1.heap.objs.size], _, _, H1, rfl, I1.kept (t' := s1.toks) hk, turn_enumT a _ _,
        ⟨⟨.none, he⟩, hit, Nat.succ_ne_self _, Nat.ne_of_lt hla, Nat.ne_of_lt (Nat.lt_succ_of_lt hla)⟩, new, q⟩
end Mk
end

section
set_option Elab.async false
set_option linter.all false
set_option maxRecDepth 100000
set_option maxHeartbeats 4000000
/-! a tuple turned about -/
namespace Mk
open PySem PySem.Spec PyProof.Rows L2
open Evl (Ex)
section
variable {prog : Program} {w : World} {A : Around} {E : Value → Shared → Prop} {s : Shared}
theorem back_places (n : Nat) : Builtin.Slice.slicePlaces ((n : Int) - 1) (-1) (-1) = n := by
  unfold Builtin.Slice.slicePlaces
  have h1 : ¬ ((-1 : Int) > 0) := by decide
  have h2 : (-(-1) : Int) = 1 := by decide
  simp only [h1, if_false, h2, Int.ediv_one]
  split <;> omega
theorem back_pick (xs : Array Value) : ((List.range xs.size).filterMap fun (k : Nat) => xs[((xs.size : Int) - 1 + (k : Int) * (-1)).toNat]?) = xs.toList.reverse := by
  have e : ∀ k ∈ List.range xs.size, xs[((xs.size : Int) - 1 + (k : Int) * (-1)).toNat]? = xs[xs.size - 1 - k]? := fun k hk => by
    have := List.mem_range.mp hk
    have e : ((xs.size : Int) - 1 + (k : Int) * (-1)).toNat = xs.size - 1 - k := by omega
    rw [e]
  have cg : ∀ l : List Nat, (∀ k ∈ l, xs[((xs.size : Int) - 1 + (k : Int) * (-1)).toNat]? = xs[xs.size - 1 - k]?) → (l.filterMap fun (k : Nat) => xs[((xs.size : Int) - 1 + (k : Int) * (-1)).toNat]?) = l.filterMap fun k => xs[xs.size - 1 - k]? := fun l => by
    induction l with
    | nil => intro _; rfl
    | cons k r ih =>
      intro h
      rw [List.filterMap_cons, List.filterMap_cons, h k List.mem_cons_self, ih fun j hj => h j (List.mem_cons_of_mem _ hj)]
  rw [cg _ e]
  have q : (List.range xs.size).filterMap (fun k => xs[xs.size - 1 - k]?) = ((List.range xs.size).map fun k => xs.size - 1 - k).filterMap (xs[·]?) := by
    rw [List.filterMap_map] <;> rfl
  rw [q, PySem.W.krv_range, List.filterMap_reverse, PySem.W.krv_all]
theorem getItem_back {t sl : Addr} {items : Array Value} {vs : Value} {Q : Value → Shared → Prop} (ht : IsTup s.heap t items) (hs : s.heap.IsSliceOf sl .none .none vs) (ps : IsPart vs (some (-1)))
    (h : Q (.ref s.heap.objs.size) { s with heap := s.heap.push { cls := .type "tuple", data := .seq items.toList.reverse.toArray } }) (hsz : items.size ≤ sizeLine) : wpAny (model prog w) A (getItem (.ref t) (.ref sl)) Q E s := by
  obtain ⟨os, hos, hcs, hds⟩ := id hs
  have hTs : s.TypeIs (.ref sl) "slice" := ⟨os, hos, hcs⟩
  have fits : sizeOk (.seq items.toList.reverse.toArray) := by
    show items.toList.reverse.toArray.size ≤ sizeLine
    rw [List.size_toArray, List.length_reverse, Array.length_toList]
    exact hsz
  unfold getItem
  try with_reducible refine wpAny_holding ?_
  first | refine wpAny_bind (wpAny_pure ?_) | skip
  refine wpAny_bind (wpAny_sequenceKey ht.typeIs (by decide) (wpAny_bind (wpAny_callSpecial?_slot (name := Str.ofString "__getitem__") ht.typeIs PyProof.Rows.slot_tuple_getitem
    (wpAny_call_entry PyProof.Rows.slot_tuple_getitem ht.typeIs entry_tuple_getitem ?_ (args_tuple_getitem _ _)))))
  show wpAny _ _ (Builtin.Tuple.tupleItemsOf (.ref t) >>= _) _ _ s
  refine wpAny_bind (tupleItemsOf_ ht (wpAny_bind (wpAny_typeOf hTs ?_)))
  rw [if_pos (by decide)]
  refine wpAny_bind ?_
  unfold Builtin.Slice.sliceApplied Builtin.Slice.sliceFields
  refine wpAny_bind (wpAny_bind (wpAny_field hos hds (x := .none) rfl (wpAny_bind (wpAny_field hos hds (x := .none) rfl (wpAny_bind (wpAny_field hos hds (x := vs) rfl (wpAny_pure ?_)))))))
  refine wpAny_bind (HT.slicePart_ ps ?_)
  show wpAny _ _ (if ((-1 : Int) == 0) = true then _ else _) _ _ s
  rw [if_neg (by decide)]
  refine wpAny_bind (HT.slicePart_ .none (wpAny_bind (HT.slicePart_ .none (wpAny_bind (wpAny_pure ?_)))))
  show wpAny _ _ (pure ((items.size : Int) - 1, (-1 : Int), Builtin.Slice.slicePlaces ((items.size : Int) - 1) (-1) (-1))) _ _ s
  rw [back_places]
  refine wpAny_pure ?_
  have hno : ¬ ((((items.size : Int) - 1) == 0 && (-1 : Int) == 1 && items.size == items.size) = true) := by
    rw [show ((-1 : Int) == 1) = false by decide, Bool.and_false, Bool.false_and]
    exact Bool.false_ne_true
  show wpAny _ _ (if (((items.size : Int) - 1) == 0 && (-1 : Int) == 1 && items.size == items.size) = true then _ else _) _ _ s
  rw [if_neg hno, back_pick]
  first
    | exact wpAny_bind (m := Builtin.Tuple.tupleExact _) (wpAny_newObj_type (wpAny_pure ⟨_, rfl, wpAny_pure h⟩) fits)
    | exact wpAny_bind (wpAny_bind (m := Builtin.Tuple.tupleExact _) (wpAny_newObj_type (wpAny_pure (wpAny_pure ⟨_, rfl, wpAny_pure h⟩)) fits))
    | exact wpAny_bind (wpAny_bind (m := Builtin.Tuple.tupleExact _) (wpAny_newObj_type (wpAny_pure ⟨_, rfl, wpAny_pure h⟩) fits))
end
section
variable {X : Cx}
def tRevT (K : PySem.W.Frag) (te : TE) : TE := fun σ H Q => te σ H fun x H1 => ∃ a xs, x = .ref a ∧ SqT K H1 a xs ∧ ∀ p, H1 p = none → Q (.ref p) (upd H1 p (.tup xs.reverse))
theorem pe_revT {e : Expr} {te : TE} {k : Nat} {p1 p2 p3 pos : Pos} (he : PE X e te) : PE X (.Subscript e (.Slice none none (some (.UnaryOp .USub (.Constant (.int 1) k p1) p2)) p3) pos) (tRevT X.K te) := by
  constructor
  intro pins s σ H Q I h
  refine Subscript_ (thn (he.run pins s σ H _ I h) fun v s1 z1 => ?_)
  obtain ⟨x, H1, I1, r1, a, xs, ex, hx, q⟩ := z1
  subst ex
  cases r1
  have step : PO X (some (.UnaryOp .USub (.Constant (.int 1) k p1) p2)) (tPart (tUn (rU fun i => .int (-i)) (tC (.int 1)))) := po_some (pe_un un_neg pe_int)
  refine wpAny_Slice (thn (po_none.run pins s1 σ H1 (fun o H2 => o = none ∧ H2 = H1) I1 ⟨rfl, rfl⟩) fun vl s2 z2 => ?_)
  obtain ⟨l, H2, I2, pl, el, e2⟩ := z2
  subst el e2
  refine thn (po_none.run pins s2 σ H2 (fun o H3 => o = none ∧ H3 = H2) I2 ⟨rfl, rfl⟩) fun vu s3 z3 => ?_
  obtain ⟨u, H3, I3, pu, eu, e3⟩ := z3
  subst eu e3
  refine thn (step.run pins s3 σ H3 (fun o H4 => o = some (-1) ∧ H4 = H3) I3 ⟨1, rfl, -1, rfl, rfl, rfl⟩) fun vs s4 z4 => ?_
  obtain ⟨o, H4, I4, ps, eo, e4⟩ := z4
  subst eo e4
  have I5 : Inv X pins σ H4 { s4 with heap := s4.heap.push { cls := .type "slice", data := .fields #[vl, vu, vs] } } := I4.kept (t' := s4.toks) fun b ob q => Heap.get?_push_of_some _ q
  obtain ⟨its, r, ht, hz⟩ := I5.tuple hx
  have hlen := r.length
  cases pl
  cases pu
  show wpAny (model X.prog X.w) X.A (subscriptTail e (.Slice none none (some (.UnaryOp .USub (.Constant (.int 1) k p1) p2)) p3) (.ref a) (.ref s4.heap.objs.size)) (EP X pins σ Q) X.xe { s4 with heap := s4.heap.push { cls := .type "slice", data := .fields #[.none, .none, vs] } }
  refine tail_any (ops := [.ref a, .ref s4.heap.objs.size]) ht.typeIs (PyProof.Rows.slot_tuple_getitem.lookup) ?_ (by with_unfolding_all rfl)
  refine getItem_back ht (Heap.IsSliceOf.new _ .none .none vs) ps ?_ (by rw [List.size_toArray]; omega)
  refine ⟨.ref _, _, I5.laid (t' := s4.toks) (o := .tup xs.reverse) (fun b ob q => Heap.get?_push_of_some _ q) (Nat.le_refl _) ?_, rfl, q _ (I5.hok.fresh (Nat.le_refl _))⟩
  exact ⟨by rw [List.length_reverse]; exact hz, its.reverse, r.reverse, _, Heap.get?_push_size _ rfl, rfl, _, rfl⟩
end
end Mk
end

section
set_option Elab.async false
set_option linter.all false
set_option maxRecDepth 100000
set_option maxHeartbeats 2000000
/-! a def of the text keeps a promise about data -/
namespace Mk
open PySem PySem.Spec PyProof.Rows L2
open Evl (Ex)
open C8 (Cal pe_c pe_gc)
/-- what the top has left -/
structure Tx (K : PySem.W.Frag) (mg : Str → Option Value) : Prop where
  s : SaysX K
  gl : ∀ (i : Nat) (x : Str), fa[i]? = some (.glo x) → mg x = some (.ref (He.ga K x))
  fr : ∀ (i : Nat) (x : Str), fa[i]? = some (.free x) → mg x = none
  few : ∃ u, mg "FEW" = some u ∧ RelV (.int 2000) u
theorem tx_of {K : PySem.W.Frag} {h : Heap} {mg : Str → Option Value} (X : K.In h) (G : h.Ns mainGlobals mg) (c : SaysX K) (hf : fa[100]? = some (.int "FEW" 2000) := by rfl) : Tx K mg :=
  ⟨c, fun i x e => He.glo_ok X G (c.d.fact i e), fun i x e => He.free_ok X G (c.d.fact i e), by
    obtain ⟨t, e⟩ := He.int_ok X G (c.d.fact 100 hf)
    exact ⟨_, e, t, rfl⟩⟩
section
variable {K : PySem.W.Frag} {mg : Str → Option Value}
theorem Tx.b_ValueError (T : Tx K mg) : mg "ValueError" = none := T.fr 79 _ rfl
theorem Tx.b_abs (T : Tx K mg) : mg "abs" = none := T.fr 80 _ rfl
theorem Tx.b_all (T : Tx K mg) : mg "all" = none := T.fr 81 _ rfl
theorem Tx.b_any (T : Tx K mg) : mg "any" = none := T.fr 82 _ rfl
theorem Tx.b_bool (T : Tx K mg) : mg "bool" = none := T.fr 83 _ rfl
theorem Tx.b_dict (T : Tx K mg) : mg "dict" = none := T.fr 84 _ rfl
theorem Tx.b_enumerate (T : Tx K mg) : mg "enumerate" = none := T.fr 85 _ rfl
theorem Tx.b_int (T : Tx K mg) : mg "int" = none := T.fr 86 _ rfl
theorem Tx.b_isinstance (T : Tx K mg) : mg "isinstance" = none := T.fr 87 _ rfl
theorem Tx.b_len (T : Tx K mg) : mg "len" = none := T.fr 88 _ rfl
theorem Tx.b_list (T : Tx K mg) : mg "list" = none := T.fr 89 _ rfl
theorem Tx.b_max (T : Tx K mg) : mg "max" = none := T.fr 90 _ rfl
theorem Tx.b_min (T : Tx K mg) : mg "min" = none := T.fr 91 _ rfl
theorem Tx.b_range (T : Tx K mg) : mg "range" = none := T.fr 92 _ rfl
theorem Tx.b_set (T : Tx K mg) : mg "set" = none := T.fr 93 _ rfl
theorem Tx.b_sorted (T : Tx K mg) : mg "sorted" = none := T.fr 94 _ rfl
theorem Tx.b_str (T : Tx K mg) : mg "str" = none := T.fr 95 _ rfl
theorem Tx.b_sum (T : Tx K mg) : mg "sum" = none := T.fr 96 _ rfl
theorem Tx.b_tuple (T : Tx K mg) : mg "tuple" = none := T.fr 98 _ rfl
theorem Tx.b_zip (T : Tx K mg) : mg "zip" = none := T.fr 99 _ rfl
end
def startD (n : Nat) (ds : List Da) : DE := ds.map some ++ List.replicate (n - ds.length) none
theorem env_start {G : Hp} {vs : List V} {ds : List Da} (r : RpA G vs ds) (N : List Str) : EnvR G (L2.start N vs) (startD N.length ds) := by
  unfold L2.start startD
  have e := r.length
  refine ⟨by simp [e], fun i d q => ?_⟩
  by_cases hi : i < ds.length
  · rw [List.getElem?_append_left (by simpa using hi), List.getElem?_map] at q
    have hd : ds[i]? = some ds[i] := List.getElem?_eq_getElem hi
    rw [hd] at q
    have ed : ds[i] = d := Option.some.inj (Option.some.inj q)
    rw [ed] at hd
    obtain ⟨v, hv, rv⟩ := r.get hd
    refine ⟨v, ?_, rv⟩
    rw [List.getElem?_append_left (by simpa [e] using hi), List.getElem?_map, hv]
    rfl
  · rw [List.getElem?_append_right (by simpa using hi)] at q
    obtain ⟨h1, h2⟩ := List.getElem?_eq_some_iff.mp q
    simp at h2
section
variable {P : Program} {w : World} {K : PySem.W.Frag} {mg : Str → Option Value} {base : Heap}
/-- THE RULE: the i-th def of the list, at the j-th place of the text -/
theorem Tx.ok' (T : Tx K mg) (i : Nat) {x : Str} {j : Nat} {N ps : List Str} {k : Nat} {R : List Da → Da → Prop} (hf : fn[i]? = some (dd x j)) (S : FnScope N ps (defScope (top j)))
    (hl : ∀ ds d, R ds d → ds.length = ps.length)
    (hbody : ∀ (f : Addr) (cdv : Value) (A : Around) (outer : List Env) (s : Shared) (H : Hp) (E : XK), Room k (A.deeper (envOfC x (defScope (top j)) s.heap.objs.size f cdv)) →
      ∃ t, PSs (cxOf CX0 P w K mg base N x (defScope (top j)) f cdv A outer s H E).nox (defBody (top j)) t ∧ ∀ ds d, R ds d → StD t (startD N.length ds) .no (.rt d)) :
    ∃ fd, FunD K x x (defArgs (top j)) (defBody (top j)) (defScope (top j)) [] [] (He.ga K x) fd ∧ FnOk P w K mg base CX0 (k + 1) (He.ga K x) fd ps (spD R) := by
  obtain ⟨fd, F⟩ := T.s.d.def_ i hf
  refine ⟨fd, F, ?_⟩
  refine FunD.ok F S (fun vs H Q E h => ?_) fun cdv A outer s H vs Q E hr h => ?_
  · obtain ⟨G, ds, d, _, r, hR, _⟩ := h
    rw [r.length]
    exact hl ds d hR
  · obtain ⟨t, h1, h2⟩ := hbody _ cdv A outer s H E hr
    refine ⟨t, h1.nox, ?_⟩
    obtain ⟨G, ds, d, e, r, hR, q⟩ := h
    exact h2 ds d hR _ G H H _ ⟨G, .refl e, env_start r N, trivial⟩ fun v G' H' g' r' => q v G' H' g' r'
theorem Tx.cal (T : Tx K mg) (g : Nat) {x : Str} {j : Nat} {ps : List Str} {k : Nat} {sp : Sp} (hg : fa[g]? = some (.glo x))
    (hb : ∀ (kV doc pm : Value) (an : Option Addr) (cdv ct : Value) (us : List Value), us.length = ps.length → bindArgs (PySem.W.fnOf x x (defArgs (top j)) (defBody (top j)) (defScope (top j)) .none kV doc pm an cdv ct) ⟨us, []⟩ = pure (ps.zip us))
    (h : ∃ fd, FunD K x x (defArgs (top j)) (defBody (top j)) (defScope (top j)) [] [] (He.ga K x) fd ∧ FnOk P w K mg base CX0 k (He.ga K x) fd ps sp) : Cal P w K mg base k x sp [] := by
  obtain ⟨fd, F, ok⟩ := h
  exact ⟨_, fd, ps, [], ok, T.gl g x hg, F.kp, FunD.bindsN F hb, .nil⟩
theorem Tx.ok (T : Tx K mg) (i g : Nat) {x : Str} {j : Nat} {N ps : List Str} {k : Nat} {R : List Da → Da → Prop} (hf : fn[i]? = some (dd x j)) (hg : fa[g]? = some (.glo x)) (S : FnScope N ps (defScope (top j)))
    (hb : ∀ (kV doc pm : Value) (an : Option Addr) (cdv ct : Value) (us : List Value), us.length = ps.length → bindArgs (PySem.W.fnOf x x (defArgs (top j)) (defBody (top j)) (defScope (top j)) .none kV doc pm an cdv ct) ⟨us, []⟩ = pure (ps.zip us))
    (hl : ∀ ds d, R ds d → ds.length = ps.length)
    (hbody : ∀ (f : Addr) (cdv : Value) (A : Around) (outer : List Env) (s : Shared) (H : Hp) (E : XK), Room k (A.deeper (envOfC x (defScope (top j)) s.heap.objs.size f cdv)) →
      ∃ t, PSs (cxOf CX0 P w K mg base N x (defScope (top j)) f cdv A outer s H E).nox (defBody (top j)) t ∧ ∀ ds d, R ds d → StD t (startD N.length ds) .no (.rt d)) : Cal P w K mg base (k + 1) x (spD R) [] :=
  T.cal g hg hb (T.ok' i hf S hl hbody)
/-! keywords alone, in the parameters' order from behind -/
def tCallP (sp : Sp) (E : XK) (tk : TA) : TE := fun σ H Q => tk σ H fun zs H1 => sp zs.reverse H1 Q E
theorem pe_kw {X : Cx} {CX : CXT} {k n : Nat} {f : Addr} {fd : FuncData} {ps ks : List Str} {sp : Sp} {E : XK} {x : Str} {p pos : Pos} {kws : List Keyword} {tk : TA} {j : Nat} (FF : FunD X.K x x (defArgs (top j)) (defBody (top j)) (defScope (top j)) [] [] f fd) (F : FnOk X.prog X.w X.K X.mg X.base CX k f fd ps sp) (hr : Room k X.A) (hg : Gl X x) (hm : X.mg x = some (.ref f)) (hx : Passes CX X E)
    (hb : ∀ (kV doc pm : Value) (an : Option Addr) (cdv ct : Value) (ws : List Value), ws.length = ps.length → bindArgs (PySem.W.fnOf x x (defArgs (top j)) (defBody (top j)) (defScope (top j)) .none kV doc pm an cdv ct) ⟨[], ks.zip ws⟩ = pure (ps.zip ws.reverse))
    (hkw : PK X kws tk) (hall : (backToKw pos (keywordEach kws X.env)).all (·.1.isSome) = true := by rfl) (hks : (backToKw pos (keywordEach kws X.env)).filterMap (·.1) = ks := by rfl)
    (hdb : (x == ("__debug__" : Str)) = false := by decide) (hpl : ((backTo pos (starEach [] X.env)).any (·.1) || (backToKw pos (keywordEach kws X.env)).any (·.1.isNone)) = false := by rfl) :
    PE X (.Call (.Name x p) [] kws pos) (tCallP sp E tk) := by
  refine ⟨fun pins s σ H Q I h => ?_⟩
  refine wpAny_Call_Name_kw (ld_glob I hg hm ?_ hdb)
  refine PySem.W.callWith_KW0 (h₀ := X.base) I.ok.mod.kin FF.kp hall (thn (hkw.run pos pins s σ H _ I h) fun ws s2 ⟨zs, H2, I2, rz, q2⟩ => ⟨I2.kIn, ?_⟩) hpl
  rw [hks]
  have r2 : Vals zs.reverse ws.reverse := rz.reverse
  have hl : ws.length = ps.length := by
    have e := F.len _ _ _ _ q2
    rw [List.length_reverse] at e
    rw [← e, rz.length]
  obtain ⟨oc, od, dV, kV, doc, pm, an, cdv, ct, osl, rfl, lk, hcd, hD, hK⟩ := FF.ex
  rcases hD with ⟨_, rfl⟩ | ⟨e, _⟩
  · have bt : BindsTo s2 (PySem.W.fnOf x x (defArgs (top j)) (defBody (top j)) (defScope (top j)) .none kV doc pm an cdv ct) ⟨[], ks.zip ws⟩ (ps.zip ws.reverse) := .of_eq (hb kV doc pm an cdv ct ws hl)
    refine wpAny_call (codeAny_mono (F.run X.A X.stack s2 H2 ⟨[], ks.zip ws⟩ ws.reverse zs.reverse Q E hr I2.env0 bt r2 q2) fun r s' hq => ?_)
    cases r with
    | error e => exact hx pins σ H2 s2 e s' I2 hq
    | ok fl =>
      cases fl with
      | ret u => exact I2.after hq
      | next => exact False.elim hq
      | brk => exact False.elim hq
      | cont => exact False.elim hq
  · exact absurd rfl e
/-- a promise that nobody may ask for -/
theorem Tx.never (T : Tx K mg) (i g : Nat) {x : Str} {j : Nat} {ps : List Str} {k : Nat} {R : List Da → Da → Prop} (hf : fn[i]? = some (dd x j)) (hg : fa[g]? = some (.glo x))
    (hb : ∀ (kV doc pm : Value) (an : Option Addr) (cdv ct : Value) (us : List Value), us.length = ps.length → bindArgs (PySem.W.fnOf x x (defArgs (top j)) (defBody (top j)) (defScope (top j)) .none kV doc pm an cdv ct) ⟨us, []⟩ = pure (ps.zip us))
    (no : ∀ ds d, ¬ R ds d) : Cal P w K mg base k x (spD R) [] := by
  obtain ⟨fd, F⟩ := T.s.d.def_ i hf
  refine ⟨_, fd, ps, [], ⟨fun vs H Q E h => ?_, fun A outer s H args us vs Q E hr he hbd hv h => ?_⟩, T.gl g x hg, F.kp, FunD.bindsN F hb, .nil⟩
  · obtain ⟨G, ds, d, _, _, hR, _⟩ := h
    exact absurd hR (no ds d)
  · obtain ⟨G, ds, d, _, _, hR, _⟩ := h
    exact absurd hR (no ds d)
theorem cal_mono {k k' : Nat} {x : Str} {sp : Sp} (c : Cal P w K mg base k x sp []) (h : k ≤ k') : Cal P w K mg base k' x sp [] := by
  obtain ⟨f, fd, ps, ds, F, r⟩ := c.ex
  exact ⟨f, fd, ps, ds, F.mono h, r⟩
theorem cal_imp {k : Nat} {x : Str} {R R' : List Da → Da → Prop} (c : Cal P w K mg base k x (spD R) []) (h : ∀ ds d, R' ds d → R ds d) : Cal P w K mg base k x (spD R') [] := by
  obtain ⟨f, fd, ps, ds, F, r⟩ := c.ex
  refine ⟨f, fd, ps, ds, F.imp fun vs H Q E z => ?_, r⟩
  obtain ⟨G, ds', d, a, b, hR, q⟩ := z
  exact ⟨G, ds', d, a, b, h ds' d hR, q⟩
end
/-! ### more data rules -/
section
variable {ta tb tc td te : TE} {tr : TA} {ρ : DE} {d e f : Da} {ds es : List Da} {K : PySem.W.Frag}
/-- the type's name -/
def Da.ty : Da → String
  | .non => "NoneType"
  | .bl _ => "bool"
  | .int _ => "int"
  | .str _ => "str"
  | .tup _ => "tuple"
  | .lst _ => "list"
  | .dic _ => "dict"
theorem Rp.tyX {H : Hp} {v : V} : ∀ {d : Da}, Rp H v d → TyX K H v (.type d.ty)
  | _, .non => .base .non
  | _, .bl b => .base (.bl b)
  | _, .int i => .base (.int i)
  | _, .str x => .base (.str x)
  | _, .tup h _ => .base (.tup h)
  | _, .lst h _ => .base (.lst h)
  | _, .dic h _ => .base (.dK h)
theorem ev_isi {n : String} {b : Bool} (ha : EvD ta ρ d) (hk : kitB d.ty n = some b) : EvD (tCB (rIsi K) (tCons ta (tCons (tC (.ty n)) tNil))) ρ (.bl b) := fun G H σ x en Q q =>
  ha G H σ x en _ fun v G1 H1 g1 r1 => ⟨v, .ty n, .type d.ty, .type n, b, rfl, .ty n, (r1.mono g1.gh).tyX, kit_ty hk, q _ G1 H1 g1 (.bl b)⟩
theorem ev_isiT {m n : String} {b c : Bool} (ha : EvD ta ρ d) (h1 : kitB d.ty m = some b) (h2 : kitB d.ty n = some c) :
    EvD (tCB (rIsiT K) (tCons ta (tCons (tTup (tCons (tC (.ty m)) (tCons (tC (.ty n)) tNil))) tNil))) ρ (.bl (b || c)) := fun G H σ x en Q q =>
  ha G H σ x en _ fun v G1 H1 g1 r1 => by
    refine ⟨by show 2 ≤ sizeLine; decide, fun p hp => ⟨v, p, [.ty m, .ty n], .type d.ty, [.type m, .type n], b || c, rfl, upd_same, .cons (.ty m) (.cons (.ty n) .nil), ?_, ?_, ?_⟩⟩
    · exact (r1.mono (g1.gh.trans (Ex.new hp))).tyX
    · cases b with
      | true => exact kitAny_cons (kit_ty h1) (fun z => nomatch z) fun _ => rfl
      | false =>
        refine kitAny_cons (kit_ty h1) (fun _ => ?_) fun z => nomatch z
        cases c with
        | true => exact kitAny_cons (kit_ty h2) (fun z => nomatch z) fun _ => rfl
        | false => exact kitAny_cons (kit_ty h2) (fun _ => rfl) fun z => nomatch z
    · exact q _ G1 _ (g1.trans (.sec g1.gh (Ex.new hp))) (.bl _)
/-- + -/
theorem ea_int {i j : Int} (ha : EvD ta ρ (.int i)) (hb : EvD tb ρ (.int j)) : EvD (tOp (rAddA K) ta tb) ρ (.int (i + j)) := ev_op ha hb fun G H x y ex r1 r2 Q q =>
  .inl (rv_I0 (g := fun i j => .int (i + j)) (fun _ => .int _) G H x y ex r1 r2 Q q)
theorem ea_nat {i j : Nat} (ha : EvD ta ρ (nat i)) (hb : EvD tb ρ (nat j)) : EvD (tOp (rAddA K) ta tb) ρ (nat (i + j)) := (ea_int ha hb).to (by rw [nat, Int.natCast_add])
theorem ea_lst (ha : EvD ta ρ (.lst ds)) (hb : EvD tb ρ (.lst es)) (hz : ds.length + es.length ≤ 100000) : EvL (tOp (rAddA K) ta tb) ρ (ds ++ es) := fun G H σ x en Q q =>
  ha G H σ x en _ fun v G1 H1 g1 r1 => hb G1 H1 σ g1.gh (en.mono g1.gg) _ fun u G2 H2 g2 r2 => by
    obtain ⟨a, vs, rfl, ha, ra⟩ := (r1.mono g2.gg).isLst
    obtain ⟨b, ws, rfl, hb, rb⟩ := r2.isLst
    have g12 := g1.trans g2
    refine .inr (.inl ⟨a, b, vs, ws, rfl, rfl, g2.gh _ _ ha, g2.gh _ _ hb, Evl.sz_of (by rw [ra.length, rb.length]; exact hz), fun p hp => ?_⟩)
    exact q p _ G2 _ (g12.trans (.sec g2.gh (Ex.new hp))) (ex_no g12.hh hp) (ex_no g2.gh hp) upd_same (ra.append rb)
theorem ea_tup (ha : EvD ta ρ (.tup ds)) (hb : EvD tb ρ (.tup es)) (hz : ds.length + es.length ≤ 100000) : EvD (tOp (rAddA K) ta tb) ρ (.tup (ds ++ es)) := ev_op ha hb fun G H x y ex r1 r2 Q q => by
  obtain ⟨a, vs, rfl, ha, ra⟩ := r1.isTup
  obtain ⟨b, ws, rfl, hb, rb⟩ := r2.isTup
  refine .inr (.inr ⟨a, b, vs, ws, rfl, rfl, SqT.of (ex _ _ ha), SqT.of (ex _ _ hb), Evl.sz_of (by rw [ra.length, rb.length]; exact hz), fun e => ?_, fun e1 e2 => ?_, fun e1 e2 p hp => ?_⟩)
  · subst e
    cases ra
    exact q _ G H (.refl ex) (.tup hb rb)
  · subst e2
    cases rb
    rw [List.append_nil] at q
    exact q _ G H (.refl ex) (.tup ha ra)
  · exact q _ _ _ (.new ex hp) (.tup upd_same ((ra.append rb).mono (Ex.new (ex_no ex hp))))
/-! ### == of data -/
mutual
def Da.py : Da → PyData
  | .non => .none
  | .bl b => .bool b
  | .int i => .int i
  | .str x => .str x
  | .tup l => .tuple (Da.pyL l)
  | .lst l => .list (Da.pyL l)
  | .dic _ => .none
def Da.pyL : List Da → List PyData
  | [] => []
  | d :: r => d.py :: Da.pyL r
end
mutual
/-- no dict within -/
def Da.nd : Da → Bool
  | .tup l => Da.ndL l
  | .lst l => Da.ndL l
  | .dic _ => false
  | _ => true
def Da.ndL : List Da → Bool
  | [] => true
  | d :: r => d.nd && Da.ndL r
end
mutual
theorem Rp.dp {H : Hp} : ∀ {v : V} {d : Da}, Rp H v d → d.nd = true → Dp K H v d.py
  | _, _, .non, _ => by unfold Da.py; exact .non
  | _, _, .bl b, _ => by unfold Da.py; exact .bl b
  | _, _, .int i, _ => by unfold Da.py; exact .int i
  | _, _, .str x, _ => by unfold Da.py; exact .str x
  | _, _, .tup h r, n => by unfold Da.py; unfold Da.nd at n; exact .tup (SqT.of h) (RpA.dp r n)
  | _, _, .lst h r, n => by unfold Da.py; unfold Da.nd at n; exact .lst (SqL.of h) (RpA.dp r n)
  | _, _, .dic h r, n => by unfold Da.nd at n; cases n
theorem RpA.dp {H : Hp} : ∀ {vs : List V} {ds : List Da}, RpA H vs ds → Da.ndL ds = true → DpAll K H vs (Da.pyL ds)
  | _, _, .nil, _ => by unfold Da.pyL; exact .nil
  | _, _, .cons h r, n => by
    unfold Da.pyL
    unfold Da.ndL at n
    have z := Bool.and_eq_true_iff.mp n
    exact .cons (Rp.dp h z.1) (RpA.dp r z.2)
end
/-- may be compared -/
def Cmp (d : Da) : Prop := d.nd = true ∧ SeqAt.shaped d.py = true
theorem ev_eqD (ha : EvD ta ρ d) (hb : EvD tb ρ e) (cd : Cmp d) (ce : Cmp e) : EvD (tOp (rEqA K) ta tb) ρ (.bl (PyData.eqv d.py e.py)) := ev_op ha hb fun G H x y ex r1 r2 Q q =>
  .inr ⟨d.py, e.py, (r1.mono ex).dp cd.1, (r2.mono ex).dp ce.1, cd.2, ce.2, q _ G H (.refl ex) (.bl _)⟩
theorem ev_neD (ha : EvD ta ρ d) (hb : EvD tb ρ e) (cd : Cmp d) (ce : Cmp e) : EvD (tOp (rNeA K) ta tb) ρ (.bl (!PyData.eqv d.py e.py)) := ev_op ha hb fun G H x y ex r1 r2 Q q =>
  .inr ⟨d.py, e.py, (r1.mono ex).dp cd.1, (r2.mono ex).dp ce.1, cd.2, ce.2, q _ G H (.refl ex) (.bl _)⟩
theorem cmp_int {i : Int} : Cmp (.int i) := ⟨by unfold Da.nd <;> rfl, by unfold Da.py <;> rfl⟩
theorem eqv_int {i j : Int} : PyData.eqv (Da.int i).py (Da.int j).py = decide (i = j) := by
  unfold Da.py PyData.eqv
  exact Bool.beq_eq_decide_eq i j
theorem ev_eqA {i j : Int} (ha : EvD ta ρ (.int i)) (hb : EvD tb ρ (.int j)) : EvD (tOp (rEqA K) ta tb) ρ (.bl (decide (i = j))) := (ev_eqD ha hb cmp_int cmp_int).to (by rw [eqv_int])
theorem ev_neA {i j : Int} (ha : EvD ta ρ (.int i)) (hb : EvD tb ρ (.int j)) : EvD (tOp (rNeA K) ta tb) ρ (.bl (!decide (i = j))) := (ev_neD ha hb cmp_int cmp_int).to (by rw [eqv_int])
theorem ev_eqAN {i j : Nat} (ha : EvD ta ρ (nat i)) (hb : EvD tb ρ (nat j)) : EvD (tOp (rEqA K) ta tb) ρ (.bl (decide (i = j))) := (ev_eqA ha hb).to (by simp [Int.ofNat_inj])
theorem ev_neAN {i j : Nat} (ha : EvD ta ρ (nat i)) (hb : EvD tb ρ (nat j)) : EvD (tOp (rNeA K) ta tb) ρ (.bl (!decide (i = j))) := (ev_neA ha hb).to (by simp [Int.ofNat_inj])
/-! ### walks -/
theorem ei_seqL (h : EvD te ρ (.lst ds)) : EvI (iSeq K te) ρ ds := fun G H σ x en R q => h G H σ x en _ fun v G1 H1 g1 r1 => by
  obtain ⟨a, vs, rfl, ha, ra⟩ := r1.isLst
  exact ⟨a, rfl, .inl ⟨⟨vs, SqL.of (g1.gh _ _ ha)⟩, q _ G1 H1 g1 (itd_list ha ra)⟩⟩
theorem ei_seqT (h : EvD te ρ (.tup ds)) : EvI (iSeq K te) ρ ds := fun G H σ x en R q => h G H σ x en _ fun v G1 H1 g1 r1 => by
  obtain ⟨a, vs, rfl, ha, ra⟩ := r1.isTup
  exact ⟨a, rfl, .inr ⟨⟨vs, SqT.of (g1.gh _ _ ha)⟩, q _ G1 H1 g1 (itd_tup ha ra)⟩⟩
theorem itd_enumL {a : Addr} {vs : List V} {xs : List Da} {G : Hp} (h : G a = some (.lst vs)) (r : RpA G vs xs) : ItD (Ite K a) (xs.zipIdx.map fun q => .tup [nat q.2, q.1]) G := fun G1 H1 e1 e2 i => by
  have hq : SqL K H1 a vs := SqL.of (e2 _ _ (e1 _ _ h))
  rw [List.length_map, List.length_zipIdx]
  refine ⟨fun hi => ?_, fun hi => ⟨vs, hq, by rw [r.length]; exact hi⟩, fun x H2 y => ?_⟩
  · have hi' : i < vs.length := by rw [r.length]; exact hi
    exact ⟨vs, vs[i], hq, by simp [hi']⟩
  · obtain ⟨T, v, rfl, nT, rfl, f⟩ := y
    obtain ⟨d, h1, h2⟩ := r.getV (f vs hq)
    have g := Gr.new e2 (o := .tup [.int (i : Nat), v]) nT
    refine ⟨_, .tup [nat i, d], g, fun hi => ⟨?_, .tup upd_same (.cons (.int _) (.cons (h2.mono (e1.trans g.gg)) .nil))⟩⟩
    rw [List.getElem?_map, List.getElem?_zipIdx, h1]
    simp
theorem itd_enumT {a : Addr} {vs : List V} {xs : List Da} {G : Hp} (h : G a = some (.tup vs)) (r : RpA G vs xs) : ItD (IteT K a) (xs.zipIdx.map fun q => .tup [nat q.2, q.1]) G := fun G1 H1 e1 e2 i => by
  have hq : SqT K H1 a vs := SqT.of (e2 _ _ (e1 _ _ h))
  rw [List.length_map, List.length_zipIdx]
  refine ⟨fun hi => ?_, fun hi => ⟨vs, hq, by rw [r.length]; exact hi⟩, fun x H2 y => ?_⟩
  · have hi' : i < vs.length := by rw [r.length]; exact hi
    exact ⟨vs, vs[i], hq, by simp [hi']⟩
  · obtain ⟨T, v, rfl, nT, rfl, f⟩ := y
    obtain ⟨d, h1, h2⟩ := r.getV (f vs hq)
    have g := Gr.new e2 (o := .tup [.int (i : Nat), v]) nT
    refine ⟨_, .tup [nat i, d], g, fun hi => ⟨?_, .tup upd_same (.cons (.int _) (.cons (h2.mono (e1.trans g.gg)) .nil))⟩⟩
    rw [List.getElem?_map, List.getElem?_zipIdx, h1]
    simp
theorem zipIdx_e {α : Type} (as : List α) (en : α → Da) : ((as.map en).zipIdx.map fun q => Da.tup [nat q.2, q.1]) = as.zipIdx.map fun q => .tup [nat q.2, en q.1] := by
  rw [List.zipIdx_map, List.map_map] <;> rfl
theorem ei_enum {α : Type} {as : List α} {en : α → Da} (h : EvD te ρ (.lst (as.map en)) ∨ EvD te ρ (.tup (as.map en))) : EvI (iEnumA K (tCons te tNil)) ρ (as.zipIdx.map fun q => .tup [nat q.2, en q.1]) := fun G H σ x en' R q => by
  rcases h with h | h
  · refine h G H σ x en' _ fun v G1 H1 g1 r1 => ?_
    obtain ⟨a, vs, rfl, ha, ra⟩ := r1.isLst
    exact ⟨a, rfl, .inl ⟨⟨vs, SqL.of (g1.gh _ _ ha)⟩, q _ G1 H1 g1 (zipIdx_e as en ▸ itd_enumL ha ra)⟩⟩
  · refine h G H σ x en' _ fun v G1 H1 g1 r1 => ?_
    obtain ⟨a, vs, rfl, ha, ra⟩ := r1.isTup
    exact ⟨a, rfl, .inr ⟨⟨vs, SqT.of (g1.gh _ _ ha)⟩, q _ G1 H1 g1 (zipIdx_e as en ▸ itd_enumT ha ra)⟩⟩
/-! ### sorted -/
theorem el_sorted {ns out : List Int} (h : EvD te ρ (.lst (ns.map .int)) ∨ EvD te ρ (.tup (ns.map .int))) (hp : out.Perm ns) (hs : out.Pairwise (· ≤ ·)) : EvL (tCB (rSortedA K) (tCons te tNil)) ρ (out.map .int) := fun G H σ x en Q q => by
  have fin : ∀ (ns' : List Int), ns'.Perm ns → ns'.Pairwise (· ≤ ·) → ns' = out := fun ns' h1 h2 => (h1.trans hp.symm).eq_of_pairwise (fun a b _ _ => Int.le_antisymm) h2 hs
  rcases h with h | h
  · refine h G H σ x en _ fun v G1 H1 g1 r1 => ?_
    obtain ⟨a, vs, rfl, ha, ra⟩ := r1.isLst
    have e := ra.ints
    subst e
    refine ⟨a, ns, rfl, .inl (SqL.of (g1.gh _ _ ha)), fun ns' p h1 h2 hp => ?_⟩
    rw [fin ns' h1 h2]
    exact q p _ G1 _ (g1.trans (.sec g1.gh (Ex.new hp))) (ex_no g1.hh hp) (ex_no g1.gh hp) upd_same (.ofInts out)
  · refine h G H σ x en _ fun v G1 H1 g1 r1 => ?_
    obtain ⟨a, vs, rfl, ha, ra⟩ := r1.isTup
    have e := ra.ints
    subst e
    refine ⟨a, ns, rfl, .inr (SqT.of (g1.gh _ _ ha)), fun ns' p h1 h2 hp => ?_⟩
    rw [fin ns' h1 h2]
    exact q p _ G1 _ (g1.trans (.sec g1.gh (Ex.new hp))) (ex_no g1.hh hp) (ex_no g1.gh hp) upd_same (.ofInts out)
theorem RpD.keys {H : Hp} : ∀ {vs : List (Key × V)} {kvs : List (Int × Da)}, RpD H vs kvs → vs.map (·.1) = (kvs.map (·.1)).map Sum.inl
  | _, _, .nil => rfl
  | _, _, .cons h r => by rw [List.map_cons, List.map_cons, List.map_cons, RpD.keys r]
theorem el_sortedD {kvs : List (Int × Da)} {out : List Int} (h : EvD te ρ (.dic kvs)) (hz : kvs.length < 64) (hp : out.Perm (kvs.map (·.1))) (hs : out.Pairwise (· ≤ ·)) :
    EvL (tCB (fun xs H Q => ∃ (a : Addr) (kvs : List (Key × V)) (ks : List Int), xs = [.ref a] ∧ Rd H a (.dK kvs) ∧ kvs.map (·.1) = ks.map Sum.inl ∧ ks.length < 64 ∧
      ∀ (ys : List Int) (p : Addr), ys.Perm ks → ys.Pairwise (· ≤ ·) → H p = none → Q (.ref p) (upd H p (.lst (ys.map V.int)))) (tCons te tNil)) ρ (out.map .int) := fun G H σ x en Q q => by
  refine h G H σ x en _ fun v G1 H1 g1 r1 => ?_
  obtain ⟨a, vs, rfl, ha, ra⟩ := r1.isDic
  refine ⟨a, vs, kvs.map (·.1), rfl, .inl (g1.gh _ _ ha), ra.keys, by rw [List.length_map]; exact hz, fun ys p h1 h2 hq => ?_⟩
  have e : ys = out := (h1.trans hp.symm).eq_of_pairwise (fun a b _ _ => Int.le_antisymm) h2 hs
  rw [e]
  exact q p _ G1 _ (g1.trans (.sec g1.gh (Ex.new hq))) (ex_no g1.hh hq) (ex_no g1.gh hq) upd_same (.ofInts out)
end
end Mk
end

section
set_option Elab.async false
set_option linter.all false
set_option maxRecDepth 100000
set_option maxHeartbeats 2000000
/-! lists of dicts, lists of lists of one's own; steps down -/
namespace Mk
open PySem PySem.Spec PyProof.Rows L2
open Evl (Ex)
section
variable {te ta tb tc td ty tv : TE} {tr : TA} {ρ : DE} {d e f : Da} {ds es : List Da} {K : PySem.W.Frag}
/-- a new thing for each item -/
theorem lc_new {wi : TI} {g : TG} {vs js : List Nat} {α : Type} {as : List α} {en : α → Da} {ρ' : α → DE} {o : HO}
    (hte : ∀ (σ : L2.St) (H : Hp) (Q : VK), (∀ p, H p = none → Q (.ref p) (upd H p o)) → te σ H Q)
    (hi : EvI wi ρ (as.map en)) (hg : ∀ a ∈ as, TgD g (en a) (wipeD ρ vs) (ρ' a) js) (hz : as.length ≤ 100000) (hjs : ∀ j ∈ js, j ∈ vs)
    {G H : Hp} {σ : L2.St} (x : Ex G H) (env : EnvR G σ ρ) {Q : VK}
    (q : ∀ D ps G' H', Gr G H G' H' → H D = none → G' D = none → H' D = some (.lst (ps.map .ref)) → ps.length = as.length → (D :: ps).Nodup → (∀ p ∈ ps, H p = none ∧ G' p = none ∧ H' p = some o) → Q (.ref D) H') :
    tLc wi g (fun _ H Q => Q true H) te vs σ H Q := by
  refine hi G H σ x env _ fun J G1 H1 g1 it D hD => ?_
  refine ⟨fun i m H' => m = as.length - i ∧ i ≤ as.length ∧ ∃ G2 ps, Gr G1 H1 G2 H' ∧ G2 D = none ∧ H' D = some (.lst (ps.map .ref)) ∧ ps.length = i ∧ (D :: ps).Nodup ∧ ∀ p ∈ ps, H1 p = none ∧ G2 p = none ∧ H' p = some o, ⟨as.length, ?_⟩, ?_⟩
  · exact ⟨rfl, Nat.zero_le _, G1, [], ⟨Ex.refl _, g1.gh.trans (Ex.new hD), Ex.new hD, fun _ _ h => h⟩, ex_no g1.gh hD, upd_same, rfl, by simp, fun p hp => nomatch hp⟩
  rintro i m H' ⟨rfl, hi', G2, ps, g2, nD, eD, lp, nd, hp⟩
  obtain ⟨h1, h2, h3⟩ := it G2 H' g2.gg g2.gh i
  rw [List.length_map] at h1 h2 h3
  by_cases hlt : i < as.length
  · refine .inr ⟨h1 hlt, fun H'' => ∃ G2 ps, Gr G1 H1 G2 H'' ∧ G2 D = none ∧ H'' D = some (.lst (ps.map .ref)) ∧ ps.length = i + 1 ∧ (D :: ps).Nodup ∧ ∀ p ∈ ps, H1 p = none ∧ G2 p = none ∧ H'' p = some o, fun H'' z => ⟨as.length - (i + 1), by omega, rfl, hlt, z⟩, fun v H2 y => ?_⟩
    obtain ⟨G3, d', g3, k3⟩ := h3 v H2 y
    obtain ⟨k4, r3⟩ := k3 hlt
    have ha : as[i]? = some as[i] := List.getElem?_eq_getElem hlt
    rw [List.getElem?_map, ha] at k4
    have ed : en as[i] = d' := Option.some.inj k4
    subst ed
    have hm : as[i] ∈ as := List.getElem_mem hlt
    have env3 : EnvR G3 (wipe σ vs) (wipeD ρ vs) := (env.mono (g1.gg.trans (g2.gg.trans g3.gg))).wipe vs
    refine hg _ hm G3 H2 _ v g3.gh env3 r3 _ fun σ' G4 H4 g4 env4 hw _ => ⟨(hw vs hjs).trans (wipe_wipe σ vs), ?_⟩
    show te σ' H4 _
    have g24 := g3.trans g4
    refine hte _ _ _ fun p hpn => ?_
    have pD : p ≠ D := fun z => by rw [z, g24.hh _ _ eD] at hpn; cases hpn
    have e4 : upd H4 p o D = some (.lst (ps.map .ref)) := by rw [upd_ne pD.symm]; exact g24.hh _ _ eD
    refine ⟨ps.map .ref, e4, Evl.sz_lt (by rw [List.length_map]; omega), G4, ps ++ [p], ?_, g24.no eD nD, by rw [List.map_append]; exact upd_same, by rw [List.length_append, lp]; rfl, ?_, ?_⟩
    · have gx : Gr G1 H1 G4 (upd H4 p o) := (g2.trans g24).trans (.sec g24.gh (Ex.new hpn))
      exact gx.mut hD (g24.no eD nD)
    · have pn : p ∉ ps := fun z => by rw [g24.hh _ _ (hp p z).2.2] at hpn; cases hpn
      rw [← List.cons_append]
      refine List.nodup_append.mpr ⟨nd, by simp, fun a ha b hb => ?_⟩
      have eb : b = p := by simpa using hb
      subst eb
      rcases List.mem_cons.mp ha with rfl | ha
      · exact pD.symm
      · exact fun z => pn (z ▸ ha)
    · intro b hb
      have bD : b ≠ D := fun z => by
        rcases List.mem_append.mp hb with hb | hb
        · exact (List.nodup_cons.mp nd).1 (z ▸ hb)
        · exact pD ((by simpa using hb : b = p).symm.trans z)
      rw [upd_ne bD]
      rcases List.mem_append.mp hb with hb | hb
      · have bp : b ≠ p := fun z => by rw [← z, g24.hh _ _ (hp b hb).2.2] at hpn; cases hpn
        rw [upd_ne bp]
        exact ⟨(hp b hb).1, g24.no (hp b hb).2.2 (hp b hb).2.1, g24.hh _ _ (hp b hb).2.2⟩
      · have eb : b = p := by simpa using hb
        subst eb
        exact ⟨ex_no (g2.hh.trans g24.hh) hpn, ex_no g24.gh hpn, upd_same⟩
  · have ei : i = as.length := by omega
    subst ei
    exact .inl ⟨h2 (Nat.le_refl _), q D ps G2 H' (g1.trans g2) (ex_no g1.hh hD) nD eD lp nd fun p h => ⟨ex_no g1.hh (hp p h).1, (hp p h).2⟩⟩
theorem owls_new {G H : Hp} : ∀ {ps : List Addr}, (∀ p ∈ ps, G p = none ∧ H p = some (.lst [])) → OwLs G H ps (List.replicate ps.length [])
  | [], _ => .nil
  | p :: ps, h => .cons (h p List.mem_cons_self).2 (h p List.mem_cons_self).1 .nil (owls_new fun q hq => h q (List.mem_cons_of_mem _ hq))
theorem owds_new {G H : Hp} : ∀ {ps : List Addr}, (∀ p ∈ ps, G p = none ∧ H p = some (.dK [])) → OwDs G H ps (List.replicate ps.length [])
  | [], _ => .nil
  | p :: ps, h => .cons (h p List.mem_cons_self).2 (h p List.mem_cons_self).1 .nil (owds_new fun q hq => h q (List.mem_cons_of_mem _ hq))
/-- [{} for ..] -/
theorem sd_asgLD {wi : TI} {g : TG} {vs js : List Nat} {α : Type} {as : List α} {en : α → Da} {ρ' : α → DE} {i : Nat}
    (hi : EvI wi ρ (as.map en)) (hg : ∀ a ∈ as, TgD g (en a) (wipeD ρ vs) (ρ' a) js) (hz : as.length ≤ 100000) (hj : i < ρ.length := by first | decide | exact Nat.le_of_ble_eq_true rfl) (hjs : ∀ j ∈ js, j ∈ vs := by decide) :
    StD (tAsg (tLc wi g (fun _ H Q => Q true H) tDNewK vs) (gName i)) ρ .no (.nx (ρ.set i none) (.ld i (List.replicate as.length []))) := fun D G0 H0 H σ a p => by
  obtain ⟨G, gr, en, ok⟩ := a
  refine lc_new (fun _ _ _ h => h) hi hg hz hjs gr.gh en fun q ps G' H' g' h1 h2 h3 h4 h5 h6 => p _ H' ⟨G', gr.trans g', (en.mono g'.gg).setN i, q, ps, ?_, h3, h2, ex_no gr.hh h1, h5, fun b hb => ex_no gr.hh (h6 b hb).1, ?_⟩
  · exact List.getElem?_set_self (by rw [en.1]; exact hj)
  · rw [← h4]
    exact owds_new fun b hb => (h6 b hb).2
/-- [[] for ..] -/
theorem sd_asgLL {wi : TI} {g : TG} {vs js : List Nat} {α : Type} {as : List α} {en : α → Da} {ρ' : α → DE} {i : Nat}
    (hi : EvI wi ρ (as.map en)) (hg : ∀ a ∈ as, TgD g (en a) (wipeD ρ vs) (ρ' a) js) (hz : as.length ≤ 100000) (hj : i < ρ.length := by first | decide | exact Nat.le_of_ble_eq_true rfl) (hjs : ∀ j ∈ js, j ∈ vs := by decide) :
    StD (tAsg (tLc wi g (fun _ H Q => Q true H) (tLst tNil) vs) (gName i)) ρ .no (.nx (ρ.set i none) (.ll i (List.replicate as.length []))) := fun D G0 H0 H σ a p => by
  obtain ⟨G, gr, en, ok⟩ := a
  refine lc_new (fun _ _ _ h => ⟨Nat.zero_le _, h⟩) hi hg hz hjs gr.gh en fun q ps G' H' g' h1 h2 h3 h4 h5 h6 => p _ H' ⟨G', gr.trans g', (en.mono g'.gg).setN i, q, ps, ?_, h3, h2, ex_no gr.hh h1, h5, fun b hb => ex_no gr.hh (h6 b hb).1, ?_⟩
  · exact List.getElem?_set_self (by rw [en.1]; exact hj)
  · rw [← h4]
    exact owls_new fun b hb => (h6 b hb).2
theorem OwDs.at {G H : Hp} : ∀ {ps : List Addr} {dss : List (List (Int × Da))} {j : Nat} {kvs : List (Int × Da)}, OwDs G H ps dss → dss[j]? = some kvs → ∃ p vs, ps[j]? = some p ∧ H p = some (.dK vs) ∧ G p = none ∧ RpD G vs kvs
  | _, _, _, _, .nil, e => by simp at e
  | _, _, 0, _, .cons h n r k, e => by simp at e; subst e; exact ⟨_, _, rfl, h, n, r⟩
  | _, _, j + 1, _, .cons h n r k, e => by
    obtain ⟨p, vs, h1, h2⟩ := OwDs.at (j := j) k (by simpa using e)
    exact ⟨p, vs, by simpa using h1, h2⟩
theorem OwLs.at {G H : Hp} : ∀ {ps : List Addr} {dss : List (List Da)} {j : Nat} {kvs : List Da}, OwLs G H ps dss → dss[j]? = some kvs → ∃ p vs, ps[j]? = some p ∧ H p = some (.lst vs) ∧ G p = none ∧ RpA G vs kvs
  | _, _, _, _, .nil, e => by simp at e
  | _, _, 0, _, .cons h n r k, e => by simp at e; subst e; exact ⟨_, _, rfl, h, n, r⟩
  | _, _, j + 1, _, .cons h n r k, e => by
    obtain ⟨p, vs, h1, h2⟩ := OwLs.at (j := j) k (by simpa using e)
    exact ⟨p, vs, by simpa using h1, h2⟩
theorem OwDs.keep {G H : Hp} {p : Addr} {o : HO} : ∀ {ps : List Addr} {dss : List (List (Int × Da))}, p ∉ ps → OwDs G H ps dss → OwDs G (upd H p o) ps dss
  | _, _, _, .nil => .nil
  | _, _, hp, .cons h n r k => .cons (by rw [upd_ne (fun z => hp (by rw [← z]; exact List.mem_cons_self))]; exact h) n r (OwDs.keep (fun z => hp (List.mem_cons_of_mem _ z)) k)
theorem OwLs.keep {G H : Hp} {p : Addr} {o : HO} : ∀ {ps : List Addr} {dss : List (List Da)}, p ∉ ps → OwLs G H ps dss → OwLs G (upd H p o) ps dss
  | _, _, _, .nil => .nil
  | _, _, hp, .cons h n r k => .cons (by rw [upd_ne (fun z => hp (by rw [← z]; exact List.mem_cons_self))]; exact h) n r (OwLs.keep (fun z => hp (List.mem_cons_of_mem _ z)) k)
theorem OwDs.put {G H : Hp} {p : Addr} {vs : List (Key × V)} {kvs : List (Int × Da)} (r : RpD G vs kvs) : ∀ {ps : List Addr} {dss : List (List (Int × Da))} {j : Nat}, ps.Nodup → ps[j]? = some p → OwDs G H ps dss → OwDs G (upd H p (.dK vs)) ps (dss.set j kvs)
  | _, _, _, _, e, .nil => by simp at e
  | _, _, 0, nd, e, .cons h n r' k => by
    simp at e
    subst e
    exact .cons upd_same n r (k.keep (List.nodup_cons.mp nd).1)
  | q :: _, _, j + 1, nd, e, .cons h n r' k => by
    have e' := by simpa using e
    have nd' := List.nodup_cons.mp nd
    have : q ≠ p := fun z => nd'.1 (z ▸ List.mem_of_getElem? e')
    exact .cons (by rw [upd_ne this]; exact h) n r' (OwDs.put r nd'.2 e' k)
theorem OwLs.put {G H : Hp} {p : Addr} {vs : List V} {kvs : List Da} (r : RpA G vs kvs) : ∀ {ps : List Addr} {dss : List (List Da)} {j : Nat}, ps.Nodup → ps[j]? = some p → OwLs G H ps dss → OwLs G (upd H p (.lst vs)) ps (dss.set j kvs)
  | _, _, _, _, e, .nil => by simp at e
  | _, _, 0, nd, e, .cons h n r' k => by
    simp at e
    subst e
    exact .cons upd_same n r (k.keep (List.nodup_cons.mp nd).1)
  | q :: _, _, j + 1, nd, e, .cons h n r' k => by
    have e' := by simpa using e
    have nd' := List.nodup_cons.mp nd
    have : q ≠ p := fun z => nd'.1 (z ▸ List.mem_of_getElem? e')
    exact .cons (by rw [upd_ne this]; exact h) n r' (OwLs.put r nd'.2 e' k)
/-- a look, and what is one's own stays where it is -/
theorem look2 {ow : Ow} {σ : L2.St} {G0 H0 G H : Hp} (g : Gr G0 H0 G H) (en : EnvR G σ ρ) (ok : OwAt H0 G H σ ow) (hd : EvD te (ow.vw ρ) d) (sc : Sc d) {Q : VK} (q : ∀ v H', Gr G H G H' → (∀ G, Rp G v d) → Q v H') : te σ H Q := by
  obtain ⟨G1, g1, en1⟩ := As.vw ⟨G, g, en, ok⟩
  exact hd G1 H σ g1.gh en1 Q fun v G2 H2 g2 r2 => q v H2 (.sec g.gh g2.hh) fun G => r2.sc sc
theorem own_ix {tb : TE} {σ : L2.St} {i j : Nat} {a : Addr} {ps : List Addr} {p : Addr} {ow : Ow} {G0 H0 G H : Hp} {Q : VK} (g : Gr G0 H0 G H) (en : EnvR G σ ρ) (ok : OwAt H0 G H σ ow) (h1 : σ[i]? = some (some (.ref a))) (ha : H a = some (.lst (ps.map .ref)))
    (hj : EvD tb (ow.vw ρ) (nat j)) (hp : ps[j]? = some p) (q : ∀ H', Gr G H G H' → Q (.ref p) H') : tOp (rIx K) (tVar i) tb σ H Q := by
  refine ⟨_, h1, look2 g en ok hj trivial fun v H2 g2 r2 => ?_⟩
  have := (r2 G).isInt
  subst this
  exact .inl ⟨a, ps.map .ref, (j : Int), .ref p, rfl, rfl, SqL.of (g2.hh _ _ ha), atI_nat (by rw [List.getElem?_map, hp]; rfl), q H2 g2⟩
theorem owds_no {G H : Hp} : ∀ {ps : List Addr} {dss : List (List (Int × Da))}, OwDs G H ps dss → ∀ p ∈ ps, G p = none
  | _, _, .nil, p, hp => nomatch hp
  | _, _, .cons h n r k, p, hp => by
    rcases List.mem_cons.mp hp with rfl | hp
    · exact n
    · exact owds_no k p hp
theorem owls_no {G H : Hp} : ∀ {ps : List Addr} {dss : List (List Da)}, OwLs G H ps dss → ∀ p ∈ ps, G p = none
  | _, _, .nil, p, hp => nomatch hp
  | _, _, .cons h n r k, p, hp => by
    rcases List.mem_cons.mp hp with rfl | hp
    · exact n
    · exact owls_no k p hp
/-- found[j][k] = e, a flat thing -/
theorem sd_ldPut {i j : Nat} {k : Int} {dss : List (List (Int × Da))} {kvs : List (Int × Da)} (h : EvD tv ((Ow.ld i dss).vw ρ) d) (sc : Sc d) (hj : EvD tb ((Ow.ld i dss).vw ρ) (nat j)) (hk : EvD ty ((Ow.ld i dss).vw ρ) (.int k))
    (hd : dss[j]? = some kvs) (hz : kvs.length < 100000) : StD (sDPut (tOp (rIx K) (tVar i) tb) ty tv) ρ (.ld i dss) (.nx ρ (.ld i (dss.set j (dput kvs k d)))) := fun D G0 H0 H σ a p => by
  obtain ⟨G, g, en, ok⟩ := a
  refine look2 g en ok h sc fun v H1 g1 rv => ?_
  have ok1 := ok.grow g1
  have gA := g.trans g1
  obtain ⟨b, ps, h1, h2, h3, h4, h5, h6, h7⟩ := id ok1
  obtain ⟨x, vs, hx, x1, x2, x3⟩ := h7.at hd
  refine own_ix gA en ok1 h1 h2 hj hx fun H2 g2 => ?_
  refine look2 (gA.trans g2) en (ok1.grow g2) hk trivial fun u H3 g3 ru => ?_
  have := (ru G).isInt
  subst this
  have g23 := g2.trans g3
  have xm := List.mem_of_getElem? hx
  have xb : b ≠ x := fun z => (List.nodup_cons.mp h5).1 (z ▸ xm)
  refine ⟨x, _, rfl, DPut.k (k := Sum.inl k) (g23.hh _ _ x1) (Evl.sz_lt (by rw [x3.length]; exact hz)), ?_⟩
  refine p σ _ ⟨G, (gA.trans g23).mut (h6 x xm) x2, en, b, ps, h1, by rw [upd_ne xb]; exact g23.hh _ _ h2, h3, h4, h5, h6, ?_⟩
  exact OwDs.put (x3.put (rv G)) (List.nodup_cons.mp h5).2 hx (h7.grow g23)
def dmrg (kvs more : List (Int × Da)) : List (Int × Da) := more.foldl (fun acc kv => dput acc kv.1 kv.2) kvs
theorem RpD.merge {H : Hp} : ∀ (ws : List (Key × V)) (es : List (Int × Da)) (vs : List (Key × V)) (ds : List (Int × Da)), RpD H ws es → RpD H vs ds → RpD H (mergeK vs ws) (dmrg ds es)
  | [], es, _, _, r, s => by cases r; exact s
  | kv :: ws, es, vs, ds, r, s => by
    cases r with
    | @cons k _ _ _ _ h r =>
      have z := RpD.merge ws _ _ _ r (s.put (k := k) h)
      exact z
/-- found[j].update(found[l]) -/
theorem sd_ldUpd {i j l : Nat} {dss : List (List (Int × Da))} {kvs more : List (Int × Da)} (hj : EvD tb ((Ow.ld i dss).vw ρ) (nat j)) (hk : EvD tc ((Ow.ld i dss).vw ρ) (nat l)) (ne : j ≠ l)
    (hd : dss[j]? = some kvs) (he : dss[l]? = some more) (hz : kvs.length + more.length ≤ 100000) :
    StD (tDrop (tBM K "dict" rUpdate (tOp (rIx K) (tVar i) tb) (tCons (tOp (rIx K) (tVar i) tc) tNil))) ρ (.ld i dss) (.nx ρ (.ld i (dss.set j (dmrg kvs more)))) := fun D G0 H0 H σ a p => by
  obtain ⟨G, g, en, ok⟩ := a
  obtain ⟨b, ps, h1, h2, h3, h4, h5, h6, h7⟩ := id ok
  obtain ⟨x, vs, hx, x1, x2, x3⟩ := h7.at hd
  obtain ⟨y, ws, hy, y1, y2, y3⟩ := h7.at he
  refine own_ix g en ok h1 h2 hj hx fun H1 g1 => ⟨.inr (.inr (.inl ⟨rfl, .inl ⟨vs, g1.hh _ _ x1⟩⟩)), ?_⟩
  refine own_ix (g.trans g1) en (ok.grow g1) h1 (g1.hh _ _ h2) hk hy fun H2 g2 => ?_
  have g12 := g1.trans g2
  have xm := List.mem_of_getElem? hx
  have xb : b ≠ x := fun z => (List.nodup_cons.mp h5).1 (z ▸ xm)
  have xy : x ≠ y := fun z => by
    subst z
    exact ne ((List.getElem?_inj (List.getElem?_eq_some_iff.mp hx).1 (List.nodup_cons.mp h5).2).mp (hx.trans hy.symm))
  refine ⟨x, y, vs, ws, rfl, rfl, xy, g12.hh _ _ x1, g12.hh _ _ y1, Evl.sz_of (by rw [x3.length, y3.length]; exact hz), ?_⟩
  refine p σ _ ⟨G, (g.trans g12).mut (h6 x xm) x2, en, b, ps, h1, by rw [upd_ne xb]; exact g12.hh _ _ h2, h3, h4, h5, h6, ?_⟩
  exact OwDs.put (RpD.merge _ _ _ _ y3 x3) (List.nodup_cons.mp h5).2 hx (h7.grow g12)
/-- found[j].append(e), a flat thing -/
theorem sd_llApp {i j : Nat} {dss : List (List Da)} {ds : List Da} (h : EvD te ((Ow.ll i dss).vw ρ) d) (sc : Sc d) (hj : EvD tb ((Ow.ll i dss).vw ρ) (nat j)) (hd : dss[j]? = some ds) (hz : ds.length < 100000) :
    StD (tDrop (tBM K "list" rAppend (tOp (rIx K) (tVar i) tb) (tCons te tNil))) ρ (.ll i dss) (.nx ρ (.ll i (dss.set j (ds ++ [d])))) := fun D G0 H0 H σ a p => by
  obtain ⟨G, g, en, ok⟩ := a
  obtain ⟨b, ps, h1, h2, h3, h4, h5, h6, h7⟩ := id ok
  obtain ⟨x, vs, hx, x1, x2, x3⟩ := h7.at hd
  refine own_ix g en ok h1 h2 hj hx fun H1 g1 => ⟨.inl ⟨rfl, vs, SqL.of (g1.hh _ _ x1)⟩, ?_⟩
  refine look2 (g.trans g1) en (ok.grow g1) h sc fun v H2 g2 rv => ?_
  have g12 := g1.trans g2
  have xm := List.mem_of_getElem? hx
  have xb : b ≠ x := fun z => (List.nodup_cons.mp h5).1 (z ▸ xm)
  refine ⟨x, vs, v, rfl, rfl, g12.hh _ _ x1, Evl.sz_lt (by rw [x3.length]; exact hz), ?_⟩
  refine p σ _ ⟨G, (g.trans g12).mut (h6 x xm) x2, en, b, ps, h1, by rw [upd_ne xb]; exact g12.hh _ _ h2, h3, h4, h5, h6, ?_⟩
  exact OwLs.put (x3.append (.cons (rv G) .nil)) (List.nodup_cons.mp h5).2 hx (h7.grow g12)
/-! ### steps down -/
theorem itd_stp {lo c : Int} {n : Nat} {G : Hp} : ItD (Itc lo c n) ((List.range n).map fun (i : Nat) => .int (lo + (i : Int) * c)) G := fun G1 H1 e1 e2 i => by
  refine ⟨fun hi => (by simpa using hi : i < n), fun hi => (by simpa using hi : n ≤ i), fun x H2 y => ?_⟩
  obtain ⟨rfl, rfl⟩ := y
  refine ⟨G1, .int (lo + (i : Int) * c), .refl e2, fun hi => ⟨?_, .int _⟩⟩
  have hi' : i < n := by simpa using hi
  rw [List.getElem?_map, List.getElem?_range hi'] <;> rfl
theorem range_down (n : Nat) : ((List.range n).map fun (i : Nat) => Da.int (((n : Int) - 1) + (i : Int) * (-1))) = (List.range n).reverse.map nat := by
  apply List.ext_getElem?
  intro i
  rw [List.getElem?_map, List.getElem?_map]
  by_cases hi : i < n
  · rw [List.getElem?_range hi, List.getElem?_reverse (by simpa using hi), List.length_range, List.getElem?_range (by omega)]
    simp only [Option.map_some, nat, Option.some.injEq, Da.int.injEq]
    omega
  · rw [List.getElem?_eq_none (by simpa using hi), List.getElem?_eq_none (by simpa using hi)]
    rfl
/-- range(n - 1, -1, -1) -/
theorem ei_down {n : Nat} (h : EvA tr ρ [.int ((n : Int) - 1), .int (-1), .int (-1)]) (hz : n ≤ 1000000) : EvI (iRng3 tr) ρ ((List.range n).reverse.map nat) := fun G H σ x en R q => h G H σ x en _ fun vs G1 H1 g1 r1 => by
  cases r1 with
  | cons a b =>
    cases b with
    | cons b c =>
      cases c with
      | cons c d =>
        cases d
        cases a
        cases b
        cases c
        refine ⟨_, _, _, n, rfl, ?_, q _ G1 H1 g1 ?_⟩
        · have z := RgC.neg (i := (n : Int) - 1) (j := -1) (by omega) (by omega) (by omega) (by omega)
          have e : (((n : Int) - 1) - (-1)).toNat = n := by omega
          rwa [e] at z
        · rw [← range_down]
          exact itd_stp
theorem ev_neg {i : Int} (h : EvD te ρ (.int i)) : EvD (tUn (rU fun i => .int (-i)) te) ρ (.int (-i)) := ev_un h fun G H x ex r1 Q q => by
  cases r1
  exact ⟨i, rfl, q _ G H (.refl ex) (.int _)⟩
end
end Mk
end

section
set_option Elab.async false
set_option linter.all false
/-! what the orders are, in plain Lean -/
namespace Mk
abbrev Ps := List (Nat × Nat)
/-- pairs that go up, below m -/
def Up (m : Nat) (ps : Ps) : Prop := ∀ p ∈ ps, p.1 < p.2 ∧ p.2 < m
inductive Reach (ps : Ps) : Nat → Nat → Prop
  | refl (a : Nat) : Reach ps a a
  | step {a b c : Nat} : (a, b) ∈ ps → Reach ps b c → Reach ps a c
def rb (ps : Ps) : Nat → Nat → Nat → Bool
  | 0, a, b => a == b
  | f + 1, a, b => a == b || ps.any fun p => p.1 == a && rb ps f p.2 b
def up (m : Nat) (ps : Ps) (a : Nat) : List Nat := (List.range m).filter (rb ps m a)
def dn (m : Nat) (ps : Ps) (b : Nat) : List Nat := (List.range m).filter fun a => rb ps m a b
def tie (m : Nat) (ps : Ps) (a b : Nat) : Bool := decide (a ≠ b) && (rb ps m a b && !(List.range m).any fun c => decide (c ≠ a) && (decide (c ≠ b) && (rb ps m a c && rb ps m c b)))
def red (m : Nat) (ps : Ps) : Ps := (List.range m).flatMap fun a => ((List.range m).filter (tie m ps a)).map fun b => (a, b)
section
variable {m : Nat} {ps : Ps} {a b c : Nat}
theorem Reach.trans (h : Reach ps a b) (k : Reach ps b c) : Reach ps a c := by
  induction h with
  | refl => exact k
  | step e _ ih => exact .step e (ih k)
theorem Reach.one (h : (a, b) ∈ ps) : Reach ps a b := .step h (.refl b)
theorem Reach.le (u : Up m ps) (h : Reach ps a b) : a ≤ b := by
  induction h with
  | refl => exact Nat.le_refl _
  | step e _ ih => exact Nat.le_trans (Nat.le_of_lt (u _ e).1) ih
theorem Reach.lt (u : Up m ps) (h : Reach ps a b) (ne : a ≠ b) : a < b := Nat.lt_of_le_of_ne (h.le u) ne
theorem Reach.bd (u : Up m ps) (h : Reach ps a b) (ne : a ≠ b) : b < m := by
  induction h with
  | refl => exact absurd rfl ne
  | @step a x c e k ih =>
    by_cases z : x = c
    · subst z; exact (u _ e).2
    · exact ih z
theorem Reach.anti (u : Up m ps) (h : Reach ps a b) (k : Reach ps b a) : a = b := Nat.le_antisymm (h.le u) (k.le u)
theorem Reach.first (h : Reach ps a b) (ne : a ≠ b) : ∃ c, (a, c) ∈ ps ∧ Reach ps c b := by
  cases h with
  | refl => exact absurd rfl ne
  | step e k => exact ⟨_, e, k⟩
theorem Reach.last (h : Reach ps a b) (ne : a ≠ b) : ∃ c, Reach ps a c ∧ (c, b) ∈ ps := by
  induction h with
  | refl => exact absurd rfl ne
  | @step a x c e k ih =>
    by_cases z : x = c
    · subst z; exact ⟨a, .refl _, e⟩
    · obtain ⟨y, h1, h2⟩ := ih z
      exact ⟨y, .step e h1, h2⟩
theorem rb_to : ∀ {f a b : Nat}, rb ps f a b = true → Reach ps a b
  | 0, a, b, h => by
    have e : a = b := by simpa [rb] using h
    exact e ▸ .refl a
  | f + 1, a, b, h => by
    unfold rb at h
    rcases Bool.or_eq_true_iff.mp h with h | h
    · have e : a = b := by simpa using h
      exact e ▸ .refl a
    · obtain ⟨p, hp, h⟩ := List.any_eq_true.mp h
      have z := Bool.and_eq_true_iff.mp h
      have e : p.1 = a := by simpa using z.1
      exact .step (b := p.2) (by rw [← e]; exact hp) (rb_to z.2)
theorem rb_of (u : Up m ps) (h : Reach ps a b) : ∀ f, m ≤ a + f ∨ a = b → rb ps f a b = true := by
  induction h with
  | refl a => intro f _; cases f <;> simp [rb]
  | @step a x c e k ih =>
    intro f hf
    have hx := u _ e
    have hac : a ≠ c := Nat.ne_of_lt (Nat.lt_of_lt_of_le hx.1 (k.le u))
    have hf : m ≤ a + f := hf.resolve_right hac
    cases f with
    | zero =>
      simp at hx
      omega
    | succ f =>
      unfold rb
      rw [Bool.or_eq_true_iff]
      right
      refine List.any_eq_true.mpr ⟨_, e, ?_⟩
      rw [Bool.and_eq_true_iff]
      refine ⟨by simp, ih f (.inl ?_)⟩
      simp at hx
      omega
theorem rb_iff (u : Up m ps) : rb ps m a b = true ↔ Reach ps a b := ⟨rb_to, fun h => rb_of u h m (.inl (Nat.le_add_left _ _))⟩
theorem rb_self : rb ps m a a = true := by cases m <;> simp [rb]
theorem mem_up (u : Up m ps) : b ∈ up m ps a ↔ b < m ∧ Reach ps a b := by
  unfold up
  rw [List.mem_filter, List.mem_range, rb_iff u]
theorem mem_dn (u : Up m ps) : a ∈ dn m ps b ↔ a < m ∧ Reach ps a b := by
  unfold dn
  rw [List.mem_filter, List.mem_range, rb_iff u]
/-- nothing stands between -/
def Tie (ps : Ps) (a b : Nat) : Prop := a ≠ b ∧ Reach ps a b ∧ ∀ c, c ≠ a → c ≠ b → Reach ps a c → ¬ Reach ps c b
theorem tie_iff (u : Up m ps) : tie m ps a b = true ↔ Tie ps a b := by
  unfold tie Tie
  rw [Bool.and_eq_true_iff, Bool.and_eq_true_iff, decide_eq_true_iff, rb_iff u]
  refine and_congr_right fun _ => and_congr_right fun h => ?_
  rw [Bool.not_eq_true', Bool.eq_false_iff, Ne, List.any_eq_true]
  constructor
  · intro n c h1 h2 h3 h4
    refine n ⟨c, List.mem_range.mpr (h3.bd u h1.symm), ?_⟩
    simp [h1, h2, rb_iff u, h3, h4]
  · rintro n ⟨c, _, h⟩
    simp [rb_iff u] at h
    exact n c h.1 h.2.1 h.2.2.1 h.2.2.2
theorem mem_red (u : Up m ps) : (a, b) ∈ red m ps ↔ Tie ps a b := by
  unfold red
  simp only [List.mem_flatMap, List.mem_map, List.mem_filter, List.mem_range, Prod.mk.injEq]
  constructor
  · rintro ⟨x, hx, y, ⟨hy, t⟩, rfl, rfl⟩
    exact (tie_iff u).mp t
  · intro t
    have hb := t.2.1.bd u t.1
    exact ⟨a, Nat.lt_trans (t.2.1.lt u t.1) hb, b, ⟨hb, (tie_iff u).mpr t⟩, rfl, rfl⟩
theorem Tie.mem (u : Up m ps) (t : Tie ps a b) : (a, b) ∈ ps := by
  obtain ⟨c, h1, h2⟩ := t.2.1.first t.1
  by_cases z : c = b
  · rw [← z]; exact h1
  · exact absurd h2 (t.2.2 c (Nat.ne_of_gt (u _ h1).1) z (.one h1))
theorem red_up (u : Up m ps) : Up m (red m ps) := fun p hp => by
  obtain ⟨a, b⟩ := p
  exact u _ ((mem_red u).mp hp |>.mem u)
/-- every step up is a chain of ties -/
theorem tie_chain (u : Up m ps) : ∀ (n : Nat) {a b : Nat}, b - a ≤ n → Reach ps a b → Reach (red m ps) a b := fun n => by
  induction n with
  | zero =>
    intro a b h r
    have := r.le u
    have e : a = b := by omega
    exact e ▸ .refl a
  | succ n ih =>
    intro a b h r
    by_cases z : a = b
    · exact z ▸ .refl a
    · cases Classical.em (Tie ps a b) with
      | inl t => exact .one ((mem_red u).mpr t)
      | inr t =>
        have : ∃ c, c ≠ a ∧ c ≠ b ∧ Reach ps a c ∧ Reach ps c b := Classical.byContradiction fun k => t ⟨z, r, fun c h1 h2 h3 h4 => k ⟨c, h1, h2, h3, h4⟩⟩
        obtain ⟨c, h1, h2, h3, h4⟩ := this
        have l1 := h3.lt u h1.symm
        have l2 := h4.lt u h2
        exact (ih (by omega) h3).trans (ih (by omega) h4)
theorem reach_red (u : Up m ps) : Reach (red m ps) a b ↔ Reach ps a b := by
  constructor
  · intro h
    induction h with
    | refl => exact .refl _
    | step e _ ih => exact .step ((mem_red u).mp e |>.mem u) ih
  · exact tie_chain u _ (Nat.le_refl _)
theorem rb_congr {ps qs : Ps} (u : Up m ps) (v : Up m qs) (h : ∀ a b, Reach ps a b ↔ Reach qs a b) : rb ps m = rb qs m := by
  funext a b
  rw [Bool.eq_iff_iff, rb_iff u, rb_iff v, h]
theorem up_congr {ps qs : Ps} (u : Up m ps) (v : Up m qs) (h : ∀ a b, Reach ps a b ↔ Reach qs a b) : up m ps = up m qs := by
  unfold up
  rw [rb_congr u v h]
theorem tie_congr {ps qs : Ps} (u : Up m ps) (v : Up m qs) (h : ∀ a b, Reach ps a b ↔ Reach qs a b) : tie m ps = tie m qs := by
  unfold tie
  rw [rb_congr u v h]
theorem red_congr {ps qs : Ps} (u : Up m ps) (v : Up m qs) (h : ∀ a b, Reach ps a b ↔ Reach qs a b) : red m ps = red m qs := by
  unfold red
  rw [tie_congr u v h]
theorem red_red (u : Up m ps) : red m (red m ps) = red m ps := red_congr (red_up u) u fun _ _ => reach_red u
end
/-! ### rising lists -/
def plt (p q : Nat × Nat) : Bool := decide (p.1 < q.1) || (decide (p.1 = q.1) && decide (p.2 < q.2))
theorem plt_iff {p q : Nat × Nat} : plt p q = true ↔ p.1 < q.1 ∨ (p.1 = q.1 ∧ p.2 < q.2) := by simp [plt]
theorem red_asc {m : Nat} {ps : Ps} : (red m ps).Pairwise fun p q => plt p q = true := by
  unfold red
  rw [List.pairwise_flatMap]
  refine ⟨fun a _ => ?_, ?_⟩
  · rw [List.pairwise_map]
    refine List.Pairwise.imp ?_ (List.pairwise_lt_range.filter _)
    intro x y h
    exact plt_iff.mpr (.inr ⟨rfl, h⟩)
  · refine List.pairwise_lt_range.imp fun h x hx y hy => ?_
    simp only [List.mem_map] at hx hy
    obtain ⟨_, _, rfl⟩ := hx
    obtain ⟨_, _, rfl⟩ := hy
    exact plt_iff.mpr (.inl h)
theorem eq_of_plt {l k : List (Nat × Nat)} (h1 : l.Pairwise fun p q => plt p q = true) (h2 : k.Pairwise fun p q => plt p q = true) (h : ∀ p, p ∈ l ↔ p ∈ k) : l = k := by
  have nd : ∀ {l : List (Nat × Nat)}, (l.Pairwise fun p q => plt p q = true) → l.Nodup := fun h => h.imp fun {a b} z e => by
    subst e
    have := plt_iff.mp z
    omega
  refine List.Perm.eq_of_pairwise (fun a b _ _ x y => ?_) h1 h2 ((List.perm_ext_iff_of_nodup (nd h1) (nd h2)).mpr h)
  have := plt_iff.mp x
  have := plt_iff.mp y
  omega
theorem eq_of_lt {l k : List Nat} (h1 : l.Pairwise (· < ·)) (h2 : k.Pairwise (· < ·)) (h : ∀ p, p ∈ l ↔ p ∈ k) : l = k := by
  have nd : ∀ {l : List Nat}, l.Pairwise (· < ·) → l.Nodup := fun h => h.imp fun {a b} z e => by omega
  exact List.Perm.eq_of_pairwise (fun a b _ _ x y => by omega) h1 h2 ((List.perm_ext_iff_of_nodup (nd h1) (nd h2)).mpr h)
theorem up_asc {m : Nat} {ps : Ps} {a : Nat} : (up m ps a).Pairwise (· < ·) := List.pairwise_lt_range.filter _
theorem dn_asc {m : Nat} {ps : Ps} {a : Nat} : (dn m ps a).Pairwise (· < ·) := List.pairwise_lt_range.filter _
/-- an order -/
structure Ord (m : Nat) (ts : Ps) : Prop where
  up : Up m ts
  red : red m ts = ts
theorem Ord.of {m : Nat} {ps : Ps} (u : Up m ps) : Ord m (Mk.red m ps) := ⟨red_up u, red_red u⟩
end Mk
end

section
set_option Elab.async false
set_option linter.all false
set_option maxRecDepth 100000
set_option maxHeartbeats 2000000
/-! dict comprehensions; < of tuples; chains of three; == of the same -/
namespace Mk
open PySem PySem.Spec PyProof.Rows L2
open Evl (Ex)
section
variable {te ta tb tc td tk tv : TE} {tr : TA} {tt : TT} {ρ : DE} {d e f : Da} {ds es : List Da} {K : PySem.W.Frag} {xs ys : List Da}
theorem EvI.to {t : TI} (h : EvI t ρ xs) (e : xs = ys) : EvI t ρ ys := e ▸ h
theorem EvI.id {t : TI} (h : EvI t ρ xs) : EvI t ρ (xs.map fun x => x) := h.to (List.map_id _).symm
def dcol {α : Type} (k : α → Int) (v : α → Da) (as : List α) : List (Int × Da) := as.foldl (fun acc a => dput acc (k a) (v a)) []
theorem dput_length (kvs : List (Int × Da)) (k : Int) (v : Da) : (dput kvs k v).length ≤ kvs.length + 1 := by
  unfold dput
  split <;> simp
theorem dcol_length {α : Type} (k : α → Int) (v : α → Da) (as : List α) : (dcol k v as).length ≤ as.length := by
  unfold dcol
  suffices h : ∀ (acc : List (Int × Da)), (as.foldl (fun acc a => dput acc (k a) (v a)) acc).length ≤ acc.length + as.length by simpa using h []
  induction as with
  | nil => intro acc; simp
  | cons a r ih =>
    intro acc
    rw [List.foldl_cons]
    refine Nat.le_trans (ih _) ?_
    have := dput_length acc (k a) (v a)
    simp only [List.length_cons]
    omega
theorem ed_dc {wi : TI} {g : TG} {vs js : List Nat} {α : Type} {as : List α} {en : α → Da} {fk : α → Int} {fv : α → Da} {ρ' : α → DE}
    (hi : EvI wi ρ (as.map en)) (hg : ∀ a ∈ as, TgD g (en a) (wipeD ρ vs) (ρ' a) js) (hk : ∀ a ∈ as, EvD tk (ρ' a) (.int (fk a))) (hv : ∀ a ∈ as, EvD tv (ρ' a) (fv a))
    (hz : as.length ≤ 100000) (hjs : ∀ j ∈ js, j ∈ vs := by decide) : EvD (tDc wi g (fun _ H Q => Q true H) tk tv vs) ρ (.dic (dcol fk fv as)) := fun G H σ x env Q q => by
  refine hi G H σ x env _ fun J G1 H1 g1 it D hD => ?_
  refine ⟨fun i m H' => m = as.length - i ∧ i ≤ as.length ∧ ∃ G2 ws, Gr G1 H1 G2 H' ∧ G2 D = none ∧ H' D = some (.dK ws) ∧ RpD G2 ws (dcol fk fv (as.take i)), ⟨as.length, ?_⟩, ?_⟩
  · exact ⟨rfl, Nat.zero_le _, G1, [], ⟨Ex.refl _, g1.gh.trans (Ex.new hD), Ex.new hD, fun _ _ h => h⟩, ex_no g1.gh hD, upd_same, .nil⟩
  rintro i m H' ⟨rfl, hi', G2, ws, g2, nD, eD, rw'⟩
  obtain ⟨h1, h2, h3⟩ := it G2 H' g2.gg g2.gh i
  rw [List.length_map] at h1 h2 h3
  by_cases hlt : i < as.length
  · refine .inr ⟨h1 hlt, fun H'' => ∃ G2 ws, Gr G1 H1 G2 H'' ∧ G2 D = none ∧ H'' D = some (.dK ws) ∧ RpD G2 ws (dcol fk fv (as.take (i + 1))), fun H'' z => ⟨as.length - (i + 1), by omega, rfl, hlt, z⟩, fun v H2 y => ?_⟩
    obtain ⟨G3, d', g3, k3⟩ := h3 v H2 y
    obtain ⟨k4, r3⟩ := k3 hlt
    have ha : as[i]? = some as[i] := List.getElem?_eq_getElem hlt
    rw [List.getElem?_map, ha] at k4
    have ed : en as[i] = d' := Option.some.inj k4
    subst ed
    have hm : as[i] ∈ as := List.getElem_mem hlt
    have env3 : EnvR G3 (wipe σ vs) (wipeD ρ vs) := (env.mono (g1.gg.trans (g2.gg.trans g3.gg))).wipe vs
    refine hg _ hm G3 H2 _ v g3.gh env3 r3 _ fun σ' G4 H4 g4 env4 hw _ => ⟨(hw vs hjs).trans (wipe_wipe σ vs), ?_⟩
    have etake : as.take (i + 1) = as.take i ++ [as[i]] := by rw [List.take_add_one, ha] <;> rfl
    show tk σ' H4 _
    refine hk _ hm G4 H4 σ' g4.gh env4 _ fun y' G5 H5 g5 r5 => ?_
    refine hv _ hm G5 H5 σ' g5.gh (env4.mono g5.gg) _ fun z' G6 H6 g6 r6 => ?_
    cases r5
    have g26 : Gr G2 H' G6 H6 := ((g3.trans g4).trans g5).trans g6
    have hl : (dcol fk fv (as.take i)).length ≤ i := Nat.le_trans (dcol_length _ _ _) (by rw [List.length_take]; exact Nat.min_le_left _ _)
    refine ⟨ws, .inl (fk as[i]), rfl, g26.hh _ _ eD, Evl.sz_lt (by rw [rw'.length]; omega), G6, _, (g2.trans g26).mut hD (g26.no eD nD), g26.no eD nD, upd_same, ?_⟩
    have e : dcol fk fv (as.take (i + 1)) = dput (dcol fk fv (as.take i)) (fk as[i]) (fv as[i]) := by
      rw [etake]
      unfold dcol
      rw [List.foldl_append]
      rfl
    rw [e]
    exact (rw'.mono g26.gg).put r6
  · have ei : i = as.length := by omega
    subst ei
    rw [List.take_length] at rw'
    have g12 := g1.trans g2
    refine .inl ⟨h2 (Nat.le_refl _), q (.ref D) _ H' (g12.know (ex_no g1.hh hD) nD eD) (.dic upd_same (rw'.mono (Ex.new nD)))⟩
/-- < -/
def rLtA (K : PySem.W.Frag) : R2 := fun x y H Q => (rI0 fun i j => .bl (decide (i < j))) x y H Q ∨ rLtT K x y H Q
theorem op_ltA {X : Cx} (hu : X.A.units + 64 < cLine) : OpR X (compareOp .Lt) (rLtA X.K) := opr_or op_lt (op_ltT (by omega))
theorem ev_ltA {i j : Int} (ha : EvD ta ρ (.int i)) (hb : EvD tb ρ (.int j)) : EvD (tOp (rLtA K) ta tb) ρ (.bl (decide (i < j))) := ev_op ha hb fun G H x y ex r1 r2 Q q =>
  .inl (rv_I0 (g := fun i j => .bl (decide (i < j))) (fun _ => .bl _) G H x y ex r1 r2 Q q)
theorem lex_pr (p q : Nat × Nat) : HT.lexLt [(p.1 : Int), (p.2 : Int)] [(q.1 : Int), (q.2 : Int)] = plt p q := by
  unfold plt
  rw [HT.lexLt_cons]
  by_cases h : p.1 = q.1
  · rw [if_pos (by rw [h])]
    rw [HT.lexLt_cons]
    by_cases h2 : p.2 = q.2
    · rw [if_pos (by rw [h2])]
      simp [h, h2, HT.lexLt_nil_nil]
    · rw [if_neg (by omega)]
      simp [h]
  · rw [if_neg (by omega)]
    simp [h]
theorem ev_ltP {p q : Nat × Nat} (ha : EvD ta ρ (pr p)) (hb : EvD tb ρ (pr q)) : EvD (tOp (rLtA K) ta tb) ρ (.bl (plt p q)) := ev_op ha hb fun G H x y ex r1 r2 Q q' => by
  obtain ⟨a, vs, rfl, ha, ra⟩ := (r1.mono ex).isTup
  obtain ⟨b, ws, rfl, hb, rb⟩ := (r2.mono ex).isTup
  have e1 := RpA.ints (ns := [(p.1 : Int), (p.2 : Int)]) ra
  have e2 := RpA.ints (ns := [(q.1 : Int), (q.2 : Int)]) rb
  subst e1 e2
  refine .inr ⟨a, b, _, _, rfl, rfl, SqT.of ha, SqT.of hb, ?_⟩
  rw [lex_pr]
  exact q' _ G H (.refl ex) (.bl _)
theorem ev_chain3 {r r' r2 : R2} {b1 b2 b3 : Bool} {g : Da} (ha : EvD ta ρ d) (hb : EvD tb ρ e) (hr : RV r d e (.bl b1)) (hc : b1 = true → EvD tc ρ f) (hr' : b1 = true → RV r' e f (.bl b2)) (hd : b1 = true → b2 = true → EvD td ρ g) (hr2 : b1 = true → b2 = true → RV r2 f g (.bl b3)) :
    EvD (tChain3 r r' r2 ta tb tc td) ρ (.bl (b1 && (b2 && b3))) := fun G H σ x en Q q =>
  ha G H σ x en _ fun v G1 H1 g1 r1 => hb G1 H1 σ g1.gh (en.mono g1.gg) _ fun u G2 H2 g2 r2x =>
    hr G2 H2 v u g2.gh (r1.mono g2.gg) r2x _ fun w G3 H3 g3 r3 => by
      cases r3
      refine ⟨b1, rfl, ?_⟩
      have g13 := (g1.trans g2).trans g3
      cases b1 with
      | true =>
        show tc σ H3 _
        refine hc rfl G3 H3 σ g3.gh (en.mono g13.gg) _ fun z G4 H4 g4 r4 => hr' rfl G4 H4 u z g4.gh (r2x.mono (g3.gg.trans g4.gg)) r4 _ fun y G5 H5 g5 r5 => ?_
        cases r5
        refine ⟨b2, rfl, ?_⟩
        have g15 := (g13.trans g4).trans g5
        cases b2 with
        | true =>
          show td σ H5 _
          exact hd rfl rfl G5 H5 σ g5.gh (en.mono g15.gg) _ fun m G6 H6 g6 r6 => hr2 rfl rfl G6 H6 z m g6.gh (r4.mono (g5.gg.trans g6.gg)) r6 Q fun y G7 H7 g7 r7 => q y G7 H7 ((g15.trans g6).trans g7) r7
        | false => exact q _ G5 H5 g15 (.bl false)
      | false => exact q _ G3 H3 g13 (.bl false)
theorem rv_lt {i j : Int} : RV (rI0 fun i j => .bl (decide (i < j))) (.int i) (.int j) (.bl (decide (i < j))) := rv_I0 fun _ => .bl _
theorem rv_le {i j : Int} : RV (rI0 fun i j => .bl (decide (i ≤ j))) (.int i) (.int j) (.bl (decide (i ≤ j))) := rv_I0 fun _ => .bl _
end
/-! ### == of a thing and itself -/
mutual
theorem eqv_self : ∀ d : Da, PyData.eqv d.py d.py = true
  | .non => by unfold Da.py PyData.eqv; rfl
  | .bl b => by unfold Da.py PyData.eqv; simp
  | .int i => by unfold Da.py PyData.eqv; simp
  | .str x => by unfold Da.py PyData.eqv; simp
  | .tup l => by unfold Da.py PyData.eqv; exact eqvL_self l
  | .lst l => by unfold Da.py PyData.eqv; exact eqvL_self l
  | .dic l => by unfold Da.py PyData.eqv; rfl
theorem eqvL_self : ∀ l : List Da, PyData.eqvAll (Da.pyL l) (Da.pyL l) = true
  | [] => by unfold Da.pyL PyData.eqvAll; rfl
  | d :: r => by unfold Da.pyL PyData.eqvAll; rw [eqv_self d, eqvL_self r]; rfl
end
end Mk
end

section
set_option Elab.async false
set_option linter.all false
set_option maxRecDepth 100000
set_option maxHeartbeats 2000000
/-! the rules with K said outright: within a comprehension the context is not at hand outside -/
namespace Mk
open PySem PySem.Spec PyProof.Rows L2
section
variable {X : Cx} (K : PySem.W.Frag) (e : X.K = K)
include e
theorem k_ix : IxR X (rIx K) := e ▸ ix_seq
theorem k_add : OpR X (binaryOp .Add) (rAddA K) := e ▸ op_addA
theorem k_eq (hu : X.A.units + 64 < cLine) : OpR X (compareOp .Eq) (rEqA K) := e ▸ op_eqA hu
theorem k_ne (hu : X.A.units + 64 < cLine) : OpR X (compareOp .NotEq) (rNeA K) := e ▸ op_neA hu
theorem k_lt (hu : X.A.units + 64 < cLine) : OpR X (compareOp .Lt) (rLtA K) := e ▸ op_ltA hu
theorem k_in : OpR X (compareOp .In) (rIn K false) := e ▸ op_in_seq
theorem k_ni : OpR X (compareOp .NotIn) (rIn K true) := e ▸ op_notIn_seq
theorem k_len : CallR X (.builtin "len") (fun xs H Q => ∃ p ys, xs = [.ref p] ∧ (SqL K H p ys ∨ SqT K H p ys) ∧ Q (.int ys.length) H) := by subst e; exact call_len_seq
theorem k_isi : CallR X (.builtin "isinstance") (rIsi K) := e ▸ call_isi
theorem k_isiT : CallR X (.builtin "isinstance") (rIsiT K) := e ▸ call_isiT
theorem k_all (hc : X.calm = true) : CallR X (.builtin "all") (rAll K) := e ▸ cr_all hc
theorem k_any (hc : X.calm = true) : CallR X (.builtin "any") (rAny K) := e ▸ cr_any hc
theorem k_sum (hc : X.calm = true) : CallR X (.builtin "sum") (rSum K) := e ▸ cr_sum hc
theorem k_min (hc : X.calm = true) : CallR X (.builtin "min") (rMin K) := e ▸ cr_min hc
theorem k_sorted : CallR X (.builtin "sorted") (rSortedA K) := e ▸ cr_sortedA
theorem k_tuple : CallR X (.type "tuple") (fun xs H Q => ∃ p ys, xs = [.ref p] ∧ ((SqL K H p ys ∧ ∀ l, H l = none → Q (.ref l) (upd H l (.tup ys))) ∨ (SqT K H p ys ∧ Q (.ref p) H))) := by subst e; exact call_tuple_of
theorem k_list : CallR X (.type "list") (fun xs H Q => ∃ p ys, xs = [.ref p] ∧ (SqL K H p ys ∨ SqT K H p ys) ∧ ∀ l, H l = none → Q (.ref l) (upd H l (.lst ys))) := by subst e; exact call_list_of
theorem k_sl : SlR X (rSlSeq K) := e ▸ sl_seqA
theorem k_seq {tg l : Expr} {te : TE} (hl : PE X l te) : PI X tg l (iSeq K te) := e ▸ pi_seq hl
theorem k_enum {ex : Expr} {ta : TA} {p pos tpos : Pos} {elts : List Expr} {kk : Nat} (hg : Gl X "enumerate") (hm : X.mg "enumerate" = none) (ha : PA X [ex] ta) (hs : starEach [ex] X.env = (false, eval ex X.env) :: starEach [] X.env := by rfl) :
    PI X (.Tuple elts kk tpos) (.Call (.Name "enumerate" p) [ex] [] pos) (iEnumA K ta) := e ▸ pi_enumA hg hm ha hs
theorem k_tup {es : List Expr} {k : Nat} {t : TGs} {n : Nat} {pos : Pos} (hc : X.calm = true) (h : PGs X es t)
    (hn : (assignEach es X.env).length = n := by rfl) (hst : (assignEach es X.env).findIdx? (·.1) = none := by rfl) : PG X (.Tuple es k pos) (gTup K n t) := e ▸ pg_tup hc h hn hst
end
end Mk
end

section
set_option Elab.async false
set_option linter.all false
set_option maxRecDepth 100000
set_option maxHeartbeats 2000000
namespace Mk
open PySem PySem.Spec PyProof.Rows L2
open Evl (Ex)
open C8 (Cal pe_c pe_gc)
def Da.isI : Da → Bool
  | .int _ => true
  | _ => false
def Da.isT : Da → Bool
  | .tup _ => true
  | _ => false
abbrev N_is_number : List Str := ["thing"]
theorem sc_is_number : FnScope N_is_number ["thing"] (defScope s_is_number) := ⟨rfl, rfl, rfl, by decide +kernel, rfl, by decide +kernel, by decide +kernel⟩
def R_is_number (ds : List Da) (r : Da) : Prop := ∃ d, ds = [d] ∧ r = .bl d.isI
theorem ok_is_number {P : Program} {w : World} {K : PySem.W.Frag} {mg : Str → Option Value} {base : Heap} (T : Tx K mg) : Cal P w K mg base 1 "is_number" (spD R_is_number) [] := T.ok 0 0 rfl rfl sc_is_number (fun _ _ _ _ _ _ us hl => match us, hl with | [_], _ => rfl) (by rintro ds r h; obtain ⟨_, rfl, _⟩ := h; rfl) fun f cdv A outer s H E hr => ⟨_, (pss_one (ps_ret (pe_and (pe_callB (k_isi K rfl) (by rfl) T.b_isinstance (by decide +kernel) (pa_cons (pv 0) (pa_cons (pe_bltn (v := .ty "int") (by rfl) T.b_int (by decide +kernel) rfl) pa_nil))) (pe_one (pe_not (pe_callB (k_isi K rfl) (by rfl) T.b_isinstance (by decide +kernel) (pa_cons (pv 0) (pa_cons (pe_bltn (v := .ty "bool") (by rfl) T.b_bool (by decide +kernel) rfl) pa_nil)))))))), fun ds r hR => by
  obtain ⟨d, rfl, rfl⟩ := hR
  have k1 : kitB d.ty "int" = some (match d with | .int _ => true | .bl _ => true | _ => false) := by cases d <;> rfl
  have k2 : kitB d.ty "bool" = some (match d with | .bl _ => true | _ => false) := by cases d <;> rfl
  refine sd_ret ((ev_and (ev_isi (ev_v 0) k1) fun _ => ev_not (ev_isi (ev_v 0) k2)).to ?_)
  cases d <;> rfl⟩
abbrev N_is_from : List Str := ["thing", "least"]
theorem sc_is_from : FnScope N_is_from ["thing", "least"] (defScope s_is_from) := ⟨rfl, rfl, rfl, by decide +kernel, rfl, by decide +kernel, by decide +kernel⟩
def R_is_from (ds : List Da) (r : Da) : Prop := ∃ i l : Int, ds = [.int i, .int l] ∧ r = .bl (decide (l ≤ i))
theorem ok_is_from {P : Program} {w : World} {K : PySem.W.Frag} {mg : Str → Option Value} {base : Heap} (T : Tx K mg) : Cal P w K mg base 2 "is_from" (spD R_is_from) [] := T.ok 1 1 rfl rfl sc_is_from (fun _ _ _ _ _ _ us hl => match us, hl with | [_, _], _ => rfl) (by rintro ds r h; obtain ⟨_, _, rfl, _⟩ := h; rfl) fun f cdv A outer s H E hr => ⟨_, (pss_one (ps_ret (pe_and (pe_c (ok_is_number T) hr (by decide) (by rfl) (pa_cons (pv 0) pa_nil)) (pe_one (pe_cmpR op_ge (pv 0) (pv 1) (nomark _)))))), fun ds r hR => by
  obtain ⟨i, l, rfl, rfl⟩ := hR
  exact sd_ret ((ev_and (ev_call (ea1 (ev_v 0)) ⟨_, rfl, rfl⟩) fun _ => ev_ge (ev_v 0) (ev_v 1)).to (by simp [Da.isI]))⟩
abbrev N_is_within : List Str := ["thing", "least", "most"]
theorem sc_is_within : FnScope N_is_within ["thing", "least", "most"] (defScope s_is_within) := ⟨rfl, rfl, rfl, by decide +kernel, rfl, by decide +kernel, by decide +kernel⟩
def R_is_within (ds : List Da) (r : Da) : Prop := ∃ i l m : Int, ds = [.int i, .int l, .int m] ∧ r = .bl (decide (l ≤ i) && decide (i ≤ m))
theorem ok_is_within {P : Program} {w : World} {K : PySem.W.Frag} {mg : Str → Option Value} {base : Heap} (T : Tx K mg) : Cal P w K mg base 2 "is_within" (spD R_is_within) [] := T.ok 2 2 rfl rfl sc_is_within (fun _ _ _ _ _ _ us hl => match us, hl with | [_, _, _], _ => rfl) (by rintro ds r h; obtain ⟨_, _, _, rfl, _⟩ := h; rfl) fun f cdv A outer s H E hr => ⟨_, (pss_one (ps_ret (pe_and (pe_c (ok_is_number T) hr (by decide) (by rfl) (pa_cons (pv 0) pa_nil)) (pe_one (pe_chain op_le op_le (pv 1) (pv 0) (pv 2)))))), fun ds r hR => by
  obtain ⟨i, l, m, rfl, rfl⟩ := hR
  exact sd_ret ((ev_and (ev_call (ea1 (ev_v 0)) ⟨_, rfl, rfl⟩) fun _ => ev_chain (ev_v 1) (ev_v 0) (rv_I0 fun _ => .bl _) (fun _ => ev_v 2) (fun _ => rv_I0 fun _ => .bl _)).to (by simp [Da.isI]))⟩
def isTn (n : Nat) : Da → Bool
 | .tup l => decide (l.length = n)
 | _ => false
abbrev N_is_long : List Str := ["thing", "length"]
theorem sc_is_long : FnScope N_is_long ["thing", "length"] (defScope s_is_long) := ⟨rfl, rfl, rfl, by decide +kernel, rfl, by decide +kernel, by decide +kernel⟩
def R_is_long (ds : List Da) (r : Da) : Prop := ∃ (d : Da) (n : Nat), ds = [d, nat n] ∧ r = .bl (isTn n d)
theorem ok_is_long {P : Program} {w : World} {K : PySem.W.Frag} {mg : Str → Option Value} {base : Heap} (T : Tx K mg) : Cal P w K mg base 1 "is_long" (spD R_is_long) [] := T.ok 3 3 rfl rfl sc_is_long (fun _ _ _ _ _ _ us hl => match us, hl with | [_, _], _ => rfl) (by rintro ds r h; obtain ⟨_, _, rfl, _⟩ := h; rfl) fun f cdv A outer s H E hr => ⟨_, (pss_one (ps_ret (pe_and (pe_callB (k_isi K rfl) (by rfl) T.b_isinstance (by decide +kernel) (pa_cons (pv 0) (pa_cons (pe_bltn (v := .ty "tuple") (by rfl) T.b_tuple (by decide +kernel) rfl) pa_nil))) (pe_one (pe_cmpR (k_eq K rfl hr.units) (pe_callB (k_len K rfl) (by rfl) T.b_len (by decide +kernel) (pa_cons (pv 0) pa_nil)) (pv 1) (nomark _)))))), fun ds r hR => by
  obtain ⟨d, n, rfl, rfl⟩ := hR
  have k1 : kitB d.ty "tuple" = some d.isT := by cases d <;> rfl
  cases hd : d.isT with
  | false =>
    rw [hd] at k1
    refine sd_ret ((ev_and (b := true) (ev_isi (ev_v 0) k1) fun z => nomatch z).to ?_)
    cases d <;> first | rfl | cases hd
  | true =>
    cases d with
    | tup l => exact sd_ret ((ev_and (ev_isi (ev_v 0) k1) fun _ => ev_eqAN (ev_cb (ea1 (ev_v 0)) rc_lenT) (ev_v 1)).to (by simp [hd, isTn]))
    | _ => cases hd⟩
def Da.fit : Nat → Da → Bool
 | 0, _ => false
 | k + 1, .tup l => decide (l.length ≤ 100000) && l.all (Da.fit k)
 | k + 1, .lst l => decide (l.length ≤ 100000) && l.all (Da.fit k)
 | _ + 1, _ => true
def Da.tpd : Nat → Da → Da
 | k + 1, .tup l => .tup (l.map (Da.tpd k))
 | k + 1, .lst l => .tup (l.map (Da.tpd k))
 | _, d => d
def Da.isL : Da → Bool
 | .lst _ => true
 | _ => false
abbrev N_tupled : List Str := ["value", "own"]
theorem sc_tupled : FnScope N_tupled ["value"] (defScope s_tupled) := ⟨rfl, rfl, rfl, by decide +kernel, rfl, by decide +kernel, by decide +kernel⟩
def R_tupled (k : Nat) (ds : List Da) (r : Da) : Prop := ∃ d, ds = [d] ∧ d.fit k = true ∧ r = d.tpd k
theorem ok_tupled {P : Program} {w : World} {K : PySem.W.Frag} {mg : Str → Option Value} {base : Heap} (T : Tx K mg) : ∀ k : Nat, Cal P w K mg base k "tupled" (spD (R_tupled k)) []
  | 0 => T.never (ps := ["value"]) 4 4 rfl rfl (fun _ _ _ _ _ _ us hl => match us, hl with | [_], _ => rfl) (by rintro ds r ⟨d, rfl, h, rfl⟩; cases h)
  | k + 1 => have IH := ok_tupled (P := P) (w := w) (base := base) T k; T.ok 4 4 rfl rfl sc_tupled (fun _ _ _ _ _ _ us hl => match us, hl with | [_], _ => rfl) (by rintro ds r h; obtain ⟨_, rfl, _⟩ := h; rfl) fun f cdv A outer s H E hr => ⟨_, (pss_one (ps_ret (pe_ifExp (pt_val (pe_callB (k_isiT K rfl) (by rfl) T.b_isinstance (by decide +kernel) (pa_cons (pv 0) (pa_cons (pe_tup (pa_cons (pe_bltn (v := .ty "list") (by rfl) T.b_list (by decide +kernel) rfl) (pa_cons (pe_bltn (v := .ty "tuple") (by rfl) T.b_tuple (by decide +kernel) rfl) pa_nil))) pa_nil)))) (pe_callTy (k_tuple K rfl) (by rfl) T.b_tuple (by decide +kernel) (pa_cons (pe_lc (own := [("own", 1)]) rfl sc_tupled.nd (k_seq K rfl (pv 0)) (blkOk_by (own := [("own", 1)]) (N := N_tupled) (sc := (defScope s_tupled)) (by decide +kernel)) (fun _ _ _ _ _ => (pg_name (i := 1) sc_tupled.nd rfl (Or.inl rfl))) (fun _ _ _ _ _ => pts_nil) (fun _ _ _ _ _ => (pe_c IH hr (Nat.le_refl _) (by rfl) (pa_cons (pv 1) pa_nil)))) pa_nil)) (pv 0)))), fun ds r hR => by
  obtain ⟨d, rfl, h, rfl⟩ := hR
  have k1 : kitB d.ty "list" = some d.isL := by cases d <;> rfl
  have k2 : kitB d.ty "tuple" = some d.isT := by cases d <;> rfl
  refine sd_ret (ev_if (eb_val (ev_isiT (ev_v 0) k1 k2)) (fun hb => ?_) fun hb => (ev_v 0 (d := d)).to ?_)
  · cases d with
    | tup l =>
      have z := Bool.and_eq_true_iff.mp h
      exact ev_cb (ea1 (el_map (ρ' := fun a => [some (.tup l), some a]) (ei_seqT (ev_v 0)).id (fun a _ => tg_name) (fun a ha => ev_call (ea1 (ev_v 1)) ⟨a, rfl, List.all_eq_true.mp z.2 a ha, rfl⟩) (of_decide_eq_true z.1)).toD) rc_tupL
    | lst l =>
      have z := Bool.and_eq_true_iff.mp h
      exact ev_cb (ea1 (el_map (ρ' := fun a => [some (.lst l), some a]) (ei_seqL (ev_v 0)).id (fun a _ => tg_name) (fun a ha => ev_call (ea1 (ev_v 1)) ⟨a, rfl, List.all_eq_true.mp z.2 a ha, rfl⟩) (of_decide_eq_true z.1)).toD) rc_tupL
    | _ => cases hb
  · cases d <;> first | rfl | cases hb⟩
def ascI (ns : List Int) : Bool := (List.range (ns.length - 1)).all fun k => decide (ns.getD k 0 < ns.getD (k + 1) 0)
def ascP (ps : List (Nat × Nat)) : Bool := (List.range (ps.length - 1)).all fun k => plt (ps.getD k (0, 0)) (ps.getD (k + 1) (0, 0))
theorem getD_at {α : Type} {l : List α} {i : Nat} {x : α} (h : i < l.length) : l[i]? = some (l.getD i x) := by
 rw [List.getD_eq_getElem?_getD, List.getElem?_eq_getElem h] <;> rfl
theorem map_at {α β : Type} {l : List α} {f : α → β} {i : Nat} {x : α} (h : i < l.length) : (l.map f)[i]? = some (f (l.getD i x)) := by
 rw [List.getElem?_map, getD_at h] <;> rfl
abbrev N_ascends : List Str := ["row", "k"]
theorem sc_ascends : FnScope N_ascends ["row"] (defScope s_ascends) := ⟨rfl, rfl, rfl, by decide +kernel, rfl, by decide +kernel, by decide +kernel⟩
def R_ascends (ds : List Da) (r : Da) : Prop := ∃ l, ds = [.tup l] ∧ l.length ≤ 100000 ∧ ((∃ ns : List Int, l = ns.map .int ∧ r = .bl (ascI ns)) ∨ ∃ ps : List (Nat × Nat), l = ps.map pr ∧ r = .bl (ascP ps))
theorem ok_ascends {P : Program} {w : World} {K : PySem.W.Frag} {mg : Str → Option Value} {base : Heap} (T : Tx K mg) : Cal P w K mg base 1 "ascends" (spD R_ascends) [] := T.ok 5 5 rfl rfl sc_ascends (fun _ _ _ _ _ _ us hl => match us, hl with | [_], _ => rfl) (by rintro ds r h; obtain ⟨_, rfl, _⟩ := h; rfl) fun f cdv A outer s H E hr => ⟨_, (pss_one (ps_ret (pe_callB (k_all K rfl rfl) (by rfl) T.b_all (by decide +kernel) (pa_cons (pe_lc (own := [("k", 1)]) rfl sc_ascends.nd (pi_range1 rfl T.b_range (pa_cons (pe_op op_sub (pe_callB (k_len K rfl) (by rfl) T.b_len (by decide +kernel) (pa_cons (pv 0) pa_nil)) pe_int) pa_nil)) (blkOk_by (own := [("k", 1)]) (N := N_ascends) (sc := (defScope s_ascends)) (by decide +kernel)) (fun _ _ _ _ _ => (pg_name (i := 1) sc_ascends.nd rfl (Or.inl rfl))) (fun _ _ _ _ _ => pts_nil) (fun _ _ _ _ _ => (pe_cmpR (k_lt K rfl hr.units) (pe_ix (k_ix K rfl) (pv 0) (pv 1) (fun _ _ => rfl)) (pe_ix (k_ix K rfl) (pv 0) (pe_op (k_add K rfl) (pv 1) pe_int) (fun _ _ => rfl)) (nomark _)))) pa_nil)))), fun ds r hR => by
  obtain ⟨l, rfl, hl, h⟩ := hR
  have e : ((l.length : Int) - 1).toNat = l.length - 1 := by omega
  have it : EvI (iRng1 (tCons (tOp (rI0 fun i j => .int (i - j)) (tCB (fun xs H Q => ∃ p ys, xs = [V.ref p] ∧ (SqL K H p ys ∨ SqT K H p ys) ∧ Q (.int ys.length) H) (tCons (tVar 0) tNil)) (tC (.int 1))) tNil)) [some (.tup l), none] ((List.range (l.length - 1)).map nat) := (ei_rng1 (ea1 (ev_sub (ev_cb (ea1 (ev_v 0)) rc_lenT) ev_int)) (by omega) (by omega)).to (by rw [e])
  rcases h with ⟨ns, rfl, rfl⟩ | ⟨ps, rfl, rfl⟩
  · refine sd_ret ((ev_all (as := List.range _) (b := fun k => decide (ns.getD k 0 < ns.getD (k + 1) 0)) (el_map (ρ' := fun a => [some (.tup (ns.map .int)), some (nat a)]) it (fun a _ => tg_name) (fun k hk => ?_) (by rw [List.length_range]; omega)).toD).to ?_)
    · have hk' : k < ns.length - 1 := by simpa using hk
      exact ev_ltA (ev_ixTN (ev_v 0) (ev_v 1) (map_at (by omega))) (ev_ixTN (ev_v 0) (ea_nat (ev_v 1) (ev_nat (i := 1))) (map_at (by omega)))
    · rw [List.length_map] <;> rfl
  · refine sd_ret ((ev_all (as := List.range _) (b := fun k => plt (ps.getD k (0, 0)) (ps.getD (k + 1) (0, 0))) (el_map (ρ' := fun a => [some (.tup (ps.map pr)), some (nat a)]) it (fun a _ => tg_name) (fun k hk => ?_) (by rw [List.length_range]; omega)).toD).to ?_)
    · have hk' : k < ps.length - 1 := by simpa using hk
      exact ev_ltP (ev_ixTN (ev_v 0) (ev_v 1) (map_at (by omega))) (ev_ixTN (ev_v 0) (ea_nat (ev_v 1) (ev_nat (i := 1))) (map_at (by omega)))
    · rw [List.length_map] <;> rfl⟩
def allNum : Da → Bool
 | .tup l => l.all Da.isI
 | _ => false
def Da.sm : Da → Prop
 | .tup l => l.length ≤ 100000
 | _ => True
abbrev N_are_numbers : List Str := ["thing", "own"]
theorem sc_are_numbers : FnScope N_are_numbers ["thing"] (defScope s_are_numbers) := ⟨rfl, rfl, rfl, by decide +kernel, rfl, by decide +kernel, by decide +kernel⟩
def R_are_numbers (ds : List Da) (r : Da) : Prop := ∃ d : Da, ds = [d] ∧ d.sm ∧ r = .bl (allNum d)
theorem ok_are_numbers {P : Program} {w : World} {K : PySem.W.Frag} {mg : Str → Option Value} {base : Heap} (T : Tx K mg) : Cal P w K mg base 2 "are_numbers" (spD R_are_numbers) [] := T.ok 6 6 rfl rfl sc_are_numbers (fun _ _ _ _ _ _ us hl => match us, hl with | [_], _ => rfl) (by rintro ds r h; obtain ⟨_, rfl, _⟩ := h; rfl) fun f cdv A outer s H E hr => ⟨_, (pss_one (ps_ret (pe_and (pe_callB (k_isi K rfl) (by rfl) T.b_isinstance (by decide +kernel) (pa_cons (pv 0) (pa_cons (pe_bltn (v := .ty "tuple") (by rfl) T.b_tuple (by decide +kernel) rfl) pa_nil))) (pe_one (pe_callB (k_all K rfl rfl) (by rfl) T.b_all (by decide +kernel) (pa_cons (pe_lc (own := [("own", 1)]) rfl sc_are_numbers.nd (k_seq K rfl (pv 0)) (blkOk_by (own := [("own", 1)]) (N := N_are_numbers) (sc := (defScope s_are_numbers)) (by decide +kernel)) (fun _ _ _ _ _ => (pg_name (i := 1) sc_are_numbers.nd rfl (Or.inl rfl))) (fun _ _ _ _ _ => pts_nil) (fun _ _ _ _ _ => (pe_c (ok_is_number T) hr (by decide) (by rfl) (pa_cons (pv 1) pa_nil)))) pa_nil)))))), fun ds r hR => by
  obtain ⟨d, rfl, h, rfl⟩ := hR
  have k2 : kitB d.ty "tuple" = some d.isT := by cases d <;> rfl
  cases hd : d.isT with
  | false =>
    rw [hd] at k2
    refine sd_ret ((ev_and (b := true) (ev_isi (ev_v 0) k2) fun z => nomatch z).to ?_)
    cases d <;> first | rfl | cases hd
  | true =>
    cases d with
    | tup l =>
      refine sd_ret ((ev_and (b := l.all Da.isI) (ev_isi (ev_v 0) k2) fun _ => ev_all (el_map (ρ' := fun a => [some (.tup l), some a]) (ei_seqT (ev_v 0)).id (fun a _ => tg_name) (fun a ha => ev_call (ea1 (ev_v 1)) ⟨a, rfl, rfl⟩) h).toD).to ?_)
      rw [hd] <;> rfl
    | _ => cases hd⟩
abbrev N_is_pair_of : List Str := ["many", "thing"]
theorem sc_is_pair_of : FnScope N_is_pair_of ["many", "thing"] (defScope s_is_pair_of) := ⟨rfl, rfl, rfl, by decide +kernel, rfl, by decide +kernel, by decide +kernel⟩
def R_is_pair_of (ds : List Da) (r : Da) : Prop := ∃ (m : Nat) (p : Nat × Nat), ds = [nat m, pr p] ∧ r = .bl (decide (p.1 < p.2) && decide (p.2 < m))
theorem ok_is_pair_of {P : Program} {w : World} {K : PySem.W.Frag} {mg : Str → Option Value} {base : Heap} (T : Tx K mg) : Cal P w K mg base 3 "is_pair_of" (spD R_is_pair_of) [] := T.ok 7 7 rfl rfl sc_is_pair_of (fun _ _ _ _ _ _ us hl => match us, hl with | [_, _], _ => rfl) (by rintro ds r h; obtain ⟨_, _, rfl, _⟩ := h; rfl) fun f cdv A outer s H E hr => ⟨_, (pss_one (ps_ret (pe_and (pe_c (ok_is_long T) hr (by decide) (by rfl) (pa_cons (pv 1) (pa_cons pe_int pa_nil))) (pe_and (pe_c (ok_are_numbers T) hr (by decide) (by rfl) (pa_cons (pv 1) pa_nil)) (pe_one (pe_chain3 op_le op_lt op_lt pe_int (pe_ix (k_ix K rfl) (pv 1) pe_int (fun _ _ => rfl)) (pe_ix (k_ix K rfl) (pv 1) pe_int (fun _ _ => rfl)) (pv 0))))))), fun ds r hR => by
  obtain ⟨m, p, rfl, rfl⟩ := hR
  refine sd_ret ((ev_and (ev_call (ea2 (ev_v 1) (ev_nat (i := 2))) ⟨_, 2, rfl, rfl⟩) fun _ => ev_and (ev_call (ea1 (ev_v 1)) ⟨_, rfl, by show 2 ≤ 100000; decide, rfl⟩) fun _ => ev_chain3 ev_int (ev_ixTN (i := 0) (ev_v 1) ev_nat rfl) rv_le (fun _ => ev_ixTN (i := 1) (ev_v 1) ev_nat rfl) (fun _ => rv_lt) (fun _ _ => ev_v 0) (fun _ _ => rv_lt)).to ?_)
  simp [isTn, allNum, Da.isI]⟩
end Mk
end

section
set_option Elab.async false
set_option linter.all false
/-! the orders' functions as folds -/
namespace Mk
def ins (l : List Nat) (x : Nat) : List Nat := if x ∈ l then l else l ++ [x]
abbrev gd (fs : List (List Nat)) (i : Nat) : List Nat := fs.getD i []
def kstep (fs : List (List Nat)) (p : Nat × Nat) : List (List Nat) := fs.set p.1 (ins (gd fs p.1) p.2)
def dK (m : Nat) (ps : Ps) : List (List Nat) := ps.foldl kstep (List.replicate m [])
def srt (m : Nat) (l : List Nat) : List Nat := (List.range m).filter fun x => decide (x ∈ l)
def dirs (m : Nat) (ps : Ps) : List (List Nat) := (List.range m).map fun a => (List.range m).filter fun b => decide ((a, b) ∈ ps)
section
variable {m : Nat} {ps : Ps} {fs : List (List Nat)} {l k : List Nat} {x y a b p : Nat}
theorem mem_ins : y ∈ ins l x ↔ y ∈ l ∨ y = x := by
  unfold ins
  split
  · constructor
    · exact .inl
    · rintro (h | h)
      · exact h
      · subst h; assumption
  · simp
theorem nodup_ins (h : l.Nodup) : (ins l x).Nodup := by
  unfold ins
  split
  · exact h
  · refine List.nodup_append.mpr ⟨h, by simp, fun a ha b hb e => ?_⟩
    have : b = x := by simpa using hb
    subst this e
    contradiction
theorem gd_set (h : a < fs.length) : gd (fs.set a l) b = if b = a then l else gd fs b := by
  unfold gd
  rw [List.getD_eq_getElem?_getD, List.getD_eq_getElem?_getD, List.getElem?_set]
  by_cases e : b = a
  · subst e
    simp [h]
  · rw [if_neg (Ne.symm e), if_neg e]
theorem gd_no (h : fs.length ≤ a) : gd fs a = [] := by
  unfold gd
  rw [List.getD_eq_getElem?_getD, List.getElem?_eq_none h]
  rfl
theorem gd_rep : gd (List.replicate m []) a = [] := by
  unfold gd
  rw [List.getD_eq_getElem?_getD, List.getElem?_replicate]
  split <;> rfl
/-- rows without repeats, below m -/
def WB (m : Nat) (fs : List (List Nat)) : Prop := fs.length = m ∧ ∀ a, (gd fs a).Nodup ∧ ∀ x ∈ gd fs a, x < m
theorem wb_rep : WB m (List.replicate m []) := ⟨by simp, fun a => by rw [gd_rep]; exact ⟨by simp, fun x h => nomatch h⟩⟩
theorem WB.set (h : WB m fs) (n : l.Nodup) (k : ∀ x ∈ l, x < m) (a : Nat) : WB m (fs.set a l) := by
  by_cases ha : a < fs.length
  · refine ⟨by rw [List.length_set]; exact h.1, fun b => ?_⟩
    rw [gd_set ha]
    split
    · exact ⟨n, k⟩
    · exact h.2 b
  · rw [List.set_eq_of_length_le (by omega)]
    exact h
theorem WB.ins (h : WB m fs) (hx : x < m) (a : Nat) : WB m (fs.set a (ins (gd fs a) x)) := h.set (nodup_ins (h.2 a).1) (fun y hy => (mem_ins.mp hy).elim ((h.2 a).2 y) fun e => e ▸ hx) a
theorem len_le (n : l.Nodup) (k : ∀ x ∈ l, x < m) : l.length ≤ m := by
  have := n.length_le_of_subset (l₂ := List.range m) fun x hx => List.mem_range.mpr (k x hx)
  simpa using this
theorem WB.len (h : WB m fs) (a : Nat) : (gd fs a).length ≤ m := len_le (h.2 a).1 (h.2 a).2
theorem wb_kfold (u : Up m ps) : ∀ fs, WB m fs → WB m (ps.foldl kstep fs) := by
  induction ps with
  | nil => intro fs h; exact h
  | cons p r ih =>
    intro fs h
    exact ih (fun q hq => u q (List.mem_cons_of_mem _ hq)) _ (h.ins (u p List.mem_cons_self).2 p.1)
theorem mem_kfold (u : Up m ps) : ∀ fs, WB m fs → (x ∈ gd (ps.foldl kstep fs) a ↔ x ∈ gd fs a ∨ (a, x) ∈ ps) := by
  induction ps with
  | nil => intro fs h; simp
  | cons p r ih =>
    intro fs h
    have hp := u p List.mem_cons_self
    rw [List.foldl_cons, ih (fun q hq => u q (List.mem_cons_of_mem _ hq)) (kstep fs p) (h.ins hp.2 p.1)]
    unfold kstep
    rw [gd_set (by rw [h.1]; omega), List.mem_cons]
    by_cases e : a = p.1
    · subst e
      rw [if_pos rfl, mem_ins]
      have : ((p.1, x) = p) ↔ x = p.2 := by
        constructor
        · intro h; rw [← h]
        · intro h; rw [h]
      rw [this, or_assoc]
    · rw [if_neg e]
      have : ¬ ((a, x) = p) := fun h => e (by rw [← h])
      simp [this]
theorem wb_dK (u : Up m ps) : WB m (dK m ps) := wb_kfold u _ wb_rep
theorem mem_dK (u : Up m ps) : x ∈ gd (dK m ps) a ↔ (a, x) ∈ ps := by
  unfold dK
  rw [mem_kfold u _ wb_rep, gd_rep]
  simp
theorem srt_dK (u : Up m ps) : (dK m ps).map (srt m) = dirs m ps := by
  apply List.ext_getElem?
  intro i
  unfold dirs
  rw [List.getElem?_map, List.getElem?_map]
  have hl := (wb_dK u).1
  by_cases hi : i < m
  · have e : (dK m ps)[i]? = some (gd (dK m ps) i) := by
      unfold gd
      rw [List.getD_eq_getElem?_getD, List.getElem?_eq_getElem (by omega)]
      rfl
    rw [e, List.getElem?_range hi]
    show some (srt m (gd (dK m ps) i)) = some _
    unfold srt
    congr 1
    exact List.filter_congr fun x _ => by simp only [mem_dK u]
  · rw [List.getElem?_eq_none (by omega), List.getElem?_eq_none (by simp; omega)]
    rfl
theorem srt_perm (n : l.Nodup) (k : ∀ x ∈ l, x < m) : (srt m l).Perm l := by
  refine (List.perm_ext_iff_of_nodup (List.nodup_range.filter _) n).mpr fun x => ?_
  rw [List.mem_filter, List.mem_range, decide_eq_true_iff]
  exact ⟨fun h => h.2, fun h => ⟨k x h, h⟩⟩
theorem srt_asc : (srt m l).Pairwise (· < ·) := List.pairwise_lt_range.filter _
theorem gd_dirs (h : a < m) : gd (dirs m ps) a = (List.range m).filter fun b => decide ((a, b) ∈ ps) := by
  unfold gd dirs
  rw [List.getD_eq_getElem?_getD, List.getElem?_map, List.getElem?_range h]
  rfl
theorem mem_dirs (u : Up m ps) : b ∈ gd (dirs m ps) a ↔ (a, b) ∈ ps := by
  by_cases h : a < m
  · rw [gd_dirs h, List.mem_filter, List.mem_range, decide_eq_true_iff]
    exact ⟨fun h => h.2, fun h => ⟨(u _ h).2, h⟩⟩
  · rw [gd_no (by unfold dirs; simp; omega)]
    exact ⟨fun z => (nomatch z), fun k => absurd (Nat.lt_trans (u _ k).1 (u _ k).2) h⟩
theorem len_dirs : (dirs m ps).length = m := by simp [dirs]
/-! what lies above, from the last piece down -/
def mrgK (l k : List Nat) : List Nat := k.foldl ins l
def istep (p : Nat) (fs : List (List Nat)) (h : Nat) : List (List Nat) := fs.set p (mrgK (gd fs p) (gd fs h))
def ostep (rows : List (List Nat)) (fs : List (List Nat)) (p : Nat) : List (List Nat) := (gd rows p).foldl (istep p) (fs.set p (ins (gd fs p) p))
def upK (m : Nat) (rows : List (List Nat)) : List (List Nat) := (List.range m).reverse.foldl (ostep rows) (List.replicate m [])
theorem mem_mrg : ∀ {k l : List Nat}, y ∈ mrgK l k ↔ y ∈ l ∨ y ∈ k := fun {k} => by
  unfold mrgK
  induction k with
  | nil => intro l; simp
  | cons z r ih => intro l; rw [List.foldl_cons, ih, mem_ins, List.mem_cons, or_assoc]
theorem nodup_mrg : ∀ {k l : List Nat}, l.Nodup → (mrgK l k).Nodup := fun {k} => by
  unfold mrgK
  induction k with
  | nil => intro l h; exact h
  | cons z r ih => intro l h; exact ih (nodup_ins h)
theorem WB.istep (h : WB m fs) (p b : Nat) : WB m (istep p fs b) := h.set (nodup_mrg (h.2 p).1) (fun y hy => (mem_mrg.mp hy).elim ((h.2 p).2 y) ((h.2 b).2 y)) p
theorem wb_ifold (hs : List Nat) : ∀ fs, WB m fs → WB m (hs.foldl (istep p) fs) := by
  induction hs with
  | nil => intro fs h; exact h
  | cons b r ih => intro fs h; exact ih _ (h.istep p b)
theorem WB.ostep (h : WB m fs) (rows : List (List Nat)) (hp : p < m) : WB m (ostep rows fs p) := wb_ifold _ _ (h.ins hp p)
theorem wb_ofold (rows : List (List Nat)) (as : List Nat) (ha : ∀ a ∈ as, a < m) : ∀ fs, WB m fs → WB m (as.foldl (ostep rows) fs) := by
  induction as with
  | nil => intro fs h; exact h
  | cons b r ih => intro fs h; exact ih (fun a k => ha a (List.mem_cons_of_mem _ k)) _ (h.ostep rows (ha b List.mem_cons_self))
theorem wb_upK (rows : List (List Nat)) : WB m (upK m rows) := wb_ofold rows _ (fun a h => by simpa using h) _ wb_rep
theorem gd_ifold (hp : p < m) (hs : List Nat) (ne : ∀ h ∈ hs, h ≠ p) : ∀ fs, WB m fs → ∀ a x, x ∈ gd (hs.foldl (istep p) fs) a ↔ x ∈ gd fs a ∨ (a = p ∧ ∃ h ∈ hs, x ∈ gd fs h) := by
  induction hs with
  | nil => intro fs h a x; simp
  | cons b r ih =>
    intro fs h a x
    have hb := ne b List.mem_cons_self
    rw [List.foldl_cons, ih (fun c hc => ne c (List.mem_cons_of_mem _ hc)) _ (h.istep p b)]
    have e : ∀ c, gd (istep p fs b) c = if c = p then mrgK (gd fs p) (gd fs b) else gd fs c := fun c => gd_set (by rw [h.1]; exact hp)
    rw [e]
    by_cases ea : a = p
    · subst ea
      rw [if_pos rfl, mem_mrg]
      simp only [true_and]
      constructor
      · rintro ((h | h) | ⟨c, hc, h⟩)
        · exact .inl h
        · exact .inr ⟨b, List.mem_cons_self, h⟩
        · rw [e, if_neg (ne c (List.mem_cons_of_mem _ hc))] at h
          exact .inr ⟨c, List.mem_cons_of_mem _ hc, h⟩
      · rintro (h | ⟨c, hc, h⟩)
        · exact .inl (.inl h)
        · rcases List.mem_cons.mp hc with rfl | hc
          · exact .inl (.inr h)
          · refine .inr ⟨c, hc, ?_⟩
            rw [e, if_neg (ne c (List.mem_cons_of_mem _ hc))]
            exact h
    · rw [if_neg ea]
      simp [ea]
theorem gd_ostep (u : Up m ps) (h : WB m fs) (hp : p < m) : x ∈ gd (ostep (dirs m ps) fs p) a ↔ x ∈ gd fs a ∨ (a = p ∧ (x = p ∨ ∃ b, (p, b) ∈ ps ∧ x ∈ gd fs b)) := by
  unfold ostep
  have hne : ∀ b ∈ gd (dirs m ps) p, b ≠ p := fun b hb => Nat.ne_of_gt (u _ ((mem_dirs u).mp hb)).1
  rw [gd_ifold hp _ hne _ (h.ins hp p)]
  have e : ∀ c, gd (fs.set p (ins (gd fs p) p)) c = if c = p then ins (gd fs p) p else gd fs c := fun c => gd_set (by rw [h.1]; exact hp)
  rw [e]
  by_cases ea : a = p
  · subst ea
    rw [if_pos rfl, mem_ins]
    simp only [true_and]
    rw [or_assoc]
    refine or_congr_right (or_congr_right ?_)
    constructor
    · rintro ⟨b, hb, k⟩
      rw [e, if_neg (hne b hb)] at k
      exact ⟨b, (mem_dirs u).mp hb, k⟩
    · rintro ⟨b, hb, k⟩
      have hb' := (mem_dirs u).mpr hb
      refine ⟨b, hb', ?_⟩
      rw [e, if_neg (hne b hb')]
      exact k
  · rw [if_neg ea]
    simp [ea]
theorem mem_ofold (u : Up m ps) : ∀ k, k ≤ m → ∀ fs, WB m fs → (∀ a x, x ∈ gd fs a ↔ k ≤ a ∧ a < m ∧ Reach ps a x) → ∀ a x, x ∈ gd ((List.range k).reverse.foldl (ostep (dirs m ps)) fs) a ↔ a < m ∧ Reach ps a x := by
  intro k
  induction k with
  | zero =>
    intro _ fs h hf a x
    have := hf a x
    simpa using this
  | succ k ih =>
    intro hk fs h hf a x
    rw [List.range_succ, List.reverse_append]
    refine ih (by omega) _ (h.ostep _ (by omega)) (fun a x => ?_) a x
    rw [gd_ostep u h (by omega), hf]
    constructor
    · rintro (⟨h1, h2, h3⟩ | ⟨rfl, h⟩)
      · exact ⟨by omega, h2, h3⟩
      · refine ⟨Nat.le_refl _, by omega, ?_⟩
        rcases h with rfl | ⟨b, hb, h⟩
        · exact .refl _
        · exact .step hb ((hf b x).mp h).2.2
    · rintro ⟨h1, h2, h3⟩
      by_cases e : a = k
      · subst e
        right
        refine ⟨rfl, ?_⟩
        by_cases ex : x = a
        · exact .inl ex
        · obtain ⟨c, c1, c2⟩ := h3.first (fun z => ex z.symm)
          have := u _ c1
          exact .inr ⟨c, c1, (hf c x).mpr ⟨by simp at this; omega, by simp at this; omega, c2⟩⟩
      · exact .inl ⟨by omega, h2, h3⟩
theorem mem_upK (u : Up m ps) : x ∈ gd (upK m (dirs m ps)) a ↔ a < m ∧ Reach ps a x :=
  mem_ofold u m (Nat.le_refl _) _ wb_rep (fun a x => by
    rw [gd_rep]
    constructor
    · intro h; cases h
    · intro h; omega) a x
/-! ties -/
def fol (rows ups : List (List Nat)) (low high : Nat) : Bool := ((gd rows low).filter fun near => !decide (near = high)).any fun near => decide (high ∈ gd ups near)
def tiesL (rows ups : List (List Nat)) : Ps := rows.zipIdx.flatMap fun q => (q.1.filter fun h => !fol rows ups q.2 h).map fun h => (q.2, h)
theorem fol_iff (u : Up m ps) : fol (dirs m ps) (upK m (dirs m ps)) a b = true ↔ ∃ n, (a, n) ∈ ps ∧ n ≠ b ∧ Reach ps n b := by
  unfold fol
  rw [List.any_eq_true]
  constructor
  · rintro ⟨n, hn, h⟩
    rw [List.mem_filter, mem_dirs u] at hn
    rw [decide_eq_true_iff, mem_upK u] at h
    exact ⟨n, hn.1, by simpa using hn.2, h.2⟩
  · rintro ⟨n, h1, h2, h3⟩
    refine ⟨n, List.mem_filter.mpr ⟨(mem_dirs u).mpr h1, by simpa using h2⟩, ?_⟩
    rw [decide_eq_true_iff, mem_upK u]
    exact ⟨(u _ h1).2, h3⟩
theorem tie_dir (u : Up m ps) : Tie ps a b ↔ (a, b) ∈ ps ∧ ¬ ∃ n, (a, n) ∈ ps ∧ n ≠ b ∧ Reach ps n b := by
  constructor
  · intro t
    refine ⟨t.mem u, ?_⟩
    rintro ⟨n, h1, h2, h3⟩
    exact t.2.2 n (Nat.ne_of_gt (u _ h1).1) h2 (.one h1) h3
  · rintro ⟨h, n⟩
    refine ⟨Nat.ne_of_lt (u _ h).1, .one h, fun c h1 h2 h3 h4 => n ?_⟩
    obtain ⟨e, e1, e2⟩ := h3.first h1.symm
    refine ⟨e, e1, fun z => ?_, e2.trans h4⟩
    subst z
    exact h2 (h4.anti u e2)
theorem tiesL_red (u : Up m ps) : tiesL (dirs m ps) (upK m (dirs m ps)) = red m ps := by
  unfold tiesL red
  have e : (dirs m ps).zipIdx = (List.range m).map fun a => ((List.range m).filter (fun b => decide ((a, b) ∈ ps)), a) := by
    apply List.ext_getElem?
    intro i
    rw [List.getElem?_zipIdx, List.getElem?_map]
    unfold dirs
    rw [List.getElem?_map]
    by_cases hi : i < m
    · rw [List.getElem?_range hi]
      simp
    · rw [List.getElem?_eq_none (by simp; omega)]
      rfl
  rw [e, List.flatMap_map]
  refine congrArg (fun f => List.flatMap f (List.range m)) (funext fun a => ?_)
  show (((List.range m).filter _).filter _).map _ = _
  rw [List.filter_filter]
  refine congrArg (List.map _) (List.filter_congr fun b hb => ?_)
  rw [Bool.eq_iff_iff, tie_iff u, tie_dir u, Bool.and_eq_true_iff, decide_eq_true_iff, and_comm, ← fol_iff u]
  simp
/-! places in a rising row -/
def pl (row : List Nat) (x : Nat) : Nat := row.idxOf x
def cps (row : List Nat) (ps : Ps) : Ps := ps.map fun p => (pl row p.1, pl row p.2)
abbrev gn (row : List Nat) (i : Nat) : Nat := row.getD i 0
section
variable {row : List Nat} (hr : row.Pairwise (· < ·))
include hr
theorem gn_lt {i j : Nat} (h : i < j) (hj : j < row.length) : gn row i < gn row j := by
  have z := List.pairwise_iff_getElem.mp hr i j (by omega) hj h
  unfold gn
  rw [List.getD_eq_getElem?_getD, List.getD_eq_getElem?_getD, List.getElem?_eq_getElem (by omega), List.getElem?_eq_getElem hj]
  exact z
theorem row_nodup : row.Nodup := hr.imp fun {a b} z e => by omega
theorem gn_pl (h : x ∈ row) : gn row (pl row x) = x := by
  unfold gn pl
  rw [List.getD_eq_getElem?_getD, List.getElem?_eq_getElem (List.idxOf_lt_length_of_mem h)]
  exact List.getElem_idxOf _
theorem pl_lt (h : x ∈ row) : pl row x < row.length := List.idxOf_lt_length_of_mem h
theorem gn_mem {i : Nat} (h : i < row.length) : gn row i ∈ row := by
  unfold gn
  rw [List.getD_eq_getElem?_getD, List.getElem?_eq_getElem h]
  exact List.getElem_mem h
theorem gn_inj {i j : Nat} (hi : i < row.length) (hj : j < row.length) (h : gn row i = gn row j) : i = j := by
  rcases Nat.lt_trichotomy i j with k | k | k
  · have := gn_lt hr k hj; omega
  · exact k
  · have := gn_lt hr k hi; omega
theorem pl_gn {i : Nat} (h : i < row.length) : pl row (gn row i) = i := gn_inj hr (pl_lt hr (gn_mem hr h)) h (gn_pl hr (gn_mem hr h))
theorem pl_mono (hx : x ∈ row) (hy : y ∈ row) (h : x < y) : pl row x < pl row y := by
  refine Nat.lt_of_not_le fun k => ?_
  rcases Nat.lt_or_eq_of_le k with k | k
  · have := gn_lt hr k (pl_lt hr hx)
    rw [gn_pl hr hx, gn_pl hr hy] at this
    omega
  · have := congrArg (gn row) k
    rw [gn_pl hr hx, gn_pl hr hy] at this
    omega
variable (he : ∀ p ∈ ps, p.1 ∈ row ∧ p.2 ∈ row) (u : Up m ps)
include he
include u
theorem cps_up : Up row.length (cps row ps) := fun q hq => by
  obtain ⟨p, hp, rfl⟩ := List.mem_map.mp hq
  exact ⟨pl_mono hr (he p hp).1 (he p hp).2 (u p hp).1, pl_lt hr (he p hp).2⟩
theorem cps_reach {i j : Nat} (h : Reach (cps row ps) i j) : Reach ps (gn row i) (gn row j) := by
  induction h with
  | refl => exact .refl _
  | step e _ ih =>
    obtain ⟨p, hp, e⟩ := List.mem_map.mp e
    have e1 := congrArg Prod.fst e
    have e2 := congrArg Prod.snd e
    simp only at e1 e2
    subst e1 e2
    rw [gn_pl hr (he p hp).2] at ih
    rw [gn_pl hr (he p hp).1]
    exact .step hp ih
theorem reach_cps (h : Reach ps a b) (ha : a ∈ row) : b ∈ row ∧ Reach (cps row ps) (pl row a) (pl row b) := by
  induction h with
  | refl => exact ⟨ha, .refl _⟩
  | @step a x c e _ ih =>
    obtain ⟨h1, h2⟩ := ih (he _ e).2
    exact ⟨h1, .step (List.mem_map.mpr ⟨_, e, rfl⟩) h2⟩
theorem red_cps : (red row.length (cps row ps)).map (fun p => (gn row p.1, gn row p.2)) = red m ps := by
  have uc := cps_up hr he u
  refine eq_of_plt ?_ red_asc fun p => ?_
  · rw [List.pairwise_map]
    refine List.Pairwise.imp_of_mem (fun {p q} hp hq h => ?_) red_asc
    have bp := red_up uc p hp
    have bq := red_up uc q hq
    rcases plt_iff.mp h with h | ⟨h1, h2⟩
    · exact plt_iff.mpr (.inl (gn_lt hr h (by omega)))
    · exact plt_iff.mpr (.inr ⟨by rw [h1], gn_lt hr h2 (by omega)⟩)
  · obtain ⟨a, b⟩ := p
    rw [mem_red u, List.mem_map]
    constructor
    · rintro ⟨⟨i, j⟩, h, e⟩
      have t := (mem_red uc).mp h
      have bj := t.2.1.bd uc t.1
      have ij := t.2.1.lt uc t.1
      have e1 := congrArg Prod.fst e
      have e2 := congrArg Prod.snd e
      simp only at e1 e2
      subst e1 e2
      refine ⟨fun z => t.1 (gn_inj hr (by omega) bj z), cps_reach hr he u t.2.1, fun c h1 h2 h3 h4 => ?_⟩
      obtain ⟨k1, k2⟩ := reach_cps hr he u h3 (gn_mem hr (by omega))
      obtain ⟨k3, k4⟩ := reach_cps hr he u h4 k1
      rw [pl_gn hr (by omega)] at k2
      rw [pl_gn hr bj] at k4
      refine t.2.2 (pl row c) (fun z => h1 ?_) (fun z => h2 ?_) k2 k4
      · rw [← z, gn_pl hr k1]
      · rw [← z, gn_pl hr k1]
    · intro t
      have hm := he _ (t.mem u)
      obtain ⟨k1, k2⟩ := reach_cps hr he u t.2.1 hm.1
      refine ⟨(pl row a, pl row b), (mem_red uc).mpr ⟨fun z => t.1 ?_, k2, fun c h1 h2 h3 h4 => ?_⟩, by rw [gn_pl hr hm.1, gn_pl hr k1]⟩
      · have := congrArg (gn row) z
        rwa [gn_pl hr hm.1, gn_pl hr k1] at this
      · have bc := h3.bd uc h1.symm
        have r3 := cps_reach hr he u h3
        have r4 := cps_reach hr he u h4
        rw [gn_pl hr hm.1] at r3
        rw [gn_pl hr k1] at r4
        refine t.2.2 (gn row c) (fun z => h1 ?_) (fun z => h2 ?_) r3 r4
        · rw [← z, pl_gn hr bc]
        · rw [← z, pl_gn hr bc]
end
end
end Mk
end

section
set_option Elab.async false
set_option linter.all false
set_option maxRecDepth 100000
set_option maxHeartbeats 2000000
/-! two names at once; key lists as dicts -/
namespace Mk
open PySem PySem.Spec PyProof.Rows L2
open Evl (Ex)
section
variable {t u : TS} {te ta tb : TE} {tr : TA} {ρ ρ' ρ1 : DE} {ow ow1 ow2 : Ow} {o : Oc} {d e : Da} {ds : List Da} {K : PySem.W.Frag}
theorem sd_fin (h : StD t ρ ow (.nx ρ1 ow1)) (l : Le ρ' ρ1) (e : ow1 = ow2) : StD t ρ ow (.nx ρ' ow2) := e ▸ h.out l
theorem sd_par {i j : Nat} (h : EvA tr ρ [d, e]) (hi : ow.slot ≠ some i := by first | decide | exact slot_ne rfl rfl) (hj : ow.slot ≠ some j := by first | decide | exact slot_ne rfl rfl) : StD (tPar i j tr) ρ ow (.nx ((ρ.set i (some d)).set j (some e)) ow) := fun D G0 H0 H σ a p => by
  obtain ⟨G, g, en, ok⟩ := a
  refine h G H σ g.gh en _ fun vs G1 H1 g1 r1 => ?_
  cases r1 with
  | cons r1 r =>
    cases r with
    | cons r2 r =>
      cases r
      refine ⟨_, _, rfl, p _ H1 ⟨G1, g.trans g1, ((en.mono g1.gg).set i r1).set j r2, (ok.grow g1).slots fun k e => ?_⟩⟩
      rw [List.getElem?_set_ne (fun z => hj (by rw [z]; exact e)), List.getElem?_set_ne (fun z => hi (by rw [z]; exact e))]
theorem sd_parL {i j : Nat} (h : EvD ta ρ d) (h2 : EvL tb ρ ds) (hj : j < ρ.length := by first | decide | exact Nat.le_of_ble_eq_true rfl) : StD (tPar i j (tCons ta (tCons tb tNil))) ρ .no (.nx ((ρ.set i (some d)).set j none) (.l j ds)) := fun D G0 H0 H σ a p => by
  obtain ⟨G, g, en, ok⟩ := a
  refine h G H σ g.gh en _ fun v G1 H1 g1 r1 => h2 G1 H1 σ g1.gh (en.mono g1.gg) _ fun q vs G2 H2 g2 hp hn hv ra => ⟨v, .ref q, rfl, p _ H2 ⟨G2, g.trans (g1.trans g2), ((en.mono (g1.trans g2).gg).set i (r1.mono g2.gg)).setN j, q, vs, ?_, hv, hn, ex_no (g.trans g1).hh hp, ra⟩⟩
  exact List.getElem?_set_self (by rw [List.length_set, en.1]; exact hj)
theorem sd_parD {i j : Nat} (h : EvD ta ρ d) (hj : j < ρ.length := by first | decide | exact Nat.le_of_ble_eq_true rfl) : StD (tPar i j (tCons ta (tCons tDNewK tNil))) ρ .no (.nx ((ρ.set i (some d)).set j none) (.d j [])) := fun D G0 H0 H σ a p => by
  obtain ⟨G, g, en, ok⟩ := a
  refine h G H σ g.gh en _ fun v G1 H1 g1 r1 => ?_
  intro q hq
  have g2 : Gr G1 H1 G1 (upd H1 q (.dK [])) := .sec g1.gh (Ex.new hq)
  refine ⟨v, .ref q, rfl, p _ _ ⟨G1, g.trans (g1.trans g2), ((en.mono g1.gg).set i r1).setN j, q, [], ?_, upd_same, ex_no g1.gh hq, ex_no (g.trans g1).hh hq, .nil⟩⟩
  exact List.getElem?_set_self (by rw [List.length_set, en.1]; exact hj)
/-- a, b = value, own list: by way of a tuple -/
theorem sd_asg2L {i j : Nat} (h : EvD ta ρ d) (h2 : EvL tb ρ ds) (hj : j < ρ.length := by first | decide | exact Nat.le_of_ble_eq_true rfl) : StD (tAsg (tTup (tCons ta (tCons tb tNil))) (gTup K 2 (gCons (gName i) (gCons (gName j) gNil)))) ρ .no (.nx ((ρ.set i (some d)).set j none) (.l j ds)) := fun D G0 H0 H σ a p => by
  obtain ⟨G, g, en, ok⟩ := a
  refine h G H σ g.gh en _ fun v G1 H1 g1 r1 => h2 G1 H1 σ g1.gh (en.mono g1.gg) _ fun q vs G2 H2 g2 hp hn hv ra => ⟨by show 2 ≤ sizeLine; decide, fun r hr => ?_⟩
  have g3 : Gr G2 H2 G2 (upd H2 r (.tup [v, .ref q])) := .sec g2.gh (Ex.new hr)
  refine ⟨r, _, rfl, SqT.of upd_same, rfl, _, _, rfl, _, _, rfl, rfl, p _ _ ⟨G2, g.trans ((g1.trans g2).trans g3), ((en.mono (g1.trans g2).gg).set i (r1.mono g2.gg)).setN j, q, vs, ?_, g3.hh _ _ hv, hn, ex_no (g.trans g1).hh hp, ra⟩⟩
  exact List.getElem?_set_self (by rw [List.length_set, en.1]; exact hj)
end
/-! ### keys -/
def kd (l : List Nat) : List (Int × Da) := l.map fun (k : Nat) => ((k : Int), Da.bl true)
theorem kd_any {l : List Nat} {x : Nat} : ((kd l).any fun kv => decide (kv.1 = (x : Int))) = decide (x ∈ l) := by
  unfold kd
  rw [List.any_map, Bool.eq_iff_iff, List.any_eq_true, decide_eq_true_iff]
  constructor
  · rintro ⟨y, h, e⟩
    have : y = x := by simpa [Int.ofNat_inj] using e
    exact this ▸ h
  · intro h
    exact ⟨x, h, by simp⟩
theorem kd_put {l : List Nat} {x : Nat} : dput (kd l) x (.bl true) = kd (ins l x) := by
  unfold dput ins
  rw [kd_any]
  by_cases h : x ∈ l
  · rw [if_pos (by simpa using h), if_pos h]
    unfold kd
    rw [List.map_map]
    refine List.map_congr_left fun y _ => ?_
    by_cases e : (y : Int) = (x : Int)
    · simp [e]
    · simp [e]
  · rw [if_neg (by simpa using h), if_neg h]
    simp [kd]
theorem kd_mrg : ∀ {k l : List Nat}, dmrg (kd l) (kd k) = kd (mrgK l k) := fun {k} => by
  induction k with
  | nil => intro l; rfl
  | cons x r ih =>
    intro l
    have e : dmrg (kd l) (kd (x :: r)) = dmrg (dput (kd l) x (.bl true)) (kd r) := rfl
    rw [e, kd_put, ih]
    rfl
theorem kd_get {l : List Nat} {x : Nat} : (dget (kd l) x).isSome = decide (x ∈ l) := by
  unfold dget
  rw [Option.isSome_map, ← kd_any, Bool.eq_iff_iff, List.find?_isSome, List.any_eq_true]
theorem kd_keys {l : List Nat} : (kd l).map (·.1) = l.map Int.ofNat := by
  unfold kd
  rw [List.map_map]
  rfl
theorem kd_at {fs : List (List Nat)} {i : Nat} (h : i < fs.length) : (fs.map kd)[i]? = some (kd (gd fs i)) := map_at h
theorem kd_len {l : List Nat} : (kd l).length = l.length := by simp [kd]
theorem WB.mem {m : Nat} {fs : List (List Nat)} {l : List Nat} (h : WB m fs) (k : l ∈ fs) : l.Nodup ∧ ∀ x ∈ l, x < m := by
  obtain ⟨i, hi, e⟩ := List.getElem_of_mem k
  have z := h.2 i
  unfold gd at z
  rw [List.getD_eq_getElem?_getD, List.getElem?_eq_getElem hi, e] at z
  exact z
theorem int_asc {l : List Nat} (h : l.Pairwise (· < ·)) : (l.map Int.ofNat).Pairwise (· ≤ ·) := by
  rw [List.pairwise_map]
  exact h.imp fun {a b} z => Int.ofNat_le.mpr (Nat.le_of_lt z)
/-- sorted(d) of a dict of keys -/
theorem el_sortedK {te : TE} {ρ : DE} {l k : List Nat} (h : EvD te ρ (.dic (kd l))) (hz : l.length < 64) (hp : k.Perm l) (hs : k.Pairwise (· < ·)) :
    EvL (tCB (fun xs H Q => ∃ (a : Addr) (kvs : List (Key × V)) (ks : List Int), xs = [.ref a] ∧ Rd H a (.dK kvs) ∧ kvs.map (·.1) = ks.map Sum.inl ∧ ks.length < 64 ∧
      ∀ (ys : List Int) (p : Addr), ys.Perm ks → ys.Pairwise (· ≤ ·) → H p = none → Q (.ref p) (upd H p (.lst (ys.map V.int)))) (tCons te tNil)) ρ (nats k) := by
  rw [nats_ints]
  exact el_sortedD h (by rw [kd_len]; exact hz) (by rw [kd_keys]; exact hp.map _) (int_asc hs)
theorem eqv_selfD {te tf : TE} {ρ : DE} {d : Da} {K : PySem.W.Frag} (ha : EvD te ρ d) (hb : EvD tf ρ d) (c : Cmp d) : EvD (tOp (rEqA K) te tf) ρ (.bl true) := (ev_eqD ha hb c c).to (by rw [eqv_self])
end Mk
end

section
set_option Elab.async false
set_option linter.all false
set_option maxRecDepth 100000
set_option maxHeartbeats 2000000
namespace Mk
open PySem PySem.Spec PyProof.Rows L2
open Evl (Ex)
open C8 (Cal pe_c pe_gc)
def lls (fs : List (List Nat)) : Da := .lst (fs.map fun l => .lst (nats l))
def lds (fs : List (List Nat)) : Da := .lst (fs.map fun l => .dic (kd l))
theorem lls_at {fs : List (List Nat)} {i : Nat} (h : i < fs.length) : (fs.map fun l => Da.lst (nats l))[i]? = some (Da.lst (nats (gd fs i))) := map_at (f := fun l => Da.lst (nats l)) h
theorem lds_at {fs : List (List Nat)} {i : Nat} (h : i < fs.length) : (fs.map fun l => Da.dic (kd l))[i]? = some (Da.dic (kd (gd fs i))) := map_at (f := fun l => Da.dic (kd l)) h
abbrev prs (ps : Ps) : List Da := ps.map pr
/-- the state of `found` -/
theorem foldl_snoc {α β : Type} (f : β → α → β) (b : β) (l : List α) (a : α) : (l ++ [a]).foldl f b = f (l.foldl f b) a := by rw [List.foldl_append] <;> rfl
structure Sm (m : Nat) (ps : Ps) : Prop where
 up : Up m ps
 m60 : m ≤ 60
 len : ps.length ≤ 10000
abbrev N_directs_by : List Str := ["many", "pairs", "found", "low", "high", "_", "row"]
theorem sc_directs_by : FnScope N_directs_by ["many", "pairs"] (defScope s_directs_by) := ⟨rfl, rfl, rfl, by decide +kernel, rfl, by decide +kernel, by decide +kernel⟩
def R_directs_by (ds : List Da) (r : Da) : Prop := ∃ (m : Nat) (ps : Ps) (d : Da), ds = [nat m, d] ∧ (d = .lst (prs ps) ∨ d = .tup (prs ps)) ∧ Sm m ps ∧ r = lls (dirs m ps)
theorem ok_directs_by {P : Program} {w : World} {K : PySem.W.Frag} {mg : Str → Option Value} {base : Heap} (T : Tx K mg) : Cal P w K mg base 1 "directs_by" (spD R_directs_by) [] := T.ok 8 8 rfl rfl sc_directs_by (fun _ _ _ _ _ _ us hl => match us, hl with | [_, _], _ => rfl) (by rintro ds r h; obtain ⟨_, _, _, rfl, _⟩ := h; rfl) fun f cdv A outer s H E hr => ⟨_, (pss_cons (ps_setLc (i := 2) (own := [("_", 5)]) rfl sc_directs_by.nd rfl rfl (sw_true rfl rfl rfl (by decide +kernel)) (pi_range1 rfl T.b_range (pa_cons (pv 0) pa_nil)) (blkOk_by (own := [("_", 5)]) (N := N_directs_by) (sc := (defScope s_directs_by)) (by decide +kernel)) (fun _ _ _ _ _ => (pg_name (i := 5) sc_directs_by.nd rfl (Or.inl rfl))) (fun _ _ _ _ _ => pts_nil) (fun _ _ _ _ _ => pe_dnewK)) (pss_cons (ps_for PassesOwn.never rfl (k_seq K rfl (pv 1)) (k_tup K (n := 2) rfl rfl (pgs_cons (pg_name (i := 3) sc_directs_by.nd rfl (Or.inl rfl)) (pgs_cons (pg_name (i := 4) sc_directs_by.nd rfl (Or.inl rfl)) pgs_nil))) (pss_one (ps_dput (hu_of hr) (pe_ix (k_ix K rfl) (pv 2) (pv 3) (fun _ _ => rfl)) (pv 4) pe_bl rfl))) (pss_one (ps_ret (pe_lc (own := [("row", 6)]) rfl sc_directs_by.nd (k_seq K rfl (pv 2)) (blkOk_by (own := [("row", 6)]) (N := N_directs_by) (sc := (defScope s_directs_by)) (by decide +kernel)) (fun _ _ _ _ _ => (pg_name (i := 6) sc_directs_by.nd rfl (Or.inl rfl))) (fun _ _ _ _ _ => pts_nil) (fun _ _ _ _ _ => (pe_callB (call_sortedDI rfl) (by rfl) T.b_sorted (by decide +kernel) (pa_cons (pv 6) pa_nil)))))))), fun ds r hR => by
  obtain ⟨m, ps, d, rfl, hd, sm, rfl⟩ := hR
  have u := sm.up
  have hm := sm.m60
  have hl := sm.len
  refine sd_seq (sd_asgLD (as := List.range m) (en := nat) ((ei_rng1 (ea1 (ev_v 0)) (by omega) (by omega)).to (by simp)) (fun a _ => tg_name) (by simp; omega)) ?_
  have it : EvI (iSeq K (tVar 1)) [some (nat m), some d, none, none, none, none, none] (prs ps) := by
    rcases hd with rfl | rfl
    · exact ei_seqL (ev_v 1)
    · exact ei_seqT (ev_v 1)
  refine sd_seq (sd_for (as := ps) (en := pr) (S := fun _ => [some (nat m), some d, none, none, none, none, none]) (O := fun pre => .ld 2 ((pre.foldl kstep (List.replicate m [])).map kd)) (ρ' := fun _ p => [some (nat m), some d, none, some (nat p.1), some (nat p.2), none, none]) it (Le.refl _) ?_ (fun _ p _ _ => tg_tup2) ?_ (hs2 (fun _ => slot_ne rfl rfl) fun _ => slot_ne rfl rfl)) ?_
  · simp [kd]
  · intro pre p post e
    have wb : WB m (pre.foldl kstep (List.replicate m [])) := wb_kfold (fun q hq => u q (by rw [e]; simp [hq])) _ wb_rep
    have hp := u p (by rw [e]; simp)
    have hw := wb.1
    have hw2 := wb.len p.1
    refine sd_fin (sd_ldPut (d := .bl true) ev_bl trivial (ev_v 3) (ev_v 4) (kd_at (by omega)) (by rw [kd_len]; omega)) ⟨rfl, rfl, trivial⟩ ?_
    rw [kd_put, foldl_snoc]
    simp only [kstep, List.map_set]
  · have wb := wb_dK u
    refine sd_frz (sd_ret ((el_map (as := dK m ps) (en := fun l => .dic (kd l)) (fn := fun l => .lst (nats (srt m l))) ((ei_seqL (ev_v 2)).to (by simp [dK])) (fun _ _ => tg_name) (fun l hl => ?_) (by rw [wb.1]; omega)).toD.to ?_))
    · have z := wb.mem hl
      exact (el_sortedK (ev_v 6) (by have := len_le z.1 z.2; omega) (srt_perm z.1 z.2) srt_asc).toD
    · rw [lls, ← srt_dK u, List.map_map]
      rfl⟩
abbrev N_ups_by : List Str := ["directs", "found", "piece", "high", "_"]
theorem sc_ups_by : FnScope N_ups_by ["directs"] (defScope s_ups_by) := ⟨rfl, rfl, rfl, by decide +kernel, rfl, by decide +kernel, by decide +kernel⟩
def R_ups_by (ds : List Da) (r : Da) : Prop := ∃ (m : Nat) (ps : Ps), ds = [lls (dirs m ps)] ∧ Sm m ps ∧ r = lds (upK m (dirs m ps))
theorem ok_ups_by {P : Program} {w : World} {K : PySem.W.Frag} {mg : Str → Option Value} {base : Heap} (T : Tx K mg) : Cal P w K mg base 1 "ups_by" (spD R_ups_by) [] := T.ok 9 9 rfl rfl sc_ups_by (fun _ _ _ _ _ _ us hl => match us, hl with | [_], _ => rfl) (by rintro ds r h; obtain ⟨_, _, rfl, _⟩ := h; rfl) fun f cdv A outer s H E hr => ⟨_, (pss_cons (ps_setLc (i := 1) (own := [("_", 4)]) rfl sc_ups_by.nd rfl rfl (sw_true rfl rfl rfl (by decide +kernel)) (k_seq K rfl (pv 0)) (blkOk_by (own := [("_", 4)]) (N := N_ups_by) (sc := (defScope s_ups_by)) (by decide +kernel)) (fun _ _ _ _ _ => (pg_name (i := 4) sc_ups_by.nd rfl (Or.inl rfl))) (fun _ _ _ _ _ => pts_nil) (fun _ _ _ _ _ => pe_dnewK)) (pss_cons (ps_for PassesOwn.never rfl (pi_range3 rfl T.b_range (pa_cons (pe_op op_sub (pe_callB (k_len K rfl) (by rfl) T.b_len (by decide +kernel) (pa_cons (pv 0) pa_nil)) pe_int) (pa_cons (pe_un un_neg pe_int) (pa_cons (pe_un un_neg pe_int) pa_nil)))) (pg_name (i := 2) sc_ups_by.nd rfl (Or.inl rfl)) (pss_cons (ps_dput (hu_of hr) (pe_ix (k_ix K rfl) (pv 1) (pv 2) (fun _ _ => rfl)) (pv 2) pe_bl rfl) (pss_one (ps_for PassesOwn.never rfl (k_seq K rfl (pe_ix (k_ix K rfl) (pv 0) (pv 2) (fun _ _ => rfl))) (pg_name (i := 3) sc_ups_by.nd rfl (Or.inl rfl)) (pss_one (ps_expr (pe_bm PySem.F.plainAttrs_dict PySem.F.slot_dict_update PySem.F.type_dict_update mt_update (pe_ix (k_ix K rfl) (pv 1) (pv 2) (fun _ _ => rfl)) (pa_cons (pe_ix (k_ix K rfl) (pv 1) (pv 3) (fun _ _ => rfl)) pa_nil)))))))) (pss_one (ps_ret (pv 1))))), fun ds r hR => by
  obtain ⟨m, ps, rfl, sm, rfl⟩ := hR
  have u := sm.up
  have hm := sm.m60
  refine sd_seq (sd_asgLD (as := dirs m ps) (en := fun l => .lst (nats l)) (ei_seqL (ev_v 0)) (fun a _ => tg_name) (by rw [len_dirs]; omega)) ?_
  refine sd_seq (sd_for (as := (List.range m).reverse) (en := nat) (S := fun _ => [some (lls (dirs m ps)), none, none, none, none]) (O := fun pre => .ld 1 ((pre.foldl (ostep (dirs m ps)) (List.replicate m [])).map kd)) (ρ' := fun _ p => [some (lls (dirs m ps)), none, some (nat p), none, none])
    (ei_down (ea3 ((ev_sub (ev_cb (ea1 (ev_v 0)) rc_lenL) ev_int).to (by rw [List.length_map, len_dirs])) (ev_neg ev_int) (ev_neg ev_int)) (by omega)) (Le.refl _) ?_ (fun _ p _ _ => tg_name) ?_ (hs1 fun _ => slot_ne rfl rfl)) ?_
  · rw [len_dirs]
    simp [kd]
  · intro pre p post e
    have hpre : ∀ a ∈ pre, a < m := fun a ha => by
      have : a ∈ (List.range m).reverse := by rw [e]; simp [ha]
      simpa using this
    have hp : p < m := by
      have : p ∈ (List.range m).reverse := by rw [e]; simp
      simpa using this
    have wb : WB m (pre.foldl (ostep (dirs m ps)) (List.replicate m [])) := wb_ofold _ _ hpre _ wb_rep
    generalize hfs : pre.foldl (ostep (dirs m ps)) (List.replicate m []) = fs at wb
    have hw := wb.1
    have hw2 := wb.len p
    refine sd_seq (sd_ldPut (d := .bl true) (k := (p : Int)) ev_bl trivial (ev_v 2) (ev_v 2) (kd_at (by omega)) (by rw [kd_len]; omega)) ?_
    have wb2 := wb.ins hp p
    refine sd_fin (sd_for (as := gd (dirs m ps) p) (en := nat) (S := fun _ => [some (lls (dirs m ps)), none, some (nat p), none, none]) (O := fun pre => .ld 1 ((pre.foldl (istep p) (fs.set p (ins (gd fs p) p))).map kd)) (ρ' := fun _ h => [some (lls (dirs m ps)), none, some (nat p), some (nat h), none])
      (ei_seqL (ev_ixLN (ev_v 0) (ev_v 2) (lls_at (by rw [len_dirs]; exact hp)))) (Le.refl _) ?_ (fun _ p _ _ => tg_name) ?_ (hs1 fun _ => slot_ne rfl rfl)) (ρ' := [some (lls (dirs m ps)), none, none, none, none]) ⟨rfl, trivial⟩ ?_
    · rw [kd_put]
      simp only [List.foldl_nil, List.map_set]
    · intro pre2 h post2 e2
      have hh := (mem_dirs (ps := ps) u).mp (by rw [e2]; simp : h ∈ gd (dirs m ps) p)
      have hb : p < h ∧ h < m := u _ hh
      have wb3 : WB m (pre2.foldl (istep p) (fs.set p (ins (gd fs p) p))) := wb_ifold _ _ wb2
      generalize hgs : pre2.foldl (istep p) (fs.set p (ins (gd fs p) p)) = gs at wb3
      have l1 := wb3.1
      have l2 := wb3.len p
      have l3 := wb3.len h
      refine sd_fin (sd_ldUpd (ev_v 2) (ev_v 3) (Nat.ne_of_lt hb.1) (kd_at (by omega)) (kd_at (by omega)) (by rw [kd_len, kd_len]; omega)) ⟨rfl, rfl, trivial⟩ ?_
      rw [kd_mrg, foldl_snoc, hgs]
      simp only [istep, List.map_set]
    · rw [foldl_snoc, hfs]
      rfl
  · refine sd_frz (sd_ret ((ev_v 1).to ?_))
    rw [lds, upK, List.map_map]
    rfl⟩
abbrev N_follows_by : List Str := ["directs", "ups", "low", "high", "near"]
theorem sc_follows_by : FnScope N_follows_by ["directs", "ups", "low", "high"] (defScope s_follows_by) := ⟨rfl, rfl, rfl, by decide +kernel, rfl, by decide +kernel, by decide +kernel⟩
def R_follows_by (ds : List Da) (r : Da) : Prop := ∃ (m : Nat) (ps : Ps) (a b : Nat), ds = [lls (dirs m ps), lds (upK m (dirs m ps)), nat a, nat b] ∧ Sm m ps ∧ a < m ∧ r = .bl (fol (dirs m ps) (upK m (dirs m ps)) a b)
theorem ok_follows_by {P : Program} {w : World} {K : PySem.W.Frag} {mg : Str → Option Value} {base : Heap} (T : Tx K mg) : Cal P w K mg base 1 "follows_by" (spD R_follows_by) [] := T.ok 10 10 rfl rfl sc_follows_by (fun _ _ _ _ _ _ us hl => match us, hl with | [_, _, _, _], _ => rfl) (by rintro ds r h; obtain ⟨_, _, _, _, rfl, _⟩ := h; rfl) fun f cdv A outer s H E hr => ⟨_, (pss_one (ps_ret (pe_callB (k_any K rfl rfl) (by rfl) T.b_any (by decide +kernel) (pa_cons (pe_lc (own := [("near", 4)]) rfl sc_follows_by.nd (k_seq K rfl (pe_ix (k_ix K rfl) (pv 0) (pv 2) (fun _ _ => rfl))) (blkOk_by (own := [("near", 4)]) (N := N_follows_by) (sc := (defScope s_follows_by)) (by decide +kernel)) (fun _ _ _ _ _ => (pg_name (i := 4) sc_follows_by.nd rfl (Or.inl rfl))) (fun _ _ _ _ _ => pts_one (pt_cmpR (k_ne K rfl hr.units) (pv 4) (pv 3) (nomark _))) (fun _ _ _ _ _ => (pe_cmp (pc_din (hu_of hr) (pv 3) (pe_ix (k_ix K rfl) (pv 1) (pv 4) (fun _ _ => rfl)))))) pa_nil)))), fun ds r hR => by
  obtain ⟨m, ps, a, b, rfl, sm, ha, rfl⟩ := hR
  have u := sm.up
  have hm := sm.m60
  have wd : (gd (dirs m ps) a).length ≤ m := by rw [gd_dirs ha]; exact Nat.le_trans (List.length_filter_le _ _) (by simp)
  have wk := (wb_upK (m := m) (dirs m ps)).1
  let ρ0 : DE := [some (lls (dirs m ps)), some (lds (upK m (dirs m ps))), some (nat a), some (nat b)]
  refine sd_ret (ev_any (as := (gd (dirs m ps) a).filter fun n => !decide (n = b)) (b := fun n => decide (b ∈ gd (upK m (dirs m ps)) n)) (el_lc (as := gd (dirs m ps) a) (en := nat) (p := fun n => !decide (n = b)) (fn := fun n => .bl (decide (b ∈ gd (upK m (dirs m ps)) n))) (ρ' := fun n => ρ0 ++ [some (nat n)])
    (ei_seqL (ev_ixLN (ev_v 0) (ev_v 2) (lls_at (by rw [len_dirs]; exact ha)))) (fun _ _ => tg_name) (fun n hn => eb_val (ev_neAN (ev_v 4) (ev_v 3))) (fun n hn _ => ?_) (by omega)).toD)
  have hn' : a < n ∧ n < m := u _ ((mem_dirs u).mp hn)
  exact (ev_din (k := (b : Int)) (ev_v 3) (ev_ixLN (i := n) (ev_v 1) (ev_v 4) (lds_at (by omega)))).to (by rw [kd_get])⟩
abbrev N_ties_by : List Str := ["directs", "ups", "found", "low", "highs", "high"]
theorem sc_ties_by : FnScope N_ties_by ["directs"] (defScope s_ties_by) := ⟨rfl, rfl, rfl, by decide +kernel, rfl, by decide +kernel, by decide +kernel⟩
def R_ties_by (ds : List Da) (r : Da) : Prop := ∃ (m : Nat) (ps : Ps), ds = [lls (dirs m ps)] ∧ Sm m ps ∧ r = .tup (prs (red m ps))
theorem ok_ties_by {P : Program} {w : World} {K : PySem.W.Frag} {mg : Str → Option Value} {base : Heap} (T : Tx K mg) : Cal P w K mg base 2 "ties_by" (spD R_ties_by) [] := T.ok 11 11 rfl rfl sc_ties_by (fun _ _ _ _ _ _ us hl => match us, hl with | [_], _ => rfl) (by rintro ds r h; obtain ⟨_, _, rfl, _⟩ := h; rfl) fun f cdv A outer s H E hr => ⟨_, (pss_cons (ps_asg (pe_tup (pa_cons (pe_c (ok_ups_by T) hr (by decide) (by rfl) (pa_cons (pv 0) pa_nil)) (pa_cons (pe_lst pa_nil) pa_nil))) (k_tup K (n := 2) rfl rfl (pgs_cons (pg_name (i := 1) sc_ties_by.nd rfl (Or.inr rfl)) (pgs_cons (pg_name (i := 2) sc_ties_by.nd rfl (Or.inl rfl)) pgs_nil)))) (pss_cons (ps_for PassesOwn.never rfl (k_enum K rfl (by rfl) T.b_enumerate (pa_cons (pv 0) pa_nil)) (k_tup K (n := 2) rfl rfl (pgs_cons (pg_name (i := 3) sc_ties_by.nd rfl (Or.inr rfl)) (pgs_cons (pg_name (i := 4) sc_ties_by.nd rfl (Or.inl rfl)) pgs_nil))) (pss_one (ps_expr (pe_bm PySem.F.plainAttrs_list PySem.F.slot_list_extend PySem.F.type_list_extend mt_extend (pv 2) (pa_cons (pe_lc (own := [("high", 5)]) rfl sc_ties_by.nd (k_seq K rfl (pv 4)) (blkOk_by (own := [("high", 5)]) (N := N_ties_by) (sc := (defScope s_ties_by)) (by decide +kernel)) (fun _ _ _ _ _ => (pg_name (i := 5) sc_ties_by.nd rfl (Or.inl rfl))) (fun _ _ _ _ _ => pts_one (pt_not (pt_val (pe_c (ok_follows_by T) hr (by decide) (by rfl) (pa_cons (pv 0) (pa_cons (pv 1) (pa_cons (pv 3) (pa_cons (pv 5) pa_nil)))))))) (fun _ _ _ _ _ => (pe_tup (pa_cons (pv 3) (pa_cons (pv 5) pa_nil))))) pa_nil))))) (pss_one (ps_ret (pe_callTy (k_tuple K rfl) (by rfl) T.b_tuple (by decide +kernel) (pa_cons (pv 2) pa_nil)))))), fun ds r hR => by
  obtain ⟨m, ps, rfl, sm, rfl⟩ := hR
  have u := sm.up
  have hm := sm.m60
  let L := dirs m ps
  let U := upK m L
  let F : List Nat × Nat → Ps := fun q => (q.1.filter fun h => !fol L U q.2 h).map fun h => (q.2, h)
  refine sd_seq (sd_asg2L (ev_call (ea1 (ev_v 0)) ⟨m, ps, rfl, sm, rfl⟩) (el_lst ea_nil)) ?_
  refine sd_seq (sd_for (as := L.zipIdx) (en := fun q => .tup [nat q.2, .lst (nats q.1)]) (S := fun _ => [some (lls L), some (lds U), none, none, none, none]) (O := fun pre => .l 2 (prs (pre.flatMap F))) (ρ' := fun _ q => [some (lls L), some (lds U), none, some (nat q.2), some (.lst (nats q.1)), none])
    (ei_enum (as := L) (en := fun l => .lst (nats l)) (.inl (ev_v 0))) ⟨rfl, rfl, trivial⟩ rfl (fun _ p _ _ => tg_tup2) ?_ (hs2 (fun _ => slot_ne rfl rfl) fun _ => slot_ne rfl rfl)) ?_
  · intro pre q post e
    have hq : q ∈ L.zipIdx := by rw [e]; simp
    have hlen : L.zipIdx.length = m := by rw [List.length_zipIdx]; exact len_dirs
    have hz := List.getElem?_of_mem hq
    obtain ⟨i, hi⟩ := hz
    rw [List.getElem?_zipIdx] at hi
    have hq2 : q.2 < m ∧ q.1 = gd L q.2 := by
      cases hL : L[i]? with
      | none => rw [hL] at hi; cases hi
      | some l =>
        rw [hL] at hi
        have e2 : (l, 0 + i) = q := Option.some.inj hi
        have hl := (List.getElem?_eq_some_iff.mp hL).1
        rw [← e2]
        refine ⟨by simp; exact Nat.lt_of_lt_of_eq hl len_dirs, ?_⟩
        simp only [Nat.zero_add]
        unfold gd
        rw [List.getD_eq_getElem?_getD, hL]
        rfl
    have h1 : q.1.length ≤ 60 := by
      rw [hq2.2, gd_dirs hq2.1]
      exact Nat.le_trans (List.length_filter_le _ _) (by simp; omega)
    have hF : ∀ x ∈ L.zipIdx, (F x).length ≤ 60 := fun x hx => by
      obtain ⟨i, hi⟩ := List.getElem?_of_mem hx
      rw [List.getElem?_zipIdx] at hi
      cases hL : L[i]? with
      | none => rw [hL] at hi; cases hi
      | some l =>
        rw [hL] at hi
        have e2 : (l, 0 + i) = x := Option.some.inj hi
        rw [← e2]
        have hl : l ∈ dirs m ps := List.mem_of_getElem? hL
        obtain ⟨a, _, rfl⟩ := List.mem_map.mp hl
        refine Nat.le_trans (by simp [F]; exact Nat.le_trans (List.length_filter_le _ _) (by simpa using hm)) (Nat.le_refl _)
    have h2 : (pre.flatMap F).length ≤ 3600 := by
      have : ∀ l : List (List Nat × Nat), (∀ x ∈ l, (F x).length ≤ 60) → (l.flatMap F).length ≤ l.length * 60 := fun l => by
        induction l with
        | nil => intro _; simp
        | cons x r ih =>
          intro h
          have a1 := h x List.mem_cons_self
          have a2 := ih fun y hy => h y (List.mem_cons_of_mem _ hy)
          rw [List.flatMap_cons, List.length_append, List.length_cons]
          omega
      have a3 := this pre fun x hx => hF x (by rw [e]; simp [hx])
      have a4 : pre.length ≤ m := by rw [← hlen, e]; simp
      omega
    refine sd_fin (sd_ext (es := prs (F q)) (EvD.to (el_lc (as := q.1) (en := nat) (p := fun h => !fol L U q.2 h) (fn := fun h => pr (q.2, h)) (ρ' := fun h => [some (lls L), some (lds U), none, some (nat q.2), some (.lst (nats q.1)), some (nat h)])
      (ei_seqL (ev_v 4)) (fun _ _ => tg_name) (fun h hh => eb_not (eb_val (ev_call (ea_cons (ev_v 0) (ea3 (ev_v 1) (ev_v 3) (ev_v 5))) ⟨m, ps, q.2, h, rfl, sm, hq2.1, rfl⟩))) (fun h hh _ => ev_tup (ea2 (ev_v 3) (ev_v 5))) (by omega)).toD ?_) ?_) ⟨rfl, rfl, trivial⟩ ?_
    · simp [prs, F]
    · have : (prs (F q)).length ≤ 60 := by rw [List.length_map]; exact hF q hq
      have : (prs (pre.flatMap F)).length ≤ 3600 := by rw [List.length_map]; exact h2
      omega
    · simp [prs, List.flatMap_append]
  · refine sd_frz (sd_ret ((ev_cb (ea1 (ev_v 2)) rc_tupL).to ?_))
    rw [← tiesL_red u]
    rfl⟩
end Mk
end

section
set_option Elab.async false
set_option linter.all false
/-! names of pieces, rows down, parts -/
namespace Mk
section
variable {m : Nat} {ps : Ps} {fs : List (List Nat)} {l k : List Nat} {x y a b p : Nat}
def nstep (l : List Nat) (p : Nat × Nat) : List Nat := ins (ins l p.1) p.2
def names (ps : Ps) : List Nat := ps.foldl nstep []
theorem nodup_nfold : ∀ {l : List Nat}, l.Nodup → (ps.foldl nstep l).Nodup := by
  induction ps with
  | nil => intro l h; exact h
  | cons p r ih => intro l h; exact ih (nodup_ins (nodup_ins h))
theorem mem_nfold : ∀ {l : List Nat}, x ∈ ps.foldl nstep l ↔ x ∈ l ∨ ∃ p ∈ ps, x = p.1 ∨ x = p.2 := by
  induction ps with
  | nil => intro l; simp
  | cons p r ih =>
    intro l
    rw [List.foldl_cons, ih]
    unfold nstep
    rw [mem_ins, mem_ins]
    simp only [List.mem_cons, exists_eq_or_imp, or_assoc]
theorem nodup_names : (names ps).Nodup := nodup_nfold (by simp)
theorem mem_names : x ∈ names ps ↔ ∃ p ∈ ps, x = p.1 ∨ x = p.2 := by
  unfold names
  rw [mem_nfold]
  simp
theorem names_lt (u : Up m ps) : ∀ x ∈ names ps, x < m := fun x h => by
  obtain ⟨p, hp, e⟩ := mem_names.mp h
  have := u p hp
  omega
theorem names_pre {pre post : Ps} : ∀ x ∈ pre.foldl nstep [], x ∈ names (pre ++ post) := fun x h => by
  obtain ⟨p, hp, e⟩ := mem_names.mp h
  exact mem_names.mpr ⟨p, by simp [hp], e⟩
/-- the sorted row of names -/
def nrow (m : Nat) (ps : Ps) : List Nat := srt m (names ps)
theorem mem_nrow (u : Up m ps) : x ∈ nrow m ps ↔ ∃ p ∈ ps, x = p.1 ∨ x = p.2 := by
  unfold nrow
  rw [(srt_perm nodup_names (names_lt u)).mem_iff, mem_names]
theorem nrow_asc : (nrow m ps).Pairwise (· < ·) := srt_asc
theorem nrow_len : (nrow m ps).length ≤ m := by
  unfold nrow srt
  exact Nat.le_trans (List.length_filter_le _ _) (by simp)
theorem nrow_ends (u : Up m ps) : ∀ p ∈ ps, p.1 ∈ nrow m ps ∧ p.2 ∈ nrow m ps := fun p hp => ⟨(mem_nrow u).mpr ⟨p, hp, .inl rfl⟩, (mem_nrow u).mpr ⟨p, hp, .inr rfl⟩⟩
theorem red_nrow (u : Up m ps) : (red (nrow m ps).length (cps (nrow m ps) ps)).map (fun p => (gn (nrow m ps) p.1, gn (nrow m ps) p.2)) = red m ps := red_cps nrow_asc (nrow_ends u) u
theorem red_len (u : Up m ps) : (red m ps).length ≤ ps.length := by
  have nd : (red m ps).Nodup := red_asc.imp fun {a b} z e => by
    subst e
    have := plt_iff.mp z
    omega
  exact nd.length_le_of_subset fun p hp => ((mem_red u).mp hp).mem u
/-! up rows, down rows -/
def upL (m : Nat) (ps : Ps) : List (List Nat) := (List.range m).map (up m ps)
def dnL (m : Nat) (ps : Ps) : List (List Nat) := (List.range m).map (dn m ps)
theorem gd_map {f : Nat → List Nat} (h : a < m) : gd ((List.range m).map f) a = f a := by
  unfold gd
  rw [List.getD_eq_getElem?_getD, List.getElem?_map, List.getElem?_range h]
  rfl
theorem ext_gd {fs gs : List (List Nat)} (h : fs.length = gs.length) (k : ∀ a, a < fs.length → gd fs a = gd gs a) : fs = gs := by
  apply List.ext_getElem h
  intro i h1 h2
  have := k i h1
  unfold gd at this
  rw [List.getD_eq_getElem?_getD, List.getD_eq_getElem?_getD, List.getElem?_eq_getElem h1, List.getElem?_eq_getElem h2] at this
  exact this
theorem srt_upK (u : Up m ps) : (upK m (dirs m ps)).map (srt m) = upL m ps := by
  have hl := (wb_upK (m := m) (dirs m ps)).1
  refine ext_gd (by simp [upL, hl]) fun a ha => ?_
  have ha : a < m := by simpa [hl] using ha
  rw [upL, gd_map ha]
  have e : gd ((upK m (dirs m ps)).map (srt m)) a = srt m (gd (upK m (dirs m ps)) a) := by
    unfold gd
    rw [List.getD_eq_getElem?_getD, List.getD_eq_getElem?_getD, List.getElem?_map, List.getElem?_eq_getElem (by omega)]
    rfl
  rw [e]
  refine eq_of_lt srt_asc up_asc fun x => ?_
  unfold srt
  rw [List.mem_filter, List.mem_range, decide_eq_true_iff, mem_upK u, mem_up u]
  exact ⟨fun h => ⟨h.1, h.2.2⟩, fun h => ⟨h.1, ha, h.2⟩⟩
/-- one row: low is put to each of its own -/
def wstep (low : Nat) (fs : List (List Nat)) (p : Nat) : List (List Nat) := fs.set p (gd fs p ++ [low])
def vstep (fs : List (List Nat)) (q : List Nat × Nat) : List (List Nat) := q.1.foldl (wstep q.2) fs
def dnK (m : Nat) (ps : Ps) : List (List Nat) := (upL m ps).zipIdx.foldl vstep (List.replicate m [])
theorem len_wfold {q : Nat} : ∀ {l : List Nat} {fs : List (List Nat)}, (l.foldl (wstep q) fs).length = fs.length := fun {l} => by
  induction l with
  | nil => intro fs; rfl
  | cons p r ih => intro fs; rw [List.foldl_cons, ih]; simp [wstep]
theorem gd_wfold {q : Nat} : ∀ {l : List Nat} {fs : List (List Nat)}, l.Nodup → (∀ x ∈ l, x < fs.length) → gd (l.foldl (wstep q) fs) b = gd fs b ++ (if b ∈ l then [q] else []) := fun {l} => by
  induction l with
  | nil => intro fs _ _; simp
  | cons p r ih =>
    intro fs nd h
    have hp := h p List.mem_cons_self
    have nd' := List.nodup_cons.mp nd
    rw [List.foldl_cons, ih nd'.2 (fun x hx => by unfold wstep; rw [List.length_set]; exact h x (List.mem_cons_of_mem _ hx))]
    unfold wstep
    rw [gd_set hp]
    by_cases e : b = p
    · subst e
      rw [if_pos rfl, if_neg nd'.1, if_pos List.mem_cons_self, List.append_nil]
    · rw [if_neg e]
      have : (b ∈ p :: r) ↔ b ∈ r := by simp [e]
      simp only [this]
theorem zip_upL : (upL m ps).zipIdx = (List.range m).map fun a => (up m ps a, a) := by
  apply List.ext_getElem?
  intro i
  rw [List.getElem?_zipIdx, List.getElem?_map]
  unfold upL
  rw [List.getElem?_map]
  by_cases hi : i < m
  · rw [List.getElem?_range hi]
    simp
  · rw [List.getElem?_eq_none (by simp; omega)]
    rfl
theorem up_nodup : (up m ps a).Nodup := up_asc.imp fun {a b} z e => by omega
theorem up_lt : ∀ x ∈ up m ps a, x < m := fun x h => by
  unfold up at h
  exact List.mem_range.mp (List.mem_filter.mp h).1
theorem vfold_at : ∀ k, k ≤ m → ((((List.range k).map fun a => (up m ps a, a)).foldl vstep (List.replicate m [])).length = m ∧
    ∀ b, gd (((List.range k).map fun a => (up m ps a, a)).foldl vstep (List.replicate m [])) b = (List.range k).filter fun a => decide (b ∈ up m ps a)) := by
  intro k
  induction k with
  | zero => intro _; exact ⟨by simp, fun b => by simp only [List.range_zero, List.map_nil, List.foldl_nil, List.filter_nil]; exact gd_rep⟩
  | succ k ih =>
    intro hk
    obtain ⟨h1, h2⟩ := ih (by omega)
    rw [List.range_succ, List.map_append, List.foldl_append]
    generalize ((List.range k).map fun a => (up m ps a, a)).foldl vstep (List.replicate m []) = gs at h1 h2 ⊢
    refine ⟨by show (vstep gs _).length = m; unfold vstep; rw [len_wfold, h1], fun b => ?_⟩
    show gd (vstep gs (up m ps k, k)) b = _
    unfold vstep
    rw [gd_wfold up_nodup (fun x hx => by rw [h1]; exact up_lt x hx), h2, List.filter_append]
    congr 1
    by_cases e : b ∈ up m ps k <;> simp [e]
theorem dnK_eq : dnK m ps = dnL m ps := by
  unfold dnK
  rw [zip_upL]
  obtain ⟨h1, h2⟩ := vfold_at (m := m) (ps := ps) m (Nat.le_refl _)
  refine ext_gd (by rw [h1]; simp [dnL]) fun b hb => ?_
  rw [h1] at hb
  rw [h2, dnL, gd_map hb]
  unfold dn
  refine List.filter_congr fun a _ => ?_
  rw [Bool.eq_iff_iff, decide_eq_true_iff]
  unfold up
  rw [List.mem_filter, List.mem_range]
  exact ⟨fun h => h.2, fun h => ⟨hb, h⟩⟩
/-- the pairs of a piece and one above -/
def prsIn (m : Nat) (ps : Ps) : Ps := (List.range m).flatMap fun a => ((up m ps a).filter fun b => !decide (b = a)).map fun b => (a, b)
theorem mem_prsIn (u : Up m ps) : (a, b) ∈ prsIn m ps ↔ a ≠ b ∧ Reach ps a b := by
  unfold prsIn
  simp only [List.mem_flatMap, List.mem_map, List.mem_filter, List.mem_range, Prod.mk.injEq]
  constructor
  · rintro ⟨x, hx, y, ⟨hy, t⟩, rfl, rfl⟩
    exact ⟨fun z => by simp [z] at t, ((mem_up u).mp hy).2⟩
  · rintro ⟨n, r⟩
    have hb := r.bd u n
    exact ⟨a, Nat.lt_trans (r.lt u n) hb, b, ⟨(mem_up u).mpr ⟨hb, r⟩, by simp; exact fun z => n z.symm⟩, rfl, rfl⟩
theorem prsIn_up (u : Up m ps) : Up m (prsIn m ps) := fun p hp => by
  have ⟨n, r⟩ := (mem_prsIn (a := p.1) (b := p.2) u).mp hp
  exact ⟨r.lt u n, r.bd u n⟩
theorem flat_len {α β : Type} {f : α → List β} {n : Nat} : ∀ {l : List α}, (∀ x ∈ l, (f x).length ≤ n) → (l.flatMap f).length ≤ l.length * n := fun {l} => by
  induction l with
  | nil => intro _; simp
  | cons x r ih =>
    intro h
    have a1 := h x List.mem_cons_self
    have a2 := ih fun y hy => h y (List.mem_cons_of_mem _ hy)
    rw [List.flatMap_cons, List.length_append, List.length_cons, Nat.add_mul]
    omega
theorem up_len : (up m ps a).length ≤ m := by
  unfold up
  exact Nat.le_trans (List.length_filter_le _ _) (by simp)
theorem prsIn_len : (prsIn m ps).length ≤ m * m := by
  unfold prsIn
  refine Nat.le_trans (flat_len (n := m) fun a _ => ?_) (by simp)
  rw [List.length_map]
  exact Nat.le_trans (List.length_filter_le _ _) up_len
/-- the part of an order that holds these pieces -/
def kept (m : Nat) (ps : Ps) (pcs : List Nat) : Ps := (prsIn m ps).filter fun p => decide (p.1 ∈ pcs) && decide (p.2 ∈ pcs)
def partP (m : Nat) (ps : Ps) (pcs : List Nat) : Ps := cps pcs (kept m ps pcs)
theorem kept_up (u : Up m ps) : Up m (kept m ps l) := fun p hp => prsIn_up u p (List.mem_filter.mp hp).1
theorem kept_ends : ∀ p ∈ kept m ps l, p.1 ∈ l ∧ p.2 ∈ l := fun p hp => by
  have := (List.mem_filter.mp hp).2
  simpa using this
theorem partP_up (u : Up m ps) (h : l.Pairwise (· < ·)) : Up l.length (partP m ps l) := cps_up h kept_ends (kept_up u)
theorem partP_len : (partP m ps l).length ≤ m * m := by
  unfold partP cps kept
  rw [List.length_map]
  exact Nat.le_trans (List.length_filter_le _ _) prsIn_len
end
end Mk
end

section
set_option Elab.async false
set_option linter.all false
set_option maxRecDepth 100000
set_option maxHeartbeats 2000000
namespace Mk
open PySem PySem.Spec PyProof.Rows L2
open Evl (Ex)
open C8 (Cal pe_c pe_gc)
/-! may be compared -/
def Cm (k : Nat) (d : Da) : Prop := d.nd = true ∧ d.py.canLay0 = true ∧ d.py.depth ≤ k
theorem cm_int {i : Int} {k : Nat} : Cm (k + 1) (.int i) := ⟨by unfold Da.nd <;> rfl, by unfold Da.py PyData.canLay0 <;> rfl, by unfold Da.py PyData.depth; omega⟩
theorem cm_all {k : Nat} : ∀ {l : List Da}, (∀ d ∈ l, Cm k d) → Da.ndL l = true ∧ PyData.canLayAll0 (Da.pyL l) = true ∧ PyData.depthAll (Da.pyL l) ≤ k
 | [], _ => ⟨by unfold Da.ndL <;> rfl, by unfold Da.pyL PyData.canLayAll0 <;> rfl, by unfold Da.pyL PyData.depthAll; omega⟩
 | d :: r, h => by
   have a := h d List.mem_cons_self
   have b := cm_all fun x hx => h x (List.mem_cons_of_mem _ hx)
   refine ⟨by unfold Da.ndL; rw [a.1, b.1]; rfl, by unfold Da.pyL PyData.canLayAll0; rw [a.2.1, b.2.1]; rfl, ?_⟩
   unfold Da.pyL PyData.depthAll
   have := a.2.2
   have := b.2.2
   omega
theorem cm_tup {k : Nat} {l : List Da} (h : ∀ d ∈ l, Cm k d) : Cm (k + 1) (.tup l) := by
 have b := cm_all h
 refine ⟨by unfold Da.nd; exact b.1, by unfold Da.py PyData.canLay0; exact b.2.1, ?_⟩
 have := b.2.2
 unfold Da.py PyData.depth
 omega
theorem cm_lst {k : Nat} {l : List Da} (h : ∀ d ∈ l, Cm k d) : Cm (k + 1) (.lst l) := by
 have b := cm_all h
 refine ⟨by unfold Da.nd; exact b.1, by unfold Da.py PyData.canLay0; exact b.2.1, ?_⟩
 have := b.2.2
 unfold Da.py PyData.depth
 omega
theorem Cm.ok {k : Nat} {d : Da} (h : Cm k d) (hk : k ≤ 64 := by decide) : Cmp d := ⟨h.1, by unfold SeqAt.shaped; rw [h.2.1, Bool.true_and]; exact decide_eq_true (Nat.le_trans h.2.2 hk)⟩
theorem cm_pr {p : Nat × Nat} : Cm 2 (pr p) := cm_tup fun d hd => by
 rcases List.mem_cons.mp hd with rfl | hd
 · exact cm_int
 · rcases List.mem_cons.mp hd with rfl | hd
   · exact cm_int
   · cases hd
theorem cmp_prs {ps : Ps} : Cmp (.tup (prs ps)) := (cm_tup (k := 2) fun d hd => by obtain ⟨p, _, rfl⟩ := List.mem_map.mp hd; exact cm_pr).ok
theorem cmp_ints {ns : List Int} : Cmp (.lst (ns.map .int)) := (cm_lst (k := 1) fun d hd => by obtain ⟨p, _, rfl⟩ := List.mem_map.mp hd; exact cm_int).ok
theorem cmp_tints {ns : List Int} : Cmp (.tup (ns.map .int)) := (cm_tup (k := 1) fun d hd => by obtain ⟨p, _, rfl⟩ := List.mem_map.mp hd; exact cm_int).ok
theorem eqvA_ints : ∀ {ns ms : List Int}, PyData.eqvAll (Da.pyL (ns.map .int)) (Da.pyL (ms.map .int)) = decide (ns = ms)
 | [], [] => by simp [Da.pyL, PyData.eqvAll]
 | [], _ :: _ => by simp [Da.pyL, PyData.eqvAll]
 | _ :: _, [] => by simp [Da.pyL, PyData.eqvAll]
 | a :: r, b :: s => by
   have z := eqvA_ints (ns := r) (ms := s)
   simp only [List.map_cons, Da.pyL, PyData.eqvAll, z, eqv_int]
   rw [Bool.eq_iff_iff]
   simp
theorem eqv_ints {ns ms : List Int} : PyData.eqv (Da.lst (ns.map .int)).py (Da.lst (ms.map .int)).py = decide (ns = ms) := by
 unfold Da.py PyData.eqv
 exact eqvA_ints
theorem eqv_tints {ns ms : List Int} : PyData.eqv (Da.tup (ns.map .int)).py (Da.tup (ms.map .int)).py = decide (ns = ms) := by
 unfold Da.py PyData.eqv
 exact eqvA_ints
/-! places of a row -/
theorem dget_put {kvs : List (Int × Da)} {k j : Int} {v : Da} : dget (dput kvs k v) j = if j = k then some v else dget kvs j := by
 unfold dput
 split
 · rename_i h
   unfold dget
   have q : ∀ l : List (Int × Da), ((l.map fun kv => if kv.1 = k then (kv.1, v) else kv).find? fun kv => decide (kv.1 = j)).map (·.2) = if j = k then (if (l.any fun kv => decide (kv.1 = k)) = true then some v else none) else (l.find? fun kv => decide (kv.1 = j)).map (·.2) := fun l => by
     induction l with
     | nil => simp
     | cons x r ih =>
       rw [List.map_cons, List.find?_cons, List.find?_cons, List.any_cons]
       by_cases e : x.1 = k
       · by_cases e2 : x.1 = j
         · have : j = k := e2.symm.trans e
           simp [e, this]
         · have n : j ≠ k := fun z => e2 (e.trans z.symm)
           have n2 : ¬ k = j := fun z => n z.symm
           rw [if_neg n] at ih ⊢
           simp only [e, if_true, n2, decide_false]
           exact ih
       · by_cases e2 : x.1 = j
         · have n : j ≠ k := fun z => e (e2.trans z)
           simp [e, e2, n]
         · rw [if_neg e, decide_eq_false e2, decide_eq_false e, Bool.false_or]
           exact ih
   rw [q, h]
   simp
 · rename_i h
   unfold dget
   rw [List.find?_append]
   by_cases e : j = k
   · subst e
     have : (kvs.find? fun kv => decide (kv.1 = j)) = none := by
       rw [List.find?_eq_none]
       intro x hx z
       exact h (List.any_eq_true.mpr ⟨x, hx, z⟩)
     simp [this]
   · rw [if_neg e]
     have : ¬ k = j := fun z => e z.symm
     simp [this]
def plD (row : List Nat) : List (Int × Da) := dcol (fun q : Nat × Nat => (q.1 : Int)) (fun q => nat q.2) row.zipIdx
theorem plD_snoc {row : List Nat} {y : Nat} : plD (row ++ [y]) = dput (plD row) (y : Int) (nat row.length) := by
 unfold plD dcol
 rw [List.zipIdx_append, List.foldl_append]
 simp
theorem plD_get {row : List Nat} (nd : row.Nodup) (x : Nat) : dget (plD row) x = if x ∈ row then some (nat (pl row x)) else none := by
 have q : ∀ (r : List Nat), r.reverse.Nodup → dget (plD r.reverse) x = if x ∈ r.reverse then some (nat (pl r.reverse x)) else none := fun r => by
   induction r with
   | nil => intro _; simp [plD, dcol, dget]
   | cons y r ih =>
     intro nd
     rw [List.reverse_cons] at nd ⊢
     have nd2 := List.nodup_append.mp nd
     rw [plD_snoc, dget_put, ih nd2.1]
     have hy : y ∉ r.reverse := fun h => nd2.2.2 y h y (by simp) rfl
     unfold pl
     by_cases e : x = y
     · subst e
       rw [if_pos rfl, if_pos (by simp), List.idxOf_append, if_neg hy]
       simp
     · rw [if_neg (by omega)]
       by_cases h : x ∈ r.reverse
       · rw [if_pos h, if_pos (List.mem_append_left _ h), List.idxOf_append, if_pos h]
       · rw [if_neg h, if_neg (by simp [e] at h ⊢; exact h)]
 have z := q row.reverse (by rw [List.reverse_reverse]; exact nd)
 rwa [List.reverse_reverse] at z
theorem nats_at {l : List Nat} {i : Nat} (h : i < l.length) : (nats l)[i]? = some (nat (gn l i)) := map_at h
abbrev N_ties_of : List Str := ["pairs", "named", "low", "high", "row", "places", "ties", "place", "piece"]
theorem sc_ties_of : FnScope N_ties_of ["pairs"] (defScope s_ties_of) := ⟨rfl, rfl, rfl, by decide +kernel, rfl, by decide +kernel, by decide +kernel⟩
def R_ties_of (ds : List Da) (r : Da) : Prop := ∃ (m : Nat) (ps : Ps) (d : Da), ds = [d] ∧ (d = .lst (prs ps) ∨ d = .tup (prs ps)) ∧ Sm m ps ∧ r = .tup (prs (red m ps))
theorem ok_ties_of {P : Program} {w : World} {K : PySem.W.Frag} {mg : Str → Option Value} {base : Heap} (T : Tx K mg) : Cal P w K mg base 3 "ties_of" (spD R_ties_of) [] := T.ok 12 12 rfl rfl sc_ties_of (fun _ _ _ _ _ _ us hl => match us, hl with | [_], _ => rfl) (by rintro ds r h; obtain ⟨_, _, _, rfl, _⟩ := h; rfl) fun f cdv A outer s H E hr => ⟨_, (pss_cons (ps_set (i := 1) sc_ties_of.nd rfl (Or.inl rfl) pe_dnewK) (pss_cons (ps_for PassesOwn.never rfl (k_seq K rfl (pv 0)) (k_tup K (n := 2) rfl rfl (pgs_cons (pg_name (i := 2) sc_ties_of.nd rfl (Or.inl rfl)) (pgs_cons (pg_name (i := 3) sc_ties_of.nd rfl (Or.inl rfl)) pgs_nil))) (pss_cons (ps_dput (hu_of hr) (pv 1) (pv 2) pe_bl rfl) (pss_one (ps_dput (hu_of hr) (pv 1) (pv 3) pe_bl rfl)))) (pss_cons (ps_set (i := 4) sc_ties_of.nd rfl (Or.inr rfl) (pe_callB (call_sortedDI rfl) (by rfl) T.b_sorted (by decide +kernel) (pa_cons (pv 1) pa_nil))) (pss_cons (ps_set (i := 5) sc_ties_of.nd rfl (Or.inr rfl) (pe_dc (own := [("place", 7), ("piece", 8)]) rfl sc_ties_of.nd (k_enum K rfl (by rfl) T.b_enumerate (pa_cons (pv 4) pa_nil)) (blkOk_by (own := [("place", 7), ("piece", 8)]) (N := N_ties_of) (sc := (defScope s_ties_of)) (by decide +kernel)) (fun _ _ _ _ _ => (k_tup K (n := 2) rfl rfl (pgs_cons (pg_name (i := 7) sc_ties_of.nd rfl (Or.inl rfl)) (pgs_cons (pg_name (i := 8) sc_ties_of.nd rfl (Or.inl rfl)) pgs_nil)))) (fun _ _ _ _ _ => pts_nil) (fun _ _ _ _ _ => (pv 8)) (fun _ _ _ _ _ => (pv 7)))) (pss_cons (ps_set (i := 6) sc_ties_of.nd rfl (Or.inl rfl) (pe_c (ok_ties_by T) hr (by decide) (by rfl) (pa_cons (pe_c (ok_directs_by T) hr (by decide) (by rfl) (pa_cons (pe_callB (k_len K rfl) (by rfl) T.b_len (by decide +kernel) (pa_cons (pv 4) pa_nil)) (pa_cons (pe_lc (own := [("low", 2), ("high", 3)]) rfl sc_ties_of.nd (k_seq K rfl (pv 0)) (blkOk_by (own := [("low", 2), ("high", 3)]) (N := N_ties_of) (sc := (defScope s_ties_of)) (by decide +kernel)) (fun _ _ _ _ _ => (k_tup K (n := 2) rfl rfl (pgs_cons (pg_name (i := 2) sc_ties_of.nd rfl (Or.inl rfl)) (pgs_cons (pg_name (i := 3) sc_ties_of.nd rfl (Or.inl rfl)) pgs_nil)))) (fun _ _ _ _ _ => pts_nil) (fun _ _ _ _ _ => (pe_tup (pa_cons (pe_dget (hu_of hr) (pv 5) (pv 2) (fun _ _ => rfl)) (pa_cons (pe_dget (hu_of hr) (pv 5) (pv 3) (fun _ _ => rfl)) pa_nil))))) pa_nil))) pa_nil))) (pss_one (ps_ret (pe_callTy (k_tuple K rfl) (by rfl) T.b_tuple (by decide +kernel) (pa_cons (pe_lc (own := [("low", 2), ("high", 3)]) rfl sc_ties_of.nd (k_seq K rfl (pv 6)) (blkOk_by (own := [("low", 2), ("high", 3)]) (N := N_ties_of) (sc := (defScope s_ties_of)) (by decide +kernel)) (fun _ _ _ _ _ => (k_tup K (n := 2) rfl rfl (pgs_cons (pg_name (i := 2) sc_ties_of.nd rfl (Or.inl rfl)) (pgs_cons (pg_name (i := 3) sc_ties_of.nd rfl (Or.inl rfl)) pgs_nil)))) (fun _ _ _ _ _ => pts_nil) (fun _ _ _ _ _ => (pe_tup (pa_cons (pe_ix (k_ix K rfl) (pv 4) (pv 2) (fun _ _ => rfl)) (pa_cons (pe_ix (k_ix K rfl) (pv 4) (pv 3) (fun _ _ => rfl)) pa_nil))))) pa_nil))))))))), fun ds r hR => by
  obtain ⟨m, ps, d, rfl, hd, sm, rfl⟩ := hR
  have u := sm.up
  have hm := sm.m60
  have hl := sm.len
  have it : ∀ (o1 o2 o3 o4 o5 o6 o7 o8 : Option Da), EvI (iSeq K (tVar 0)) [some d, o1, o2, o3, o4, o5, o6, o7, o8] (prs ps) := by
    intro o1 o2 o3 o4 o5 o6 o7 o8
    rcases hd with rfl | rfl
    · exact ei_seqL (ev_v 0)
    · exact ei_seqT (ev_v 0)
  let row := nrow m ps
  have hrow : row.length ≤ m := nrow_len
  have he := nrow_ends u
  have uc : Up row.length (cps row ps) := cps_up nrow_asc he u
  have smc : Sm row.length (cps row ps) := ⟨uc, by omega, by rw [cps, List.length_map]; omega⟩
  refine sd_seq sd_asgD ?_
  refine sd_seq (sd_for (as := ps) (en := pr) (S := fun _ => [some d, none, none, none, none, none, none, none, none]) (O := fun pre => .d 1 (kd (pre.foldl nstep []))) (ρ' := fun _ p => [some d, none, some (nat p.1), some (nat p.2), none, none, none, none, none]) (it _ _ _ _ _ _ _ _) ⟨rfl, trivial⟩ rfl (fun _ p _ _ => tg_tup2) ?_ (hs2 (fun _ => slot_ne rfl rfl) fun _ => slot_ne rfl rfl)) ?_
  · intro pre p post e
    have l1 : (pre.foldl nstep []).length ≤ m := len_le (nodup_nfold (by simp)) fun x hx => names_lt u x (by rw [e]; exact names_pre x hx)
    have l2 : (ins (pre.foldl nstep []) p.1).length ≤ m + 1 := by
      unfold ins
      split
      · omega
      · rw [List.length_append]; simp; omega
    refine sd_fin (sd_seq (sd_dputV (d := .bl true) ev_bl trivial (ev_v 2) (by rw [kd_len]; omega)) (sd_dputV (k := (p.2 : Int)) (d := .bl true) ev_bl trivial (ev_v 3) (by rw [kd_put, kd_len]; omega))) ⟨rfl, trivial⟩ ?_
    rw [kd_put, kd_put, foldl_snoc]
    rfl
  refine sd_frz (sd_seq (sd_asg (el_sortedK (k := row) (l := names ps) (ev_v 1) (by have := len_le nodup_names (names_lt u); omega) (srt_perm nodup_names (names_lt u)) srt_asc).toD) ?_)
  refine sd_seq (sd_asg (d := .dic (plD row)) (ed_dc (as := row.zipIdx) (en := fun q => .tup [nat q.2, nat q.1]) (ρ' := fun q => [some d, some (.dic (kd (names ps))), none, none, some (.lst (nats row)), none, none, some (nat q.2), some (nat q.1)]) (ei_enum (as := row) (en := nat) (.inl (ev_v 4))) (fun _ _ => tg_tup2) (fun q _ => ev_v 8) (fun q _ => ev_v 7) (by rw [List.length_zipIdx]; omega))) ?_
  have nd := row_nodup (row := row) nrow_asc
  refine sd_seq (sd_asg (d := .tup (prs (red row.length (cps row ps)))) (ev_call (ea1 (ev_call (ea2 ((ev_cb (ea1 (ev_v 4)) rc_lenL).to (by rw [List.length_map])) (EvD.to (el_map (as := ps) (en := pr) (fn := fun p => pr (pl row p.1, pl row p.2)) (ρ' := fun p => [some d, some (.dic (kd (names ps))), some (nat p.1), some (nat p.2), some (.lst (nats row)), some (.dic (plD row)), none, none, none]) (it _ _ _ _ _ _ _ _) (fun _ _ => tg_tup2)
    (fun p hp => ev_tup (ea2 (ev_dget (k := (p.1 : Int)) (ev_v 5) (ev_v 2) ?_) (ev_dget (k := (p.2 : Int)) (ev_v 5) (ev_v 3) ?_))) (by omega)).toD ?_)) ⟨row.length, cps row ps, _, rfl, .inl rfl, smc, rfl⟩)) ⟨row.length, cps row ps, rfl, smc, rfl⟩)) ?_
  · rw [plD_get nd, if_pos (he p hp).1]
  · rw [plD_get nd, if_pos (he p hp).2]
  · simp [prs, cps]
  refine sd_ret ((ev_cb (ea1 (EvL.toD (el_map (as := red row.length (cps row ps)) (en := pr) (fn := fun p => pr (gn row p.1, gn row p.2)) (ρ' := fun p => [some d, some (.dic (kd (names ps))), some (nat p.1), some (nat p.2), some (.lst (nats row)), some (.dic (plD row)), some (.tup (prs (red row.length (cps row ps)))), none, none]) (ei_seqT (ev_v 6)) (fun _ _ => tg_tup2) (fun p hp => ?_) (Nat.le_trans (red_len uc) (by rw [cps, List.length_map]; omega))))) rc_tupL).to ?_)
  · have hb := red_up uc p hp
    exact ev_tup (ea2 (ev_ixLN (ev_v 4) (ev_v 2) (nats_at (by omega))) (ev_ixLN (ev_v 4) (ev_v 3) (nats_at (by omega))))
  · rw [← red_nrow u]
    simp [prs, row]⟩
def od (m : Nat) (ts : Ps) : Da := .tup [nat m, .tup (prs ts)]
abbrev N_by_pairs_in : List Str := ["many", "pairs"]
theorem sc_by_pairs_in : FnScope N_by_pairs_in ["many", "pairs"] (defScope s_by_pairs_in) := ⟨rfl, rfl, rfl, by decide +kernel, rfl, by decide +kernel, by decide +kernel⟩
def R_by_pairs_in (ds : List Da) (r : Da) : Prop := ∃ (m : Nat) (ps : Ps) (d : Da), ds = [nat m, d] ∧ (d = .lst (prs ps) ∨ d = .tup (prs ps)) ∧ Sm m ps ∧ r = od m (red m ps)
theorem ok_by_pairs_in {P : Program} {w : World} {K : PySem.W.Frag} {mg : Str → Option Value} {base : Heap} (T : Tx K mg) : Cal P w K mg base 4 "by_pairs_in" (spD R_by_pairs_in) [] := T.ok 13 13 rfl rfl sc_by_pairs_in (fun _ _ _ _ _ _ us hl => match us, hl with | [_, _], _ => rfl) (by rintro ds r h; obtain ⟨_, _, _, rfl, _⟩ := h; rfl) fun f cdv A outer s H E hr => ⟨_, (pss_one (ps_ret (pe_tup (pa_cons (pv 0) (pa_cons (pe_c (ok_ties_of T) hr (by decide) (by rfl) (pa_cons (pv 1) pa_nil)) pa_nil))))), fun ds r hR => by
  obtain ⟨m, ps, d, rfl, hd, sm, rfl⟩ := hR
  exact sd_ret (ev_tup (ea2 (ev_v 0) (ev_call (ea1 (ev_v 1)) ⟨m, ps, d, rfl, hd, sm, rfl⟩)))⟩
abbrev N_follow_none : List Str := ["ties"]
theorem sc_follow_none : FnScope N_follow_none ["ties"] (defScope s_follow_none) := ⟨rfl, rfl, rfl, by decide +kernel, rfl, by decide +kernel, by decide +kernel⟩
def R_follow_none (ds : List Da) (r : Da) : Prop := ∃ (m : Nat) (ts : Ps), ds = [.tup (prs ts)] ∧ Sm m ts ∧ red m ts = ts ∧ r = .bl true
theorem ok_follow_none {P : Program} {w : World} {K : PySem.W.Frag} {mg : Str → Option Value} {base : Heap} (T : Tx K mg) : Cal P w K mg base 4 "follow_none" (spD R_follow_none) [] := T.ok 14 14 rfl rfl sc_follow_none (fun _ _ _ _ _ _ us hl => match us, hl with | [_], _ => rfl) (by rintro ds r h; obtain ⟨_, _, rfl, _⟩ := h; rfl) fun f cdv A outer s H E hr => ⟨_, (pss_one (ps_ret (pe_cmpR (k_eq K rfl hr.units) (pe_c (ok_ties_of T) hr (by decide) (by rfl) (pa_cons (pv 0) pa_nil)) (pv 0) (nomark _)))), fun ds r hR => by
  obtain ⟨m, ts, rfl, sm, e, rfl⟩ := hR
  exact sd_ret (eqv_selfD (ev_call (ea1 (ev_v 0)) ⟨m, ts, _, rfl, .inr rfl, sm, by rw [e]⟩) (ev_v 0) cmp_prs)⟩
/-- an order of few pieces -/
structure OS (m : Nat) (ts : Ps) : Prop where
 sm : Sm m ts
 red : red m ts = ts
theorem OS.asc {m : Nat} {ts : Ps} (h : OS m ts) : ascP ts = true := by
 have z := red_asc (m := m) (ps := ts)
 rw [h.red] at z
 unfold ascP
 rw [List.all_eq_true]
 intro k hk
 have hk : k < ts.length - 1 := by simpa using hk
 have w := List.pairwise_iff_getElem.mp z k (k + 1) (by omega) (by omega) (by omega)
 rw [List.getD_eq_getElem?_getD, List.getD_eq_getElem?_getD, List.getElem?_eq_getElem (by omega), List.getElem?_eq_getElem (by omega)]
 exact w
abbrev N_is_order : List Str := ["thing", "own"]
theorem sc_is_order : FnScope N_is_order ["thing"] (defScope s_is_order) := ⟨rfl, rfl, rfl, by decide +kernel, rfl, by decide +kernel, by decide +kernel⟩
def R_is_order (ds : List Da) (r : Da) : Prop := ∃ (m : Nat) (ts : Ps), ds = [od m ts] ∧ OS m ts ∧ r = .bl true
theorem ok_is_order {P : Program} {w : World} {K : PySem.W.Frag} {mg : Str → Option Value} {base : Heap} (T : Tx K mg) : Cal P w K mg base 5 "is_order" (spD R_is_order) [] := T.ok 15 15 rfl rfl sc_is_order (fun _ _ _ _ _ _ us hl => match us, hl with | [_], _ => rfl) (by rintro ds r h; obtain ⟨_, _, rfl, _⟩ := h; rfl) fun f cdv A outer s H E hr => ⟨_, (pss_cons (ps_if (PW.pt (pw_or (pt_not (pt_val (pe_c (ok_is_long T) hr (by decide) (by rfl) (pa_cons (pv 0) (pa_cons pe_int pa_nil))))) (pw_or (pt_not (pt_val (pe_c (ok_is_from T) hr (by decide) (by rfl) (pa_cons (pe_ix (k_ix K rfl) (pv 0) pe_int (fun _ _ => rfl)) (pa_cons pe_int pa_nil))))) (pw_or1 (pt_not (pt_val (pe_callB (k_isi K rfl) (by rfl) T.b_isinstance (by decide +kernel) (pa_cons (pe_ix (k_ix K rfl) (pv 0) pe_int (fun _ _ => rfl)) (pa_cons (pe_bltn (v := .ty "tuple") (by rfl) T.b_tuple (by decide +kernel) rfl) pa_nil))))))))) (pss_one (ps_ret pe_bl)) pss_nil) (pss_cons (ps_if (PW.pt (pw_or (pt_not (pt_val (pe_callB (k_all K rfl rfl) (by rfl) T.b_all (by decide +kernel) (pa_cons (pe_lc (own := [("own", 1)]) rfl sc_is_order.nd (k_seq K rfl (pe_ix (k_ix K rfl) (pv 0) pe_int (fun _ _ => rfl))) (blkOk_by (own := [("own", 1)]) (N := N_is_order) (sc := (defScope s_is_order)) (by decide +kernel)) (fun _ _ _ _ _ => (pg_name (i := 1) sc_is_order.nd rfl (Or.inl rfl))) (fun _ _ _ _ _ => pts_nil) (fun _ _ _ _ _ => (pe_c (ok_is_pair_of T) hr (by decide) (by rfl) (pa_cons (pe_ix (k_ix K rfl) (pv 0) pe_int (fun _ _ => rfl)) (pa_cons (pv 1) pa_nil))))) pa_nil)))) (pw_or1 (pt_not (pt_val (pe_c (ok_ascends T) hr (by decide) (by rfl) (pa_cons (pe_ix (k_ix K rfl) (pv 0) pe_int (fun _ _ => rfl)) pa_nil))))))) (pss_one (ps_ret pe_bl)) pss_nil) (pss_one (ps_ret (pe_c (ok_follow_none T) hr (by decide) (by rfl) (pa_cons (pe_ix (k_ix K rfl) (pv 0) pe_int (fun _ _ => rfl)) pa_nil)))))), fun ds r hR => by
  obtain ⟨m, ts, rfl, os, rfl⟩ := hR
  have u := os.sm.up
  have hl := os.sm.len
  refine sd_seq (sd_if (b := false) ((eb_or (a := false) (eb_not (eb_val ((ev_call (ea2 (ev_v 0) (ev_nat (i := 2))) ⟨_, 2, rfl, rfl⟩).to (f := .bl true) rfl))) fun _ => eb_or (a := false) (eb_not (eb_val ((ev_call (ea2 (ev_ixTN (i := 0) (ev_v 0) ev_nat rfl) (ev_int (i := 0))) ⟨_, _, rfl, rfl⟩).to (f := .bl true) (by simp)))) fun _ => eb_not (eb_val (ev_isi (b := true) (ev_ixTN (i := 1) (ev_v 0) ev_nat rfl) rfl)))) (fun z => nomatch z) fun _ => sd_next) ?_
  refine sd_seq (sd_if (b := false) (eb_or (a := false) (eb_not (eb_val ((ev_all (as := ts) (b := fun p => decide (p.1 < p.2) && decide (p.2 < m)) (el_map (as := ts) (en := pr) (fn := fun p => .bl (decide (p.1 < p.2) && decide (p.2 < m))) (ρ' := fun p => [some (od m ts), some (pr p)]) (ei_seqT (ev_ixTN (i := 1) (ev_v 0) ev_nat rfl)) (fun _ _ => tg_name) (fun p hp => ev_call (ea2 (ev_ixTN (i := 0) (ev_v 0) ev_nat rfl) (ev_v 1)) ⟨m, p, rfl, rfl⟩) (by omega)).toD).to (f := .bl true) ?_))) fun _ => eb_not (eb_val ((ev_call (ea1 (ev_ixTN (i := 1) (ev_v 0) ev_nat rfl)) ⟨_, rfl, by rw [List.length_map]; omega, .inr ⟨ts, rfl, rfl⟩⟩).to (f := .bl true) (by rw [os.asc])))) (fun z => nomatch z) fun _ => sd_next) ?_
  · congr 1
    rw [List.all_eq_true]
    intro p hp
    have := u p hp
    simp [this.1, this.2]
  exact sd_ret (ev_call (ea1 (ev_ixTN (i := 1) (ev_v 0) ev_nat rfl)) ⟨m, ts, rfl, os.sm, os.red, rfl⟩)⟩
/-- order data, soft or not -/
def IsOd (d : Da) (m : Nat) (ts : Ps) : Prop := d.fit 40 = true ∧ d.tpd 40 = od m ts ∧ OS m ts
abbrev N_sure_order : List Str := ["order", "own"]
theorem sc_sure_order : FnScope N_sure_order ["order"] (defScope s_sure_order) := ⟨rfl, rfl, rfl, by decide +kernel, rfl, by decide +kernel, by decide +kernel⟩
def R_sure_order (ds : List Da) (r : Da) : Prop := ∃ (m : Nat) (ts : Ps) (d : Da), ds = [d] ∧ IsOd d m ts ∧ r = od m ts
theorem ok_sure_order {P : Program} {w : World} {K : PySem.W.Frag} {mg : Str → Option Value} {base : Heap} (T : Tx K mg) : Cal P w K mg base 41 "sure_order" (spD R_sure_order) [] := T.ok 16 16 rfl rfl sc_sure_order (fun _ _ _ _ _ _ us hl => match us, hl with | [_], _ => rfl) (by rintro ds r h; obtain ⟨_, _, _, rfl, _⟩ := h; rfl) fun f cdv A outer s H E hr => ⟨_, (pss_cons (ps_set (i := 1) sc_sure_order.nd rfl (Or.inl rfl) (pe_c (ok_tupled T 40) hr (by decide) (by rfl) (pa_cons (pv 0) pa_nil))) (pss_cons (ps_if (pt_not (pt_val (pe_c (ok_is_order T) hr (by decide) (by rfl) (pa_cons (pv 1) pa_nil)))) (pss_one ps_never) pss_nil) (pss_one (ps_ret (pv 1))))), fun ds r hR => by
  obtain ⟨m, ts, d, rfl, h, rfl⟩ := hR
  refine sd_seq (sd_asg (ev_call (ea1 (ev_v 0)) ⟨d, rfl, h.1, rfl⟩)) ?_
  refine sd_seq (sd_if (b := false) (eb_not (a := true) (eb_val (ev_call (ea1 (ev_v 1)) ⟨m, ts, by rw [h.2.1], h.2.2, rfl⟩))) (fun z => nomatch z) fun _ => sd_next) ?_
  exact sd_ret ((ev_v 1).to h.2.1)⟩
end Mk
end

section
set_option Elab.async false
set_option linter.all false
set_option maxRecDepth 100000
set_option maxHeartbeats 2000000
namespace Mk
open PySem PySem.Spec PyProof.Rows L2
open Evl (Ex)
open C8 (Cal pe_c pe_gc)
def tts (fs : List (List Nat)) : Da := .tup (fs.map fun l => .tup (nats l))
theorem tts_at {fs : List (List Nat)} {i : Nat} (h : i < fs.length) : (fs.map fun l => Da.tup (nats l))[i]? = some (Da.tup (nats (gd fs i))) := map_at (f := fun l => Da.tup (nats l)) h
theorem pre_range {α : Type} {m : Nat} {f : Nat → α} {pre post : List α} {q : α} (e : (List.range m).map f = pre ++ q :: post) : pre.length < m ∧ pre = (List.range pre.length).map f ∧ q = f pre.length := by
 have hl : pre.length < m := by
   have := congrArg List.length e
   simp at this
   omega
 refine ⟨hl, ?_, ?_⟩
 · have z := congrArg (List.take pre.length) e
   rw [List.take_left, ← List.map_take, List.take_range, Nat.min_eq_left (by omega)] at z
   exact z.symm
 · have z := congrArg (fun l => l[pre.length]?) e
   simp only [List.getElem?_map] at z
   rw [List.getElem?_range hl, List.getElem?_append_right (Nat.le_refl _)] at z
   simp at z
   exact z.symm
abbrev N_ups_in : List Str := ["order", "row"]
theorem sc_ups_in : FnScope N_ups_in ["order"] (defScope s_ups_in) := ⟨rfl, rfl, rfl, by decide +kernel, rfl, by decide +kernel, by decide +kernel⟩
def R_ups_in (ds : List Da) (r : Da) : Prop := ∃ (m : Nat) (ts : Ps), ds = [od m ts] ∧ Sm m ts ∧ r = tts (upL m ts)
theorem ok_ups_in {P : Program} {w : World} {K : PySem.W.Frag} {mg : Str → Option Value} {base : Heap} (T : Tx K mg) : Cal P w K mg base 2 "ups_in" (spD R_ups_in) [] := T.ok 17 17 rfl rfl sc_ups_in (fun _ _ _ _ _ _ us hl => match us, hl with | [_], _ => rfl) (by rintro ds r h; obtain ⟨_, _, rfl, _⟩ := h; rfl) fun f cdv A outer s H E hr => ⟨_, (pss_one (ps_ret (pe_callTy (k_tuple K rfl) (by rfl) T.b_tuple (by decide +kernel) (pa_cons (pe_lc (own := [("row", 1)]) rfl sc_ups_in.nd (k_seq K rfl (pe_c (ok_ups_by T) hr (by decide) (by rfl) (pa_cons (pe_c (ok_directs_by T) hr (by decide) (by rfl) (pa_cons (pe_ix (k_ix K rfl) (pv 0) pe_int (fun _ _ => rfl)) (pa_cons (pe_ix (k_ix K rfl) (pv 0) pe_int (fun _ _ => rfl)) pa_nil))) pa_nil))) (blkOk_by (own := [("row", 1)]) (N := N_ups_in) (sc := (defScope s_ups_in)) (by decide +kernel)) (fun _ _ _ _ _ => (pg_name (i := 1) sc_ups_in.nd rfl (Or.inl rfl))) (fun _ _ _ _ _ => pts_nil) (fun _ _ _ _ _ => (pe_callTy (k_tuple K rfl) (by rfl) T.b_tuple (by decide +kernel) (pa_cons (pe_callB (call_sortedDI rfl) (by rfl) T.b_sorted (by decide +kernel) (pa_cons (pv 1) pa_nil)) pa_nil)))) pa_nil)))), fun ds r hR => by
  obtain ⟨m, ts, rfl, sm, rfl⟩ := hR
  have u := sm.up
  have hm := sm.m60
  have wb := wb_upK (m := m) (dirs m ts)
  refine sd_ret ((ev_cb (ea1 (EvL.toD (el_map (as := upK m (dirs m ts)) (en := fun l => .dic (kd l)) (fn := fun l => .tup (nats (srt m l))) (ρ' := fun l => [some (od m ts), some (.dic (kd l))]) (ei_seqL (ev_call (ea1 (ev_call (ea2 (ev_ixTN (i := 0) (ev_v 0) ev_nat rfl) (ev_ixTN (i := 1) (ev_v 0) ev_nat rfl)) ⟨m, ts, _, rfl, .inr rfl, sm, rfl⟩)) ⟨m, ts, rfl, sm, rfl⟩)) (fun _ _ => tg_name)
    (fun l hl => ?_) (by rw [wb.1]; omega)))) rc_tupL).to ?_)
  · have z := wb.mem hl
    exact ev_cb (ea1 (el_sortedK (ev_v 1) (by have := len_le z.1 z.2; omega) (srt_perm z.1 z.2) srt_asc).toD) rc_tupL
  · rw [tts, ← srt_upK u, List.map_map]
    rfl⟩
abbrev N_downs_in : List Str := ["order", "found", "low", "row", "piece", "_"]
theorem sc_downs_in : FnScope N_downs_in ["order"] (defScope s_downs_in) := ⟨rfl, rfl, rfl, by decide +kernel, rfl, by decide +kernel, by decide +kernel⟩
def R_downs_in (ds : List Da) (r : Da) : Prop := ∃ (m : Nat) (ts : Ps), ds = [od m ts] ∧ Sm m ts ∧ r = tts (dnL m ts)
theorem ok_downs_in {P : Program} {w : World} {K : PySem.W.Frag} {mg : Str → Option Value} {base : Heap} (T : Tx K mg) : Cal P w K mg base 3 "downs_in" (spD R_downs_in) [] := T.ok 18 18 rfl rfl sc_downs_in (fun _ _ _ _ _ _ us hl => match us, hl with | [_], _ => rfl) (by rintro ds r h; obtain ⟨_, _, rfl, _⟩ := h; rfl) fun f cdv A outer s H E hr => ⟨_, (pss_cons (ps_setLc (i := 1) (own := [("_", 5)]) rfl sc_downs_in.nd rfl rfl (sw_true rfl rfl rfl (by decide +kernel)) (pi_range1 rfl T.b_range (pa_cons (pe_ix (k_ix K rfl) (pv 0) pe_int (fun _ _ => rfl)) pa_nil)) (blkOk_by (own := [("_", 5)]) (N := N_downs_in) (sc := (defScope s_downs_in)) (by decide +kernel)) (fun _ _ _ _ _ => (pg_name (i := 5) sc_downs_in.nd rfl (Or.inl rfl))) (fun _ _ _ _ _ => pts_nil) (fun _ _ _ _ _ => (pe_lst pa_nil))) (pss_cons (ps_for PassesOwn.never rfl (k_enum K rfl (by rfl) T.b_enumerate (pa_cons (pe_c (ok_ups_in T) hr (by decide) (by rfl) (pa_cons (pv 0) pa_nil)) pa_nil)) (k_tup K (n := 2) rfl rfl (pgs_cons (pg_name (i := 2) sc_downs_in.nd rfl (Or.inl rfl)) (pgs_cons (pg_name (i := 3) sc_downs_in.nd rfl (Or.inl rfl)) pgs_nil))) (pss_one (ps_for PassesOwn.never rfl (k_seq K rfl (pv 3)) (pg_name (i := 4) sc_downs_in.nd rfl (Or.inl rfl)) (pss_one (ps_expr (pe_bm PySem.F.plainAttrs_list PySem.F.slot_list_append PySem.F.type_list_append mt_append (pe_ix (k_ix K rfl) (pv 1) (pv 4) (fun _ _ => rfl)) (pa_cons (pv 2) pa_nil))))))) (pss_one (ps_ret (pe_callTy (k_tuple K rfl) (by rfl) T.b_tuple (by decide +kernel) (pa_cons (pe_lc (own := [("row", 3)]) rfl sc_downs_in.nd (k_seq K rfl (pv 1)) (blkOk_by (own := [("row", 3)]) (N := N_downs_in) (sc := (defScope s_downs_in)) (by decide +kernel)) (fun _ _ _ _ _ => (pg_name (i := 3) sc_downs_in.nd rfl (Or.inl rfl))) (fun _ _ _ _ _ => pts_nil) (fun _ _ _ _ _ => (pe_callTy (k_tuple K rfl) (by rfl) T.b_tuple (by decide +kernel) (pa_cons (pv 3) pa_nil)))) pa_nil)))))), fun ds r hR => by
  obtain ⟨m, ts, rfl, sm, rfl⟩ := hR
  have u := sm.up
  have hm := sm.m60
  refine sd_seq (sd_asgLL (as := List.range m) (en := nat) ((ei_rng1 (n := (m : Int)) (ea1 (ev_ixTN (i := 0) (ev_v 0) ev_nat rfl)) (by omega) (by omega)).to (by simp)) (fun a _ => tg_name) (by simp; omega)) ?_
  refine sd_seq (sd_for (as := (upL m ts).zipIdx) (en := fun q => .tup [nat q.2, .tup (nats q.1)]) (S := fun _ => [some (od m ts), none, none, none, none, none]) (O := fun pre => .ll 1 ((pre.foldl vstep (List.replicate m [])).map nats)) (ρ' := fun _ q => [some (od m ts), none, some (nat q.2), some (.tup (nats q.1)), none, none])
    (ei_enum (as := upL m ts) (en := fun l => .tup (nats l)) (.inr (ev_call (ea1 (ev_v 0)) ⟨m, ts, rfl, sm, rfl⟩))) ⟨rfl, trivial⟩ (by simp) (fun _ p _ _ => tg_tup2) ?_ (hs2 (fun _ => slot_ne rfl rfl) fun _ => slot_ne rfl rfl)) ?_
  · intro pre q post e
    rw [zip_upL] at e
    obtain ⟨h1, h2, h3⟩ := pre_range e
    obtain ⟨v1, v2⟩ := vfold_at (m := m) (ps := ts) pre.length (by omega)
    rw [← h2] at v1 v2
    generalize hfs : pre.foldl vstep (List.replicate m []) = fs at v1 v2
    have hq1 : q.1 = up m ts pre.length := by rw [h3]
    have nd : q.1.Nodup := by rw [hq1]; exact up_nodup
    have lt : ∀ x ∈ q.1, x < m := by rw [hq1]; exact up_lt
    refine sd_fin (sd_for (as := q.1) (en := nat) (S := fun _ => [some (od m ts), none, some (nat q.2), some (.tup (nats q.1)), none, none]) (O := fun pre => .ll 1 ((pre.foldl (wstep q.2) fs).map nats)) (ρ' := fun _ h => [some (od m ts), none, some (nat q.2), some (.tup (nats q.1)), some (nat h), none])
      (ei_seqT (ev_v 3)) (Le.refl _) rfl (fun _ p _ _ => tg_name) ?_ (hs1 fun _ => slot_ne rfl rfl)) ⟨rfl, trivial⟩ ?_
    · intro pre2 h post2 e2
      have hh : h < m := lt h (by rw [e2]; simp)
      have nd2 : pre2.Nodup := by rw [e2] at nd; exact (List.nodup_append.mp nd).1
      have lt2 : ∀ x ∈ pre2, x < fs.length := fun x hx => by rw [v1]; exact lt x (by rw [e2]; simp [hx])
      have g1 := gd_wfold (q := q.2) (b := h) nd2 lt2
      have g2 := len_wfold (q := q.2) (l := pre2) (fs := fs)
      generalize hgs : pre2.foldl (wstep q.2) fs = gs at g1 g2
      have l1 : (gd gs h).length ≤ 61 := by
        rw [g1, v2, List.length_append]
        have a1 : ((List.range pre.length).filter fun a => decide (h ∈ up m ts a)).length ≤ pre.length := Nat.le_trans (List.length_filter_le _ _) (by simp)
        have a2 : (if h ∈ pre2 then [q.2] else []).length ≤ 1 := by split <;> simp
        omega
      refine sd_fin (sd_llApp (d := nat q.2) (ds := nats (gd gs h)) (ev_v 2) trivial (ev_v 4) (map_at (by omega)) (by rw [List.length_map]; omega)) ⟨rfl, rfl, rfl, trivial⟩ ?_
      rw [foldl_snoc, hgs]
      simp [wstep, List.map_set]
    · rw [foldl_snoc, hfs]
      rfl
  · have e := dnK_eq (m := m) (ps := ts)
    unfold dnK at e
    rw [e]
    refine sd_frz (sd_ret ((ev_cb (ea1 (EvL.toD (el_map (as := dnL m ts) (en := fun l => .lst (nats l)) (fn := fun l => .tup (nats l)) (ρ' := fun l => [some (od m ts), some (.lst (((dnL m ts).map nats).map .lst)), none, some (.lst (nats l)), none, none]) ((ei_seqL (ev_v 1)).to (by simp)) (fun _ _ => tg_name)
      (fun l hl => ev_cb (ea1 (ev_v 3)) rc_tupL) (by simp [dnL]; omega)))) rc_tupL).to rfl))⟩
abbrev N_pairs_in : List Str := ["order", "found", "low", "row", "high"]
theorem sc_pairs_in : FnScope N_pairs_in ["order"] (defScope s_pairs_in) := ⟨rfl, rfl, rfl, by decide +kernel, rfl, by decide +kernel, by decide +kernel⟩
def R_pairs_in (ds : List Da) (r : Da) : Prop := ∃ (m : Nat) (ts : Ps), ds = [od m ts] ∧ Sm m ts ∧ r = .lst (prs (prsIn m ts))
theorem ok_pairs_in {P : Program} {w : World} {K : PySem.W.Frag} {mg : Str → Option Value} {base : Heap} (T : Tx K mg) : Cal P w K mg base 3 "pairs_in" (spD R_pairs_in) [] := T.ok 19 19 rfl rfl sc_pairs_in (fun _ _ _ _ _ _ us hl => match us, hl with | [_], _ => rfl) (by rintro ds r h; obtain ⟨_, _, rfl, _⟩ := h; rfl) fun f cdv A outer s H E hr => ⟨_, (pss_cons (ps_set (i := 1) sc_pairs_in.nd rfl (Or.inl rfl) (pe_lst pa_nil)) (pss_cons (ps_for PassesOwn.never rfl (k_enum K rfl (by rfl) T.b_enumerate (pa_cons (pe_c (ok_ups_in T) hr (by decide) (by rfl) (pa_cons (pv 0) pa_nil)) pa_nil)) (k_tup K (n := 2) rfl rfl (pgs_cons (pg_name (i := 2) sc_pairs_in.nd rfl (Or.inr rfl)) (pgs_cons (pg_name (i := 3) sc_pairs_in.nd rfl (Or.inl rfl)) pgs_nil))) (pss_one (ps_expr (pe_bm PySem.F.plainAttrs_list PySem.F.slot_list_extend PySem.F.type_list_extend mt_extend (pv 1) (pa_cons (pe_lc (own := [("high", 4)]) rfl sc_pairs_in.nd (k_seq K rfl (pv 3)) (blkOk_by (own := [("high", 4)]) (N := N_pairs_in) (sc := (defScope s_pairs_in)) (by decide +kernel)) (fun _ _ _ _ _ => (pg_name (i := 4) sc_pairs_in.nd rfl (Or.inl rfl))) (fun _ _ _ _ _ => pts_one (pt_cmpR (k_ne K rfl hr.units) (pv 4) (pv 2) (nomark _))) (fun _ _ _ _ _ => (pe_tup (pa_cons (pv 2) (pa_cons (pv 4) pa_nil))))) pa_nil))))) (pss_one (ps_ret (pv 1))))), fun ds r hR => by
  obtain ⟨m, ts, rfl, sm, rfl⟩ := hR
  have u := sm.up
  have hm := sm.m60
  let F : List Nat × Nat → Ps := fun q => (q.1.filter fun b => !decide (b = q.2)).map fun b => (q.2, b)
  refine sd_seq (sd_asgL (el_lst ea_nil)) ?_
  refine sd_seq (sd_for (as := (upL m ts).zipIdx) (en := fun q => .tup [nat q.2, .tup (nats q.1)]) (S := fun _ => [some (od m ts), none, none, none, none]) (O := fun pre => .l 1 (prs (pre.flatMap F))) (ρ' := fun _ q => [some (od m ts), none, some (nat q.2), some (.tup (nats q.1)), none])
    (ei_enum (as := upL m ts) (en := fun l => .tup (nats l)) (.inr (ev_call (ea1 (ev_v 0)) ⟨m, ts, rfl, sm, rfl⟩))) ⟨rfl, trivial⟩ rfl (fun _ p _ _ => tg_tup2) ?_ (hs2 (fun _ => slot_ne rfl rfl) fun _ => slot_ne rfl rfl)) ?_
  · intro pre q post e
    rw [zip_upL] at e
    obtain ⟨h1, h2, h3⟩ := pre_range e
    have hq1 : q.1.length ≤ 60 := by rw [h3]; have := up_len (m := m) (ps := ts) (a := pre.length); simp; omega
    have hF : ∀ x ∈ pre, (F x).length ≤ 60 := fun x hx => by
      rw [h2] at hx
      obtain ⟨a, _, rfl⟩ := List.mem_map.mp hx
      refine Nat.le_trans (by simp only [F, List.length_map]; exact List.length_filter_le _ _) ?_
      have := up_len (m := m) (ps := ts) (a := a)
      simp
      omega
    have hz := flat_len hF
    have hFq : (F q).length ≤ 60 := Nat.le_trans (by simp only [F, List.length_map]; exact List.length_filter_le _ _) hq1
    refine sd_fin (sd_ext (es := prs (F q)) (EvD.to (el_lc (as := q.1) (en := nat) (p := fun b => !decide (b = q.2)) (fn := fun h => pr (q.2, h)) (ρ' := fun h => [some (od m ts), none, some (nat q.2), some (.tup (nats q.1)), some (nat h)])
      (ei_seqT (ev_v 3)) (fun _ _ => tg_name) (fun h hh => eb_val (ev_neAN (ev_v 4) (ev_v 2))) (fun h hh _ => ev_tup (ea2 (ev_v 2) (ev_v 4))) (by omega)).toD ?_) ?_) ⟨rfl, trivial⟩ ?_
    · simp [prs, F]
    · have : (prs (F q)).length ≤ 60 := by rw [List.length_map]; exact hFq
      have : (prs (pre.flatMap F)).length ≤ 3600 := by
        rw [List.length_map]
        omega
      omega
    · simp [prs, List.flatMap_append]
  · refine sd_frz (sd_ret ((ev_v 1).to ?_))
    rw [zip_upL, List.flatMap_map]
    rfl⟩
abbrev N_part_in : List Str := ["order", "pieces", "places", "kept", "place", "piece", "low", "high"]
theorem sc_part_in : FnScope N_part_in ["order", "pieces"] (defScope s_part_in) := ⟨rfl, rfl, rfl, by decide +kernel, rfl, by decide +kernel, by decide +kernel⟩
def R_part_in (ds : List Da) (r : Da) : Prop := ∃ (m : Nat) (ts : Ps) (pcs : List Nat), ds = [od m ts, .tup (nats pcs)] ∧ Sm m ts ∧ pcs.Pairwise (· < ·) ∧ (∀ x ∈ pcs, x < m) ∧ r = od pcs.length (red pcs.length (partP m ts pcs))
theorem ok_part_in {P : Program} {w : World} {K : PySem.W.Frag} {mg : Str → Option Value} {base : Heap} (T : Tx K mg) : Cal P w K mg base 5 "part_in" (spD R_part_in) [] := T.ok 20 20 rfl rfl sc_part_in (fun _ _ _ _ _ _ us hl => match us, hl with | [_, _], _ => rfl) (by rintro ds r h; obtain ⟨_, _, _, rfl, _⟩ := h; rfl) fun f cdv A outer s H E hr => ⟨_, (pss_cons (ps_set (i := 2) sc_part_in.nd rfl (Or.inr rfl) (pe_dc (own := [("place", 4), ("piece", 5)]) rfl sc_part_in.nd (k_enum K rfl (by rfl) T.b_enumerate (pa_cons (pv 1) pa_nil)) (blkOk_by (own := [("place", 4), ("piece", 5)]) (N := N_part_in) (sc := (defScope s_part_in)) (by decide +kernel)) (fun _ _ _ _ _ => (k_tup K (n := 2) rfl rfl (pgs_cons (pg_name (i := 4) sc_part_in.nd rfl (Or.inl rfl)) (pgs_cons (pg_name (i := 5) sc_part_in.nd rfl (Or.inl rfl)) pgs_nil)))) (fun _ _ _ _ _ => pts_nil) (fun _ _ _ _ _ => (pv 5)) (fun _ _ _ _ _ => (pv 4)))) (pss_cons (ps_setLc (i := 3) (own := [("low", 6), ("high", 7)]) rfl sc_part_in.nd rfl rfl (sw_true rfl rfl rfl (by decide +kernel)) (k_seq K rfl (pe_c (ok_pairs_in T) hr (by decide) (by rfl) (pa_cons (pv 0) pa_nil))) (blkOk_by (own := [("low", 6), ("high", 7)]) (N := N_part_in) (sc := (defScope s_part_in)) (by decide +kernel)) (fun _ _ _ _ _ => (k_tup K (n := 2) rfl rfl (pgs_cons (pg_name (i := 6) sc_part_in.nd rfl (Or.inl rfl)) (pgs_cons (pg_name (i := 7) sc_part_in.nd rfl (Or.inl rfl)) pgs_nil)))) (fun _ _ _ _ _ => pts_one (PW.pt (pw_and (pt_cmp (pc_din (hu_of hr) (pv 6) (pv 2))) (pw_and1 (pt_cmp (pc_din (hu_of hr) (pv 7) (pv 2))))))) (fun _ _ _ _ _ => (pe_tup (pa_cons (pv 6) (pa_cons (pv 7) pa_nil))))) (pss_one (ps_ret (pe_c (ok_by_pairs_in T) hr (by decide) (by rfl) (pa_cons (pe_callB (k_len K rfl) (by rfl) T.b_len (by decide +kernel) (pa_cons (pv 1) pa_nil)) (pa_cons (pe_lc (own := [("low", 6), ("high", 7)]) rfl sc_part_in.nd (k_seq K rfl (pv 3)) (blkOk_by (own := [("low", 6), ("high", 7)]) (N := N_part_in) (sc := (defScope s_part_in)) (by decide +kernel)) (fun _ _ _ _ _ => (k_tup K (n := 2) rfl rfl (pgs_cons (pg_name (i := 6) sc_part_in.nd rfl (Or.inl rfl)) (pgs_cons (pg_name (i := 7) sc_part_in.nd rfl (Or.inl rfl)) pgs_nil)))) (fun _ _ _ _ _ => pts_nil) (fun _ _ _ _ _ => (pe_tup (pa_cons (pe_dget (hu_of hr) (pv 2) (pv 6) (fun _ _ => rfl)) (pa_cons (pe_dget (hu_of hr) (pv 2) (pv 7) (fun _ _ => rfl)) pa_nil))))) pa_nil))))))), fun ds r hR => by
  obtain ⟨m, ts, pcs, rfl, sm, ha, hlt, rfl⟩ := hR
  have u := sm.up
  have hm := sm.m60
  have nd := row_nodup ha
  have hlen := len_le nd hlt
  have hmm : m * m ≤ 3600 := Nat.mul_le_mul hm hm
  have l1 := prsIn_len (m := m) (ps := ts)
  have l2 : (kept m ts pcs).length ≤ 3600 := Nat.le_trans (List.length_filter_le _ _) (by omega)
  have l3 := partP_len (m := m) (ps := ts) (l := pcs)
  refine sd_seq (sd_asg (d := .dic (plD pcs)) (ed_dc (as := pcs.zipIdx) (en := fun q => .tup [nat q.2, nat q.1]) (ρ' := fun q => [some (od m ts), some (.tup (nats pcs)), none, none, some (nat q.2), some (nat q.1), none, none]) (ei_enum (as := pcs) (en := nat) (.inr (ev_v 1))) (fun _ _ => tg_tup2) (fun q _ => ev_v 5) (fun q _ => ev_v 4) (by rw [List.length_zipIdx]; omega))) ?_
  have gt : ∀ (x : Nat), (dget (plD pcs) x).isSome = decide (x ∈ pcs) := fun x => by
    rw [plD_get nd]
    by_cases h : x ∈ pcs <;> simp [h]
  refine sd_seq (sd_asg (d := .lst (prs (kept m ts pcs))) (EvL.toD (el_lc (as := prsIn m ts) (en := pr) (p := fun p => decide (p.1 ∈ pcs) && decide (p.2 ∈ pcs)) (fn := pr) (ρ' := fun p => [some (od m ts), some (.tup (nats pcs)), some (.dic (plD pcs)), none, none, none, some (nat p.1), some (nat p.2)]) (ei_seqL (ev_call (ea1 (ev_v 0)) ⟨m, ts, rfl, sm, rfl⟩)) (fun _ _ => tg_tup2)
    (fun p _ => eb_and (eb_val ((ev_din (k := (p.1 : Int)) (ev_v 6) (ev_v 2)).to (by rw [gt]))) fun _ => eb_val ((ev_din (k := (p.2 : Int)) (ev_v 7) (ev_v 2)).to (by rw [gt]))) (fun p _ _ => ev_tup (ea2 (ev_v 6) (ev_v 7))) (by omega)))) ?_
  refine sd_ret (ev_call (ea2 ((ev_cb (ea1 (ev_v 1)) rc_lenT).to (by rw [List.length_map])) (EvD.to (el_map (as := kept m ts pcs) (en := pr) (fn := fun p => pr (pl pcs p.1, pl pcs p.2)) (ρ' := fun p => [some (od m ts), some (.tup (nats pcs)), some (.dic (plD pcs)), some (.lst (prs (kept m ts pcs))), none, none, some (nat p.1), some (nat p.2)]) (ei_seqL (ev_v 3)) (fun _ _ => tg_tup2) (fun p hp => ?_) (by omega)).toD ?_)) ⟨pcs.length, partP m ts pcs, _, rfl, .inl rfl, ⟨partP_up u ha, by omega, by omega⟩, rfl⟩)
  · have he := kept_ends p hp
    exact ev_tup (ea2 (ev_dget (k := (p.1 : Int)) (ev_v 2) (ev_v 6) (by rw [plD_get nd, if_pos he.1])) (ev_dget (k := (p.2 : Int)) (ev_v 2) (ev_v 7) (by rw [plD_get nd, if_pos he.2])))
  · simp [prs, partP, cps]⟩
abbrev N_are_pieces_in : List Str := ["order", "thing", "own"]
theorem sc_are_pieces_in : FnScope N_are_pieces_in ["order", "thing"] (defScope s_are_pieces_in) := ⟨rfl, rfl, rfl, by decide +kernel, rfl, by decide +kernel, by decide +kernel⟩
def R_are_pieces_in (ds : List Da) (r : Da) : Prop := ∃ (m : Nat) (ts : Ps) (pcs : List Nat), ds = [od m ts, .tup (nats pcs)] ∧ pcs.length ≤ 100000 ∧ (∀ x ∈ pcs, x < m) ∧ r = .bl true
theorem ok_are_pieces_in {P : Program} {w : World} {K : PySem.W.Frag} {mg : Str → Option Value} {base : Heap} (T : Tx K mg) : Cal P w K mg base 3 "are_pieces_in" (spD R_are_pieces_in) [] := T.ok 21 21 rfl rfl sc_are_pieces_in (fun _ _ _ _ _ _ us hl => match us, hl with | [_, _], _ => rfl) (by rintro ds r h; obtain ⟨_, _, _, rfl, _⟩ := h; rfl) fun f cdv A outer s H E hr => ⟨_, (pss_one (ps_ret (pe_and (pe_callB (k_isi K rfl) (by rfl) T.b_isinstance (by decide +kernel) (pa_cons (pv 1) (pa_cons (pe_bltn (v := .ty "tuple") (by rfl) T.b_tuple (by decide +kernel) rfl) pa_nil))) (pe_one (pe_callB (k_all K rfl rfl) (by rfl) T.b_all (by decide +kernel) (pa_cons (pe_lc (own := [("own", 2)]) rfl sc_are_pieces_in.nd (k_seq K rfl (pv 1)) (blkOk_by (own := [("own", 2)]) (N := N_are_pieces_in) (sc := (defScope s_are_pieces_in)) (by decide +kernel)) (fun _ _ _ _ _ => (pg_name (i := 2) sc_are_pieces_in.nd rfl (Or.inl rfl))) (fun _ _ _ _ _ => pts_nil) (fun _ _ _ _ _ => (pe_c (ok_is_within T) hr (by decide) (by rfl) (pa_cons (pv 2) (pa_cons pe_int (pa_cons (pe_op op_sub (pe_ix (k_ix K rfl) (pv 0) pe_int (fun _ _ => rfl)) pe_int) pa_nil)))))) pa_nil)))))), fun ds r hR => by
  obtain ⟨m, ts, pcs, rfl, hl, hlt, rfl⟩ := hR
  refine sd_ret ((ev_and (a := true) (ev_isi (ev_v 1) rfl) fun _ => ev_all (as := pcs) (b := fun _ => true) (EvL.toD (el_map (as := pcs) (en := nat) (fn := fun _ => .bl true) (ρ' := fun p => [some (od m ts), some (.tup (nats pcs)), some (nat p)]) (ei_seqT (ev_v 1)) (fun _ _ => tg_name) (fun p hp => (ev_call (ea3 (ev_v 2) (ev_int (i := 0)) (ev_sub (ev_ixTN (i := 0) (ev_v 0) ev_nat rfl) (ev_int (i := 1)))) ⟨_, _, _, rfl, rfl⟩).to ?_) hl))).to ?_)
  · have := hlt p hp
    have h1 : (0 : Int) ≤ (p : Int) := by omega
    have h2 : (p : Int) ≤ (m : Int) - 1 := by omega
    simp [h1, h2]
  · simp⟩
/-- a LEFT -/
structure Lf (m : Nat) (ts : Ps) (pcs : List Nat) : Prop where
 asc : pcs.Pairwise (· < ·)
 lt : ∀ x ∈ pcs, x < m
 dn : ∀ p ∈ ts, p.2 ∈ pcs → p.1 ∈ pcs
theorem asc_ints {l : List Nat} (h : l.Pairwise (· < ·)) : ascI (l.map Int.ofNat) = true := by
 unfold ascI
 rw [List.all_eq_true]
 intro k hk
 have hk : k < l.length - 1 := by simpa using hk
 have w := List.pairwise_iff_getElem.mp h k (k + 1) (by omega) (by omega) (by omega)
 rw [List.getD_eq_getElem?_getD, List.getD_eq_getElem?_getD, List.getElem?_map, List.getElem?_map, List.getElem?_eq_getElem (by omega), List.getElem?_eq_getElem (by omega)]
 exact decide_eq_true (Int.ofNat_lt.mpr w)
abbrev N_is_left_in : List Str := ["order", "thing", "low", "high"]
theorem sc_is_left_in : FnScope N_is_left_in ["order", "thing"] (defScope s_is_left_in) := ⟨rfl, rfl, rfl, by decide +kernel, rfl, by decide +kernel, by decide +kernel⟩
def R_is_left_in (ds : List Da) (r : Da) : Prop := ∃ (m : Nat) (ts : Ps) (pcs : List Nat), ds = [od m ts, .tup (nats pcs)] ∧ m ≤ 60 ∧ ts.length ≤ 10000 ∧ Lf m ts pcs ∧ r = .bl true
theorem ok_is_left_in {P : Program} {w : World} {K : PySem.W.Frag} {mg : Str → Option Value} {base : Heap} (T : Tx K mg) : Cal P w K mg base 4 "is_left_in" (spD R_is_left_in) [] := T.ok 22 22 rfl rfl sc_is_left_in (fun _ _ _ _ _ _ us hl => match us, hl with | [_, _], _ => rfl) (by rintro ds r h; obtain ⟨_, _, _, rfl, _⟩ := h; rfl) fun f cdv A outer s H E hr => ⟨_, (pss_cons (ps_if (PW.pt (pw_or (pt_not (pt_val (pe_c (ok_are_pieces_in T) hr (by decide) (by rfl) (pa_cons (pv 0) (pa_cons (pv 1) pa_nil))))) (pw_or1 (pt_not (pt_val (pe_c (ok_ascends T) hr (by decide) (by rfl) (pa_cons (pv 1) pa_nil))))))) (pss_one (ps_ret pe_bl)) pss_nil) (pss_one (ps_ret (pe_callB (k_all K rfl rfl) (by rfl) T.b_all (by decide +kernel) (pa_cons (pe_lc (own := [("low", 2), ("high", 3)]) rfl sc_is_left_in.nd (k_seq K rfl (pe_ix (k_ix K rfl) (pv 0) pe_int (fun _ _ => rfl))) (blkOk_by (own := [("low", 2), ("high", 3)]) (N := N_is_left_in) (sc := (defScope s_is_left_in)) (by decide +kernel)) (fun _ _ _ _ _ => (k_tup K (n := 2) rfl rfl (pgs_cons (pg_name (i := 2) sc_is_left_in.nd rfl (Or.inl rfl)) (pgs_cons (pg_name (i := 3) sc_is_left_in.nd rfl (Or.inl rfl)) pgs_nil)))) (fun _ _ _ _ _ => pts_one (pt_cmpR (k_in K rfl) (pv 3) (pv 1) (by rfl))) (fun _ _ _ _ _ => (pe_cmpR (k_in K rfl) (pv 2) (pv 1) (by rfl)))) pa_nil))))), fun ds r hR => by
  obtain ⟨m, ts, pcs, rfl, hm, hl, lf, rfl⟩ := hR
  have hlen := len_le (row_nodup lf.asc) lf.lt
  refine sd_seq (sd_if (b := false) (eb_or (a := false) (eb_not (a := true) (eb_val (ev_call (ea2 (ev_v 0) (ev_v 1)) ⟨m, ts, pcs, rfl, by omega, lf.lt, rfl⟩))) fun _ => eb_not (a := true) (eb_val (ev_call (ea1 (ev_v 1)) ⟨_, rfl, by rw [List.length_map]; omega, .inl ⟨pcs.map Int.ofNat, nats_ints pcs, by rw [asc_ints lf.asc]⟩⟩))) (fun z => nomatch z) fun _ => sd_next) ?_
  refine sd_ret ((ev_all (as := ts.filter fun p => decide (p.2 ∈ pcs)) (b := fun _ => true) (EvL.toD (el_lc (as := ts) (en := pr) (p := fun p => decide (p.2 ∈ pcs)) (fn := fun _ => .bl true) (ρ' := fun p => [some (od m ts), some (.tup (nats pcs)), some (nat p.1), some (nat p.2)]) (ei_seqT (ev_ixTN (i := 1) (ev_v 0) ev_nat rfl)) (fun _ _ => tg_tup2) (fun p _ => eb_val (ev_inTN (ev_v 3) (ev_v 1))) (fun p hp hx => (ev_inTN (ev_v 2) (ev_v 1)).to ?_) (by omega)))).to ?_)
  · have h1 := lf.dn p hp (by simpa using hx)
    simp [h1]
  · simp⟩
abbrev N_sure_left : List Str := ["order", "left", "own"]
theorem sc_sure_left : FnScope N_sure_left ["order", "left"] (defScope s_sure_left) := ⟨rfl, rfl, rfl, by decide +kernel, rfl, by decide +kernel, by decide +kernel⟩
def R_sure_left (ds : List Da) (r : Da) : Prop := ∃ (m : Nat) (ts : Ps) (pcs : List Nat) (d : Da), ds = [od m ts, d] ∧ m ≤ 60 ∧ ts.length ≤ 10000 ∧ Lf m ts pcs ∧ d.fit 40 = true ∧ d.tpd 40 = .tup (nats pcs) ∧ r = .tup (nats pcs)
theorem ok_sure_left {P : Program} {w : World} {K : PySem.W.Frag} {mg : Str → Option Value} {base : Heap} (T : Tx K mg) : Cal P w K mg base 41 "sure_left" (spD R_sure_left) [] := T.ok 23 23 rfl rfl sc_sure_left (fun _ _ _ _ _ _ us hl => match us, hl with | [_, _], _ => rfl) (by rintro ds r h; obtain ⟨_, _, _, _, rfl, _⟩ := h; rfl) fun f cdv A outer s H E hr => ⟨_, (pss_cons (ps_set (i := 2) sc_sure_left.nd rfl (Or.inl rfl) (pe_c (ok_tupled T 40) hr (by decide) (by rfl) (pa_cons (pv 1) pa_nil))) (pss_cons (ps_if (pt_not (pt_val (pe_c (ok_is_left_in T) hr (by decide) (by rfl) (pa_cons (pv 0) (pa_cons (pv 2) pa_nil))))) (pss_one ps_never) pss_nil) (pss_one (ps_ret (pv 2))))), fun ds r hR => by
  obtain ⟨m, ts, pcs, d, rfl, hm, hl, lf, h1, h2, rfl⟩ := hR
  refine sd_seq (sd_asg (ev_call (ea1 (ev_v 1)) ⟨d, rfl, h1, rfl⟩)) ?_
  refine sd_seq (sd_if (b := false) (eb_not (a := true) (eb_val (ev_call (ea2 (ev_v 0) (ev_v 2)) ⟨m, ts, pcs, by rw [h2], hm, hl, lf, rfl⟩))) (fun z => nomatch z) fun _ => sd_next) ?_
  exact sd_ret ((ev_v 2).to h2)⟩
def bite (m : Nat) (ts : Ps) (pcs : List Nat) (p : Nat) : List Nat := pcs.filter fun x => !decide (x ∈ up m ts p)
abbrev N_bitten_in : List Str := ["order", "left", "piece", "gone", "own"]
theorem sc_bitten_in : FnScope N_bitten_in ["order", "left", "piece"] (defScope s_bitten_in) := ⟨rfl, rfl, rfl, by decide +kernel, rfl, by decide +kernel, by decide +kernel⟩
def R_bitten_in (ds : List Da) (r : Da) : Prop := ∃ (m : Nat) (ts : Ps) (pcs : List Nat) (p : Nat), ds = [od m ts, .tup (nats pcs), nat p] ∧ Sm m ts ∧ pcs.length ≤ 1000 ∧ p < m ∧ r = .tup (nats (bite m ts pcs p))
theorem ok_bitten_in {P : Program} {w : World} {K : PySem.W.Frag} {mg : Str → Option Value} {base : Heap} (T : Tx K mg) : Cal P w K mg base 3 "bitten_in" (spD R_bitten_in) [] := T.ok 24 24 rfl rfl sc_bitten_in (fun _ _ _ _ _ _ us hl => match us, hl with | [_, _, _], _ => rfl) (by rintro ds r h; obtain ⟨_, _, _, _, rfl, _⟩ := h; rfl) fun f cdv A outer s H E hr => ⟨_, (pss_cons (ps_set (i := 3) sc_bitten_in.nd rfl (Or.inr rfl) (pe_ix (k_ix K rfl) (pe_c (ok_ups_in T) hr (by decide) (by rfl) (pa_cons (pv 0) pa_nil)) (pv 2) (fun _ _ => rfl))) (pss_one (ps_ret (pe_callTy (k_tuple K rfl) (by rfl) T.b_tuple (by decide +kernel) (pa_cons (pe_lc (own := [("own", 4)]) rfl sc_bitten_in.nd (k_seq K rfl (pv 1)) (blkOk_by (own := [("own", 4)]) (N := N_bitten_in) (sc := (defScope s_bitten_in)) (by decide +kernel)) (fun _ _ _ _ _ => (pg_name (i := 4) sc_bitten_in.nd rfl (Or.inl rfl))) (fun _ _ _ _ _ => pts_one (pt_cmpR (k_ni K rfl) (pv 4) (pv 3) (by rfl))) (fun _ _ _ _ _ => (pv 4))) pa_nil))))), fun ds r hR => by
  obtain ⟨m, ts, pcs, p, rfl, sm, hl, hp, rfl⟩ := hR
  refine sd_seq (sd_asg (d := .tup (nats (up m ts p))) (ev_ixTN (i := p) (ev_call (ea1 (ev_v 0)) ⟨m, ts, rfl, sm, rfl⟩) (ev_v 2) ((tts_at (by simp [upL]; exact hp)).trans (by rw [upL, gd_map hp])))) ?_
  exact sd_ret (ev_cb (ea1 (EvL.toD (el_lc (as := pcs) (en := nat) (p := fun x => !decide (x ∈ up m ts p)) (fn := nat) (ρ' := fun x => [some (od m ts), some (.tup (nats pcs)), some (nat p), some (.tup (nats (up m ts p))), some (nat x)]) (ei_seqT (ev_v 1)) (fun _ _ => tg_name) (fun x _ => eb_val (ev_niTN (ev_v 4) (ev_v 3))) (fun x _ _ => ev_v 4) (by omega)))) rc_tupL)⟩
end Mk
end

section
set_option Elab.async false
set_option linter.all false
/-! pieces as bits; worths -/
namespace Mk
def bs (l : List Nat) : Nat := (l.map fun p => 2 ^ p).sum
def mns (b t : Nat) : Nat := b - (b &&& t)
abbrev gN (fs : List Nat) (i : Nat) : Nat := fs.getD i 0
def tstep (fs : List Nat) (p : Nat × Nat) : List Nat := fs.set p.1 (gN fs p.1 ||| gN fs p.2)
def topK (m : Nat) (ts : Ps) : List Nat := ts.reverse.foldl tstep ((List.range m).map fun k => 2 ^ k)
def tops (m : Nat) (ts : Ps) : List Nat := (List.range m).map fun a => bs (up m ts a)
section
variable {m : Nat} {ts : Ps} {l k : List Nat} {a b c p q x y : Nat}
theorem bs_snoc : bs (l ++ [p]) = bs l + 2 ^ p := by simp [bs]
theorem rev_ind {P : List Nat → Prop} (h0 : P []) (h1 : ∀ l p, P l → P (l ++ [p])) : ∀ l, P l := fun l => by
  have : ∀ r : List Nat, P r.reverse := fun r => by
    induction r with
    | nil => exact h0
    | cons p r ih => rw [List.reverse_cons]; exact h1 _ _ ih
  have z := this l.reverse
  rwa [List.reverse_reverse] at z
theorem bs_lt : ∀ {l : List Nat} {n : Nat}, l.Pairwise (· < ·) → (∀ x ∈ l, x < n) → bs l < 2 ^ n := fun {l} => by
  refine rev_ind (P := fun l => ∀ {n : Nat}, l.Pairwise (· < ·) → (∀ x ∈ l, x < n) → bs l < 2 ^ n) ?_ ?_ l
  · intro n _ _
    simp [bs]
    exact Nat.two_pow_pos n
  · intro l p ih n h k
    have h' := List.pairwise_append.mp h
    rw [bs_snoc]
    have h1 := ih (n := p) h'.1 fun x hx => h'.2.2 x hx p (by simp)
    have h2 := k p (by simp)
    have h3 : 2 ^ (p + 1) ≤ 2 ^ n := Nat.pow_le_pow_right (by omega) (by omega)
    rw [Nat.pow_succ] at h3
    omega
theorem tb_bs : ∀ {l : List Nat}, l.Pairwise (· < ·) → ∀ q, (bs l).testBit q = decide (q ∈ l) := fun {l} => by
  refine rev_ind (P := fun l => l.Pairwise (· < ·) → ∀ q, (bs l).testBit q = decide (q ∈ l)) ?_ ?_ l
  · intro _ q; simp [bs]
  · intro l p ih h q
    have h' := List.pairwise_append.mp h
    have h1 := bs_lt (n := p) h'.1 fun x hx => h'.2.2 x hx p (by simp)
    have e : bs l + 2 ^ p = 2 ^ p * 1 + bs l := by omega
    rw [bs_snoc, e, Nat.testBit_two_pow_mul_add _ h1, ih h'.1]
    have hp : ∀ x ∈ l, x < p := fun x hx => h'.2.2 x hx p (by simp)
    by_cases hq : q < p
    · rw [if_pos hq]
      have : q ≠ p := by omega
      simp [this]
    · rw [if_neg hq]
      by_cases e2 : q = p
      · subst e2
        simp
      · have n1 : q ∉ l := fun z => by have := hp q z; omega
        have n2 : q - p ≠ 0 := by omega
        have : Nat.testBit 1 (q - p) = false := by
          rw [Bool.eq_false_iff]
          intro z
          exact n2 (Nat.testBit_one_eq_true_iff_self_eq_zero.mp z)
        simp [this, n1, e2]
theorem tb_mns : (mns b x).testBit q = (b.testBit q && !x.testBit q) := by
  unfold mns
  induction q generalizing b x with
  | zero =>
    have h1 : (b &&& x) % 2 = (b % 2) * (x % 2) := by
      have := Nat.testBit_and b x 0
      simp only [Nat.testBit_zero] at this
      have a1 := Nat.mod_two_eq_zero_or_one b
      have a2 := Nat.mod_two_eq_zero_or_one x
      have a3 := Nat.mod_two_eq_zero_or_one (b &&& x)
      rcases a1 with a1 | a1 <;> rcases a2 with a2 | a2 <;> rcases a3 with a3 | a3 <;> simp_all
    have h2 : b &&& x ≤ b := Nat.and_le_left
    simp only [Nat.testBit_zero]
    have a1 := Nat.mod_two_eq_zero_or_one b
    have a2 := Nat.mod_two_eq_zero_or_one x
    rcases a1 with a1 | a1 <;> rcases a2 with a2 | a2 <;> rw [a1, a2] at h1 <;> simp [a1, a2] <;> omega
  | succ q ih =>
    have h1 : (b &&& x) / 2 = b / 2 &&& x / 2 := Nat.and_div_two
    have h2 : b &&& x ≤ b := Nat.and_le_left
    have h3 : (b &&& x) % 2 ≤ b % 2 := by
      have := Nat.testBit_and b x 0
      simp only [Nat.testBit_zero] at this
      have a1 := Nat.mod_two_eq_zero_or_one b
      have a3 := Nat.mod_two_eq_zero_or_one (b &&& x)
      rcases a1 with a1 | a1
      · rcases a3 with a3 | a3
        · omega
        · simp [a1, a3] at this
      · omega
    have e : (b - (b &&& x)) / 2 = b / 2 - (b / 2 &&& x / 2) := by omega
    rw [Nat.testBit_succ, Nat.testBit_succ, Nat.testBit_succ, e, ih]
theorem mns_lt (h : b.testBit p = true) (k : x.testBit p = true) : mns b x < b := by
  unfold mns
  have h2 : b &&& x ≤ b := Nat.and_le_left
  have h3 : b &&& x ≠ 0 := fun z => by
    have := Nat.testBit_and b x p
    rw [z, h, k] at this
    simp at this
  omega
theorem mns_le : mns b x ≤ b := Nat.sub_le _ _
/-! tops -/
theorem reach_cons {s : Ps} {p : Nat × Nat} (u : Up m (p :: s)) : Reach (p :: s) a b ↔ Reach s a b ∨ (Reach s a p.1 ∧ Reach s p.2 b) := by
  have us : Up m s := fun q hq => u q (List.mem_cons_of_mem _ hq)
  have hp := u p List.mem_cons_self
  constructor
  · intro h
    induction h with
    | refl => exact .inl (.refl _)
    | @step a x c e _ ih =>
      rcases List.mem_cons.mp e with e | e
      · subst e
        rcases ih with ih | ⟨i1, i2⟩
        · exact .inr ⟨.refl _, ih⟩
        · exact .inr ⟨.refl _, i2⟩
      · rcases ih with ih | ⟨i1, i2⟩
        · exact .inl (.step e ih)
        · exact .inr ⟨.step e i1, i2⟩
  · have w : ∀ {a b}, Reach s a b → Reach (p :: s) a b := fun h => by
      induction h with
      | refl => exact .refl _
      | step e _ ih => exact .step (List.mem_cons_of_mem _ e) ih
    rintro (h | ⟨h1, h2⟩)
    · exact w h
    · exact (w h1).trans (.step (b := p.2) List.mem_cons_self (w h2))
theorem gN_set {fs : List Nat} {v : Nat} (h : a < fs.length) : gN (fs.set a v) b = if b = a then v else gN fs b := by
  unfold gN
  rw [List.getD_eq_getElem?_getD, List.getD_eq_getElem?_getD, List.getElem?_set]
  by_cases e : b = a
  · subst e
    simp [h]
  · rw [if_neg (Ne.symm e), if_neg e]
theorem gN_map {f : Nat → Nat} (h : a < m) : gN ((List.range m).map f) a = f a := by
  unfold gN
  rw [List.getD_eq_getElem?_getD, List.getElem?_map, List.getElem?_range h]
  rfl
theorem topK_at : ∀ {s : Ps}, Up m s → (s.Pairwise fun p q => plt p q = true) → ((s.foldr (fun p fs => tstep fs p) ((List.range m).map fun k => 2 ^ k)).length = m ∧
    ∀ a, a < m → ∀ q, (gN (s.foldr (fun p fs => tstep fs p) ((List.range m).map fun k => 2 ^ k)) a).testBit q = true ↔ Reach s a q) := fun {s} => by
  induction s with
  | nil =>
    intro _ _
    refine ⟨by simp, fun a ha q => ?_⟩
    rw [List.foldr_nil, gN_map ha, Nat.testBit_two_pow, decide_eq_true_iff]
    constructor
    · intro e; exact e ▸ .refl _
    · intro h
      cases h with
      | refl => rfl
      | step e _ => cases e
  | cons p s ih =>
    intro u hs
    have us : Up m s := fun q hq => u q (List.mem_cons_of_mem _ hq)
    have hp := u p List.mem_cons_self
    have hs' := List.pairwise_cons.mp hs
    obtain ⟨h1, h2⟩ := ih us hs'.2
    rw [List.foldr_cons]
    generalize s.foldr (fun p fs => tstep fs p) ((List.range m).map fun k => 2 ^ k) = fs at h1 h2
    refine ⟨by simp [tstep, h1], fun a ha q => ?_⟩
    unfold tstep
    rw [gN_set (by omega), reach_cons u]
    have key : Reach s a p.1 → a = p.1 := fun r => Classical.byContradiction fun ne => by
      obtain ⟨c, c1, c2⟩ := r.last ne
      have z := plt_iff.mp (hs'.1 _ c2)
      have := us _ c2
      simp at z this
      omega
    by_cases e : a = p.1
    · subst e
      rw [if_pos rfl, Nat.testBit_or, Bool.or_eq_true_iff, h2 _ ha, h2 _ (by omega)]
      constructor
      · rintro (h | h)
        · exact .inl h
        · exact .inr ⟨.refl _, h⟩
      · rintro (h | ⟨_, h⟩)
        · exact .inl h
        · exact .inr h
    · rw [if_neg e, h2 _ ha]
      constructor
      · exact .inl
      · rintro (h | ⟨h, _⟩)
        · exact h
        · exact absurd (key h) e
theorem topK_eq (u : Up m ts) (hs : ts.Pairwise fun p q => plt p q = true) : topK m ts = tops m ts := by
  unfold topK
  rw [List.foldl_reverse]
  obtain ⟨h1, h2⟩ := topK_at u hs
  refine List.ext_getElem (by rw [h1]; simp [tops]) fun i i1 i2 => ?_
  rw [h1] at i1
  have z : gN (ts.foldr (fun p fs => tstep fs p) ((List.range m).map fun k => 2 ^ k)) i = bs (up m ts i) := by
    refine Nat.eq_of_testBit_eq fun q => ?_
    rw [tb_bs up_asc, Bool.eq_iff_iff, h2 i i1 q, decide_eq_true_iff, mem_up u]
    refine ⟨fun h => ⟨?_, h⟩, fun h => h.2⟩
    by_cases e : i = q
    · omega
    · exact h.bd u e
  unfold gN at z
  rw [List.getD_eq_getElem?_getD, List.getElem?_eq_getElem (by rw [h1]; exact i1)] at z
  simp only [tops, List.getElem_map, List.getElem_range]
  exact z
/-! lefts -/
def und (ts : Ps) (k : Nat) : Nat := bs ((ts.filter fun p => decide (p.2 = k)).map (·.1))
def lstep (ts : Ps) (fs : List Nat) (k : Nat) : List Nat := fs ++ (fs.filter fun b => decide (b &&& und ts k = und ts k)).map fun b => b ||| 2 ^ k
def lf (m : Nat) (ts : Ps) : List Nat := (List.range m).foldl (lstep ts) [0]
/-- closed downwards among the first k -/
def Cl (ts : Ps) (k b : Nat) : Prop := b < 2 ^ k ∧ ∀ p ∈ ts, b.testBit p.2 = true → b.testBit p.1 = true
theorem lows_asc (hs : ts.Pairwise fun p q => plt p q = true) : ((ts.filter fun p => decide (p.2 = c)).map (·.1)).Pairwise (· < ·) := by
  rw [List.pairwise_map]
  refine List.Pairwise.imp_of_mem (fun {p q} hp hq h => ?_) (hs.filter _)
  have h1 : p.2 = c := by simpa using (List.mem_filter.mp hp).2
  have h2 : q.2 = c := by simpa using (List.mem_filter.mp hq).2
  rcases plt_iff.mp h with h | ⟨_, h⟩
  · exact h
  · omega
theorem und_iff (hs : ts.Pairwise fun p q => plt p q = true) : b &&& und ts c = und ts c ↔ ∀ p ∈ ts, p.2 = c → b.testBit p.1 = true := by
  have tb : ∀ q, (und ts c).testBit q = true ↔ (q, c) ∈ ts := fun q => by
    unfold und
    rw [tb_bs (lows_asc hs), decide_eq_true_iff, List.mem_map]
    constructor
    · rintro ⟨⟨x, y⟩, h, rfl⟩
      have := List.mem_filter.mp h
      have e : y = c := by simpa using this.2
      subst e
      exact this.1
    · intro h
      exact ⟨(q, c), List.mem_filter.mpr ⟨h, by simp⟩, rfl⟩
  constructor
  · intro h p hp e
    have z := congrArg (fun n => n.testBit p.1) h
    simp only [Nat.testBit_and] at z
    have t := (tb p.1).mpr (by rw [← e]; exact hp)
    rw [t] at z
    simpa using z
  · intro h
    refine Nat.eq_of_testBit_eq fun q => ?_
    rw [Nat.testBit_and]
    cases t : (und ts c).testBit q with
    | false => simp
    | true =>
      have := h _ ((tb q).mp t) rfl
      simp at this
      simp [this]
theorem or_lt (h : b < 2 ^ c) : b ||| 2 ^ c = 2 ^ c + b := by
  rw [Nat.or_comm]
  have := Nat.two_pow_add_eq_or_of_lt h 1
  simpa using this.symm
theorem tb_or (h : b < 2 ^ c) : (b ||| 2 ^ c).testBit q = (decide (q = c) || b.testBit q) := by
  rw [Nat.testBit_or, Nat.testBit_two_pow, Bool.or_comm]
  congr 1
  exact decide_eq_decide.mpr eq_comm
theorem tb_big (h : b < 2 ^ c) (k : c ≤ q) : b.testBit q = false := Nat.testBit_lt_two_pow (Nat.lt_of_lt_of_le h (Nat.pow_le_pow_right (by omega) k))
theorem lf_at (u : Up m ts) (hs : ts.Pairwise fun p q => plt p q = true) : ∀ n, (((List.range n).foldl (lstep ts) [0]).Pairwise (· < ·) ∧ ((List.range n).foldl (lstep ts) [0]).length ≤ 2 ^ n ∧ ∀ b, b ∈ (List.range n).foldl (lstep ts) [0] ↔ Cl ts n b) := by
  intro n
  induction n with
  | zero =>
    refine ⟨by simp, by simp, fun b => ?_⟩
    unfold Cl
    simp only [List.range_zero, List.foldl_nil, List.mem_singleton]
    refine ⟨fun h => ?_, fun h => by have := h.1; omega⟩
    subst h
    exact ⟨by decide, fun p _ z => by simp at z⟩
  | succ n ih =>
    rw [List.range_succ, List.foldl_append]
    obtain ⟨h1, h2, h3⟩ := ih
    generalize (List.range n).foldl (lstep ts) [0] = fs at h1 h2 h3
    show (lstep ts fs n).Pairwise _ ∧ (lstep ts fs n).length ≤ _ ∧ ∀ b, b ∈ lstep ts fs n ↔ _
    unfold lstep
    have hlt : ∀ x ∈ fs, x < 2 ^ n := fun x hx => ((h3 x).mp hx).1
    refine ⟨List.pairwise_append.mpr ⟨h1, ?_, ?_⟩, ?_, ?_⟩
    · rw [List.pairwise_map]
      refine List.Pairwise.imp_of_mem (fun {p q} hp hq h => ?_) (h1.filter _)
      rw [or_lt (hlt _ (List.mem_filter.mp hp).1), or_lt (hlt _ (List.mem_filter.mp hq).1)]
      omega
    · intro a ha b hb
      obtain ⟨c, hc, rfl⟩ := List.mem_map.mp hb
      rw [or_lt (hlt _ (List.mem_filter.mp hc).1)]
      have := hlt a ha
      omega
    · rw [List.length_append, List.length_map, Nat.pow_succ]
      have := List.length_filter_le (fun b => decide (b &&& und ts n = und ts n)) fs
      omega
    · intro b
      rw [List.mem_append, h3, List.mem_map]
      constructor
      · rintro (h | ⟨c, hc, rfl⟩)
        · exact ⟨Nat.lt_of_lt_of_le h.1 (Nat.pow_le_pow_right (by omega) (by omega)), h.2⟩
        · have hc' := List.mem_filter.mp hc
          have cl := (h3 c).mp hc'.1
          have hu := (und_iff hs).mp (by simpa using hc'.2)
          refine ⟨by rw [or_lt cl.1, Nat.pow_succ]; have := cl.1; omega, fun p hp h => ?_⟩
          rw [tb_or cl.1] at h ⊢
          rcases Bool.or_eq_true_iff.mp h with h | h
          · rw [hu p hp (by simpa using h), Bool.or_true]
          · rw [cl.2 p hp h, Bool.or_true]
      · rintro ⟨h, k⟩
        by_cases t : b.testBit n = true
        · right
          have hb : b % 2 ^ n < 2 ^ n := Nat.mod_lt _ (Nat.two_pow_pos n)
          have tbm : ∀ q, (b % 2 ^ n).testBit q = (decide (q < n) && b.testBit q) := fun q => Nat.testBit_mod_two_pow b n q
          refine ⟨b % 2 ^ n, List.mem_filter.mpr ⟨(h3 _).mpr ⟨hb, fun p hp h' => ?_⟩, ?_⟩, ?_⟩
          · rw [tbm] at h' ⊢
            have z := Bool.and_eq_true_iff.mp h'
            have hlt := (u p hp).1
            have : p.2 < n := by simpa using z.1
            rw [k p hp z.2, decide_eq_true (by omega)]
            rfl
          · rw [decide_eq_true_iff, und_iff hs]
            intro p hp e
            rw [tbm, k p hp (by rw [e]; exact t), decide_eq_true (by have := (u p hp).1; omega)]
            rfl
          · refine Nat.eq_of_testBit_eq fun q => ?_
            rw [tb_or hb, tbm]
            by_cases e : q = n
            · subst e
              simp [t]
            · by_cases e2 : q < n
              · simp [e, e2]
              · have : b.testBit q = false := tb_big h (by omega)
                simp [e, this]
        · left
          refine ⟨?_, k⟩
          refine Nat.lt_of_not_le fun z => t ?_
          rw [Nat.pow_succ] at h
          have e : b = 2 ^ n + (b - 2 ^ n) := by omega
          rw [e, Nat.testBit_two_pow_add_eq]
          rw [tb_big (c := n) (by omega) (Nat.le_refl _)]
          rfl
theorem mem_lf (u : Up m ts) (hs : ts.Pairwise fun p q => plt p q = true) : b ∈ lf m ts ↔ Cl ts m b := (lf_at u hs m).2.2 b
theorem lf_asc (u : Up m ts) (hs : ts.Pairwise fun p q => plt p q = true) : (lf m ts).Pairwise (· < ·) := (lf_at u hs m).1
theorem lf_len (u : Up m ts) (hs : ts.Pairwise fun p q => plt p q = true) : (lf m ts).length ≤ 2 ^ m := (lf_at u hs m).2.1
/-- a bite leaves a left -/
theorem cl_bite (u : Up m ts) (h : Cl ts m b) : Cl ts m (mns b (bs (up m ts p))) := by
  refine ⟨Nat.lt_of_le_of_lt mns_le h.1, fun e he t => ?_⟩
  rw [tb_mns] at t ⊢
  have z := Bool.and_eq_true_iff.mp t
  rw [h.2 e he z.1, Bool.true_and]
  have z2 := z.2
  rw [tb_bs up_asc] at z2 ⊢
  by_cases hh : e.1 ∈ up m ts p
  · have r := (mem_up u).mp hh
    have : e.2 ∈ up m ts p := (mem_up u).mpr ⟨(u e he).2, r.2.trans (.one he)⟩
    simp [this] at z2
  · simp [hh]
/-! the least number out -/
def mex (ns : List Nat) : Nat := ((List.range (ns.length + 1)).find? fun k => decide (k ∉ ns)).getD 0
theorem mex_spec (ns : List Nat) : mex ns ∉ ns ∧ (∀ k, k < mex ns → k ∈ ns) ∧ mex ns ≤ ns.length := by
  have ex : ∃ k ∈ List.range (ns.length + 1), k ∉ ns := Classical.byContradiction fun n => by
    have sub : ∀ k ∈ List.range (ns.length + 1), k ∈ ns := fun k hk => Classical.byContradiction fun h => n ⟨k, hk, h⟩
    have := List.nodup_range.length_le_of_subset sub
    rw [List.length_range] at this
    omega
  obtain ⟨k, hk, hn⟩ := ex
  cases h : (List.range (ns.length + 1)).find? fun k => decide (k ∉ ns) with
  | none =>
    have := List.find?_eq_none.mp h k hk
    simp at this
    exact absurd this hn
  | some z =>
    have e : mex ns = z := by unfold mex; rw [h]; rfl
    rw [e]
    have h1 := List.find?_range_eq_some.mp h
    refine ⟨by simpa using h1.1, fun k hk => ?_, ?_⟩
    · have := h1.2.2 k hk
      simpa using this
    · have := List.mem_range.mp h1.2.1
      omega
theorem mex_unique {ns : List Nat} {n : Nat} (h : n ∉ ns) (k : ∀ j, j < n → j ∈ ns) : mex ns = n := by
  obtain ⟨h1, h2, _⟩ := mex_spec ns
  rcases Nat.lt_trichotomy (mex ns) n with z | z | z
  · exact absurd (k _ z) h1
  · exact z
  · exact absurd (h2 _ z) h
theorem mex_congr {ns ms : List Nat} (h : ∀ x, x ∈ ns ↔ x ∈ ms) : mex ns = mex ms := by
  obtain ⟨h1, h2, _⟩ := mex_spec ms
  exact mex_unique (fun z => h1 ((h _).mp z)) fun j hj => (h _).mpr (h2 j hj)
/-! worths -/
def gW (m : Nat) (ts : Ps) : Nat → Nat → Nat
  | 0, _ => 0
  | f + 1, b => mex (((List.range m).filter fun p => b.testBit p).map fun p => gW m ts f (mns b (bs (up m ts p))))
def gw (m : Nat) (ts : Ps) (b : Nat) : Nat := gW m ts b b
theorem self_up (u : Up m ts) (h : p < m) : (bs (up m ts p)).testBit p = true := by
  rw [tb_bs up_asc, decide_eq_true_iff, mem_up u]
  exact ⟨h, .refl _⟩
theorem gW_zero : ∀ f, gW m ts f 0 = 0
  | 0 => rfl
  | f + 1 => by
    unfold gW
    have e : ((List.range m).filter fun p => Nat.testBit 0 p) = [] := List.filter_eq_nil_iff.mpr fun p _ => by simp
    rw [e]
    exact mex_unique (by simp) fun j hj => absurd hj (by omega)
theorem gW_fuel (u : Up m ts) : ∀ n, ∀ b, b ≤ n → ∀ f, b ≤ f → gW m ts f b = gW m ts b b := by
  intro n
  induction n with
  | zero =>
    intro b hb f hf
    have : b = 0 := by omega
    subst this
    rw [gW_zero, gW_zero]
  | succ n ih =>
    intro b hb f hf
    cases b with
    | zero => rw [gW_zero, gW_zero]
    | succ b =>
      cases f with
      | zero => omega
      | succ f =>
        unfold gW
        congr 1
        refine List.map_congr_left fun p hp => ?_
        have hp' := List.mem_filter.mp hp
        have l := mns_lt hp'.2 (self_up u (List.mem_range.mp hp'.1))
        rw [ih _ (by omega) f (by omega), ih _ (by omega) b (by omega)]
theorem gw_eq (u : Up m ts) : gw m ts b = mex (((List.range m).filter fun p => b.testBit p).map fun p => gw m ts (mns b (bs (up m ts p)))) := by
  unfold gw
  cases b with
  | zero =>
    rw [gW_zero]
    have e : ((List.range m).filter fun p => Nat.testBit 0 p) = [] := List.filter_eq_nil_iff.mpr fun p _ => by simp
    rw [e]
    exact (mex_unique (by simp) fun j hj => absurd hj (by omega)).symm
  | succ b =>
    rw [gW]
    congr 1
    refine List.map_congr_left fun p hp => ?_
    have hp' := List.mem_filter.mp hp
    have l := mns_lt hp'.2 (self_up u (List.mem_range.mp hp'.1))
    exact gW_fuel u _ _ (Nat.le_refl _) b (by omega)
def pcsB (b : Nat) : List Nat := (List.range b).filter b.testBit
theorem tb_lt (h : b.testBit q = true) : q < b := by
  have h2 : 2 ^ q ≤ b := Nat.le_of_not_lt fun z => by rw [Nat.testBit_lt_two_pow z] at h; cases h
  exact Nat.lt_of_lt_of_le Nat.lt_two_pow_self h2
theorem mem_pcsB : q ∈ pcsB b ↔ b.testBit q = true := by
  unfold pcsB
  rw [List.mem_filter, List.mem_range]
  exact ⟨fun h => h.2, fun h => ⟨tb_lt h, h⟩⟩
theorem pcsB_asc : (pcsB b).Pairwise (· < ·) := List.pairwise_lt_range.filter _
theorem pcsB_eq (n : Nat) (h : b < 2 ^ n) : pcsB b = (List.range n).filter b.testBit := by
  refine eq_of_lt pcsB_asc (List.pairwise_lt_range.filter _) fun q => ?_
  rw [mem_pcsB, List.mem_filter, List.mem_range]
  refine ⟨fun t => ⟨?_, t⟩, fun h => h.2⟩
  refine Nat.lt_of_not_le fun z => ?_
  rw [tb_big h z] at t
  cases t
end
end Mk
end

section
set_option Elab.async false
set_option linter.all false
set_option maxRecDepth 100000
set_option maxHeartbeats 2000000
/-! bits; while; dict of pairs; min -/
namespace Mk
open PySem PySem.Spec PyProof.Rows L2
open Evl (Ex)
theorem k_truth {X : Cx} (K : PySem.W.Frag) (e : X.K = K) {a : Expr} {ta : TE} (ha : PE X a ta) (he : ∀ whole, isTrue a X.env whole = (do let v ← whole; standAt a.pos; holding [v] (truthy v))) :
    PT X a (fun σ H Q => ta σ H fun x H' => ∃ k, TruV K x H' k ∧ Q k H') := e ▸ pt_truth ha he
theorem b_and (a b : Nat) : Builtin.bitAnd (a : Int) (b : Int) = ((a &&& b : Nat) : Int) := by
  rw [bitAnd_pp (Int.natCast_nonneg a) (Int.natCast_nonneg b), Int.toNat_natCast, Int.toNat_natCast]
theorem b_or (a b : Nat) : Builtin.bitOr (a : Int) (b : Int) = ((a ||| b : Nat) : Int) := by
  rw [Bits.bitOr_pp (Int.natCast_nonneg a) (Int.natCast_nonneg b), Int.toNat_natCast, Int.toNat_natCast]
theorem b_mns (a b : Nat) : Builtin.bitAnd (a : Int) (Builtin.bitNot (b : Int)) = ((mns a b : Nat) : Int) := by
  have n : ¬ (0 : Int) ≤ Builtin.bitNot (b : Int) := by unfold Builtin.bitNot; omega
  have e : Builtin.bitNot (Builtin.bitNot (b : Int)) = (b : Int) := by unfold Builtin.bitNot; omega
  rw [bitAnd_pn (Int.natCast_nonneg a) n, e, Int.toNat_natCast, Int.toNat_natCast, mns]
  have : a &&& b ≤ a := Nat.and_le_left
  omega
section
variable {te ta tb tc td tk tv : TE} {tr : TA} {tt : TT} {t : TS} {ρ : DE} {ow : Ow} {d e f : Da} {ds es : List Da} {K : PySem.W.Frag} {a b k : Nat}
theorem ev_shl (ha : EvD ta ρ (.int 1)) (hb : EvD tb ρ (nat k)) (hk : k ≤ 1000) : EvD (tOp (rI CPow fun i j => .int (i * 2 ^ j.toNat)) ta tb) ρ (nat (2 ^ k)) :=
  (ev_op ha hb (rv_I (g := fun i j => .int (i * 2 ^ j.toNat)) (f := .int (1 * 2 ^ ((k : Int).toNat))) (⟨by omega, by omega, by decide⟩ : CPow 1 (k : Int)) fun _ => .int _)).to (by rw [Int.one_mul, Int.toNat_natCast]; simp [nat])
theorem ev_shr (ha : EvD ta ρ (nat a)) (hb : EvD tb ρ (nat k)) : EvD (tOp (rI (fun _ j => 0 ≤ j) fun i j => .int (i / 2 ^ j.toNat)) ta tb) ρ (nat (a / 2 ^ k)) :=
  (ev_op ha hb (rv_I (C := fun _ j => 0 ≤ j) (g := fun i j => .int (i / 2 ^ j.toNat)) (f := .int ((a : Int) / 2 ^ ((k : Int).toNat))) (by omega) fun _ => .int _)).to (by rw [Int.toNat_natCast]; simp [nat])
theorem ev_bor (ha : EvD ta ρ (nat a)) (hb : EvD tb ρ (nat b)) : EvD (tOp (rI0 fun i j => .int (Builtin.bitOr i j)) ta tb) ρ (nat (a ||| b)) := (ev_i0 (f := .int (Builtin.bitOr (a : Int) (b : Int))) ha hb fun _ => .int _).to (by rw [b_or])
theorem ev_band (ha : EvD ta ρ (nat a)) (hb : EvD tb ρ (nat b)) : EvD (tOp (rI0 fun i j => .int (Builtin.bitAnd i j)) ta tb) ρ (nat (a &&& b)) := (ev_i0 (f := .int (Builtin.bitAnd (a : Int) (b : Int))) ha hb fun _ => .int _).to (by rw [b_and])
theorem ev_inv {i : Int} (h : EvD te ρ (.int i)) : EvD (tUn (rU fun i => .int (Builtin.bitNot i)) te) ρ (.int (Builtin.bitNot i)) := ev_un h fun G H x ex r1 Q q => by
  cases r1
  exact ⟨i, rfl, q _ G H (.refl ex) (.int _)⟩
theorem ev_mns (ha : EvD ta ρ (nat a)) (hb : EvD tb ρ (nat b)) : EvD (tOp (rI0 fun i j => .int (Builtin.bitAnd i j)) ta (tUn (rU fun i => .int (Builtin.bitNot i)) tb)) ρ (nat (mns a b)) := (ev_i0 (f := .int (Builtin.bitAnd (a : Int) (Builtin.bitNot (b : Int)))) ha (ev_inv hb) fun _ => .int _).to (by rw [b_mns])
theorem bit_one : (b / 2 ^ k) &&& 1 = if b.testBit k = true then 1 else 0 := by
  rw [Nat.and_one_is_mod, Nat.testBit_eq_decide_div_mod_eq]
  have := Nat.mod_two_eq_zero_or_one (b / 2 ^ k)
  rcases this with h | h <;> simp [h]
/-- b >> k & 1 -/
theorem ev_bit (ha : EvD ta ρ (nat b)) (hb : EvD tb ρ (nat k)) : EvD (tOp (rI0 fun i j => .int (Builtin.bitAnd i j)) (tOp (rI (fun _ j => 0 ≤ j) fun i j => .int (i / 2 ^ j.toNat)) ta tb) (tC (.int 1))) ρ (nat (if b.testBit k = true then 1 else 0)) := (ev_band (b := 1) (ev_shr ha hb) ev_int).to (by rw [bit_one])
theorem eb_bit (ha : EvD ta ρ (nat b)) (hb : EvD tb ρ (nat k)) : EvB (fun σ H Q => (tOp (rI0 fun i j => .int (Builtin.bitAnd i j)) (tOp (rI (fun _ j => 0 ≤ j) fun i j => .int (i / 2 ^ j.toNat)) ta tb) (tC (.int 1))) σ H fun x H' => ∃ k, TruV K x H' k ∧ Q k H') ρ (b.testBit k) := fun G H σ x en Q q =>
  ev_bit ha hb G H σ x en _ fun v G1 H1 g1 r1 => by
    have := r1.isInt
    subst this
    refine ⟨b.testBit k, ?_, q G1 H1 g1⟩
    show b.testBit k = _
    cases b.testBit k <;> rfl
theorem ev_bits (h : EvD te ρ (nat b)) : EvD (tBits te) ρ (nat (Builtin.Int.intBits (b : Int))) := fun G H σ x en Q q => h G H σ x en _ fun v G1 H1 g1 r1 => by
  have := r1.isInt
  subst this
  exact ⟨b, rfl, q _ G1 H1 g1 (.int _)⟩
theorem bits_lt : b < 2 ^ Builtin.Int.intBits (b : Int) := by
  unfold Builtin.Int.intBits
  by_cases h : b = 0
  · subst h; decide
  · have : ((b : Int) == 0) = false := by simp; omega
    rw [this]
    show b < 2 ^ (((b : Int).natAbs).log2 + 1)
    rw [Int.natAbs_natCast]
    exact Nat.lt_log2_self
theorem bits_le (h : b < 2 ^ k) : Builtin.Int.intBits (b : Int) ≤ k := by
  unfold Builtin.Int.intBits
  by_cases hb : b = 0
  · subst hb; simp
  · have : ((b : Int) == 0) = false := by simp; omega
    rw [this]
    show ((b : Int).natAbs).log2 + 1 ≤ k
    rw [Int.natAbs_natCast]
    exact (Nat.log2_lt hb).mpr h
theorem ev_sumN {l : List Nat} (h : EvD te ρ (.lst (nats l))) : EvD (tCB (rSum K) (tCons te tNil)) ρ (nat l.sum) := by
  rw [nats_ints] at h
  refine (ev_cb (ea1 h) rc_sum).to ?_
  congr 1
  induction l with
  | nil => rfl
  | cons x r ih =>
    rw [List.map_cons, List.sum_cons, List.sum_cons]
    simp only [Int.natCast_add]
    exact congrArg _ (by
      have : ∀ r : List Nat, (r.map Int.ofNat).sum = ((r.sum : Nat) : Int) := fun r => by
        induction r with
        | nil => rfl
        | cons y r ih => rw [List.map_cons, List.sum_cons, List.sum_cons, ih]; simp
      exact this r)
/-- min of a list that holds its least -/
theorem ev_minN {l : List Nat} {n : Nat} (h : EvD te ρ (.lst (nats l))) (hn : n ∈ l) (hl : ∀ x ∈ l, n ≤ x) : EvD (tCB (rMin K) (tCons te tNil)) ρ (nat n) := fun G H σ x en Q q => by
  rw [nats_ints] at h
  refine h G H σ x en _ fun v G1 H1 g1 r1 => ?_
  obtain ⟨p, vs, rfl, h1, ra⟩ := r1.isLst
  have e := ra.ints
  subst e
  refine ⟨p, _, rfl, SqL.of (g1.gh _ _ h1), by rw [List.length_map]; exact List.length_pos_of_mem hn, fun m hm hle => ?_⟩
  obtain ⟨y, hy, rfl⟩ := List.mem_map.mp hm
  have a1 := hl y hy
  have a2 := hle (n : Int) (List.mem_map.mpr ⟨n, hn, rfl⟩)
  have e : y = n := by
    have : (y : Int) ≤ (n : Int) := a2
    omega
  subst e
  exact q _ G1 H1 g1 (.int _)
/-! while -/
theorem sd_while {S : Nat → DE} {n : Nat} (h0 : Le (S 0) ρ) (hc : ∀ i, i ≤ n → EvB tt (S i) (decide (i < n))) (hb : ∀ i, i < n → StD t (S i) ow (.nx (S (i + 1)) ow)) : StD (tWhile tt t) ρ ow (.nx (S n) ow) := fun D G0 H0 H σ a p => by
  refine ⟨fun m σ H => ∃ i, m = n - i ∧ i ≤ n ∧ As G0 H0 (S i) ow σ H, ⟨n, 0, rfl, Nat.zero_le _, a.le h0⟩, ?_⟩
  rintro m σ1 H1 ⟨i, rfl, hi, A⟩
  obtain ⟨G, g, en, ok⟩ := A
  refine hc i hi G H1 σ1 g.gh en _ fun G2 H2 g2 => ?_
  have A2 : As G0 H0 (S i) ow σ1 H2 := ⟨G2, g.trans g2, en.mono g2.gg, ok.grow g2⟩
  by_cases h : i < n
  · rw [decide_eq_true h]
    refine ⟨fun σ' H' => As G0 H0 (S (i + 1)) ow σ' H', fun σ' H' z => ⟨n - (i + 1), by omega, i + 1, rfl, h, z⟩, ?_⟩
    exact hb i h _ _ _ H2 σ1 A2 fun σ3 H3 A3 => A3
  · have e : i = n := by omega
    subst e
    rw [decide_eq_false h]
    exact p σ1 H2 A2
/-- a, b = value, {}: by way of a tuple -/
theorem sd_asg2D {i j : Nat} (h : EvD ta ρ d) (hj : j < ρ.length := by first | decide | exact Nat.le_of_ble_eq_true rfl) : StD (tAsg (tTup (tCons ta (tCons tDNewK tNil))) (gTup K 2 (gCons (gName i) (gCons (gName j) gNil)))) ρ .no (.nx ((ρ.set i (some d)).set j none) (.d j [])) := fun D G0 H0 H σ a p => by
  obtain ⟨G, g, en, ok⟩ := a
  refine h G H σ g.gh en _ fun v G1 H1 g1 r1 => ?_
  intro q hq
  refine ⟨by show 2 ≤ sizeLine; decide, fun r hr => ?_⟩
  have g2 : Gr G1 H1 G1 (upd H1 q (.dK [])) := .sec g1.gh (Ex.new hq)
  have g3 : Gr G1 (upd H1 q (.dK [])) G1 (upd (upd H1 q (.dK [])) r (.tup [v, .ref q])) := .sec g2.gh (Ex.new hr)
  refine ⟨r, _, rfl, SqT.of upd_same, rfl, _, _, rfl, _, _, rfl, rfl, p _ _ ⟨G1, g.trans ((g1.trans g2).trans g3), ((en.mono g1.gg).set i r1).setN j, q, [], ?_, g3.hh _ _ upd_same, ex_no g1.gh hq, ex_no (g.trans g1).hh hq, .nil⟩⟩
  exact List.getElem?_set_self (by rw [List.length_set, en.1]; exact hj)
/-! dict(pairs) -/
theorem pairs_of {G : Hp} : ∀ {vs : List V} {kvs : List (Int × Da)}, RpA G vs (kvs.map fun kv => .tup [.int kv.1, kv.2]) → ∃ (ps : List Addr) (ws : List (Key × V)), vs = ps.map V.ref ∧ RpD G ws kvs ∧ ∀ H, Ex G H → Paired (fun p kv => SqT K H p [kV kv.1, kv.2]) ps ws
  | _, [], .nil => ⟨[], [], rfl, .nil, fun _ _ => .nil⟩
  | _, kv :: kvs, .cons h r => by
    obtain ⟨a, us, rfl, ha, ra⟩ := h.isTup
    obtain ⟨ps, ws, rfl, h1, h2⟩ := pairs_of r
    cases ra with
    | cons r1 ra =>
      cases ra with
      | cons r2 ra =>
        cases ra
        cases r1
        rename_i v
        exact ⟨a :: ps, (.inl kv.1, v) :: ws, rfl, .cons r2 h1, fun H e => .cons (SqT.of (e _ _ ha)) (h2 H e)⟩
theorem ev_dictP {kvs : List (Int × Da)} (h : EvD te ρ (.lst (kvs.map fun kv => .tup [.int kv.1, kv.2]))) :
    EvD (tCB (fun xs H Q => ∃ (a : Addr) (ps : List Addr) (kvs : List (Key × V)), xs = [.ref a] ∧ SqL K H a (ps.map V.ref) ∧ Paired (fun p kv => SqT K H p [kV kv.1, kv.2]) ps kvs ∧ ∀ p, H p = none → Q (.ref p) (upd H p (.dK (mergeK [] kvs)))) (tCons te tNil)) ρ (.dic (dmrg [] kvs)) := fun G H σ x en Q q => by
  refine h G H σ x en _ fun v G1 H1 g1 r1 => ?_
  obtain ⟨a, vs, rfl, ha, ra⟩ := r1.isLst
  obtain ⟨ps, ws, rfl, h1, h2⟩ := pairs_of (K := K) ra
  refine ⟨a, ps, ws, rfl, SqL.of (g1.gh _ _ ha), h2 H1 g1.gh, fun p hp => ?_⟩
  exact q _ _ _ (g1.trans (.new g1.gh hp)) (.dic upd_same ((RpD.merge _ _ _ _ h1 .nil).mono (Ex.new (ex_no g1.gh hp))))
/-- t[::-1] of a tuple -/
theorem ev_revT (h : EvD te ρ (.tup ds)) : EvD (tRevT K te) ρ (.tup ds.reverse) := fun G H σ x en Q q => by
  refine h G H σ x en _ fun v G1 H1 g1 r1 => ?_
  obtain ⟨a, vs, rfl, ha, ra⟩ := r1.isTup
  exact ⟨a, vs, rfl, SqT.of (g1.gh _ _ ha), fun p hp => q _ _ _ (g1.trans (.new g1.gh hp)) (.tup upd_same (ra.reverse.mono (Ex.new (ex_no g1.gh hp))))⟩
theorem ev_sub1 {n : Nat} (ha : EvD ta ρ (nat n)) (h : 1 ≤ n) : EvD (tOp (rI0 fun i j => .int (i - j)) ta (tC (.int 1))) ρ (nat (n - 1)) := (ev_sub ha ev_int).to (by rw [nat]; congr 1; omega)
end
end Mk
end

section
set_option Elab.async false
set_option linter.all false
set_option maxRecDepth 100000
set_option maxHeartbeats 2000000
namespace Mk
open PySem PySem.Spec PyProof.Rows L2
open Evl (Ex)
open C8 (Cal pe_c pe_gc)
abbrev N_bits_for : List Str := ["pieces", "piece"]
theorem sc_bits_for : FnScope N_bits_for ["pieces"] (defScope s_bits_for) := ⟨rfl, rfl, rfl, by decide +kernel, rfl, by decide +kernel, by decide +kernel⟩
def R_bits_for (ds : List Da) (r : Da) : Prop := ∃ (l : List Nat) (d : Da), ds = [d] ∧ (d = .lst (nats l) ∨ d = .tup (nats l)) ∧ l.length ≤ 1000 ∧ (∀ x ∈ l, x ≤ 1000) ∧ r = nat (bs l)
theorem ok_bits_for {P : Program} {w : World} {K : PySem.W.Frag} {mg : Str → Option Value} {base : Heap} (T : Tx K mg) : Cal P w K mg base 1 "bits_for" (spD R_bits_for) [] := T.ok 25 25 rfl rfl sc_bits_for (fun _ _ _ _ _ _ us hl => match us, hl with | [_], _ => rfl) (by rintro ds r h; obtain ⟨_, _, rfl, _⟩ := h; rfl) fun f cdv A outer s H E hr => ⟨_, (pss_one (ps_ret (pe_callB (k_sum K rfl rfl) (by rfl) T.b_sum (by decide +kernel) (pa_cons (pe_lc (own := [("piece", 1)]) rfl sc_bits_for.nd (k_seq K rfl (pv 0)) (blkOk_by (own := [("piece", 1)]) (N := N_bits_for) (sc := (defScope s_bits_for)) (by decide +kernel)) (fun _ _ _ _ _ => (pg_name (i := 1) sc_bits_for.nd rfl (Or.inl rfl))) (fun _ _ _ _ _ => pts_nil) (fun _ _ _ _ _ => (pe_op op_shl pe_int (pv 1)))) pa_nil)))), fun ds r hR => by
  obtain ⟨l, d, rfl, hd, hl, hx, rfl⟩ := hR
  have it : EvI (iSeq K (tVar 0)) [some d, none] (nats l) := by
    rcases hd with rfl | rfl
    · exact ei_seqL (ev_v 0)
    · exact ei_seqT (ev_v 0)
  exact sd_ret (ev_sumN (l := l.map fun p => 2 ^ p) ((el_map (as := l) (en := nat) (fn := fun p => nat (2 ^ p)) (ρ' := fun p => [some d, some (nat p)]) it (fun _ _ => tg_name) (fun p hp => ev_shl ev_int (ev_v 1) (hx p hp)) (by omega)).toD.to (by simp)))⟩
abbrev N__law_bits : List Str := ["_law_pieces_so", "_law_own"]
theorem sc__law_bits : FnScope N__law_bits ["_law_pieces_so"] (defScope s__law_bits) := ⟨rfl, rfl, rfl, by decide +kernel, rfl, by decide +kernel, by decide +kernel⟩
def R__law_bits (ds : List Da) (r : Da) : Prop := R_bits_for ds r
theorem ok__law_bits {P : Program} {w : World} {K : PySem.W.Frag} {mg : Str → Option Value} {base : Heap} (T : Tx K mg) : Cal P w K mg base 1 "_law_bits" (spD R__law_bits) [] := T.ok 56 56 rfl rfl sc__law_bits (fun _ _ _ _ _ _ us hl => match us, hl with | [_], _ => rfl) (by rintro ds r h; obtain ⟨_, _, rfl, _⟩ := h; rfl) fun f cdv A outer s H E hr => ⟨_, (pss_one (ps_ret (pe_callB (k_sum K rfl rfl) (by rfl) T.b_sum (by decide +kernel) (pa_cons (pe_lc (own := [("_law_own", 1)]) rfl sc__law_bits.nd (k_seq K rfl (pv 0)) (blkOk_by (own := [("_law_own", 1)]) (N := N__law_bits) (sc := (defScope s__law_bits)) (by decide +kernel)) (fun _ _ _ _ _ => (pg_name (i := 1) sc__law_bits.nd rfl (Or.inl rfl))) (fun _ _ _ _ _ => pts_nil) (fun _ _ _ _ _ => (pe_op op_shl pe_int (pv 1)))) pa_nil)))), fun ds r hR => by
  obtain ⟨l, d, rfl, hd, hl, hx, rfl⟩ := hR
  have it : EvI (iSeq K (tVar 0)) [some d, none] (nats l) := by
    rcases hd with rfl | rfl
    · exact ei_seqL (ev_v 0)
    · exact ei_seqT (ev_v 0)
  exact sd_ret (ev_sumN (l := l.map fun p => 2 ^ p) ((el_map (as := l) (en := nat) (fn := fun p => nat (2 ^ p)) (ρ' := fun p => [some d, some (nat p)]) it (fun _ _ => tg_name) (fun p hp => ev_shl ev_int (ev_v 1) (hx p hp)) (by omega)).toD.to (by simp)))⟩
abbrev N_pieces_for : List Str := ["bits", "piece"]
theorem sc_pieces_for : FnScope N_pieces_for ["bits"] (defScope s_pieces_for) := ⟨rfl, rfl, rfl, by decide +kernel, rfl, by decide +kernel, by decide +kernel⟩
def R_pieces_for (ds : List Da) (r : Da) : Prop := ∃ b : Nat, ds = [nat b] ∧ b < 2 ^ 60 ∧ r = .tup (nats (pcsB b))
theorem ok_pieces_for {P : Program} {w : World} {K : PySem.W.Frag} {mg : Str → Option Value} {base : Heap} (T : Tx K mg) : Cal P w K mg base 1 "pieces_for" (spD R_pieces_for) [] := T.ok 26 26 rfl rfl sc_pieces_for (fun _ _ _ _ _ _ us hl => match us, hl with | [_], _ => rfl) (by rintro ds r h; obtain ⟨_, rfl, _⟩ := h; rfl) fun f cdv A outer s H E hr => ⟨_, (pss_one (ps_ret (pe_callTy (k_tuple K rfl) (by rfl) T.b_tuple (by decide +kernel) (pa_cons (pe_lc (own := [("piece", 1)]) rfl sc_pieces_for.nd (pi_range1 rfl T.b_range (pa_cons (pe_bits (pv 0)) pa_nil)) (blkOk_by (own := [("piece", 1)]) (N := N_pieces_for) (sc := (defScope s_pieces_for)) (by decide +kernel)) (fun _ _ _ _ _ => (pg_name (i := 1) sc_pieces_for.nd rfl (Or.inl rfl))) (fun _ _ _ _ _ => pts_one (k_truth K rfl (pe_op op_and (pe_op op_shr (pv 0) (pv 1)) pe_int) (fun _ => rfl))) (fun _ _ _ _ _ => (pv 1))) pa_nil)))), fun ds r hR => by
  obtain ⟨b, rfl, hb, rfl⟩ := hR
  have hz := bits_le hb
  refine sd_ret ((ev_cb (ea1 (EvL.toD (el_lc (as := List.range (Builtin.Int.intBits (b : Int))) (en := nat) (p := fun k => b.testBit k) (fn := nat) (ρ' := fun p => [some (nat b), some (nat p)]) ((ei_rng1 (ea1 (ev_bits (ev_v 0))) (by omega) (by omega)).to (by simp)) (fun _ _ => tg_name) (fun p _ => eb_bit (ev_v 0) (ev_v 1)) (fun p _ _ => ev_v 1) (by simp; omega)))) rc_tupL).to ?_)
  rw [pcsB_eq _ bits_lt]⟩
abbrev N__law_pieces : List Str := ["_law_bits_so", "_law_k"]
theorem sc__law_pieces : FnScope N__law_pieces ["_law_bits_so"] (defScope s__law_pieces) := ⟨rfl, rfl, rfl, by decide +kernel, rfl, by decide +kernel, by decide +kernel⟩
def R__law_pieces (ds : List Da) (r : Da) : Prop := R_pieces_for ds r
theorem ok__law_pieces {P : Program} {w : World} {K : PySem.W.Frag} {mg : Str → Option Value} {base : Heap} (T : Tx K mg) : Cal P w K mg base 1 "_law_pieces" (spD R__law_pieces) [] := T.ok 57 57 rfl rfl sc__law_pieces (fun _ _ _ _ _ _ us hl => match us, hl with | [_], _ => rfl) (by rintro ds r h; obtain ⟨_, rfl, _⟩ := h; rfl) fun f cdv A outer s H E hr => ⟨_, (pss_one (ps_ret (pe_callTy (k_tuple K rfl) (by rfl) T.b_tuple (by decide +kernel) (pa_cons (pe_lc (own := [("_law_k", 1)]) rfl sc__law_pieces.nd (pi_range1 rfl T.b_range (pa_cons (pe_bits (pv 0)) pa_nil)) (blkOk_by (own := [("_law_k", 1)]) (N := N__law_pieces) (sc := (defScope s__law_pieces)) (by decide +kernel)) (fun _ _ _ _ _ => (pg_name (i := 1) sc__law_pieces.nd rfl (Or.inl rfl))) (fun _ _ _ _ _ => pts_one (pt_cmpR (k_eq K rfl hr.units) (pe_op op_and (pe_op op_shr (pv 0) (pv 1)) pe_int) pe_int (nomark _))) (fun _ _ _ _ _ => (pv 1))) pa_nil)))), fun ds r hR => by
  obtain ⟨b, rfl, hb, rfl⟩ := hR
  have hz := bits_le hb
  refine sd_ret ((ev_cb (ea1 (EvL.toD (el_lc (as := List.range (Builtin.Int.intBits (b : Int))) (en := nat) (p := fun k => b.testBit k) (fn := nat) (ρ' := fun p => [some (nat b), some (nat p)]) ((ei_rng1 (ea1 (ev_bits (ev_v 0))) (by omega) (by omega)).to (by simp)) (fun _ _ => tg_name) (fun p _ => eb_val ((ev_eqAN (j := 1) (ev_bit (ev_v 0) (ev_v 1)) ev_int).to ?_)) (fun p _ _ => ev_v 1) (by simp; omega)))) rc_tupL).to ?_)
  · cases b.testBit p <;> rfl
  · rw [pcsB_eq _ bits_lt]⟩
theorem OS.plt {m : Nat} {ts : Ps} (h : OS m ts) : ts.Pairwise fun p q => plt p q = true := by
 have z := red_asc (m := m) (ps := ts)
 rwa [h.red] at z
theorem nat_at {l : List Nat} {i : Nat} (h : i < l.length) : (nats l)[i]? = some (nat (gN l i)) := map_at h
theorem len_tfold {ps : Ps} : ∀ {fs : List Nat}, (ps.foldl tstep fs).length = fs.length := fun {fs} => by
 induction ps generalizing fs with
 | nil => rfl
 | cons p r ih => rw [List.foldl_cons, ih]; simp [tstep]
abbrev N_tops_by_bits : List Str := ["order", "found", "low", "high", "piece"]
theorem sc_tops_by_bits : FnScope N_tops_by_bits ["order"] (defScope s_tops_by_bits) := ⟨rfl, rfl, rfl, by decide +kernel, rfl, by decide +kernel, by decide +kernel⟩
def R_tops_by_bits (ds : List Da) (r : Da) : Prop := ∃ (m : Nat) (ts : Ps), ds = [od m ts] ∧ OS m ts ∧ r = .lst (nats (tops m ts))
theorem ok_tops_by_bits {P : Program} {w : World} {K : PySem.W.Frag} {mg : Str → Option Value} {base : Heap} (T : Tx K mg) : Cal P w K mg base 1 "tops_by_bits" (spD R_tops_by_bits) [] := T.ok 27 27 rfl rfl sc_tops_by_bits (fun _ _ _ _ _ _ us hl => match us, hl with | [_], _ => rfl) (by rintro ds r h; obtain ⟨_, _, rfl, _⟩ := h; rfl) fun f cdv A outer s H E hr => ⟨_, (pss_cons (ps_setLc (i := 1) (own := [("piece", 4)]) rfl sc_tops_by_bits.nd rfl rfl (sw_true rfl rfl rfl (by decide +kernel)) (pi_range1 rfl T.b_range (pa_cons (pe_ix (k_ix K rfl) (pv 0) pe_int (fun _ _ => rfl)) pa_nil)) (blkOk_by (own := [("piece", 4)]) (N := N_tops_by_bits) (sc := (defScope s_tops_by_bits)) (by decide +kernel)) (fun _ _ _ _ _ => (pg_name (i := 4) sc_tops_by_bits.nd rfl (Or.inl rfl))) (fun _ _ _ _ _ => pts_nil) (fun _ _ _ _ _ => (pe_op op_shl pe_int (pv 4)))) (pss_cons (ps_for PassesOwn.never rfl (k_seq K rfl (pe_revT (pe_ix (k_ix K rfl) (pv 0) pe_int (fun _ _ => rfl)))) (k_tup K (n := 2) rfl rfl (pgs_cons (pg_name (i := 2) sc_tops_by_bits.nd rfl (Or.inl rfl)) (pgs_cons (pg_name (i := 3) sc_tops_by_bits.nd rfl (Or.inl rfl)) pgs_nil))) (pss_one (ps_asg (pe_op op_or (pe_ix (k_ix K rfl) (pv 1) (pv 2) (fun _ _ => rfl)) (pe_ix (k_ix K rfl) (pv 1) (pv 3) (fun _ _ => rfl))) (pg_sub (pv 1) (pv 2) set_list)))) (pss_one (ps_ret (pv 1))))), fun ds r hR => by
  obtain ⟨m, ts, rfl, os, rfl⟩ := hR
  have u := os.sm.up
  have hm := os.sm.m60
  refine sd_seq (sd_asgL (ds := nats ((List.range m).map fun k => 2 ^ k)) ((el_map (as := List.range m) (en := nat) (fn := fun p => nat (2 ^ p)) (ρ' := fun p => [some (od m ts), none, none, none, some (nat p)]) ((ei_rng1 (n := (m : Int)) (ea1 (ev_ixTN (i := 0) (ev_v 0) ev_nat rfl)) (by omega) (by omega)).to (by simp)) (fun _ _ => tg_name) (fun p hp => ev_shl ev_int (ev_v 4) (by have := List.mem_range.mp hp; omega)) (by simp; omega)).to (by simp))) ?_
  refine sd_seq (sd_for (as := ts.reverse) (en := pr) (S := fun _ => [some (od m ts), none, none, none, none]) (O := fun pre => .l 1 (nats (pre.foldl tstep ((List.range m).map fun k => 2 ^ k)))) (ρ' := fun _ p => [some (od m ts), none, some (nat p.1), some (nat p.2), none])
    ((ei_seqT (ev_revT (ev_ixTN (i := 1) (ev_v 0) ev_nat rfl))).to (by simp [prs])) ⟨rfl, trivial⟩ rfl (fun _ p _ _ => tg_tup2) ?_ (hs2 (fun _ => slot_ne rfl rfl) fun _ => slot_ne rfl rfl)) ?_
  · intro pre p post e
    have hp := u p (by
      have : p ∈ ts.reverse := by rw [e]; simp
      simpa using this)
    have hl : (pre.foldl tstep ((List.range m).map fun k => 2 ^ k)).length = m := by rw [len_tfold]; simp
    generalize hfs : pre.foldl tstep ((List.range m).map fun k => 2 ^ k) = fs at hl
    refine sd_fin (sd_setV (j := p.1) (d := nat (gN fs p.1 ||| gN fs p.2)) (ev_bor (ev_ixLN (i := p.1) (ev_v 1) (ev_v 2) (nat_at (by omega))) (ev_ixLN (i := p.2) (ev_v 1) (ev_v 3) (nat_at (by omega)))) trivial (ev_v 2) (by simp; omega)) ⟨rfl, trivial⟩ ?_
    rw [foldl_snoc, hfs]
    simp [tstep, List.map_set]
  · refine sd_frz (sd_ret ((ev_v 1).to ?_))
    rw [← topK_eq u os.plt]
    rfl⟩
abbrev N__law_ups : List Str := ["_law_net_here", "_law_found", "_law_low_so", "_law_high_so", "_law_k"]
theorem sc__law_ups : FnScope N__law_ups ["_law_net_here"] (defScope s__law_ups) := ⟨rfl, rfl, rfl, by decide +kernel, rfl, by decide +kernel, by decide +kernel⟩
def R__law_ups (ds : List Da) (r : Da) : Prop := R_tops_by_bits ds r
theorem ok__law_ups {P : Program} {w : World} {K : PySem.W.Frag} {mg : Str → Option Value} {base : Heap} (T : Tx K mg) : Cal P w K mg base 1 "_law_ups" (spD R__law_ups) [] := T.ok 55 55 rfl rfl sc__law_ups (fun _ _ _ _ _ _ us hl => match us, hl with | [_], _ => rfl) (by rintro ds r h; obtain ⟨_, _, rfl, _⟩ := h; rfl) fun f cdv A outer s H E hr => ⟨_, (pss_cons (ps_setLc (i := 1) (own := [("_law_k", 4)]) rfl sc__law_ups.nd rfl rfl (sw_true rfl rfl rfl (by decide +kernel)) (pi_range1 rfl T.b_range (pa_cons (pe_ix (k_ix K rfl) (pv 0) pe_int (fun _ _ => rfl)) pa_nil)) (blkOk_by (own := [("_law_k", 4)]) (N := N__law_ups) (sc := (defScope s__law_ups)) (by decide +kernel)) (fun _ _ _ _ _ => (pg_name (i := 4) sc__law_ups.nd rfl (Or.inl rfl))) (fun _ _ _ _ _ => pts_nil) (fun _ _ _ _ _ => (pe_op op_shl pe_int (pv 4)))) (pss_cons (ps_for PassesOwn.never rfl (k_seq K rfl (pe_revT (pe_ix (k_ix K rfl) (pv 0) pe_int (fun _ _ => rfl)))) (k_tup K (n := 2) rfl rfl (pgs_cons (pg_name (i := 2) sc__law_ups.nd rfl (Or.inl rfl)) (pgs_cons (pg_name (i := 3) sc__law_ups.nd rfl (Or.inl rfl)) pgs_nil))) (pss_one (ps_asg (pe_op op_or (pe_ix (k_ix K rfl) (pv 1) (pv 2) (fun _ _ => rfl)) (pe_ix (k_ix K rfl) (pv 1) (pv 3) (fun _ _ => rfl))) (pg_sub (pv 1) (pv 2) set_list)))) (pss_one (ps_ret (pv 1))))), fun ds r hR => by
  obtain ⟨m, ts, rfl, os, rfl⟩ := hR
  have u := os.sm.up
  have hm := os.sm.m60
  refine sd_seq (sd_asgL (ds := nats ((List.range m).map fun k => 2 ^ k)) ((el_map (as := List.range m) (en := nat) (fn := fun p => nat (2 ^ p)) (ρ' := fun p => [some (od m ts), none, none, none, some (nat p)]) ((ei_rng1 (n := (m : Int)) (ea1 (ev_ixTN (i := 0) (ev_v 0) ev_nat rfl)) (by omega) (by omega)).to (by simp)) (fun _ _ => tg_name) (fun p hp => ev_shl ev_int (ev_v 4) (by have := List.mem_range.mp hp; omega)) (by simp; omega)).to (by simp))) ?_
  refine sd_seq (sd_for (as := ts.reverse) (en := pr) (S := fun _ => [some (od m ts), none, none, none, none]) (O := fun pre => .l 1 (nats (pre.foldl tstep ((List.range m).map fun k => 2 ^ k)))) (ρ' := fun _ p => [some (od m ts), none, some (nat p.1), some (nat p.2), none])
    ((ei_seqT (ev_revT (ev_ixTN (i := 1) (ev_v 0) ev_nat rfl))).to (by simp [prs])) ⟨rfl, trivial⟩ rfl (fun _ p _ _ => tg_tup2) ?_ (hs2 (fun _ => slot_ne rfl rfl) fun _ => slot_ne rfl rfl)) ?_
  · intro pre p post e
    have hp := u p (by
      have : p ∈ ts.reverse := by rw [e]; simp
      simpa using this)
    have hl : (pre.foldl tstep ((List.range m).map fun k => 2 ^ k)).length = m := by rw [len_tfold]; simp
    generalize hfs : pre.foldl tstep ((List.range m).map fun k => 2 ^ k) = fs at hl
    refine sd_fin (sd_setV (j := p.1) (d := nat (gN fs p.1 ||| gN fs p.2)) (ev_bor (ev_ixLN (i := p.1) (ev_v 1) (ev_v 2) (nat_at (by omega))) (ev_ixLN (i := p.2) (ev_v 1) (ev_v 3) (nat_at (by omega)))) trivial (ev_v 2) (by simp; omega)) ⟨rfl, trivial⟩ ?_
    rw [foldl_snoc, hfs]
    simp [tstep, List.map_set]
  · refine sd_frz (sd_ret ((ev_v 1).to ?_))
    rw [← topK_eq u os.plt]
    rfl⟩
/-- the lows of each piece, row by row -/
def lowK (m : Nat) (ts : Ps) : List (List Nat) := ts.foldl (fun fs p => fs.set p.2 (gd fs p.2 ++ [p.1])) (List.replicate m [])
theorem lowK_at {m : Nat} {ts : Ps} (u : Up m ts) : (lowK m ts).length = m ∧ ∀ k, k < m → gd (lowK m ts) k = (ts.filter fun p => decide (p.2 = k)).map (·.1) := by
 have key : ∀ (r : Ps), (∀ p ∈ r, p.2 < m) → ((r.reverse.foldl (fun fs p => fs.set p.2 (gd fs p.2 ++ [p.1])) (List.replicate m [])).length = m ∧ ∀ k, k < m → gd (r.reverse.foldl (fun fs p => fs.set p.2 (gd fs p.2 ++ [p.1])) (List.replicate m [])) k = (r.reverse.filter fun p => decide (p.2 = k)).map (·.1)) := fun r => by
   induction r with
   | nil => intro _; exact ⟨by simp, fun k _ => by simp only [List.reverse_nil, List.foldl_nil]; exact gd_rep⟩
   | cons p r ih =>
     intro h
     obtain ⟨h1, h2⟩ := ih fun q hq => h q (List.mem_cons_of_mem _ hq)
     have hp := h p List.mem_cons_self
     rw [List.reverse_cons, List.foldl_append]
     generalize r.reverse.foldl (fun fs p => fs.set p.2 (gd fs p.2 ++ [p.1])) (List.replicate m []) = fs at h1 h2
     refine ⟨by simp [h1], fun k hk => ?_⟩
     show gd (fs.set p.2 (gd fs p.2 ++ [p.1])) k = _
     rw [gd_set (by omega), List.filter_append, List.map_append, ← h2 k hk]
     by_cases e : k = p.2
     · subst e
       simp
     · have : ¬ p.2 = k := fun z => e z.symm
       simp [e, this]
 have z := key ts.reverse (fun p hp => (u p (by simpa using hp)).2)
 rw [List.reverse_reverse] at z
 exact z
abbrev N_lefts_by_bits : List Str := ["order", "lows", "low", "high", "found", "piece", "under", "_", "bits"]
theorem sc_lefts_by_bits : FnScope N_lefts_by_bits ["order"] (defScope s_lefts_by_bits) := ⟨rfl, rfl, rfl, by decide +kernel, rfl, by decide +kernel, by decide +kernel⟩
def R_lefts_by_bits (ds : List Da) (r : Da) : Prop := ∃ (m : Nat) (ts : Ps), ds = [od m ts] ∧ OS m ts ∧ m ≤ 9 ∧ r = .lst (nats (lf m ts))
theorem ok_lefts_by_bits {P : Program} {w : World} {K : PySem.W.Frag} {mg : Str → Option Value} {base : Heap} (T : Tx K mg) : Cal P w K mg base 2 "lefts_by_bits" (spD R_lefts_by_bits) [] := T.ok 28 28 rfl rfl sc_lefts_by_bits (fun _ _ _ _ _ _ us hl => match us, hl with | [_], _ => rfl) (by rintro ds r h; obtain ⟨_, _, rfl, _⟩ := h; rfl) fun f cdv A outer s H E hr => ⟨_, (pss_cons (ps_setLc (i := 1) (own := [("_", 7)]) rfl sc_lefts_by_bits.nd rfl rfl (sw_true rfl rfl rfl (by decide +kernel)) (pi_range1 rfl T.b_range (pa_cons (pe_ix (k_ix K rfl) (pv 0) pe_int (fun _ _ => rfl)) pa_nil)) (blkOk_by (own := [("_", 7)]) (N := N_lefts_by_bits) (sc := (defScope s_lefts_by_bits)) (by decide +kernel)) (fun _ _ _ _ _ => (pg_name (i := 7) sc_lefts_by_bits.nd rfl (Or.inl rfl))) (fun _ _ _ _ _ => pts_nil) (fun _ _ _ _ _ => (pe_lst pa_nil))) (pss_cons (ps_for PassesOwn.never rfl (k_seq K rfl (pe_ix (k_ix K rfl) (pv 0) pe_int (fun _ _ => rfl))) (k_tup K (n := 2) rfl rfl (pgs_cons (pg_name (i := 2) sc_lefts_by_bits.nd rfl (Or.inl rfl)) (pgs_cons (pg_name (i := 3) sc_lefts_by_bits.nd rfl (Or.inl rfl)) pgs_nil))) (pss_one (ps_expr (pe_bm PySem.F.plainAttrs_list PySem.F.slot_list_append PySem.F.type_list_append mt_append (pe_ix (k_ix K rfl) (pv 1) (pv 3) (fun _ _ => rfl)) (pa_cons (pv 2) pa_nil))))) (pss_cons (ps_set (i := 4) sc_lefts_by_bits.nd rfl (Or.inl rfl) (pe_lst (pa_cons pe_int pa_nil))) (pss_cons (ps_for PassesOwn.never rfl (pi_range1 rfl T.b_range (pa_cons (pe_ix (k_ix K rfl) (pv 0) pe_int (fun _ _ => rfl)) pa_nil)) (pg_name (i := 5) sc_lefts_by_bits.nd rfl (Or.inr rfl)) (pss_cons (ps_set (i := 6) sc_lefts_by_bits.nd rfl (Or.inr rfl) (pe_c (ok_bits_for T) hr (by decide) (by rfl) (pa_cons (pe_ix (k_ix K rfl) (pv 1) (pv 5) (fun _ _ => rfl)) pa_nil))) (pss_cons (ps_set (i := 4) sc_lefts_by_bits.nd rfl (Or.inl rfl) (pe_op (k_add K rfl) (pv 4) (pe_lc (own := [("bits", 8)]) rfl sc_lefts_by_bits.nd (k_seq K rfl (pv 4)) (blkOk_by (own := [("bits", 8)]) (N := N_lefts_by_bits) (sc := (defScope s_lefts_by_bits)) (by decide +kernel)) (fun _ _ _ _ _ => (pg_name (i := 8) sc_lefts_by_bits.nd rfl (Or.inl rfl))) (fun _ _ _ _ _ => pts_one (pt_cmpR (k_eq K rfl hr.units) (pe_op op_and (pv 8) (pv 6)) (pv 6) (nomark _))) (fun _ _ _ _ _ => (pe_op op_or (pv 8) (pe_op op_shl pe_int (pv 5))))))) (pss_one (ps_if (pt_cmpR op_gt (pe_callB (k_len K rfl) (by rfl) T.b_len (by decide +kernel) (pa_cons (pv 4) pa_nil)) (pe_gc (v := .int 2000) (by rfl) T.few) (nomark _)) (pss_one ps_never) pss_nil))))) (pss_one (ps_ret (pe_callB (k_sorted K rfl) (by rfl) T.b_sorted (by decide +kernel) (pa_cons (pv 4) pa_nil)))))))), fun ds r hR => by
  obtain ⟨m, ts, rfl, os, hm, rfl⟩ := hR
  have u := os.sm.up
  have hl := os.sm.len
  have kp := lowK_at u
  refine sd_seq (sd_asgLL (as := List.range m) (en := nat) ((ei_rng1 (n := (m : Int)) (ea1 (ev_ixTN (i := 0) (ev_v 0) ev_nat rfl)) (by omega) (by omega)).to (by simp)) (fun a _ => tg_name) (by simp; omega)) ?_
  refine sd_seq (sd_for (as := ts) (en := pr) (S := fun _ => [some (od m ts), none, none, none, none, none, none, none, none]) (O := fun pre => .ll 1 ((lowK m pre).map nats)) (ρ' := fun _ p => [some (od m ts), none, some (nat p.1), some (nat p.2), none, none, none, none, none]) (ei_seqT (ev_ixTN (i := 1) (ev_v 0) ev_nat rfl)) ⟨rfl, trivial⟩ (by simp [lowK]) (fun _ p _ _ => tg_tup2) ?_ (hs2 (fun _ => slot_ne rfl rfl) fun _ => slot_ne rfl rfl)) ?_
  · intro pre p post e
    have hp := u p (by rw [e]; simp)
    have kq := lowK_at (m := m) (ts := pre) fun q hq => u q (by rw [e]; simp [hq])
    have hz : (gd (lowK m pre) p.2).length ≤ 10000 := by
      rw [kq.2 _ hp.2, List.length_map]
      refine Nat.le_trans (List.length_filter_le _ _) ?_
      have : pre.length ≤ ts.length := by rw [e]; simp
      omega
    refine sd_fin (sd_llApp (d := nat p.1) (ds := nats (gd (lowK m pre) p.2)) (ev_v 2) trivial (ev_v 3) (map_at (by rw [kq.1]; exact hp.2)) (by rw [List.length_map]; omega)) ⟨rfl, trivial⟩ ?_
    unfold lowK
    rw [foldl_snoc]
    simp [List.map_set]
  refine sd_frz (sd_seq (sd_asg (el_lst (ea1 (ev_int (i := 0)))).toD) ?_)
  let LW : Da := .lst (((lowK m ts).map nats).map .lst)
  refine sd_seq (sd_for (as := List.range m) (en := nat) (ow := .no) (S := fun pre => [some (od m ts), some LW, none, none, some (.lst (nats (pre.foldl (lstep ts) [0]))), none, none, none, none]) (O := fun _ => .no) (ρ' := fun pre k => [some (od m ts), some LW, none, none, some (.lst (nats (pre.foldl (lstep ts) [0]))), some (nat k), none, none, none]) ((ei_rng1 (n := (m : Int)) (ea1 (ev_ixTN (i := 0) (ev_v 0) ev_nat rfl)) (by omega) (by omega)).to (by simp)) ⟨rfl, rfl, rfl, trivial⟩ rfl (fun _ p _ _ => tg_name) ?_ (fun _ _ _ z => nomatch z)) ?_
  · intro pre k post e
    have e' : (List.range m).map (fun x => x) = pre ++ k :: post := by rw [List.map_id']; exact e
    obtain ⟨h1, h2, h3⟩ := pre_range e'
    have hk : k < m := by rw [h3]; exact h1
    have hpre : pre = List.range k := by rw [h3] ; simpa using h2
    have lk := lf_at u os.plt k
    have lk2 := lf_at u os.plt (k + 1)
    rw [List.range_succ, foldl_snoc] at lk2
    rw [hpre, foldl_snoc]
    generalize (List.range k).foldl (lstep ts) [0] = fs at lk lk2
    have z1 : fs.length ≤ 512 := Nat.le_trans lk.2.1 (Nat.le_trans (Nat.pow_le_pow_right (by omega) (by omega : k ≤ 9)) (by decide))
    have z2 : (lstep ts fs k).length ≤ 512 := Nat.le_trans lk2.2.1 (Nat.le_trans (Nat.pow_le_pow_right (by omega) (by omega : k + 1 ≤ 9)) (by decide))
    have hlow : ((lowK m ts).map nats).map Da.lst = (lowK m ts).map fun l => .lst (nats l) := by simp
    have hgd := kp.2 k hk
    refine sd_seq (sd_asg (d := nat (und ts k)) (ev_call (ea1 (ev_ixLN (i := k) (d := .lst (nats (gd (lowK m ts) k))) (ev_v 1) (ev_v 5) (by rw [hlow]; exact lls_at (by rw [kp.1]; exact hk)))) ⟨gd (lowK m ts) k, _, rfl, .inl rfl, ?_, ?_, by rw [und, hgd]⟩)) ?_
    · rw [hgd, List.length_map]
      have := len_le (row_nodup (lows_asc (c := k) os.plt)) (m := m) (fun x hx => by
        obtain ⟨p, hp, rfl⟩ := List.mem_map.mp hx
        have := u p (List.mem_filter.mp hp).1
        omega)
      rw [List.length_map] at this
      omega
    · intro x hx
      rw [hgd] at hx
      obtain ⟨p, hp, rfl⟩ := List.mem_map.mp hx
      have := u p (List.mem_filter.mp hp).1
      omega
    refine sd_seq (sd_asg (d := .lst (nats (lstep ts fs k))) (EvL.toD (EvL.to (ea_lst (ds := nats fs) (es := ((fs.filter fun b => decide (b &&& und ts k = und ts k)).map fun b => nat (b ||| 2 ^ k))) (ev_v 4) (EvL.toD (el_lc (as := fs) (en := nat) (p := fun b => decide (b &&& und ts k = und ts k)) (fn := fun b => nat (b ||| 2 ^ k)) (ρ' := fun b => [some (od m ts), some LW, none, none, some (.lst (nats fs)), some (nat k), some (nat (und ts k)), none, some (nat b)]) (ei_seqL (ev_v 4)) (fun _ _ => tg_name) (fun b _ => eb_val (ev_eqAN (ev_band (ev_v 8) (ev_v 6)) (ev_v 6))) (fun b _ _ => ev_bor (ev_v 8) (ev_shl ev_int (ev_v 5) (by omega))) (by omega))) ?_) ?_))) ?_
    · rw [List.length_map, List.length_map]
      have := List.length_filter_le (fun b => decide (b &&& und ts k = und ts k)) fs
      omega
    · simp [lstep, nats]
    refine (sd_if (b := false) ((eb_val (ev_gtN (j := 2000) (ev_cb (ea1 (ev_v 4)) rc_lenL) ev_int)).to ?_) (fun z => nomatch z) fun _ => sd_next).out ⟨rfl, rfl, rfl, trivial⟩
    · rw [List.length_map]
      exact decide_eq_false (by omega)
  · refine sd_ret (EvD.to (d := .lst ((lf m ts).map Int.ofNat |>.map Da.int)) (EvL.toD (el_sorted (ns := (lf m ts).map Int.ofNat) (.inl ((ev_v 4).to ?_)) (List.Perm.refl _) (int_asc (lf_asc u os.plt)))) ?_)
    · rw [nats_ints]
      rfl
    · rw [nats_ints]⟩
end Mk
end

section
set_option Elab.async false
set_option linter.all false
set_option maxRecDepth 100000
set_option maxHeartbeats 2000000
namespace Mk
open PySem PySem.Spec PyProof.Rows L2
open Evl (Ex)
open C8 (Cal pe_c pe_gc)
abbrev N__law_lefts : List Str := ["_law_net_here", "_law_found", "_law_k", "_law_under_so", "_law_low_so", "_law_high_so", "_law_own"]
theorem sc__law_lefts : FnScope N__law_lefts ["_law_net_here"] (defScope s__law_lefts) := ⟨rfl, rfl, rfl, by decide +kernel, rfl, by decide +kernel, by decide +kernel⟩
def R__law_lefts (ds : List Da) (r : Da) : Prop := R_lefts_by_bits ds r
theorem ok__law_lefts {P : Program} {w : World} {K : PySem.W.Frag} {mg : Str → Option Value} {base : Heap} (T : Tx K mg) : Cal P w K mg base 2 "_law_lefts" (spD R__law_lefts) [] := T.ok 58 58 rfl rfl sc__law_lefts (fun _ _ _ _ _ _ us hl => match us, hl with | [_], _ => rfl) (by rintro ds r h; obtain ⟨_, _, rfl, _⟩ := h; rfl) fun f cdv A outer s H E hr => ⟨_, (pss_cons (ps_set (i := 1) sc__law_lefts.nd rfl (Or.inl rfl) (pe_lst (pa_cons pe_int pa_nil))) (pss_cons (ps_for PassesOwn.never rfl (pi_range1 rfl T.b_range (pa_cons (pe_ix (k_ix K rfl) (pv 0) pe_int (fun _ _ => rfl)) pa_nil)) (pg_name (i := 2) sc__law_lefts.nd rfl (Or.inr rfl)) (pss_cons (ps_set (i := 3) sc__law_lefts.nd rfl (Or.inr rfl) (pe_c (ok__law_bits T) hr (by decide) (by rfl) (pa_cons (pe_lc (own := [("_law_low_so", 4), ("_law_high_so", 5)]) rfl sc__law_lefts.nd (k_seq K rfl (pe_ix (k_ix K rfl) (pv 0) pe_int (fun _ _ => rfl))) (blkOk_by (own := [("_law_low_so", 4), ("_law_high_so", 5)]) (N := N__law_lefts) (sc := (defScope s__law_lefts)) (by decide +kernel)) (fun _ _ _ _ _ => (k_tup K (n := 2) rfl rfl (pgs_cons (pg_name (i := 4) sc__law_lefts.nd rfl (Or.inl rfl)) (pgs_cons (pg_name (i := 5) sc__law_lefts.nd rfl (Or.inl rfl)) pgs_nil)))) (fun _ _ _ _ _ => pts_one (pt_cmpR (k_eq K rfl hr.units) (pv 5) (pv 2) (nomark _))) (fun _ _ _ _ _ => (pv 4))) pa_nil))) (pss_one (ps_set (i := 1) sc__law_lefts.nd rfl (Or.inl rfl) (pe_op (k_add K rfl) (pv 1) (pe_lc (own := [("_law_own", 6)]) rfl sc__law_lefts.nd (k_seq K rfl (pv 1)) (blkOk_by (own := [("_law_own", 6)]) (N := N__law_lefts) (sc := (defScope s__law_lefts)) (by decide +kernel)) (fun _ _ _ _ _ => (pg_name (i := 6) sc__law_lefts.nd rfl (Or.inl rfl))) (fun _ _ _ _ _ => pts_one (pt_cmpR (k_eq K rfl hr.units) (pe_op op_and (pv 6) (pv 3)) (pv 3) (nomark _))) (fun _ _ _ _ _ => (pe_op op_or (pv 6) (pe_op op_shl pe_int (pv 2)))))))))) (pss_one (ps_ret (pe_callB (k_sorted K rfl) (by rfl) T.b_sorted (by decide +kernel) (pa_cons (pv 1) pa_nil)))))), fun ds r hR => by
  obtain ⟨m, ts, rfl, os, hm, rfl⟩ := hR
  have u := os.sm.up
  have hl := os.sm.len
  refine sd_seq (sd_asg (el_lst (ea1 (ev_int (i := 0)))).toD) ?_
  refine sd_seq (sd_for (as := List.range m) (en := nat) (ow := .no) (S := fun pre => [some (od m ts), some (.lst (nats (pre.foldl (lstep ts) [0]))), none, none, none, none, none]) (O := fun _ => .no) (ρ' := fun pre k => [some (od m ts), some (.lst (nats (pre.foldl (lstep ts) [0]))), some (nat k), none, none, none, none]) ((ei_rng1 (n := (m : Int)) (ea1 (ev_ixTN (i := 0) (ev_v 0) ev_nat rfl)) (by omega) (by omega)).to (by simp)) ⟨rfl, rfl, trivial⟩ rfl (fun _ p _ _ => tg_name) ?_ (fun _ _ _ z => nomatch z)) ?_
  · intro pre k post e
    have e' : (List.range m).map (fun x => x) = pre ++ k :: post := by rw [List.map_id']; exact e
    obtain ⟨h1, h2, h3⟩ := pre_range e'
    have hk : k < m := by rw [h3]; exact h1
    have hpre : pre = List.range k := by rw [h3] ; simpa using h2
    have lk := lf_at u os.plt k
    have lk2 := lf_at u os.plt (k + 1)
    rw [List.range_succ, foldl_snoc] at lk2
    rw [hpre, foldl_snoc]
    generalize (List.range k).foldl (lstep ts) [0] = fs at lk lk2
    have z1 : fs.length ≤ 512 := Nat.le_trans lk.2.1 (Nat.le_trans (Nat.pow_le_pow_right (by omega) (by omega : k ≤ 9)) (by decide))
    refine sd_seq (sd_asg (d := nat (und ts k)) (ev_call (ea1 (EvL.toD (el_lc (as := ts) (en := pr) (p := fun p => decide (p.2 = k)) (fn := fun p => nat p.1) (ρ' := fun p => [some (od m ts), some (.lst (nats fs)), some (nat k), none, some (nat p.1), some (nat p.2), none]) (ei_seqT (ev_ixTN (i := 1) (ev_v 0) ev_nat rfl)) (fun _ _ => tg_tup2) (fun p _ => eb_val (ev_eqAN (ev_v 5) (ev_v 2))) (fun p _ _ => ev_v 4) (by omega)))) ⟨(ts.filter fun p => decide (p.2 = k)).map (·.1), _, rfl, .inl (by simp), ?_, ?_, rfl⟩)) ?_
    · rw [List.length_map]
      have := len_le (row_nodup (lows_asc (c := k) os.plt)) (m := m) (fun x hx => by
        obtain ⟨p, hp, rfl⟩ := List.mem_map.mp hx
        have := u p (List.mem_filter.mp hp).1
        omega)
      rw [List.length_map] at this
      omega
    · intro x hx
      obtain ⟨p, hp, rfl⟩ := List.mem_map.mp hx
      have := u p (List.mem_filter.mp hp).1
      omega
    refine (sd_asg (d := .lst (nats (lstep ts fs k))) (EvL.toD (EvL.to (ea_lst (ds := nats fs) (es := ((fs.filter fun b => decide (b &&& und ts k = und ts k)).map fun b => nat (b ||| 2 ^ k))) (ev_v 1) (EvL.toD (el_lc (as := fs) (en := nat) (p := fun b => decide (b &&& und ts k = und ts k)) (fn := fun b => nat (b ||| 2 ^ k)) (ρ' := fun b => [some (od m ts), some (.lst (nats fs)), some (nat k), some (nat (und ts k)), none, none, some (nat b)]) (ei_seqL (ev_v 1)) (fun _ _ => tg_name) (fun b _ => eb_val (ev_eqAN (ev_band (ev_v 6) (ev_v 3)) (ev_v 3))) (fun b _ _ => ev_bor (ev_v 6) (ev_shl ev_int (ev_v 2) (by omega))) (by omega))) ?_) ?_))).out ⟨rfl, rfl, trivial⟩
    · rw [List.length_map, List.length_map]
      have := List.length_filter_le (fun b => decide (b &&& und ts k = und ts k)) fs
      omega
    · simp [lstep, nats]
  · refine sd_ret (EvD.to (d := .lst ((lf m ts).map Int.ofNat |>.map Da.int)) (EvL.toD (el_sorted (ns := (lf m ts).map Int.ofNat) (.inl ((ev_v 1).to ?_)) (List.Perm.refl _) (int_asc (lf_asc u os.plt)))) ?_)
    · rw [nats_ints]
      rfl
    · rw [nats_ints]⟩
theorem kd_pairs {ns : List Nat} : (ns.map fun n => Da.tup [nat n, .bl true]) = (kd ns).map fun kv => .tup [.int kv.1, kv.2] := by
 unfold kd
 rw [List.map_map]
 rfl
abbrev N_least_without : List Str := ["numbers", "held", "found", "number"]
theorem sc_least_without : FnScope N_least_without ["numbers"] (defScope s_least_without) := ⟨rfl, rfl, rfl, by decide +kernel, rfl, by decide +kernel, by decide +kernel⟩
def R_least_without (ds : List Da) (r : Da) : Prop := ∃ ns : List Nat, ds = [.lst (nats ns)] ∧ ns.length ≤ 100000 ∧ r = nat (mex ns)
theorem ok_least_without {P : Program} {w : World} {K : PySem.W.Frag} {mg : Str → Option Value} {base : Heap} (T : Tx K mg) : Cal P w K mg base 1 "least_without" (spD R_least_without) [] := T.ok 29 29 rfl rfl sc_least_without (fun _ _ _ _ _ _ us hl => match us, hl with | [_], _ => rfl) (by rintro ds r h; obtain ⟨_, rfl, _⟩ := h; rfl) fun f cdv A outer s H E hr => ⟨_, (pss_cons (ps_par (i := 1) (j := 2) rfl sc_least_without.nd rfl rfl (by decide) rfl rfl (pa_cons (pe_callTy (call_dictP rfl) (by rfl) T.b_dict (by decide +kernel) (pa_cons (pe_lc (own := [("number", 3)]) rfl sc_least_without.nd (k_seq K rfl (pv 0)) (blkOk_by (own := [("number", 3)]) (N := N_least_without) (sc := (defScope s_least_without)) (by decide +kernel)) (fun _ _ _ _ _ => (pg_name (i := 3) sc_least_without.nd rfl (Or.inl rfl))) (fun _ _ _ _ _ => pts_nil) (fun _ _ _ _ _ => (pe_tup (pa_cons (pv 3) (pa_cons pe_bl pa_nil))))) pa_nil)) (pa_cons pe_int pa_nil)) (by rfl)) (pss_cons (ps_while PassesOwn.never (pt_cmp (pc_din (hu_of hr) (pv 2) (pv 1))) (pss_one (ps_set (i := 2) sc_least_without.nd rfl (Or.inl rfl) (pe_op (k_add K rfl) (pv 2) pe_int)))) (pss_one (ps_ret (pv 2))))), fun ds r hR => by
  obtain ⟨ns, rfl, hl, rfl⟩ := hR
  obtain ⟨m1, m2, m3⟩ := mex_spec ns
  refine sd_seq (sd_par (d := .dic (kd (mrgK [] ns))) (e := nat 0) (ea2 (EvD.to (ev_dictP (kvs := kd ns) (EvD.to (EvL.toD (el_map (as := ns) (en := nat) (fn := fun n => .tup [nat n, .bl true]) (ρ' := fun n => [some (.lst (nats ns)), none, none, some (nat n)]) (ei_seqL (ev_v 0)) (fun _ _ => tg_name) (fun n _ => ev_tup (ea2 (ev_v 3) ev_bl)) hl)) (by rw [kd_pairs]))) ?_) ev_nat)) ?_
  · exact congrArg Da.dic (kd_mrg (k := ns) (l := []))
  refine sd_seq (sd_while (n := mex ns) (S := fun i => [some (.lst (nats ns)), some (.dic (kd (mrgK [] ns))), some (nat i), none]) ⟨rfl, rfl, rfl, trivial⟩ (fun i hi => eb_val ((ev_din (k := (i : Int)) (ev_v 2) (ev_v 1)).to ?_)) fun i hi => (sd_asg (ea_nat (j := 1) (ev_v 2) ev_int)).out ⟨rfl, rfl, rfl, trivial⟩) (sd_ret (ev_v 2))
  rw [kd_get]
  congr 1
  rw [decide_eq_decide, mem_mrg]
  constructor
  · rintro (h | h)
    · cases h
    · refine Nat.lt_of_le_of_ne hi fun z => m1 ?_
      rw [← z]
      exact h
  · exact fun h => .inr (m2 _ h)⟩
abbrev N__law_least_out : List Str := ["_law_some_so", "_law_k"]
theorem sc__law_least_out : FnScope N__law_least_out ["_law_some_so"] (defScope s__law_least_out) := ⟨rfl, rfl, rfl, by decide +kernel, rfl, by decide +kernel, by decide +kernel⟩
def R__law_least_out (ds : List Da) (r : Da) : Prop := ∃ (ns : List Nat) (d : Da), ds = [d] ∧ (d = .lst (nats ns) ∨ d = .tup (nats ns)) ∧ ns.length ≤ 90000 ∧ r = nat (mex ns)
theorem ok__law_least_out {P : Program} {w : World} {K : PySem.W.Frag} {mg : Str → Option Value} {base : Heap} (T : Tx K mg) : Cal P w K mg base 1 "_law_least_out" (spD R__law_least_out) [] := T.ok 59 59 rfl rfl sc__law_least_out (fun _ _ _ _ _ _ us hl => match us, hl with | [_], _ => rfl) (by rintro ds r h; obtain ⟨_, _, rfl, _⟩ := h; rfl) fun f cdv A outer s H E hr => ⟨_, (pss_one (ps_ret (pe_callB (k_min K rfl rfl) (by rfl) T.b_min (by decide +kernel) (pa_cons (pe_lc (own := [("_law_k", 1)]) rfl sc__law_least_out.nd (pi_range1 rfl T.b_range (pa_cons (pe_op (k_add K rfl) (pe_callB (k_len K rfl) (by rfl) T.b_len (by decide +kernel) (pa_cons (pv 0) pa_nil)) pe_int) pa_nil)) (blkOk_by (own := [("_law_k", 1)]) (N := N__law_least_out) (sc := (defScope s__law_least_out)) (by decide +kernel)) (fun _ _ _ _ _ => (pg_name (i := 1) sc__law_least_out.nd rfl (Or.inl rfl))) (fun _ _ _ _ _ => pts_one (pt_cmpR (k_ni K rfl) (pv 1) (pv 0) (by rfl))) (fun _ _ _ _ _ => (pv 1))) pa_nil)))), fun ds r hR => by
  obtain ⟨ns, d, rfl, hd, hl, rfl⟩ := hR
  obtain ⟨m1, m2, m3⟩ := mex_spec ns
  have ln : ∀ (o : Option Da), EvD (tCB (fun xs H Q => ∃ p ys, xs = [V.ref p] ∧ (SqL K H p ys ∨ SqT K H p ys) ∧ Q (.int ys.length) H) (tCons (tVar 0) tNil)) [some d, o] (nat ns.length) := by
    intro o
    rcases hd with rfl | rfl
    · exact (ev_cb (ea1 (ev_v 0)) rc_lenL).to (by rw [List.length_map])
    · exact (ev_cb (ea1 (ev_v 0)) rc_lenT).to (by rw [List.length_map])
  have ni : ∀ k : Nat, EvD (tOp (rIn K true) (tVar 1) (tVar 0)) [some d, some (nat k)] (.bl (!decide (k ∈ ns))) := by
    intro k
    rcases hd with rfl | rfl
    · exact ev_niLN (ev_v 1) (ev_v 0)
    · exact ev_niTN (ev_v 1) (ev_v 0)
  exact sd_ret (ev_minN (l := (List.range (ns.length + 1)).filter fun k => !decide (k ∈ ns)) (EvL.toD (el_lc (as := List.range (ns.length + 1)) (en := nat) (p := fun k => !decide (k ∈ ns)) (fn := nat) (ρ' := fun k => [some d, some (nat k)]) ((ei_rng1 (n := ((ns.length + 1 : Nat) : Int)) (ea1 (ea_nat (j := 1) (ln none) ev_int)) (by omega) (by omega)).to (by rw [Int.toNat_natCast])) (fun _ _ => tg_name) (fun k _ => eb_val (ni k)) (fun k _ _ => ev_v 1) (by rw [List.length_range]; omega))) (List.mem_filter.mpr ⟨List.mem_range.mpr (by omega), by simpa using m1⟩) fun x hx => Nat.le_of_not_lt fun z => by
    have := (List.mem_filter.mp hx).2
    have h := m2 x z
    simp [h] at this)⟩
def wD (m : Nat) (ts : Ps) (l : List Nat) : List (Int × Da) := l.map fun (b : Nat) => ((b : Int), nat (gw m ts b))
theorem wD_any {m : Nat} {ts : Ps} {l : List Nat} {x : Nat} : ((wD m ts l).any fun kv => decide (kv.1 = (x : Int))) = decide (x ∈ l) := by
 unfold wD
 rw [List.any_map, Bool.eq_iff_iff, List.any_eq_true, decide_eq_true_iff]
 constructor
 · rintro ⟨y, h, e⟩
   have : y = x := by simpa [Int.ofNat_inj] using e
   exact this ▸ h
 · intro h
   exact ⟨x, h, by simp⟩
theorem wD_put {m : Nat} {ts : Ps} {l : List Nat} {x : Nat} (h : x ∉ l) : dput (wD m ts l) x (nat (gw m ts x)) = wD m ts (l ++ [x]) := by
 unfold dput
 rw [wD_any, if_neg (by simpa using h)]
 simp [wD]
theorem wD_get {m : Nat} {ts : Ps} {l : List Nat} {x : Nat} (h : x ∈ l) : dget (wD m ts l) x = some (nat (gw m ts x)) := by
 induction l with
 | nil => cases h
 | cons y r ih =>
   unfold dget wD
   rw [List.map_cons, List.find?_cons]
   by_cases e : y = x
   · subst e
     simp
   · have : ¬ ((y : Int) = (x : Int)) := by omega
     rw [decide_eq_false this]
     exact ih ((List.mem_cons.mp h).resolve_left fun z => e z.symm)
theorem lf_pre {m : Nat} {ts : Ps} {pre post : List Nat} {b x : Nat} (u : Up m ts) (hs : ts.Pairwise fun p q => plt p q = true) (e : lf m ts = pre ++ b :: post) (hx : x ∈ lf m ts) (hlt : x < b) : x ∈ pre := by
 have ha := lf_asc u hs
 rw [e] at hx ha
 have h' := List.pairwise_append.mp ha
 rcases List.mem_append.mp hx with h | h
 · exact h
 · rcases List.mem_cons.mp h with h | h
   · omega
   · have := (List.pairwise_cons.mp h'.2.1).1 x h
     omega
theorem lf_new {m : Nat} {ts : Ps} {pre post : List Nat} {b : Nat} (u : Up m ts) (hs : ts.Pairwise fun p q => plt p q = true) (e : lf m ts = pre ++ b :: post) : b ∉ pre := fun z => by
 have ha := lf_asc u hs
 rw [e] at ha
 have := (List.pairwise_append.mp ha).2.2 b z b (by simp)
 omega
abbrev N_worths_by_bits : List Str := ["order", "tops", "found", "bits", "piece"]
theorem sc_worths_by_bits : FnScope N_worths_by_bits ["order"] (defScope s_worths_by_bits) := ⟨rfl, rfl, rfl, by decide +kernel, rfl, by decide +kernel, by decide +kernel⟩
def R_worths_by_bits (ds : List Da) (r : Da) : Prop := ∃ (m : Nat) (ts : Ps), ds = [od m ts] ∧ OS m ts ∧ m ≤ 9 ∧ r = .dic (wD m ts (lf m ts))
theorem ok_worths_by_bits {P : Program} {w : World} {K : PySem.W.Frag} {mg : Str → Option Value} {base : Heap} (T : Tx K mg) : Cal P w K mg base 3 "worths_by_bits" (spD R_worths_by_bits) [] := T.ok 30 30 rfl rfl sc_worths_by_bits (fun _ _ _ _ _ _ us hl => match us, hl with | [_], _ => rfl) (by rintro ds r h; obtain ⟨_, _, rfl, _⟩ := h; rfl) fun f cdv A outer s H E hr => ⟨_, (pss_cons (ps_asg (pe_tup (pa_cons (pe_c (ok_tops_by_bits T) hr (by decide) (by rfl) (pa_cons (pv 0) pa_nil)) (pa_cons pe_dnewK pa_nil))) (k_tup K (n := 2) rfl rfl (pgs_cons (pg_name (i := 1) sc_worths_by_bits.nd rfl (Or.inr rfl)) (pgs_cons (pg_name (i := 2) sc_worths_by_bits.nd rfl (Or.inr rfl)) pgs_nil)))) (pss_cons (ps_for PassesOwn.never rfl (k_seq K rfl (pe_c (ok_lefts_by_bits T) hr (by decide) (by rfl) (pa_cons (pv 0) pa_nil))) (pg_name (i := 3) sc_worths_by_bits.nd rfl (Or.inr rfl)) (pss_one (ps_dput (hu_of hr) (pv 2) (pv 3) (pe_c (ok_least_without T) hr (by decide) (by rfl) (pa_cons (pe_lc (own := [("piece", 4)]) rfl sc_worths_by_bits.nd (k_seq K rfl (pe_c (ok_pieces_for T) hr (by decide) (by rfl) (pa_cons (pv 3) pa_nil))) (blkOk_by (own := [("piece", 4)]) (N := N_worths_by_bits) (sc := (defScope s_worths_by_bits)) (by decide +kernel)) (fun _ _ _ _ _ => (pg_name (i := 4) sc_worths_by_bits.nd rfl (Or.inl rfl))) (fun _ _ _ _ _ => pts_nil) (fun _ _ _ _ _ => (pe_dget (hu_of hr) (pv 2) (pe_op op_and (pv 3) (pe_un un_inv (pe_ix (k_ix K rfl) (pv 1) (pv 4) (fun _ _ => rfl)))) (fun _ _ => rfl)))) pa_nil)) rfl))) (pss_one (ps_ret (pv 2))))), fun ds r hR => by
  obtain ⟨m, ts, rfl, os, hm, rfl⟩ := hR
  have u := os.sm.up
  have hs := os.plt
  have hz : (lf m ts).length ≤ 512 := Nat.le_trans (lf_len u hs) (Nat.le_trans (Nat.pow_le_pow_right (by omega) hm) (by decide))
  refine sd_seq (sd_asg2D (ev_call (ea1 (ev_v 0)) ⟨m, ts, rfl, os, rfl⟩)) ?_
  refine sd_seq (sd_for (as := lf m ts) (en := nat) (S := fun _ => [some (od m ts), some (.lst (nats (tops m ts))), none, none, none]) (O := fun pre => .d 2 (wD m ts pre)) (ρ' := fun _ b => [some (od m ts), some (.lst (nats (tops m ts))), none, some (nat b), none]) (ei_seqL (ev_call (ea1 (ev_v 0)) ⟨m, ts, rfl, os, hm, rfl⟩)) ⟨rfl, rfl, trivial⟩ rfl (fun _ p _ _ => tg_name) ?_ (hs1 fun _ => slot_ne rfl rfl)) ?_
  · intro pre b post e
    have hb : b ∈ lf m ts := by rw [e]; simp
    have cl := (mem_lf u hs).mp hb
    have hpre : pre.length ≤ 512 := by
      have : pre.length ≤ (lf m ts).length := by rw [e]; simp
      omega
    have b60 : b < 2 ^ 60 := Nat.lt_of_lt_of_le cl.1 (Nat.pow_le_pow_right (by omega) (by omega))
    have hp9 : (pcsB b).length ≤ 9 := by
      rw [pcsB_eq m cl.1]
      exact Nat.le_trans (List.length_filter_le _ _) (by simpa using hm)
    refine sd_fin (sd_dputV (k := (b : Int)) (d := nat (gw m ts b)) (ev_call (ea1 (EvD.to (d := .lst (nats ((pcsB b).map fun p => gw m ts (mns b (bs (up m ts p)))))) (EvL.toD (EvL.to (el_map (as := pcsB b) (en := nat) (fn := fun p => nat (gw m ts (mns b (bs (up m ts p))))) (ρ' := fun p => [some (od m ts), some (.lst (nats (tops m ts))), some (.dic (wD m ts pre)), some (nat b), some (nat p)]) (ei_seqT (ev_call (ea1 (ev_v 3)) ⟨b, rfl, b60, rfl⟩)) (fun _ _ => tg_name) (fun p hp => ?_) (by omega)) ?_)) rfl)) ⟨_, rfl, by rw [List.length_map]; omega, ?_⟩) trivial (ev_v 3) (by simp [wD]; omega)) ⟨rfl, rfl, trivial⟩ ?_
    · have tb := mem_pcsB.mp hp
      have hp' : p < m := by
        rw [pcsB_eq m cl.1] at hp
        exact List.mem_range.mp (List.mem_filter.mp hp).1
      have cl2 := cl_bite (p := p) u cl
      have lt := mns_lt tb (self_up u hp')
      refine ev_dget (k := ((mns b (bs (up m ts p)) : Nat) : Int)) (ev_v 2) (ev_mns (ev_v 3) ((ev_ixLN (i := p) (ev_v 1) (ev_v 4) (nat_at (by simp [tops]; exact hp'))).to ?_)) (wD_get (lf_pre u hs e ((mem_lf u hs).mpr cl2) lt))
      rw [tops, gN_map hp']
    · simp
    · rw [gw_eq u, ← pcsB_eq m cl.1]
    · rw [wD_put (lf_new u hs e)]
  · exact sd_frz (sd_ret (ev_v 2))⟩
abbrev N__law_worths : List Str := ["_law_net_here", "_law_up_so", "_law_found", "_law_bits_so", "_law_k"]
theorem sc__law_worths : FnScope N__law_worths ["_law_net_here"] (defScope s__law_worths) := ⟨rfl, rfl, rfl, by decide +kernel, rfl, by decide +kernel, by decide +kernel⟩
def R__law_worths (ds : List Da) (r : Da) : Prop := R_worths_by_bits ds r
theorem ok__law_worths {P : Program} {w : World} {K : PySem.W.Frag} {mg : Str → Option Value} {base : Heap} (T : Tx K mg) : Cal P w K mg base 3 "_law_worths" (spD R__law_worths) [] := T.ok 60 60 rfl rfl sc__law_worths (fun _ _ _ _ _ _ us hl => match us, hl with | [_], _ => rfl) (by rintro ds r h; obtain ⟨_, _, rfl, _⟩ := h; rfl) fun f cdv A outer s H E hr => ⟨_, (pss_cons (ps_asg (pe_tup (pa_cons (pe_c (ok__law_ups T) hr (by decide) (by rfl) (pa_cons (pv 0) pa_nil)) (pa_cons pe_dnewK pa_nil))) (k_tup K (n := 2) rfl rfl (pgs_cons (pg_name (i := 1) sc__law_worths.nd rfl (Or.inr rfl)) (pgs_cons (pg_name (i := 2) sc__law_worths.nd rfl (Or.inr rfl)) pgs_nil)))) (pss_cons (ps_for PassesOwn.never rfl (k_seq K rfl (pe_c (ok__law_lefts T) hr (by decide) (by rfl) (pa_cons (pv 0) pa_nil))) (pg_name (i := 3) sc__law_worths.nd rfl (Or.inr rfl)) (pss_one (ps_dput (hu_of hr) (pv 2) (pv 3) (pe_c (ok__law_least_out T) hr (by decide) (by rfl) (pa_cons (pe_lc (own := [("_law_k", 4)]) rfl sc__law_worths.nd (pi_range1 rfl T.b_range (pa_cons (pe_ix (k_ix K rfl) (pv 0) pe_int (fun _ _ => rfl)) pa_nil)) (blkOk_by (own := [("_law_k", 4)]) (N := N__law_worths) (sc := (defScope s__law_worths)) (by decide +kernel)) (fun _ _ _ _ _ => (pg_name (i := 4) sc__law_worths.nd rfl (Or.inl rfl))) (fun _ _ _ _ _ => pts_one (pt_cmpR (k_eq K rfl hr.units) (pe_op op_and (pe_op op_shr (pv 3) (pv 4)) pe_int) pe_int (nomark _))) (fun _ _ _ _ _ => (pe_dget (hu_of hr) (pv 2) (pe_op op_and (pv 3) (pe_un un_inv (pe_ix (k_ix K rfl) (pv 1) (pv 4) (fun _ _ => rfl)))) (fun _ _ => rfl)))) pa_nil)) rfl))) (pss_one (ps_ret (pv 2))))), fun ds r hR => by
  obtain ⟨m, ts, rfl, os, hm, rfl⟩ := hR
  have u := os.sm.up
  have hs := os.plt
  have hz : (lf m ts).length ≤ 512 := Nat.le_trans (lf_len u hs) (Nat.le_trans (Nat.pow_le_pow_right (by omega) hm) (by decide))
  refine sd_seq (sd_asg2D (ev_call (ea1 (ev_v 0)) ⟨m, ts, rfl, os, rfl⟩)) ?_
  refine sd_seq (sd_for (as := lf m ts) (en := nat) (S := fun _ => [some (od m ts), some (.lst (nats (tops m ts))), none, none, none]) (O := fun pre => .d 2 (wD m ts pre)) (ρ' := fun _ b => [some (od m ts), some (.lst (nats (tops m ts))), none, some (nat b), none]) (ei_seqL (ev_call (ea1 (ev_v 0)) ⟨m, ts, rfl, os, hm, rfl⟩)) ⟨rfl, rfl, trivial⟩ rfl (fun _ p _ _ => tg_name) ?_ (hs1 fun _ => slot_ne rfl rfl)) ?_
  · intro pre b post e
    have hb : b ∈ lf m ts := by rw [e]; simp
    have cl := (mem_lf u hs).mp hb
    have hpre : pre.length ≤ 512 := by
      have : pre.length ≤ (lf m ts).length := by rw [e]; simp
      omega
    have hp9 : ((List.range m).filter fun p => b.testBit p).length ≤ 9 := Nat.le_trans (List.length_filter_le _ _) (by simpa using hm)
    refine sd_fin (sd_dputV (k := (b : Int)) (d := nat (gw m ts b)) (ev_call (ea1 (EvD.to (d := .lst (nats (((List.range m).filter fun p => b.testBit p).map fun p => gw m ts (mns b (bs (up m ts p)))))) (EvL.toD (EvL.to (el_lc (as := List.range m) (en := nat) (p := fun p => b.testBit p) (fn := fun p => nat (gw m ts (mns b (bs (up m ts p))))) (ρ' := fun p => [some (od m ts), some (.lst (nats (tops m ts))), some (.dic (wD m ts pre)), some (nat b), some (nat p)]) ((ei_rng1 (n := (m : Int)) (ea1 (ev_ixTN (i := 0) (ev_v 0) ev_nat rfl)) (by omega) (by omega)).to (by simp)) (fun _ _ => tg_name) (fun p _ => eb_val ((ev_eqAN (j := 1) (ev_bit (ev_v 3) (ev_v 4)) ev_int).to ?_)) (fun p hp tb => ?_) (by simp; omega)) ?_)) rfl)) ⟨_, _, rfl, .inl rfl, by rw [List.length_map]; omega, ?_⟩) trivial (ev_v 3) (by simp [wD]; omega)) ⟨rfl, rfl, trivial⟩ ?_
    · cases b.testBit p <;> rfl
    · have hp' : p < m := List.mem_range.mp hp
      have cl2 := cl_bite (p := p) u cl
      have lt := mns_lt tb (self_up u hp')
      refine ev_dget (k := ((mns b (bs (up m ts p)) : Nat) : Int)) (ev_v 2) (ev_mns (ev_v 3) ((ev_ixLN (i := p) (ev_v 1) (ev_v 4) (nat_at (by simp [tops]; exact hp'))).to ?_)) (wD_get (lf_pre u hs e ((mem_lf u hs).mpr cl2) lt))
      rw [tops, gN_map hp']
    · simp
    · rw [gw_eq u]
    · rw [wD_put (lf_new u hs e)]
  · exact sd_frz (sd_ret (ev_v 2))⟩
theorem cl_full {m : Nat} {ts : Ps} (u : Up m ts) : Cl ts m (2 ^ m - 1) := ⟨by have := Nat.two_pow_pos m; omega, fun p hp _ => by
 rw [Nat.testBit_two_pow_sub_one]
 have := u p hp
 exact decide_eq_true (by omega)⟩
abbrev N_worth_in : List Str := ["order"]
theorem sc_worth_in : FnScope N_worth_in ["order"] (defScope s_worth_in) := ⟨rfl, rfl, rfl, by decide +kernel, rfl, by decide +kernel, by decide +kernel⟩
def R_worth_in (ds : List Da) (r : Da) : Prop := ∃ (m : Nat) (ts : Ps), ds = [od m ts] ∧ OS m ts ∧ m ≤ 9 ∧ r = nat (gw m ts (2 ^ m - 1))
theorem ok_worth_in {P : Program} {w : World} {K : PySem.W.Frag} {mg : Str → Option Value} {base : Heap} (T : Tx K mg) : Cal P w K mg base 4 "worth_in" (spD R_worth_in) [] := T.ok 31 31 rfl rfl sc_worth_in (fun _ _ _ _ _ _ us hl => match us, hl with | [_], _ => rfl) (by rintro ds r h; obtain ⟨_, _, rfl, _⟩ := h; rfl) fun f cdv A outer s H E hr => ⟨_, (pss_one (ps_ret (pe_dget (hu_of hr) (pe_c (ok_worths_by_bits T) hr (by decide) (by rfl) (pa_cons (pv 0) pa_nil)) (pe_op op_sub (pe_op op_shl pe_int (pe_ix (k_ix K rfl) (pv 0) pe_int (fun _ _ => rfl))) pe_int) (fun _ _ => rfl)))), fun ds r hR => by
  obtain ⟨m, ts, rfl, os, hm, rfl⟩ := hR
  have u := os.sm.up
  exact sd_ret (ev_dget (k := ((2 ^ m - 1 : Nat) : Int)) (ev_call (ea1 (ev_v 0)) ⟨m, ts, rfl, os, hm, rfl⟩) (ev_sub1 (ev_shl ev_int (ev_ixTN (i := 0) (ev_v 0) ev_nat rfl) (by omega)) (Nat.two_pow_pos m)) (wD_get ((mem_lf u os.plt).mpr (cl_full u))))⟩
end Mk
end

section
set_option Elab.async false
set_option linter.all false
/-! set(xs), xs a list of ints -/
namespace L2
open PySem PySem.Spec PyProof.Rows
abbrev mkE (w : World) : Obj := { cls := .type "set", dict := none, data := .set #[] 0 (.fresh 0 0 (!w.params.followText "set-order")) }
section
variable {P : Program} {w : World} {A : Around} {E : Value → Shared → Prop} {s : Shared}
set_option maxRecDepth 100000 in
set_option maxHeartbeats 3200000 in
theorem mk_set_ints {l : Addr} {its : Array Value} (ns : List Int) {Q : Value → Shared → Prop} (hh : A.handled = none) (hl : s.heap.IsList l its) (hi : IntsAre its.toList ns) (hb : ns.length + 1 < scanBound)
    (fin : ∀ (g : Heap) (tk c : Nat), SetR w g s.heap.objs.size (fun j => decide (j ∈ ns)) c → c ≤ ns.length → (∀ b o, s.heap.get? b = some o → g.get? b = some o) → Q (.ref s.heap.objs.size) { s with heap := g, toks := tk }) :
    wpAny (model P w) A (call (.type "set") [.ref l]) Q E s := by
  have size : its.size = ns.length := by rw [← IntsAre.length hi, Array.length_toList]
  obtain ⟨_, _, m1⟩ := F.called_set.mro
  have m2 := F.called_set.made
  have m3 := F.called_set.sub
  have m4 := F.called_set.notType
  have m5 := F.called_set.canCreate
  have m6 := F.typeCall_set_1 (.ref l)
  refine wpAny_call (codeAny_of_tree ?_)
  show wpAny _ _ (callAny (.type "set") _) _ _ _
  refine wpAny_pure ⟨Code.quiet_builtin _ (by decide +kernel), codeAny_builtin F.entry_type_call ?_⟩
  rw [Around.under_plain (weight_type_call_type "set" [.ref l] []) rfl]
  repeat (any_goals (first | assumption | wp_step))

  have at0 : (s.heap.push (mkE w)).get? s.heap.objs.size = some (mkE w) := Heap.get?_push_size _ rfl
  have sz0 : (s.heap.push (mkE w)).objs.size = s.heap.objs.size + 1 := Heap.size_push ..
  refine codeAny_mono (code_set_led1 (.ref l) (E := E) (Q₁ := fun v t => v = .ref s.heap.objs.size ∧ t = { s with heap := s.heap.push (mkE w) }) ⟨rfl, rfl⟩) fun r t hr => ?_
  cases r with
  | error e => exact hr
  | ok fl =>
    cases fl with
    | ret v =>
      obtain ⟨rfl, rfl⟩ := hr
      have ty : Shared.TypeIs { s with heap := s.heap.push (mkE w) } (.ref s.heap.objs.size) "set" := ⟨_, at0, rfl⟩
      have i1 := F.called_set.init.lookup
      have i2 := F.called_set.init.bind (.ref s.heap.objs.size)
      repeat (any_goals (first | assumption | wp_step))

      refine codeAny_mono (codeAny_call_builtin (R := wants (fun r t => r = .none ∧ ∃ g tk c, t = { s with heap := g, toks := tk } ∧ SetR w g s.heap.objs.size (fun j => decide (j ∈ ns)) c ∧ c ≤ ns.length ∧ (∀ b o, s.heap.get? b = some o → g.get? b = some o)) E)
        F.called_set.init.plain F.entry_set_init (check_set_init_1 ty ?_)) fun r2 t2 hr2 => ?_
      · obtain ⟨⟨ocls, odict, odata, oslots⟩, ol, oc, n, od⟩ := hl
        simp only at oc od
        subst oc od
        have ol2 : (s.heap.push (mkE w)).get? l = some { cls := .type "list", dict := odict, data := .seq its n, slots := oslots } := Heap.get?_push_of_some _ ol
        have f1 := F.sub_list_set
        have f2 := F.sub_list_frozenset
        have f3 : (Value.type "list" == Value.type "dict") = false := by decide
        have L : (s.heap.push (mkE w)).IsList l its := ⟨_, ol2, rfl, n, rfl⟩
        unfold Builtin.«set.__init__» noKeywords Builtin.Frozenset.updateFrom
        generalize hPI : pyIter = PI
        wp_walk
        subst hPI

        refine wpAny_pyIter_list L (wpAny_bind (wpAny_runValue ?_))
        have lt : l < s.heap.objs.size := Heap.lt_size ol
        have neI : l ≠ (s.heap.push (mkE w)).objs.size := by rw [sz0]; exact Nat.ne_of_lt (Nat.lt_succ_of_lt lt)
        have nS : s.heap.objs.size ∉ [(s.heap.push (mkE w)).objs.size, l] := by
          rw [sz0]
          simp only [List.mem_cons, List.not_mem_nil, or_false, not_or]
          exact ⟨Nat.ne_of_lt (Nat.lt_succ_self _), Nat.ne_of_gt lt⟩
        have each : ∀ (i : Nat) (v : Value), its[i]? = some v → ∃ k t, ns[i]? = some k ∧ v = .int k t := fun i v hv => by
          obtain ⟨h1, _⟩ := Array.getElem?_eq_some_iff.mp hv
          have h2 : i < ns.length := size ▸ h1
          obtain ⟨t, e⟩ := PyProof.Rows.IntsAre.int_at hi i v (by rw [Array.getElem?_toList]; exact hv)
          exact ⟨ns[i], t, List.getElem?_eq_getElem h2, by rw [e, List.getD_eq_getElem?_getD, List.getElem?_eq_getElem h2]; rfl⟩
        refine set_update_ints ((Walks.list (by simp [hh]) _ l neI its).toS) s.heap.objs.size nS ns size hb each (its.size - 0) 0 _ (by omega) (Nat.zero_le _) ⟨⟨_, Heap.get?_push_size _ rfl, rfl, rfl⟩, L.push _⟩
          ⟨0, Nat.le_refl 0, setR_new_at (Heap.get?_push_of_some _ at0)⟩ fun t3 c3 mv le S3 => ?_
        obtain ⟨g, a1, a2, tk, a3⟩ := t3
        have e1 : a1 = s.gens := mv.gens
        have e2 : a2 = s.drawn := mv.drawn
        have e3 : a3 = s.os := mv.os
        subst e1 e2 e3
        refine wpAny_pure ?_
        show wpAny _ _ (ret Value.none) _ _ _
        refine wpAny_pure ⟨rfl, g, tk, c3, rfl, S3, size ▸ le, fun b o e => mv.heap b o ?_ (Heap.get?_push_of_some _ (Heap.get?_push_of_some _ e))⟩
        have hb' := Heap.lt_size e
        rw [sz0]
        simp only [List.mem_cons, List.not_mem_nil, or_false, not_or]
        exact ⟨Nat.ne_of_lt hb', Nat.ne_of_lt (Nat.lt_succ_of_lt hb')⟩

      · cases r2 with
        | error e => exact hr2
        | ok fl2 =>
          cases fl2 with
          | ret v =>
            obtain ⟨rfl, g, tk, c3, rfl, S3, le, kp⟩ := hr2
            repeat (any_goals (first | assumption | wp_step))
            exact fin g tk c3 S3 le kp
          | _ => exact hr2.elim
    | _ => exact hr.elim
end
section
variable {X : Cx}
def rSetI (K : PySem.W.Frag) (w : World) : List V → Hp → VK → Prop := fun xs H Q => ∃ (l : Addr) (ns : List Int), xs = [V.ref l] ∧ SqL K H l (ns.map V.int) ∧ ns.length < 60 ∧ ∀ a n, H a = none → n ≤ ns.length → Q (.ref a) (upd H a (SetO w a (fun j => decide (j ∈ ns)) n))
theorem cr_setI (hc : X.calm = true) : CallR X (.type "set") (rSetI X.K X.w) := by
  intro pins s σ H xs us Q I r h
  obtain ⟨l, ns, rfl, hl, hz, q⟩ := h
  rw [Vals.ref1 r]
  obtain ⟨its, rv, pl, _⟩ := I.list hl
  refine mk_set_ints (P := X.prog) (w := X.w) ns (I.ok.hd hc) pl.isList (by simpa using ints_of_vals rv) (by unfold scanBound; omega) fun g tk c R le kp => ?_
  exact ⟨.ref s.heap.objs.size, _, I.laid (t' := tk) kp (Nat.le_refl _) (setO_new R), rfl, q _ c (I.hok.fresh (Nat.le_refl _)) le⟩
end
end L2
end

section
set_option Elab.async false
set_option linter.all false
/-! nets: closure from above, ties, sums, parts -/
namespace Mk
section
variable {m : Nat} {ps ts : Ps} {fs : List Nat} {l : List Nat} {a b c p q x y : Nat}
/-- the net's two loops -/
def mstep (low : Nat) (fs : List Nat) (p : Nat × Nat) : List Nat := if p.1 = low then fs.set low (gN fs low ||| gN fs p.2) else fs
def ntop (m : Nat) (ps : Ps) : List Nat := (List.range m).reverse.foldl (fun fs low => ps.foldl (mstep low) fs) ((List.range m).map fun k => 2 ^ k)
theorem mfold_at (low : Nat) (hl : low < m) : ∀ {s : Ps} {fs : List Nat}, (∀ p ∈ s, p.1 < p.2) → fs.length = m → ((s.foldl (mstep low) fs).length = m ∧ ∀ a, ∀ q, (gN (s.foldl (mstep low) fs) a).testBit q = true ↔ (gN fs a).testBit q = true ∨ (a = low ∧ ∃ b, (low, b) ∈ s ∧ (gN fs b).testBit q = true)) := fun {s} => by
  induction s with
  | nil => intro fs _ h; exact ⟨h, fun a q => by simp⟩
  | cons p s ih =>
    intro fs u h
    have hp := u p List.mem_cons_self
    rw [List.foldl_cons]
    have h' : (mstep low fs p).length = m := by
      unfold mstep
      split <;> simp [h]
    obtain ⟨h1, h2⟩ := ih (fun q hq => u q (List.mem_cons_of_mem _ hq)) h'
    refine ⟨h1, fun a q => ?_⟩
    rw [h2]
    by_cases e : p.1 = low
    · have e1 : ∀ a, gN (mstep low fs p) a = if a = low then gN fs low ||| gN fs p.2 else gN fs a := fun a => by
        unfold mstep
        rw [if_pos e]
        exact gN_set (by omega)
      rw [e1]
      by_cases ea : a = low
      · subst ea
        rw [if_pos rfl, Nat.testBit_or, Bool.or_eq_true_iff]
        constructor
        · rintro ((h | h) | ⟨_, b, hb, h⟩)
          · exact .inl h
          · exact .inr ⟨rfl, p.2, by rw [← e]; exact List.mem_cons_self, h⟩
          · rw [e1] at h
            by_cases eb : b = a
            · rw [if_pos eb, Nat.testBit_or, Bool.or_eq_true_iff] at h
              rcases h with h | h
              · exact .inl h
              · exact .inr ⟨rfl, p.2, by rw [← e]; exact List.mem_cons_self, h⟩
            · rw [if_neg eb] at h
              exact .inr ⟨rfl, b, List.mem_cons_of_mem _ hb, h⟩
        · rintro (h | ⟨_, b, hb, h⟩)
          · exact .inl (.inl h)
          · rcases List.mem_cons.mp hb with hb | hb
            · have : p.2 = b := by rw [← hb]
              exact .inl (.inr (by rw [this]; exact h))
            · refine .inr ⟨rfl, b, hb, ?_⟩
              rw [e1]
              split
              · rename_i eb
                rw [Nat.testBit_or, Bool.or_eq_true_iff]
                exact .inl (by rw [← eb]; exact h)
              · exact h
      · rw [if_neg ea]
        simp [ea]
    · have e0 : mstep low fs p = fs := if_neg e
      rw [e0]
      have : ∀ b, (low, b) ∈ p :: s ↔ (low, b) ∈ s := fun b => by
        rw [List.mem_cons]
        constructor
        · rintro (h | h)
          · exact absurd (by rw [← h]) e
          · exact h
        · exact .inr
      simp only [this]
theorem nfold_at (u : Up m ps) : ∀ k, k ≤ m → ∀ fs, fs.length = m → (∀ a q, a < m → ((gN fs a).testBit q = true ↔ if k ≤ a then Reach ps a q else a = q)) →
    (((List.range k).reverse.foldl (fun fs low => ps.foldl (mstep low) fs) fs).length = m ∧ ∀ a q, a < m → ((gN ((List.range k).reverse.foldl (fun fs low => ps.foldl (mstep low) fs) fs) a).testBit q = true ↔ Reach ps a q)) := by
  intro k
  induction k with
  | zero =>
    intro _ fs h hf
    exact ⟨h, fun a q ha => by have := hf a q ha; simpa using this⟩
  | succ k ih =>
    intro hk fs h hf
    rw [List.range_succ, List.reverse_append]
    show ((List.range k).reverse.foldl _ (ps.foldl (mstep k) fs)).length = m ∧ _
    obtain ⟨h1, h2⟩ := mfold_at (m := m) k (by omega) (s := ps) (fs := fs) (fun p hp => (u p hp).1) h
    refine ih (by omega) _ h1 fun a q ha => ?_
    rw [h2, hf a q ha]
    by_cases e : a = k
    · subst e
      rw [if_neg (by omega), if_pos (Nat.le_refl _)]
      constructor
      · rintro (rfl | ⟨_, b, hb, h⟩)
        · exact .refl _
        · have hb' : a < b ∧ b < m := u _ hb
          rw [hf b q hb'.2, if_pos (by omega)] at h
          exact .step hb h
      · intro r
        by_cases eq : a = q
        · exact .inl eq
        · obtain ⟨b, hb, r2⟩ := r.first eq
          have hb' : a < b ∧ b < m := u _ hb
          exact .inr ⟨rfl, b, hb, by rw [hf b q hb'.2, if_pos (by omega)]; exact r2⟩
    · have : (k + 1 ≤ a) ↔ (k ≤ a) := by omega
      simp only [this, e, false_and, or_false]
theorem ntop_eq (u : Up m ps) : ntop m ps = tops m ps := by
  unfold ntop
  obtain ⟨h1, h2⟩ := nfold_at u m (Nat.le_refl _) ((List.range m).map fun k => 2 ^ k) (by simp) fun a q ha => by
    rw [gN_map ha, Nat.testBit_two_pow, decide_eq_true_iff, if_neg (by omega)]
  refine List.ext_getElem (by rw [h1]; simp [tops]) fun i i1 i2 => ?_
  rw [h1] at i1
  have z : gN ((List.range m).reverse.foldl (fun fs low => ps.foldl (mstep low) fs) ((List.range m).map fun k => 2 ^ k)) i = bs (up m ps i) := by
    refine Nat.eq_of_testBit_eq fun q => ?_
    rw [tb_bs up_asc, Bool.eq_iff_iff, h2 i q i1, decide_eq_true_iff, mem_up u]
    refine ⟨fun h => ⟨?_, h⟩, fun h => h.2⟩
    by_cases e : i = q
    · omega
    · exact h.bd u e
  unfold gN at z
  rw [List.getD_eq_getElem?_getD, List.getElem?_eq_getElem (by rw [h1]; exact i1)] at z
  simp only [tops, List.getElem_map, List.getElem_range]
  exact z
theorem len_mfold (low : Nat) : ∀ {s : Ps} {fs : List Nat}, (s.foldl (mstep low) fs).length = fs.length := fun {s} => by
  induction s with
  | nil => intro fs; rfl
  | cons p r ih =>
    intro fs
    rw [List.foldl_cons, ih]
    unfold mstep
    split <;> simp
theorem len_nfold {as : List Nat} : ∀ {fs : List Nat}, (as.foldl (fun fs low => ps.foldl (mstep low) fs) fs).length = fs.length := by
  induction as with
  | nil => intro fs; rfl
  | cons p r ih => intro fs; rw [List.foldl_cons, ih, len_mfold]
theorem tb_tops (u : Up m ps) (ha : a < m) : (gN (tops m ps) a).testBit q = rb ps m a q := by
  rw [tops, gN_map ha, tb_bs up_asc, Bool.eq_iff_iff, decide_eq_true_iff, mem_up u, rb_iff u]
  refine ⟨fun h => h.2, fun h => ⟨?_, h⟩⟩
  by_cases e : a = q
  · omega
  · exact h.bd u e
/-- those over low -/
def over (m : Nat) (ps : Ps) (low : Nat) : List Nat := ((List.range (m - (low + 1))).map fun i => low + 1 + i).filter fun own => rb ps m low own
theorem mem_over (u : Up m ps) (ha : a < m) : b ∈ over m ps a ↔ a ≠ b ∧ Reach ps a b := by
  unfold over
  rw [List.mem_filter, rb_iff u, List.mem_map]
  constructor
  · rintro ⟨⟨i, hi, rfl⟩, r⟩
    exact ⟨by omega, r⟩
  · rintro ⟨n, r⟩
    have := r.lt u n
    have := r.bd u n
    exact ⟨⟨b - (a + 1), by simp; omega, by omega⟩, r⟩
theorem over_asc : (over m ps a).Pairwise (· < ·) := by
  unfold over
  refine List.Pairwise.filter _ ?_
  rw [List.pairwise_map]
  refine List.pairwise_lt_range.imp ?_
  intro a b h
  omega
def clear (m : Nat) (ps : Ps) (low own : Nat) : Bool := decide (((over m ps low).filter fun its => !decide (its = own) && rb ps m its own) = [])
theorem over_ties (u : Up m ps) (ha : a < m) : (over m ps a).filter (clear m ps a) = (List.range m).filter (tie m ps a) := by
  refine eq_of_lt (over_asc.filter _) (List.pairwise_lt_range.filter _) fun b => ?_
  rw [List.mem_filter, List.mem_filter, tie_iff u, mem_over u ha, List.mem_range]
  unfold clear
  rw [decide_eq_true_iff, List.filter_eq_nil_iff]
  unfold Tie
  constructor
  · rintro ⟨⟨n, r⟩, h⟩
    refine ⟨r.bd u n, n, r, fun c h1 h2 h3 h4 => ?_⟩
    refine h c ((mem_over u ha).mpr ⟨fun z => h1 z.symm, h3⟩) ?_
    simp [h2, rb_iff u, h4]
  · rintro ⟨hb, n, r, h⟩
    refine ⟨⟨n, r⟩, fun c hc z => ?_⟩
    have hc' := (mem_over u ha).mp hc
    simp [rb_iff u] at z
    exact h c (fun z => hc'.1 z.symm) z.1 hc'.2 z.2
theorem red_over (u : Up m ps) : red m ps = (List.range m).flatMap fun a => ((over m ps a).filter (clear m ps a)).map fun b => (a, b) := by
  unfold red
  rw [List.flatMap_def, List.flatMap_def]
  congr 1
  refine List.map_congr_left fun a ha => ?_
  rw [over_ties u (List.mem_range.mp ha)]
/-! side by side, one over the other -/
def shift (a : Nat) (us : Ps) : Ps := us.map fun p => (p.1 + a, p.2 + a)
def heapP (a b : Nat) : Ps := (List.range a).flatMap fun low => (List.range b).map fun k => (low, a + k)
theorem shift_up {us : Ps} (u : Up b us) : Up (a + b) (shift a us) := fun p hp => by
  obtain ⟨q, hq, rfl⟩ := List.mem_map.mp hp
  have := u q hq
  exact ⟨by simp; omega, by simp; omega⟩
theorem aside_up {us : Ps} (u : Up a ts) (v : Up b us) : Up (a + b) (ts ++ shift a us) := fun p hp => by
  rcases List.mem_append.mp hp with h | h
  · have := u p h
    exact ⟨this.1, by omega⟩
  · exact shift_up v p h
theorem heapP_up : Up (a + b) (heapP a b) := fun p hp => by
  unfold heapP at hp
  simp only [List.mem_flatMap, List.mem_map, List.mem_range] at hp
  obtain ⟨x, hx, k, hk, rfl⟩ := hp
  exact ⟨by simp; omega, by simp; omega⟩
theorem aside_lo {us : Ps} (u : Up a ts) (h : Reach (ts ++ shift a us) x y) (hx : x < a) : y < a ∧ Reach ts x y := by
  induction h with
  | refl => exact ⟨hx, .refl _⟩
  | @step x z y e _ ih =>
    rcases List.mem_append.mp e with e | e
    · obtain ⟨h1, h2⟩ := ih (u _ e).2
      exact ⟨h1, .step e h2⟩
    · obtain ⟨q, _, e⟩ := List.mem_map.mp e
      have := congrArg Prod.fst e
      simp at this
      omega
theorem aside_hi {us : Ps} (u : Up a ts) (h : Reach (ts ++ shift a us) x y) (hx : a ≤ x) : a ≤ y ∧ Reach us (x - a) (y - a) := by
  induction h with
  | refl => exact ⟨hx, .refl _⟩
  | @step x z y e _ ih =>
    rcases List.mem_append.mp e with e | e
    · have h1 : x < z ∧ z < a := u _ e
      omega
    · obtain ⟨q, hq, e⟩ := List.mem_map.mp e
      have e1 := congrArg Prod.fst e
      have e2 := congrArg Prod.snd e
      simp at e1 e2
      obtain ⟨h1, h2⟩ := ih (by omega)
      refine ⟨h1, .step (b := z - a) ?_ h2⟩
      have : q = (x - a, z - a) := by
        obtain ⟨q1, q2⟩ := q
        simp at e1 e2 ⊢
        omega
      rw [← this]
      exact hq
theorem mono_reach {ps qs : Ps} (h : ∀ p ∈ ps, p ∈ qs) (r : Reach ps x y) : Reach qs x y := by
  induction r with
  | refl => exact .refl _
  | step e _ ih => exact .step (h _ e) ih
theorem shift_reach {us : Ps} (r : Reach us x y) : Reach (shift a us) (x + a) (y + a) := by
  induction r with
  | refl => exact .refl _
  | step e _ ih => exact .step (List.mem_map.mpr ⟨_, e, rfl⟩) ih
/-- side by side is an order -/
theorem aside_red {us : Ps} (u : Up a ts) (v : Up b us) (h1 : red a ts = ts) (h2 : red b us = us) : red (a + b) (ts ++ shift a us) = ts ++ shift a us := by
  have w := aside_up u v
  have p1 : ts.Pairwise fun p q => plt p q = true := by rw [← h1]; exact red_asc
  have p2 : us.Pairwise fun p q => plt p q = true := by rw [← h2]; exact red_asc
  refine eq_of_plt red_asc ?_ fun p => ?_
  · refine List.pairwise_append.mpr ⟨p1, ?_, ?_⟩
    · unfold shift
      rw [List.pairwise_map]
      refine p2.imp fun {p q} h => ?_
      have := plt_iff.mp h
      exact plt_iff.mpr (by simp; omega)
    · intro p hp q hq
      obtain ⟨r, _, rfl⟩ := List.mem_map.mp hq
      have := u p hp
      exact plt_iff.mpr (.inl (by simp; omega))
  · obtain ⟨x, y⟩ := p
    rw [mem_red w]
    constructor
    · intro t
      by_cases hx : x < a
      · obtain ⟨_, r⟩ := aside_lo u t.2.1 hx
        refine List.mem_append_left _ ?_
        rw [← h1]
        exact (mem_red u).mpr ⟨t.1, r, fun c n1 n2 n3 n4 => t.2.2 c n1 n2 (mono_reach (fun p hp => List.mem_append_left _ hp) n3) (mono_reach (fun p hp => List.mem_append_left _ hp) n4)⟩
      · obtain ⟨hy, r⟩ := aside_hi u t.2.1 (by omega)
        refine List.mem_append_right _ (List.mem_map.mpr ⟨(x - a, y - a), ?_, by simp; omega⟩)
        rw [← h2]
        refine (mem_red v).mpr ⟨fun z => t.1 (by omega), r, fun c n1 n2 n3 n4 => t.2.2 (c + a) (by omega) (by omega) ?_ ?_⟩
        · have := mono_reach (qs := ts ++ shift a us) (fun p hp => List.mem_append_right _ hp) (shift_reach (a := a) n3)
          rwa [Nat.sub_add_cancel (by omega)] at this
        · have := mono_reach (qs := ts ++ shift a us) (fun p hp => List.mem_append_right _ hp) (shift_reach (a := a) n4)
          rwa [Nat.sub_add_cancel (by omega)] at this
    · intro h
      rcases List.mem_append.mp h with h | h
      · have hb := u _ h
        rw [← h1] at h
        have t := (mem_red u).mp h
        refine ⟨t.1, mono_reach (fun p hp => List.mem_append_left _ hp) t.2.1, fun c n1 n2 n3 n4 => ?_⟩
        simp at hb
        obtain ⟨k1, k2⟩ := aside_lo u n3 (by omega)
        exact t.2.2 c n1 n2 k2 (aside_lo u n4 k1).2
      · obtain ⟨q, hq, e⟩ := List.mem_map.mp h
        have e1 := congrArg Prod.fst e
        have e2 := congrArg Prod.snd e
        simp at e1 e2
        rw [← h2] at hq
        have t := (mem_red (a := q.1) (b := q.2) v).mp hq
        subst e1 e2
        refine ⟨fun z => t.1 (by omega), mono_reach (fun p hp => List.mem_append_right _ hp) (shift_reach t.2.1), fun c n1 n2 n3 n4 => ?_⟩
        obtain ⟨k1, k2⟩ := aside_hi u n3 (by omega)
        obtain ⟨_, k4⟩ := aside_hi u n4 k1
        rw [Nat.add_sub_cancel] at k2 k4
        exact t.2.2 (c - a) (by omega) (by omega) k2 k4
/-! parts, by the law's own code -/
def partL (m : Nat) (ps : Ps) (pcs : List Nat) : Ps := pcs.zipIdx.flatMap fun q => (pcs.zipIdx.filter fun r => decide (q.2 < r.2) && rb ps m q.1 r.1).map fun r => (q.2, r.2)
theorem mem_partL : (x, y) ∈ partL m ps l ↔ ∃ a b, l[x]? = some a ∧ l[y]? = some b ∧ x < y ∧ rb ps m a b = true := by
  unfold partL
  simp only [List.mem_flatMap, List.mem_map, List.mem_filter, Prod.mk.injEq, Bool.and_eq_true, decide_eq_true_eq]
  constructor
  · rintro ⟨⟨a, i⟩, hq, ⟨b, j⟩, ⟨hr, h1, h2⟩, rfl, rfl⟩
    exact ⟨a, b, List.mem_zipIdx_iff_getElem?.mp hq, List.mem_zipIdx_iff_getElem?.mp hr, h1, h2⟩
  · rintro ⟨a, b, h1, h2, h3, h4⟩
    exact ⟨(a, x), List.mem_zipIdx_iff_getElem?.mpr h1, (b, y), ⟨List.mem_zipIdx_iff_getElem?.mpr h2, h3, h4⟩, rfl, rfl⟩
theorem partL_partP (u : Up m ps) (h : l.Pairwise (· < ·)) : (x, y) ∈ partL m ps l ↔ (x, y) ∈ partP m ps l := by
  rw [mem_partL]
  unfold partP cps kept
  simp only [List.mem_map, List.mem_filter, Bool.and_eq_true, decide_eq_true_eq, Prod.mk.injEq]
  have gx : ∀ {i a : Nat}, l[i]? = some a → i < l.length ∧ gn l i = a := fun {i a} e => by
    refine ⟨(List.getElem?_eq_some_iff.mp e).1, ?_⟩
    unfold gn
    rw [List.getD_eq_getElem?_getD, e]
    rfl
  constructor
  · rintro ⟨a, b, h1, h2, h3, h4⟩
    obtain ⟨l1, e1⟩ := gx h1
    obtain ⟨l2, e2⟩ := gx h2
    have r := (rb_iff u).mp h4
    have lt := gn_lt h h3 l2
    refine ⟨(a, b), ⟨(mem_prsIn u).mpr ⟨by omega, r⟩, List.mem_of_getElem? h1, List.mem_of_getElem? h2⟩, ?_, ?_⟩
    · rw [← e1]; exact pl_gn h l1
    · rw [← e2]; exact pl_gn h l2
  · rintro ⟨⟨a, b⟩, ⟨h1, h2, h3⟩, rfl, rfl⟩
    obtain ⟨n, r⟩ := (mem_prsIn u).mp h1
    have lt := r.lt u n
    have g : ∀ {z}, z ∈ l → l[pl l z]? = some z := fun {z} hz => by
      have := gn_pl h hz
      unfold gn at this
      rw [List.getD_eq_getElem?_getD, List.getElem?_eq_getElem (pl_lt h hz)] at this
      rw [List.getElem?_eq_getElem (pl_lt h hz)]
      exact congrArg some this
    exact ⟨a, b, g h2, g h3, pl_mono h h2 h3 lt, (rb_iff u).mpr r⟩
theorem red_mem {ps qs : Ps} (u : Up m ps) (v : Up m qs) (h : ∀ x y, (x, y) ∈ ps ↔ (x, y) ∈ qs) : red m ps = red m qs := red_congr u v fun a b => ⟨mono_reach fun p hp => (h p.1 p.2).mp hp, mono_reach fun p hp => (h p.1 p.2).mpr hp⟩
theorem partL_up (u : Up m ps) (h : l.Pairwise (· < ·)) : Up l.length (partL m ps l) := fun p hp => partP_up u h p ((partL_partP u h).mp hp)
theorem partL_red (u : Up m ps) (h : l.Pairwise (· < ·)) : red l.length (partL m ps l) = red l.length (partP m ps l) := red_mem (partL_up u h) (partP_up u h) fun _ _ => partL_partP u h
end
end Mk
end

section
set_option Elab.async false
set_option linter.all false
set_option maxRecDepth 100000
set_option maxHeartbeats 2000000
/-! sorted(set(xs)): ints, pairs -/
namespace Mk
open PySem PySem.Spec PyProof.Rows L2
open Evl (Ex)
section
variable {te : TE} {ρ : DE} {K : PySem.W.Frag} {P : Program} {w : World}
theorem el_sortSet {l out : List Nat} (h : EvD te ρ (.lst (nats l))) (hz : l.length < 60) (hs : out.Pairwise (· < ·)) (hm : ∀ x, x ∈ out ↔ x ∈ l) : EvL (tCB (rSortedSet w) (tCons (tCB (rSetI K w) (tCons te tNil)) tNil)) ρ (nats out) := fun G H σ x en Q q => by
  rw [nats_ints] at h
  refine h G H σ x en _ fun v G1 H1 g1 r1 => ?_
  obtain ⟨p, vs, rfl, h1, ra⟩ := r1.isLst
  have e := ra.ints
  subst e
  refine ⟨p, _, rfl, SqL.of (g1.gh _ _ h1), by rw [List.length_map]; exact hz, fun a n ha hn => ?_⟩
  rw [List.length_map] at hn
  refine ⟨a, _, n, rfl, upd_same, by omega, fun ns b k1 k2 k3 hb => ?_⟩
  have g2 : Gr G1 H1 G1 (upd H1 a (SetO w a (fun j => decide (j ∈ l.map Int.ofNat)) n)) := .sec g1.gh (Ex.new ha)
  have e : ns = out.map Int.ofNat := by
    have e1 : ns.Perm (out.map Int.ofNat) := by
      refine (List.perm_ext_iff_of_nodup (k1.imp fun {a b} z e => by omega) ?_).mpr fun k => ?_
      · exact List.nodup_iff_pairwise_ne.mpr (List.pairwise_map.mpr (hs.imp fun {a b} z e => by have := Int.ofNat.inj e; omega))
      · rw [k2, decide_eq_true_iff]
        simp only [List.mem_map]
        constructor
        · rintro ⟨y, hy, rfl⟩
          exact ⟨y, (hm y).mpr hy, rfl⟩
        · rintro ⟨y, hy, rfl⟩
          exact ⟨y, (hm y).mp hy, rfl⟩
    exact e1.eq_of_pairwise (fun a b _ _ x y => by omega) k1 (List.pairwise_map.mpr (hs.imp fun {a b} z => Int.ofNat_lt.mpr z))
  subst e
  rw [nats_ints] at q
  exact q b _ G1 _ (g1.trans (g2.trans (.sec g2.gh (Ex.new hb)))) (ex_no (g1.trans g2).hh hb) (ex_no g2.gh hb) upd_same (.ofInts _)
def dec (l : List Int) : Nat × Nat := ((l.getD 0 0).toNat, (l.getD 1 0).toNat)
def enc (q : Nat × Nat) : List Int := [(q.1 : Int), (q.2 : Int)]
theorem dec_enc (q : Nat × Nat) : dec (enc q) = q := by simp [dec, enc]
theorem keys_of {G : Hp} : ∀ {vs : List V} {ps : Ps}, RpA G vs (ps.map pr) → ∃ ks : List (Addr × List Int), vs = ks.map (fun p => V.ref p.1) ∧ (∀ p ∈ ks, G p.1 = some (.tup (p.2.map V.int))) ∧ ks.map (·.2) = ps.map enc
  | _, [], .nil => ⟨[], rfl, (fun p h => nomatch h), rfl⟩
  | _, q :: ps, .cons h r => by
    obtain ⟨a, us, rfl, ha, ra⟩ := h.isTup
    obtain ⟨ks, rfl, h1, h2⟩ := keys_of r
    have e := RpA.ints (ns := enc q) ra
    subst e
    refine ⟨(a, enc q) :: ks, rfl, fun p hp => ?_, by rw [List.map_cons, h2]; rfl⟩
    rcases List.mem_cons.mp hp with rfl | hp
    · exact ha
    · exact h1 p hp
theorem rpa_of {G : Hp} : ∀ {L : List (Addr × List Int)}, (∀ p ∈ L, G p.1 = some (.tup (p.2.map V.int)) ∧ p.2 = enc (dec p.2)) → RpA G (L.map fun q => V.ref q.1) ((L.map fun p => dec p.2).map pr)
  | [], _ => .nil
  | p :: L, h => by
    obtain ⟨h1, h2⟩ := h p List.mem_cons_self
    rw [h2] at h1
    exact .cons (.tup h1 (.ofInts (enc (dec p.2)))) (rpa_of fun q hq => h q (List.mem_cons_of_mem _ hq))
/-- sorted(set(pairs)) -/
theorem el_sortSetT {ps out : Ps} (h : EvD te ρ (.lst (ps.map pr))) (hz : ps.length < 64) (hb : ∀ p ∈ ps, p.1 < 64 ∧ p.2 < 64) (hs : out.Pairwise fun p q => plt p q = true) (hm : ∀ x, x ∈ out ↔ x ∈ ps) :
    EvL (tCB (rSortedT K P w) (tCons (tCB (rSetOfT K P w) (tCons te tNil)) tNil)) ρ (out.map pr) := fun G H σ x en Q q => by
  refine h G H σ x en _ fun v G1 H1 g1 r1 => ?_
  obtain ⟨p, vs, rfl, h1, ra⟩ := r1.isLst
  obtain ⟨ks, rfl, k1, k2⟩ := keys_of ra
  have klen : ks.length = ps.length := by have := congrArg List.length k2; simpa using this
  have kmem : ∀ z ∈ ks, ∃ u ∈ ps, z.2 = enc u := fun z hz => by
    have : z.2 ∈ ks.map (·.2) := List.mem_map.mpr ⟨z, hz, rfl⟩
    rw [k2] at this
    obtain ⟨u, hu, e⟩ := List.mem_map.mp this
    exact ⟨u, hu, e.symm⟩
  refine ⟨p, ks, rfl, SqL.of (g1.gh _ _ h1), fun z hz => SqT.of (g1.gh _ _ (k1 z hz)), by omega, fun a L ha hL hK => ?_⟩
  have g2 : Gr G1 H1 G1 (upd H1 a (SetTO P w a L)) := .sec g1.gh (Ex.new ha)
  refine ⟨a, L, 2, 64, rfl, upd_same, fun z hz => SqT.of (g2.gh _ _ (k1 z (hL z hz))), by decide, fun z hz => ?_, fun L' b pm nd few pw hb' => ?_⟩
  · obtain ⟨u, hu, e⟩ := kmem z (hL z hz)
    have := hb u hu
    rw [e]
    refine ⟨rfl, fun t ht => ?_⟩
    have : t = (u.1 : Int) ∨ t = (u.2 : Int) := by simpa [enc] using ht
    omega
  · have mem' : ∀ z ∈ L', ∃ u ∈ ps, z.2 = enc u := fun z hz => kmem z (hL z (pm.mem_iff.mp hz))
    have e : (L'.map fun z => dec z.2) = out := by
      refine eq_of_plt ?_ hs fun u => ?_
      · rw [List.pairwise_map]
        have nd' : L'.Pairwise fun z t => z.2 ≠ t.2 := List.pairwise_map.mp nd
        refine List.Pairwise.imp_of_mem (fun {z t} hz ht h => ?_) (pw.and nd')
        obtain ⟨u, hu, e1⟩ := mem' z hz
        obtain ⟨y, hy, e2⟩ := mem' t ht
        have c := h.1
        have n := h.2
        rw [e1, e2] at c n
        rw [e1, e2, dec_enc, dec_enc]
        have b1 := hb u hu
        have b2 := hb y hy
        have z := pair_lt c n (by omega) (by omega) (by omega) (by omega)
        exact plt_iff.mpr (by omega)
      · rw [hm, List.mem_map]
        constructor
        · rintro ⟨z, hz, rfl⟩
          obtain ⟨y, hy, e⟩ := mem' z hz
          rw [e, dec_enc]
          exact hy
        · intro hu
          have : enc u ∈ ks.map (·.2) := by rw [k2]; exact List.mem_map.mpr ⟨u, hu, rfl⟩
          obtain ⟨z, hz, e⟩ := List.mem_map.mp this
          have w := hK z hz
          obtain ⟨z', hz', e'⟩ := List.mem_map.mp w
          exact ⟨z', pm.mem_iff.mpr hz', by rw [e', e, dec_enc]⟩
    refine q b _ G1 _ (g1.trans (g2.trans (.sec g2.gh (Ex.new hb')))) (ex_no (g1.trans g2).hh hb') (ex_no g2.gh hb') upd_same ?_
    rw [← e]
    refine rpa_of fun z hz => ?_
    obtain ⟨y, hy, ez⟩ := mem' z hz
    exact ⟨k1 z (hL z (pm.mem_iff.mp hz)), by rw [ez, dec_enc]⟩
end
end Mk
end

section
set_option Elab.async false
set_option linter.all false
set_option maxRecDepth 100000
set_option maxHeartbeats 2000000
namespace Mk
open PySem PySem.Spec PyProof.Rows L2
open Evl (Ex)
open C8 (Cal pe_c pe_gc)
def opts (m : Nat) (ts : Ps) : List Nat := (tops m ts).map fun t => gw m ts (mns (2 ^ m - 1) t)
def wS (m : Nat) (ts : Ps) : List Nat := srt (m + 1) (opts m ts)
theorem gw_le {m : Nat} {ts : Ps} {b : Nat} (u : Up m ts) : gw m ts b ≤ m := by
 rw [gw_eq u]
 refine Nat.le_trans (mex_spec _).2.2 ?_
 rw [List.length_map]
 exact Nat.le_trans (List.length_filter_le _ _) (by simp)
theorem mem_wS {m : Nat} {ts : Ps} (u : Up m ts) {x : Nat} : x ∈ wS m ts ↔ x ∈ opts m ts := by
 unfold wS srt
 rw [List.mem_filter, List.mem_range, decide_eq_true_iff]
 refine ⟨fun h => h.2, fun h => ⟨?_, h⟩⟩
 obtain ⟨t, _, rfl⟩ := List.mem_map.mp h
 have := gw_le (b := mns (2 ^ m - 1) t) u
 omega
theorem gw_full {m : Nat} {ts : Ps} (u : Up m ts) : mex (wS m ts) = gw m ts (2 ^ m - 1) := by
 rw [mex_congr fun x => mem_wS u, gw_eq u, opts, tops, List.map_map]
 congr 1
 have e : ((List.range m).filter fun p => (2 ^ m - 1).testBit p) = List.range m := List.filter_eq_self.mpr fun p hp => by
   rw [Nat.testBit_two_pow_sub_one]
   exact decide_eq_true (List.mem_range.mp hp)
 rw [e]
 rfl
abbrev N__law_set : List Str := ["_law_net_here", "_law_worths_so", "_law_all_so", "_law_own"]
theorem sc__law_set : FnScope N__law_set ["_law_net_here"] (defScope s__law_set) := ⟨rfl, rfl, rfl, by decide +kernel, rfl, by decide +kernel, by decide +kernel⟩
def R__law_set (ds : List Da) (r : Da) : Prop := ∃ (m : Nat) (ts : Ps), ds = [od m ts] ∧ OS m ts ∧ m ≤ 9 ∧ r = .tup (nats (wS m ts))
theorem ok__law_set {P : Program} {w : World} {K : PySem.W.Frag} {mg : Str → Option Value} {base : Heap} (T : Tx K mg) : Cal P w K mg base 4 "_law_set" (spD R__law_set) [] := T.ok 61 61 rfl rfl sc__law_set (fun _ _ _ _ _ _ us hl => match us, hl with | [_], _ => rfl) (by rintro ds r h; obtain ⟨_, _, rfl, _⟩ := h; rfl) fun f cdv A outer s H E hr => ⟨_, (pss_cons (ps_asg (pe_tup (pa_cons (pe_c (ok__law_worths T) hr (by decide) (by rfl) (pa_cons (pv 0) pa_nil)) (pa_cons (pe_op op_sub (pe_op op_shl pe_int (pe_ix (k_ix K rfl) (pv 0) pe_int (fun _ _ => rfl))) pe_int) pa_nil))) (k_tup K (n := 2) rfl rfl (pgs_cons (pg_name (i := 1) sc__law_set.nd rfl (Or.inr rfl)) (pgs_cons (pg_name (i := 2) sc__law_set.nd rfl (Or.inr rfl)) pgs_nil)))) (pss_one (ps_ret (pe_callTy (k_tuple K rfl) (by rfl) T.b_tuple (by decide +kernel) (pa_cons (pe_callB (cr_sortedSet rfl) (by rfl) T.b_sorted (by decide +kernel) (pa_cons (pe_callTy (L2.cr_setI rfl) (by rfl) T.b_set (by decide +kernel) (pa_cons (pe_lc (own := [("_law_own", 3)]) rfl sc__law_set.nd (k_seq K rfl (pe_c (ok__law_ups T) hr (by decide) (by rfl) (pa_cons (pv 0) pa_nil))) (blkOk_by (own := [("_law_own", 3)]) (N := N__law_set) (sc := (defScope s__law_set)) (by decide +kernel)) (fun _ _ _ _ _ => (pg_name (i := 3) sc__law_set.nd rfl (Or.inl rfl))) (fun _ _ _ _ _ => pts_nil) (fun _ _ _ _ _ => (pe_dget (hu_of hr) (pv 1) (pe_op op_and (pv 2) (pe_un un_inv (pv 3))) (fun _ _ => rfl)))) pa_nil)) pa_nil)) pa_nil))))), fun ds r hR => by
  obtain ⟨m, ts, rfl, os, hm, rfl⟩ := hR
  have u := os.sm.up
  refine sd_seq (sd_asgT (ev_tup (ea2 (ev_call (ea1 (ev_v 0)) ⟨m, ts, rfl, os, hm, rfl⟩) (ev_sub1 (ev_shl ev_int (ev_ixTN (i := 0) (ev_v 0) ev_nat rfl) (by omega)) (Nat.two_pow_pos m)))) tg_tup2 (fun _ _ z => nomatch z)) ?_
  refine sd_ret (ev_cb (ea1 (EvL.toD (el_sortSet (l := opts m ts) (EvD.to (EvL.toD (el_map (as := tops m ts) (en := nat) (fn := fun t => nat (gw m ts (mns (2 ^ m - 1) t))) (ρ' := fun t => [some (od m ts), some (.dic (wD m ts (lf m ts))), some (nat (2 ^ m - 1)), some (nat t)]) (ei_seqL (ev_call (ea1 (ev_v 0)) ⟨m, ts, rfl, os, rfl⟩)) (fun _ _ => tg_name) (fun t ht => ?_) (by simp [tops]; omega))) ?_) (by simp [opts, tops]; omega) (srt_asc (m := m + 1)) fun x => mem_wS u))) rc_tupL)
  · obtain ⟨p, hp, rfl⟩ := List.mem_map.mp ht
    exact ev_dget (k := ((mns (2 ^ m - 1) (bs (up m ts p)) : Nat) : Int)) (ev_v 1) (ev_mns (ev_v 2) (ev_v 3)) (wD_get ((mem_lf u os.plt).mpr (cl_bite u (cl_full u))))
  · simp [opts]⟩
abbrev N__law_worth : List Str := ["_law_net_here"]
theorem sc__law_worth : FnScope N__law_worth ["_law_net_here"] (defScope s__law_worth) := ⟨rfl, rfl, rfl, by decide +kernel, rfl, by decide +kernel, by decide +kernel⟩
def R__law_worth (ds : List Da) (r : Da) : Prop := ∃ (m : Nat) (ts : Ps), ds = [od m ts] ∧ OS m ts ∧ m ≤ 9 ∧ r = nat (gw m ts (2 ^ m - 1))
theorem ok__law_worth {P : Program} {w : World} {K : PySem.W.Frag} {mg : Str → Option Value} {base : Heap} (T : Tx K mg) : Cal P w K mg base 5 "_law_worth" (spD R__law_worth) [] := T.ok 62 62 rfl rfl sc__law_worth (fun _ _ _ _ _ _ us hl => match us, hl with | [_], _ => rfl) (by rintro ds r h; obtain ⟨_, _, rfl, _⟩ := h; rfl) fun f cdv A outer s H E hr => ⟨_, (pss_one (ps_ret (pe_c (ok__law_least_out T) hr (by decide) (by rfl) (pa_cons (pe_c (ok__law_set T) hr (by decide) (by rfl) (pa_cons (pv 0) pa_nil)) pa_nil)))), fun ds r hR => by
  obtain ⟨m, ts, rfl, os, hm, rfl⟩ := hR
  refine sd_ret (ev_call (ea1 (ev_call (ea1 (ev_v 0)) ⟨m, ts, rfl, os, hm, rfl⟩)) ⟨wS m ts, _, rfl, .inr rfl, ?_, by rw [gw_full os.sm.up]⟩)
  unfold wS srt
  exact Nat.le_trans (List.length_filter_le _ _) (by simp; omega)⟩
theorem eqv_nats {l k : List Nat} : PyData.eqv (Da.lst (nats l)).py (Da.lst (nats k)).py = decide (l = k) := by
 rw [nats_ints, nats_ints, eqv_ints, decide_eq_decide]
 exact ⟨fun h => List.map_inj_right (fun a b z => Int.ofNat.inj z) |>.mp h, fun h => h ▸ rfl⟩
theorem cmp_nats {l : List Nat} : Cmp (.lst (nats l)) := by rw [nats_ints]; exact cmp_ints
theorem ev_eqLN {ta tb : TE} {ρ : DE} {K : PySem.W.Frag} {l k : List Nat} (ha : EvD ta ρ (.lst (nats l))) (hb : EvD tb ρ (.lst (nats k))) : EvD (tOp (rEqA K) ta tb) ρ (.bl (decide (l = k))) := (ev_eqD ha hb cmp_nats cmp_nats).to (by rw [eqv_nats])
theorem ev_neLN {ta tb : TE} {ρ : DE} {K : PySem.W.Frag} {l k : List Nat} (ha : EvD ta ρ (.lst (nats l))) (hb : EvD tb ρ (.lst (nats k))) : EvD (tOp (rNeA K) ta tb) ρ (.bl (!decide (l = k))) := (ev_neD ha hb cmp_nats cmp_nats).to (by rw [eqv_nats])
abbrev N__law_net : List Str := ["_law_many_so", "_law_pairs_so", "_law_above_so", "_law_low_so", "_law_pair_so", "_law_ties_so", "_law_own", "_law_over_so", "_law_k", "_law_its"]
theorem sc__law_net : FnScope N__law_net ["_law_many_so", "_law_pairs_so"] (defScope s__law_net) := ⟨rfl, rfl, rfl, by decide +kernel, rfl, by decide +kernel, by decide +kernel⟩
def R__law_net (ds : List Da) (r : Da) : Prop := ∃ (m : Nat) (ps : Ps), ds = [nat m, .lst (prs ps)] ∧ Sm m ps ∧ r = od m (red m ps)
theorem ok__law_net {P : Program} {w : World} {K : PySem.W.Frag} {mg : Str → Option Value} {base : Heap} (T : Tx K mg) : Cal P w K mg base 1 "_law_net" (spD R__law_net) [] := T.ok 54 54 rfl rfl sc__law_net (fun _ _ _ _ _ _ us hl => match us, hl with | [_, _], _ => rfl) (by rintro ds r h; obtain ⟨_, _, rfl, _⟩ := h; rfl) fun f cdv A outer s H E hr => ⟨_, (pss_cons (ps_set (i := 2) sc__law_net.nd rfl (Or.inr rfl) (pe_lc (own := [("_law_k", 8)]) rfl sc__law_net.nd (pi_range1 rfl T.b_range (pa_cons (pv 0) pa_nil)) (blkOk_by (own := [("_law_k", 8)]) (N := N__law_net) (sc := (defScope s__law_net)) (by decide +kernel)) (fun _ _ _ _ _ => (pg_name (i := 8) sc__law_net.nd rfl (Or.inl rfl))) (fun _ _ _ _ _ => pts_nil) (fun _ _ _ _ _ => (pe_op op_shl pe_int (pv 8))))) (pss_cons (ps_for PassesOwn.never rfl (pi_range3 rfl T.b_range (pa_cons (pe_op op_sub (pv 0) pe_int) (pa_cons (pe_un un_neg pe_int) (pa_cons (pe_un un_neg pe_int) pa_nil)))) (pg_name (i := 3) sc__law_net.nd rfl (Or.inr rfl)) (pss_one (ps_for PassesOwn.never rfl (k_seq K rfl (pv 1)) (pg_name (i := 4) sc__law_net.nd rfl (Or.inl rfl)) (pss_one (ps_if (pt_cmpR (k_eq K rfl hr.units) (pe_ix (k_ix K rfl) (pv 4) pe_int (fun _ _ => rfl)) (pv 3) (nomark _)) (pss_one (ps_asg (pe_op op_or (pe_ix (k_ix K rfl) (pv 2) (pv 3) (fun _ _ => rfl)) (pe_ix (k_ix K rfl) (pv 2) (pe_ix (k_ix K rfl) (pv 4) pe_int (fun _ _ => rfl)) (fun _ _ => rfl))) (pg_sub (pv 2) (pv 3) set_list))) pss_nil))))) (pss_cons (ps_set (i := 5) sc__law_net.nd rfl (Or.inl rfl) (pe_lst pa_nil)) (pss_cons (ps_for PassesOwn.never rfl (pi_range1 rfl T.b_range (pa_cons (pv 0) pa_nil)) (pg_name (i := 3) sc__law_net.nd rfl (Or.inr rfl)) (pss_cons (ps_setLc (i := 7) (own := [("_law_own", 6)]) rfl sc__law_net.nd rfl rfl (sw_true rfl rfl rfl (by decide +kernel)) (pi_range2 rfl T.b_range (pa_cons (pe_op (k_add K rfl) (pv 3) pe_int) (pa_cons (pv 0) pa_nil))) (blkOk_by (own := [("_law_own", 6)]) (N := N__law_net) (sc := (defScope s__law_net)) (by decide +kernel)) (fun _ _ _ _ _ => (pg_name (i := 6) sc__law_net.nd rfl (Or.inl rfl))) (fun _ _ _ _ _ => pts_one (pt_cmpR (k_eq K rfl hr.units) (pe_op op_and (pe_op op_shr (pe_ix (k_ix K rfl) (pv 2) (pv 3) (fun _ _ => rfl)) (pv 6)) pe_int) pe_int (nomark _))) (fun _ _ _ _ _ => (pv 6))) (pss_one (ps_for PassesOwn.never rfl (k_seq K rfl (pv 7)) (pg_name (i := 6) sc__law_net.nd rfl (Or.inr rfl)) (pss_one (ps_if (pt_cmpR (k_eq K rfl hr.units) (pe_lc (own := [("_law_its", 9)]) rfl sc__law_net.nd (k_seq K rfl (pv 7)) (blkOk_by (own := [("_law_its", 9)]) (N := N__law_net) (sc := (defScope s__law_net)) (by decide +kernel)) (fun _ _ _ _ _ => (pg_name (i := 9) sc__law_net.nd rfl (Or.inl rfl))) (fun _ _ _ _ _ => pts_one (PW.pt (pw_and (pt_cmpR (k_ne K rfl hr.units) (pv 9) (pv 6) (nomark _)) (pw_and1 (pt_cmpR (k_eq K rfl hr.units) (pe_op op_and (pe_op op_shr (pe_ix (k_ix K rfl) (pv 2) (pv 9) (fun _ _ => rfl)) (pv 6)) pe_int) pe_int (nomark _)))))) (fun _ _ _ _ _ => (pv 9))) (pe_lst pa_nil) (nomark _)) (pss_one (ps_expr (pe_bm PySem.F.plainAttrs_list PySem.F.slot_list_append PySem.F.type_list_append mt_append (pv 5) (pa_cons (pe_tup (pa_cons (pv 3) (pa_cons (pv 6) pa_nil))) pa_nil)))) pss_nil)))))) (pss_one (ps_ret (pe_tup (pa_cons (pv 0) (pa_cons (pe_callTy (k_tuple K rfl) (by rfl) T.b_tuple (by decide +kernel) (pa_cons (pv 5) pa_nil)) pa_nil))))))))), fun ds r hR => by
  obtain ⟨m, ps, rfl, sm, rfl⟩ := hR
  have u := sm.up
  have hm := sm.m60
  let PS : Da := .lst (prs ps)
  refine sd_seq (sd_asgL (ds := nats ((List.range m).map fun k => 2 ^ k)) ((el_map (as := List.range m) (en := nat) (fn := fun p => nat (2 ^ p)) (ρ' := fun p => [some (nat m), some PS, none, none, none, none, none, none, some (nat p), none]) ((ei_rng1 (n := (m : Int)) (ea1 (ev_v 0)) (by omega) (by omega)).to (by simp)) (fun _ _ => tg_name) (fun p hp => ev_shl ev_int (ev_v 8) (by have := List.mem_range.mp hp; omega)) (by simp; omega)).to (by simp))) ?_
  let init := (List.range m).map fun k => 2 ^ k
  have li : init.length = m := by simp [init]
  refine sd_seq (sd_for (as := (List.range m).reverse) (en := nat) (S := fun _ => [some (nat m), some PS, none, none, none, none, none, none, none, none]) (O := fun pre => .l 2 (nats (pre.foldl (fun fs low => ps.foldl (mstep low) fs) init))) (ρ' := fun _ p => [some (nat m), some PS, none, some (nat p), none, none, none, none, none, none])
    (ei_down (ea3 (ev_sub (ev_v 0) ev_int) (ev_neg ev_int) (ev_neg ev_int)) (by omega)) ⟨rfl, rfl, trivial⟩ rfl (fun _ p _ _ => tg_name) ?_ (hs1 fun _ => slot_ne rfl rfl)) ?_
  · intro pre low post e
    have hlow : low < m := by
      have : low ∈ (List.range m).reverse := by rw [e]; simp
      simpa using this
    have hl : (pre.foldl (fun fs low => ps.foldl (mstep low) fs) init).length = m := by rw [len_nfold, li]
    generalize hfs : pre.foldl (fun fs low => ps.foldl (mstep low) fs) init = fs at hl
    refine sd_fin (sd_for (as := ps) (en := pr) (S := fun _ => [some (nat m), some PS, none, some (nat low), none, none, none, none, none, none]) (O := fun pre => .l 2 (nats (pre.foldl (mstep low) fs))) (ρ' := fun _ p => [some (nat m), some PS, none, some (nat low), some (pr p), none, none, none, none, none])
      (ei_seqL (ev_v 1)) (Le.refl _) rfl (fun _ p _ _ => tg_name) ?_ (hs1 fun _ => slot_ne rfl rfl)) ⟨rfl, rfl, trivial⟩ ?_
    · intro pre2 p post2 e2
      have hp := u p (by rw [e2]; simp)
      have hl2 : (pre2.foldl (mstep low) fs).length = m := by rw [len_mfold, hl]
      rw [foldl_snoc]
      generalize pre2.foldl (mstep low) fs = gs at hl2
      refine sd_if (b := decide (p.1 = low)) (eb_val (ev_eqAN (ev_ixTN (i := 0) (ev_v 4) ev_nat rfl) (ev_v 3))) (fun h => ?_) fun h => ?_
      · have e3 : p.1 = low := of_decide_eq_true h
        refine sd_fin (sd_setV (j := low) (d := nat (gN gs low ||| gN gs p.2)) (ev_bor (ev_ixLN (i := low) (ev_v 2) (ev_v 3) (nat_at (by omega))) (ev_ixLN (i := p.2) (ev_v 2) (ev_ixTN (i := 1) (ev_v 4) ev_nat rfl) (nat_at (by omega)))) trivial (ev_v 3) (by rw [List.length_map]; omega)) ⟨rfl, rfl, rfl, trivial⟩ ?_
        simp [mstep, e3, List.map_set]
      · have e3 : ¬ p.1 = low := of_decide_eq_false h
        refine sd_fin sd_next ⟨rfl, rfl, rfl, trivial⟩ ?_
        simp [mstep, e3]
    · rw [foldl_snoc, hfs]
  have et : (List.range m).reverse.foldl (fun fs low => ps.foldl (mstep low) fs) init = tops m ps := ntop_eq u
  rw [et]
  let TP : Da := .lst (nats (tops m ps))
  have ltp : (tops m ps).length = m := by simp [tops]
  let F : Nat → Ps := fun a => ((over m ps a).filter (clear m ps a)).map fun b => (a, b)
  have hov : ∀ a, (over m ps a).length ≤ 60 := fun a => by
    unfold over
    refine Nat.le_trans (List.length_filter_le _ _) ?_
    simp
    omega
  have hF : ∀ a, (F a).length ≤ 60 := fun a => by
    simp only [F, List.length_map]
    exact Nat.le_trans (List.length_filter_le _ _) (hov a)
  refine sd_frz (sd_seq (sd_asgL (el_lst ea_nil)) ?_)
  refine sd_seq (sd_for (as := List.range m) (en := nat) (S := fun _ => [some (nat m), some PS, some TP, none, none, none, none, none, none, none]) (O := fun pre => .l 5 (prs (pre.flatMap F))) (ρ' := fun _ p => [some (nat m), some PS, some TP, some (nat p), none, none, none, none, none, none])
    ((ei_rng1 (n := (m : Int)) (ea1 (ev_v 0)) (by omega) (by omega)).to (by simp)) ⟨rfl, rfl, rfl, trivial⟩ rfl (fun _ p _ _ => tg_name) ?_ (hs1 fun _ => slot_ne rfl rfl)) ?_
  · intro pre low post e
    have e' : (List.range m).map (fun x => x) = pre ++ low :: post := by rw [List.map_id']; exact e
    obtain ⟨h1, h2, h3⟩ := pre_range e'
    have hlow : low < m := by rw [h3]; exact h1
    have hz := flat_len (l := pre) (f := F) (n := 60) fun x _ => hF x
    have tbit : ∀ a q, a < m → (gN (tops m ps) a).testBit q = rb ps m a q := fun a q ha => tb_tops u ha
    refine sd_seq (sd_asg (d := .lst (nats (over m ps low))) (EvD.to (EvL.toD (el_lc (as := (List.range (m - (low + 1))).map fun i => low + 1 + i) (en := nat) (p := fun own => rb ps m low own) (fn := nat) (ρ' := fun own => [some (nat m), some PS, some TP, some (nat low), none, none, some (nat own), none, none, none])
      ((ei_rng2 (lo := ((low + 1 : Nat) : Int)) (n := (m : Int)) (ea2 (ea_nat (j := 1) (ev_v 3) ev_int) (ev_v 0)) (by omega)).to ?_) (fun _ _ => tg_name) (fun own _ => eb_val ((ev_eqAN (j := 1) (ev_bit (b := gN (tops m ps) low) (ev_ixLN (i := low) (ev_v 2) (ev_v 3) (nat_at (by omega))) (ev_v 6)) ev_int).to ?_)) (fun own _ _ => ev_v 6) (by simp; omega))) rfl)) ?_
    · have : ((m : Int) - ((low + 1 : Nat) : Int)).toNat = m - (low + 1) := by omega
      rw [this, List.map_map]
      refine List.map_congr_left fun i _ => ?_
      simp only [Function.comp, nat, Int.natCast_add]
    · rw [tbit _ _ hlow]
      cases rb ps m low own <;> rfl
    let OV : Da := .lst (nats (over m ps low))
    refine sd_fin (sd_for (as := over m ps low) (en := nat) (S := fun _ => [some (nat m), some PS, some TP, some (nat low), none, none, none, some OV, none, none]) (O := fun pre2 => .l 5 (prs (pre.flatMap F) ++ prs ((pre2.filter (clear m ps low)).map fun b => (low, b)))) (ρ' := fun _ own => [some (nat m), some PS, some TP, some (nat low), none, none, some (nat own), some OV, none, none])
      (ei_seqL (ev_v 7)) ⟨rfl, rfl, rfl, rfl, rfl, trivial⟩ (by simp) (fun _ p _ _ => tg_name) ?_ (hs1 fun _ => slot_ne rfl rfl)) ⟨rfl, rfl, rfl, trivial⟩ ?_
    · intro pre2 own post2 e2
      have hown := (mem_over u hlow).mp (by rw [e2]; simp : own ∈ over m ps low)
      have hl2 : (prs (pre.flatMap F) ++ prs ((pre2.filter (clear m ps low)).map fun b => (low, b))).length < 100000 := by
        have a1 : pre2.length ≤ (over m ps low).length := by rw [e2]; simp
        have a2 := List.length_filter_le (clear m ps low) pre2
        have a3 := hov low
        simp only [List.length_append, List.length_map]
        omega
      refine sd_if (b := clear m ps low own) (eb_val (EvD.to (ev_eqLN (l := (over m ps low).filter fun its => !decide (its = own) && rb ps m its own) (k := []) (EvD.to (EvL.toD (el_lc (as := over m ps low) (en := nat) (p := fun its => !decide (its = own) && rb ps m its own) (fn := nat) (ρ' := fun its => [some (nat m), some PS, some TP, some (nat low), none, none, some (nat own), some OV, none, some (nat its)]) (ei_seqL (ev_v 7)) (fun _ _ => tg_name)
        (fun its hi => eb_and (eb_val (ev_neAN (ev_v 9) (ev_v 6))) fun _ => eb_val ((ev_eqAN (j := 1) (ev_bit (b := gN (tops m ps) its) (ev_ixLN (i := its) (ev_v 2) (ev_v 9) (nat_at ?_)) (ev_v 6)) ev_int).to ?_)) (fun its _ _ => ev_v 9) (by have := hov low; omega))) rfl) (el_lst ea_nil).toD) rfl)) (fun h => ?_) fun h => ?_
      · have hi' := (mem_over u hlow).mp hi
        have := hi'.2.bd u hi'.1
        omega
      · have hi' := (mem_over u hlow).mp hi
        rw [tbit _ _ (hi'.2.bd u hi'.1)]
        cases rb ps m its own <;> rfl
      · refine sd_fin (sd_app (d := pr (low, own)) (ev_tup (ea2 (ev_v 3) (ev_v 6))) hl2) ⟨rfl, rfl, rfl, rfl, rfl, trivial⟩ ?_
        simp [h, prs]
      · refine sd_fin sd_next ⟨rfl, rfl, rfl, rfl, rfl, trivial⟩ ?_
        simp [h, prs]
    · simp [F, prs, List.flatMap_append]
  refine sd_frz (sd_ret ((ev_tup (ea2 (ev_v 0) (ev_cb (ea1 (ev_v 5)) rc_tupL))).to ?_))
  rw [od, red_over u]⟩
abbrev N__law_aside : List Str := ["_law_near", "_law_far", "_law_own"]
theorem sc__law_aside : FnScope N__law_aside ["_law_near", "_law_far"] (defScope s__law_aside) := ⟨rfl, rfl, rfl, by decide +kernel, rfl, by decide +kernel, by decide +kernel⟩
def R__law_aside (ds : List Da) (r : Da) : Prop := ∃ (a b : Nat) (ts us : Ps), ds = [od a ts, od b us] ∧ ts.length ≤ 10000 ∧ us.length ≤ 10000 ∧ r = od (a + b) (ts ++ shift a us)
theorem ok__law_aside {P : Program} {w : World} {K : PySem.W.Frag} {mg : Str → Option Value} {base : Heap} (T : Tx K mg) : Cal P w K mg base 1 "_law_aside" (spD R__law_aside) [] := T.ok 63 63 rfl rfl sc__law_aside (fun _ _ _ _ _ _ us hl => match us, hl with | [_, _], _ => rfl) (by rintro ds r h; obtain ⟨_, _, _, _, rfl, _⟩ := h; rfl) fun f cdv A outer s H E hr => ⟨_, (pss_one (ps_ret (pe_tup (pa_cons (pe_op (k_add K rfl) (pe_ix (k_ix K rfl) (pv 0) pe_int (fun _ _ => rfl)) (pe_ix (k_ix K rfl) (pv 1) pe_int (fun _ _ => rfl))) (pa_cons (pe_op (k_add K rfl) (pe_ix (k_ix K rfl) (pv 0) pe_int (fun _ _ => rfl)) (pe_callTy (k_tuple K rfl) (by rfl) T.b_tuple (by decide +kernel) (pa_cons (pe_lc (own := [("_law_own", 2)]) rfl sc__law_aside.nd (k_seq K rfl (pe_ix (k_ix K rfl) (pv 1) pe_int (fun _ _ => rfl))) (blkOk_by (own := [("_law_own", 2)]) (N := N__law_aside) (sc := (defScope s__law_aside)) (by decide +kernel)) (fun _ _ _ _ _ => (pg_name (i := 2) sc__law_aside.nd rfl (Or.inl rfl))) (fun _ _ _ _ _ => pts_nil) (fun _ _ _ _ _ => (pe_tup (pa_cons (pe_op (k_add K rfl) (pe_ix (k_ix K rfl) (pv 2) pe_int (fun _ _ => rfl)) (pe_ix (k_ix K rfl) (pv 0) pe_int (fun _ _ => rfl))) (pa_cons (pe_op (k_add K rfl) (pe_ix (k_ix K rfl) (pv 2) pe_int (fun _ _ => rfl)) (pe_ix (k_ix K rfl) (pv 0) pe_int (fun _ _ => rfl))) pa_nil))))) pa_nil))) pa_nil))))), fun ds r hR => by
  obtain ⟨a, b, ts, us, rfl, h1, h2, rfl⟩ := hR
  refine sd_ret ((ev_tup (ea2 (ea_nat (ev_ixTN (i := 0) (ev_v 0) ev_nat rfl) (ev_ixTN (i := 0) (ev_v 1) ev_nat rfl)) (ea_tup (ds := prs ts) (es := prs (shift a us)) (ev_ixTN (i := 1) (ev_v 0) ev_nat rfl) (ev_cb (ea1 (EvD.to (EvL.toD (el_map (as := us) (en := pr) (fn := fun p => pr (p.1 + a, p.2 + a)) (ρ' := fun p => [some (od a ts), some (od b us), some (pr p)]) (ei_seqT (ev_ixTN (i := 1) (ev_v 1) ev_nat rfl)) (fun _ _ => tg_name) (fun p _ => ev_tup (ea2 (ea_nat (ev_ixTN (i := 0) (ev_v 2) ev_nat rfl) (ev_ixTN (i := 0) (ev_v 0) ev_nat rfl)) (ea_nat (ev_ixTN (i := 1) (ev_v 2) ev_nat rfl) (ev_ixTN (i := 0) (ev_v 0) ev_nat rfl)))) (by omega))) ?_)) rc_tupL) ?_))).to ?_)
  · simp [prs, shift]
  · simp [prs, shift]; omega
  · simp [od, prs]⟩
def heapR (a b : Nat) (ts us : Ps) : Ps := red (a + b) ((ts ++ shift a us) ++ heapP a b)
abbrev N__law_heap : List Str := ["_law_near", "_law_far", "_law_whole_so", "_law_over_so", "_law_low_so", "_law_k"]
theorem sc__law_heap : FnScope N__law_heap ["_law_near", "_law_far"] (defScope s__law_heap) := ⟨rfl, rfl, rfl, by decide +kernel, rfl, by decide +kernel, by decide +kernel⟩
def R__law_heap (ds : List Da) (r : Da) : Prop := ∃ (a b : Nat) (ts us : Ps), ds = [od a ts, od b us] ∧ Sm a ts ∧ Sm b us ∧ a + b ≤ 60 ∧ ts.length + us.length ≤ 5000 ∧ r = od (a + b) (heapR a b ts us)
theorem ok__law_heap {P : Program} {w : World} {K : PySem.W.Frag} {mg : Str → Option Value} {base : Heap} (T : Tx K mg) : Cal P w K mg base 2 "_law_heap" (spD R__law_heap) [] := T.ok 64 64 rfl rfl sc__law_heap (fun _ _ _ _ _ _ us hl => match us, hl with | [_, _], _ => rfl) (by rintro ds r h; obtain ⟨_, _, _, _, rfl, _⟩ := h; rfl) fun f cdv A outer s H E hr => ⟨_, (pss_cons (ps_set (i := 2) sc__law_heap.nd rfl (Or.inl rfl) (pe_c (ok__law_aside T) hr (by decide) (by rfl) (pa_cons (pv 0) (pa_cons (pv 1) pa_nil)))) (pss_cons (ps_set (i := 3) sc__law_heap.nd rfl (Or.inl rfl) (pe_lst pa_nil)) (pss_cons (ps_for PassesOwn.never rfl (pi_range1 rfl T.b_range (pa_cons (pe_ix (k_ix K rfl) (pv 0) pe_int (fun _ _ => rfl)) pa_nil)) (pg_name (i := 4) sc__law_heap.nd rfl (Or.inr rfl)) (pss_one (ps_set (i := 3) sc__law_heap.nd rfl (Or.inl rfl) (pe_op (k_add K rfl) (pv 3) (pe_lc (own := [("_law_k", 5)]) rfl sc__law_heap.nd (pi_range1 rfl T.b_range (pa_cons (pe_ix (k_ix K rfl) (pv 1) pe_int (fun _ _ => rfl)) pa_nil)) (blkOk_by (own := [("_law_k", 5)]) (N := N__law_heap) (sc := (defScope s__law_heap)) (by decide +kernel)) (fun _ _ _ _ _ => (pg_name (i := 5) sc__law_heap.nd rfl (Or.inl rfl))) (fun _ _ _ _ _ => pts_nil) (fun _ _ _ _ _ => (pe_tup (pa_cons (pv 4) (pa_cons (pe_op (k_add K rfl) (pe_ix (k_ix K rfl) (pv 0) pe_int (fun _ _ => rfl)) (pv 5)) pa_nil))))))))) (pss_one (ps_ret (pe_c (ok__law_net T) hr (by decide) (by rfl) (pa_cons (pe_ix (k_ix K rfl) (pv 2) pe_int (fun _ _ => rfl)) (pa_cons (pe_op (k_add K rfl) (pe_callTy (k_list K rfl) (by rfl) T.b_list (by decide +kernel) (pa_cons (pe_ix (k_ix K rfl) (pv 2) pe_int (fun _ _ => rfl)) pa_nil)) (pv 3)) pa_nil)))))))), fun ds r hR => by
  obtain ⟨a, b, ts, us, rfl, s1, s2, hab, hl, rfl⟩ := hR
  let W : Da := od (a + b) (ts ++ shift a us)
  let G : Nat → Ps := fun low => (List.range b).map fun k => (low, a + k)
  refine sd_seq (sd_asg (ev_call (ea2 (ev_v 0) (ev_v 1)) ⟨a, b, ts, us, rfl, s1.len, s2.len, rfl⟩)) ?_
  refine sd_seq (sd_asg (d := .lst []) (el_lst ea_nil).toD) ?_
  refine sd_seq (sd_for (as := List.range a) (en := nat) (ow := .no) (S := fun pre => [some (od a ts), some (od b us), some W, some (.lst (prs (pre.flatMap G))), none, none]) (O := fun _ => .no) (ρ' := fun pre low => [some (od a ts), some (od b us), some W, some (.lst (prs (pre.flatMap G))), some (nat low), none]) ((ei_rng1 (n := (a : Int)) (ea1 (ev_ixTN (i := 0) (ev_v 0) ev_nat rfl)) (by omega) (by omega)).to (by simp)) ⟨rfl, rfl, rfl, rfl, trivial⟩ rfl (fun _ p _ _ => tg_name) ?_ (fun _ _ _ z => nomatch z)) ?_
  · intro pre low post e
    have hpre : pre.length ≤ 60 := by
      have := congrArg List.length e
      simp at this
      omega
    have hz := flat_len (l := pre) (f := G) (n := 60) fun x _ => by simp [G]; omega
    refine (sd_asg (d := .lst (prs ((pre ++ [low]).flatMap G))) (EvL.toD (EvL.to (ea_lst (ds := prs (pre.flatMap G)) (es := prs (G low)) (ev_v 3) (EvD.to (EvL.toD (el_map (as := List.range b) (en := nat) (fn := fun k => pr (low, a + k)) (ρ' := fun k => [some (od a ts), some (od b us), some W, some (.lst (prs (pre.flatMap G))), some (nat low), some (nat k)]) ((ei_rng1 (n := (b : Int)) (ea1 (ev_ixTN (i := 0) (ev_v 1) ev_nat rfl)) (by omega) (by omega)).to (by simp)) (fun _ _ => tg_name) (fun k _ => ev_tup (ea2 (ev_v 4) (ea_nat (ev_ixTN (i := 0) (ev_v 0) ev_nat rfl) (ev_v 5)))) (by simp; omega))) ?_) ?_) ?_))).out ⟨rfl, rfl, rfl, rfl, trivial⟩
    · simp [prs, G]
    · have a1 : (G low).length ≤ 60 := by simp [G]; omega
      simp only [List.length_map]
      omega
    · simp [prs, List.flatMap_append]
  have hh : (List.range a).flatMap G = heapP a b := rfl
  rw [hh]
  have lh : (heapP a b).length ≤ 3600 := by
    unfold heapP
    refine Nat.le_trans (flat_len (n := 60) fun x _ => by simp; omega) ?_
    simp
    omega
  have hup : Up (a + b) ((ts ++ shift a us) ++ heapP a b) := fun p hp => by
    rcases List.mem_append.mp hp with h | h
    · exact aside_up s1.up s2.up p h
    · exact heapP_up p h
  have hlen : ((ts ++ shift a us) ++ heapP a b).length ≤ 10000 := by simp [shift]; omega
  refine sd_ret (ev_call (ea2 (ev_ixTN (i := 0) (ev_v 2) ev_nat rfl) (EvD.to (EvL.toD (ea_lst (ds := prs (ts ++ shift a us)) (es := prs (heapP a b)) (EvL.toD (el_listOf (.inr (ev_ixTN (i := 1) (ev_v 2) ev_nat rfl)))) (ev_v 3) ?_)) ?_)) ⟨a + b, (ts ++ shift a us) ++ heapP a b, rfl, ⟨hup, hab, hlen⟩, rfl⟩)
  · simp [prs, shift]; omega
  · simp [prs]⟩
abbrev N__law_part : List Str := ["_law_net_here", "_law_pieces_so", "_law_up_so", "_law_pairs_so", "_law_k", "_law_own", "_law_j", "_law_its"]
theorem sc__law_part : FnScope N__law_part ["_law_net_here", "_law_pieces_so"] (defScope s__law_part) := ⟨rfl, rfl, rfl, by decide +kernel, rfl, by decide +kernel, by decide +kernel⟩
def R__law_part (ds : List Da) (r : Da) : Prop := ∃ (m : Nat) (ts : Ps) (pcs : List Nat), ds = [od m ts, .tup (nats pcs)] ∧ OS m ts ∧ pcs.Pairwise (· < ·) ∧ (∀ x ∈ pcs, x < m) ∧ r = od pcs.length (red pcs.length (partP m ts pcs))
theorem ok__law_part {P : Program} {w : World} {K : PySem.W.Frag} {mg : Str → Option Value} {base : Heap} (T : Tx K mg) : Cal P w K mg base 2 "_law_part" (spD R__law_part) [] := T.ok 65 65 rfl rfl sc__law_part (fun _ _ _ _ _ _ us hl => match us, hl with | [_, _], _ => rfl) (by rintro ds r h; obtain ⟨_, _, _, rfl, _⟩ := h; rfl) fun f cdv A outer s H E hr => ⟨_, (pss_cons (ps_asg (pe_tup (pa_cons (pe_c (ok__law_ups T) hr (by decide) (by rfl) (pa_cons (pv 0) pa_nil)) (pa_cons (pe_lst pa_nil) pa_nil))) (k_tup K (n := 2) rfl rfl (pgs_cons (pg_name (i := 2) sc__law_part.nd rfl (Or.inr rfl)) (pgs_cons (pg_name (i := 3) sc__law_part.nd rfl (Or.inl rfl)) pgs_nil)))) (pss_cons (ps_for PassesOwn.never rfl (k_enum K rfl (by rfl) T.b_enumerate (pa_cons (pv 1) pa_nil)) (k_tup K (n := 2) rfl rfl (pgs_cons (pg_name (i := 4) sc__law_part.nd rfl (Or.inr rfl)) (pgs_cons (pg_name (i := 5) sc__law_part.nd rfl (Or.inr rfl)) pgs_nil))) (pss_one (ps_set (i := 3) sc__law_part.nd rfl (Or.inl rfl) (pe_op (k_add K rfl) (pv 3) (pe_lc (own := [("_law_j", 6), ("_law_its", 7)]) rfl sc__law_part.nd (k_enum K rfl (by rfl) T.b_enumerate (pa_cons (pv 1) pa_nil)) (blkOk_by (own := [("_law_j", 6), ("_law_its", 7)]) (N := N__law_part) (sc := (defScope s__law_part)) (by decide +kernel)) (fun _ _ _ _ _ => (k_tup K (n := 2) rfl rfl (pgs_cons (pg_name (i := 6) sc__law_part.nd rfl (Or.inl rfl)) (pgs_cons (pg_name (i := 7) sc__law_part.nd rfl (Or.inl rfl)) pgs_nil)))) (fun _ _ _ _ _ => pts_one (PW.pt (pw_and (pt_cmpR op_gt (pv 6) (pv 4) (nomark _)) (pw_and1 (pt_cmpR (k_eq K rfl hr.units) (pe_op op_and (pe_op op_shr (pe_ix (k_ix K rfl) (pv 2) (pv 5) (fun _ _ => rfl)) (pv 7)) pe_int) pe_int (nomark _)))))) (fun _ _ _ _ _ => (pe_tup (pa_cons (pv 4) (pa_cons (pv 6) pa_nil))))))))) (pss_one (ps_ret (pe_c (ok__law_net T) hr (by decide) (by rfl) (pa_cons (pe_callB (k_len K rfl) (by rfl) T.b_len (by decide +kernel) (pa_cons (pv 1) pa_nil)) (pa_cons (pv 3) pa_nil))))))), fun ds r hR => by
  obtain ⟨m, ts, pcs, rfl, os, ha, hlt, rfl⟩ := hR
  have u := os.sm.up
  have hm := os.sm.m60
  have hlen := len_le (row_nodup ha) hlt
  let F : Nat × Nat → Ps := fun q => (pcs.zipIdx.filter fun r => decide (q.2 < r.2) && rb ts m q.1 r.1).map fun r => (q.2, r.2)
  have hF : ∀ q, (F q).length ≤ 60 := fun q => by
    simp only [F, List.length_map]
    refine Nat.le_trans (List.length_filter_le _ _) ?_
    simp
    omega
  let TP : Da := .lst (nats (tops m ts))
  refine sd_seq (sd_asgT (ev_tup (ea2 (ev_call (ea1 (ev_v 0)) ⟨m, ts, rfl, os, rfl⟩) (el_lst ea_nil).toD)) tg_tup2 (fun _ _ z => nomatch z)) ?_
  refine sd_seq (sd_for (as := pcs.zipIdx) (en := fun q => .tup [nat q.2, nat q.1]) (ow := .no) (S := fun pre => [some (od m ts), some (.tup (nats pcs)), some TP, some (.lst (prs (pre.flatMap F))), none, none, none, none]) (O := fun _ => .no) (ρ' := fun pre q => [some (od m ts), some (.tup (nats pcs)), some TP, some (.lst (prs (pre.flatMap F))), some (nat q.2), some (nat q.1), none, none]) (ei_enum (as := pcs) (en := nat) (.inr (ev_v 1))) ⟨rfl, rfl, rfl, rfl, trivial⟩ rfl (fun _ p _ _ => tg_tup2) ?_ (fun _ _ _ z => nomatch z)) ?_
  · intro pre q post e
    have hpre : pre.length ≤ 60 := by
      have := congrArg List.length e
      simp at this
      omega
    have hz := flat_len (l := pre) (f := F) (n := 60) fun x _ => hF x
    have hq : q ∈ pcs.zipIdx := by rw [e]; simp
    have hq1 : q.1 < m := hlt _ (List.mem_of_getElem? (List.mem_zipIdx_iff_getElem?.mp hq))
    refine (sd_asg (d := .lst (prs ((pre ++ [q]).flatMap F))) (EvL.toD (EvL.to (ea_lst (ds := prs (pre.flatMap F)) (es := prs (F q)) (ev_v 3) (EvD.to (EvL.toD (el_lc (as := pcs.zipIdx) (en := fun r => .tup [nat r.2, nat r.1]) (p := fun r => decide (q.2 < r.2) && rb ts m q.1 r.1) (fn := fun r => pr (q.2, r.2)) (ρ' := fun r => [some (od m ts), some (.tup (nats pcs)), some TP, some (.lst (prs (pre.flatMap F))), some (nat q.2), some (nat q.1), some (nat r.2), some (nat r.1)]) (ei_enum (as := pcs) (en := nat) (.inr (ev_v 1))) (fun _ _ => tg_tup2)
      (fun r _ => eb_and (eb_val (ev_gtN (ev_v 6) (ev_v 4))) fun _ => eb_val ((ev_eqAN (j := 1) (ev_bit (b := gN (tops m ts) q.1) (ev_ixLN (i := q.1) (ev_v 2) (ev_v 5) (nat_at (by simp [tops]; omega))) (ev_v 7)) ev_int).to ?_)) (fun r _ _ => ev_tup (ea2 (ev_v 4) (ev_v 6))) (by simp; omega))) ?_) ?_) ?_))).out ⟨rfl, rfl, rfl, rfl, trivial⟩
    · rw [tb_tops u hq1]
      cases rb ts m q.1 r.1 <;> rfl
    · simp [prs, F]
    · have a1 := hF q
      simp only [List.length_map]
      omega
    · simp [prs, List.flatMap_append]
  have hh : pcs.zipIdx.flatMap F = partL m ts pcs := rfl
  have lh : (partL m ts pcs).length ≤ 3600 := by
    rw [← hh]
    refine Nat.le_trans (flat_len (n := 60) fun x _ => hF x) ?_
    simp
    omega
  rw [hh]
  exact sd_ret (ev_call (ea2 ((ev_cb (ea1 (ev_v 1)) rc_lenT).to (by rw [List.length_map])) (ev_v 3)) ⟨pcs.length, partL m ts pcs, rfl, ⟨partL_up u ha, by omega, by omega⟩, by rw [partL_red u ha]⟩)⟩
/-- the pairs and their images -/
def imgP (im : List Nat) (ps : Ps) : Ps := ps.map fun p => (gN im p.1, gN im p.2)
def bw (m : Nat) (im : List Nat) (ps : Ps) : Ps := (List.range m).flatMap fun a => ((List.range m).filter fun b => decide ((a, b) ∈ ps ++ imgP im ps)).map fun b => (a, b)
theorem bw_asc {m : Nat} {im : List Nat} {ps : Ps} : (bw m im ps).Pairwise fun p q => plt p q = true := by
 unfold bw
 rw [List.pairwise_flatMap]
 refine ⟨fun a _ => ?_, ?_⟩
 · rw [List.pairwise_map]
   refine List.Pairwise.imp ?_ (List.pairwise_lt_range.filter _)
   intro x y h
   exact plt_iff.mpr (.inr ⟨rfl, h⟩)
 · refine List.pairwise_lt_range.imp fun h x hx y hy => ?_
   simp only [List.mem_map] at hx hy
   obtain ⟨_, _, rfl⟩ := hx
   obtain ⟨_, _, rfl⟩ := hy
   exact plt_iff.mpr (.inl h)
theorem mem_bw {m : Nat} {im : List Nat} {ps : Ps} (h : ∀ p ∈ ps ++ imgP im ps, p.1 < m ∧ p.2 < m) {x : Nat × Nat} : x ∈ bw m im ps ↔ x ∈ ps ++ imgP im ps := by
 unfold bw
 simp only [List.mem_flatMap, List.mem_map, List.mem_filter, List.mem_range, decide_eq_true_eq]
 constructor
 · rintro ⟨a, ha, b, ⟨hb, h1⟩, rfl⟩
   exact h1
 · intro hx
   exact ⟨x.1, (h x hx).1, x.2, ⟨(h x hx).2, hx⟩, rfl⟩
abbrev N__law_both_ways : List Str := ["_law_pairs_so", "_law_images_so", "_law_low_so", "_law_high_so"]
theorem sc__law_both_ways : FnScope N__law_both_ways ["_law_pairs_so", "_law_images_so"] (defScope s__law_both_ways) := ⟨rfl, rfl, rfl, by decide +kernel, rfl, by decide +kernel, by decide +kernel⟩
def R__law_both_ways (ds : List Da) (r : Da) : Prop := ∃ (m : Nat) (ps : Ps) (im : List Nat), ds = [.lst (prs ps), .lst (nats im)] ∧ m ≤ 64 ∧ ps.length < 32 ∧ im.length = m ∧ (∀ x ∈ im, x < m) ∧ (∀ p ∈ ps, p.1 < m ∧ p.2 < m) ∧ r = .lst (prs (bw m im ps))
theorem ok__law_both_ways {P : Program} {w : World} {K : PySem.W.Frag} {mg : Str → Option Value} {base : Heap} (T : Tx K mg) : Cal P w K mg base 1 "_law_both_ways" (spD R__law_both_ways) [] := T.ok 69 69 rfl rfl sc__law_both_ways (fun _ _ _ _ _ _ us hl => match us, hl with | [_, _], _ => rfl) (by rintro ds r h; obtain ⟨_, _, _, rfl, _⟩ := h; rfl) fun f cdv A outer s H E hr => ⟨_, (pss_one (ps_ret (pe_callB (cr_sortedT rfl) (by rfl) T.b_sorted (by decide +kernel) (pa_cons (pe_callTy (cr_setOfT rfl hr.units) (by rfl) T.b_set (by decide +kernel) (pa_cons (pe_op (k_add K rfl) (pv 0) (pe_lc (own := [("_law_low_so", 2), ("_law_high_so", 3)]) rfl sc__law_both_ways.nd (k_seq K rfl (pv 0)) (blkOk_by (own := [("_law_low_so", 2), ("_law_high_so", 3)]) (N := N__law_both_ways) (sc := (defScope s__law_both_ways)) (by decide +kernel)) (fun _ _ _ _ _ => (k_tup K (n := 2) rfl rfl (pgs_cons (pg_name (i := 2) sc__law_both_ways.nd rfl (Or.inl rfl)) (pgs_cons (pg_name (i := 3) sc__law_both_ways.nd rfl (Or.inl rfl)) pgs_nil)))) (fun _ _ _ _ _ => pts_nil) (fun _ _ _ _ _ => (pe_tup (pa_cons (pe_ix (k_ix K rfl) (pv 1) (pv 2) (fun _ _ => rfl)) (pa_cons (pe_ix (k_ix K rfl) (pv 1) (pv 3) (fun _ _ => rfl)) pa_nil)))))) pa_nil)) pa_nil)))), fun ds r hR => by
  obtain ⟨m, ps, im, rfl, hm, hl, h1, h2, h3, rfl⟩ := hR
  have gm : ∀ i, i < m → gN im i < m := fun i hi => by
    refine h2 _ ?_
    unfold gN
    rw [List.getD_eq_getElem?_getD, List.getElem?_eq_getElem (by omega)]
    exact List.getElem_mem _
  have hb : ∀ p ∈ ps ++ imgP im ps, p.1 < m ∧ p.2 < m := fun p hp => by
    rcases List.mem_append.mp hp with h | h
    · exact h3 p h
    · obtain ⟨q, hq, rfl⟩ := List.mem_map.mp h
      have := h3 q hq
      exact ⟨gm _ this.1, gm _ this.2⟩
  refine sd_ret (EvL.toD (el_sortSetT (ps := ps ++ imgP im ps) (out := bw m im ps) (EvD.to (EvL.toD (ea_lst (ds := prs ps) (es := prs (imgP im ps)) (ev_v 0) (EvD.to (EvL.toD (el_map (as := ps) (en := pr) (fn := fun p => pr (gN im p.1, gN im p.2)) (ρ' := fun p => [some (.lst (prs ps)), some (.lst (nats im)), some (nat p.1), some (nat p.2)]) (ei_seqL (ev_v 0)) (fun _ _ => tg_tup2) (fun p hp => ?_) (by omega))) ?_) ?_)) ?_) ?_ ?_ bw_asc fun x => mem_bw hb))
  · have := h3 p hp
    exact ev_tup (ea2 (ev_ixLN (i := p.1) (ev_v 1) (ev_v 2) (nat_at (by omega))) (ev_ixLN (i := p.2) (ev_v 1) (ev_v 3) (nat_at (by omega))))
  · simp [prs, imgP]
  · simp [prs, imgP]; omega
  · simp [prs]
  · simp [imgP]; omega
  · intro p hp
    have := hb p hp
    omega⟩
abbrev N__law_bite : List Str := ["_law_net_here", "_law_left_so", "_law_piece_so", "_law_up_so", "_law_own"]
theorem sc__law_bite : FnScope N__law_bite ["_law_net_here", "_law_left_so", "_law_piece_so"] (defScope s__law_bite) := ⟨rfl, rfl, rfl, by decide +kernel, rfl, by decide +kernel, by decide +kernel⟩
def R__law_bite (ds : List Da) (r : Da) : Prop := ∃ (m : Nat) (ts : Ps) (pcs : List Nat) (p : Nat), ds = [od m ts, .tup (nats pcs), nat p] ∧ OS m ts ∧ pcs.length ≤ 1000 ∧ p < m ∧ r = .tup (nats (bite m ts pcs p))
theorem ok__law_bite {P : Program} {w : World} {K : PySem.W.Frag} {mg : Str → Option Value} {base : Heap} (T : Tx K mg) : Cal P w K mg base 2 "_law_bite" (spD R__law_bite) [] := T.ok 72 72 rfl rfl sc__law_bite (fun _ _ _ _ _ _ us hl => match us, hl with | [_, _, _], _ => rfl) (by rintro ds r h; obtain ⟨_, _, _, _, rfl, _⟩ := h; rfl) fun f cdv A outer s H E hr => ⟨_, (pss_cons (ps_set (i := 3) sc__law_bite.nd rfl (Or.inr rfl) (pe_ix (k_ix K rfl) (pe_c (ok__law_ups T) hr (by decide) (by rfl) (pa_cons (pv 0) pa_nil)) (pv 2) (fun _ _ => rfl))) (pss_one (ps_ret (pe_callTy (k_tuple K rfl) (by rfl) T.b_tuple (by decide +kernel) (pa_cons (pe_lc (own := [("_law_own", 4)]) rfl sc__law_bite.nd (k_seq K rfl (pv 1)) (blkOk_by (own := [("_law_own", 4)]) (N := N__law_bite) (sc := (defScope s__law_bite)) (by decide +kernel)) (fun _ _ _ _ _ => (pg_name (i := 4) sc__law_bite.nd rfl (Or.inl rfl))) (fun _ _ _ _ _ => pts_one (pt_cmpR (k_eq K rfl hr.units) (pe_op op_and (pe_op op_shr (pv 3) (pv 4)) pe_int) pe_int (nomark _))) (fun _ _ _ _ _ => (pv 4))) pa_nil))))), fun ds r hR => by
  obtain ⟨m, ts, pcs, p, rfl, os, hl, hp, rfl⟩ := hR
  have u := os.sm.up
  refine sd_seq (sd_asg (d := nat (gN (tops m ts) p)) (ev_ixLN (i := p) (ev_call (ea1 (ev_v 0)) ⟨m, ts, rfl, os, rfl⟩) (ev_v 2) (nat_at (by simp [tops]; omega)))) ?_
  refine sd_ret ((ev_cb (ea1 (EvL.toD (el_lc (as := pcs) (en := nat) (p := fun x => !decide (x ∈ up m ts p)) (fn := nat) (ρ' := fun x => [some (od m ts), some (.tup (nats pcs)), some (nat p), some (nat (gN (tops m ts) p)), some (nat x)]) (ei_seqT (ev_v 1)) (fun _ _ => tg_name) (fun x _ => eb_val ((ev_eqAN (j := 0) (ev_bit (ev_v 3) (ev_v 4)) ev_int).to ?_)) (fun x _ _ => ev_v 4) (by omega)))) rc_tupL).to rfl)
  rw [tops, gN_map hp, tb_bs up_asc]
  by_cases h : x ∈ up m ts p <;> simp [h]⟩
end Mk
end

section
set_option Elab.async false
set_option linter.all false
/-! mirrors in plain Lean -/
namespace Mk
def insN (x : Nat) : List Nat → List Nat
  | [] => [x]
  | y :: r => if x ≤ y then x :: y :: r else y :: insN x r
def isort (l : List Nat) : List Nat := l.foldr insN []
def invo (im : List Nat) : Bool := im.zipIdx.all fun q => decide (gN im q.1 = q.2)
def mirOk (m : Nat) (ts : Ps) (im : List Nat) (q : Nat × Nat) : Bool := decide (isort ((up m ts q.2).map (gN im)) = up m ts q.1) && (!decide (q.1 = q.2) || (dn m ts q.2).all fun o => decide (gN im o = o))
def mirC (m : Nat) (ts : Ps) (im : List Nat) : Bool := im.zipIdx.all (mirOk m ts im)
def mirN (m : Nat) (ts : Ps) (im : List Nat) : Bool := (decide (im.length = m) && (im.all (fun x => decide (x < m)) && invo im)) && mirC m ts im
def okL (m : Nat) (ts : Ps) (im : List Nat) (lo hi : Nat) : Bool := !(!decide (rb ts m lo hi = rb ts m (gN im lo) (gN im hi)) || (rb ts m lo hi && (decide (gN im hi = hi) && !decide (gN im lo = lo))))
def lawM (m : Nat) (ts : Ps) (im : List Nat) : Bool := decide (isort im = List.range m) && (invo im && (List.range m).all fun lo => (List.range m).all fun hi => okL m ts im lo hi)
structure IsMir (m : Nat) (ts : Ps) (im : List Nat) : Prop where
  len : im.length = m
  lt : ∀ k, k < m → gN im k < m
  inv : ∀ k, k < m → gN im (gN im k) = k
  ord : ∀ a b, a < m → b < m → Reach ts a b → Reach ts (gN im a) (gN im b)
  fix : ∀ a b, a < m → b < m → Reach ts a b → gN im b = b → gN im a = a
section
variable {m : Nat} {ts : Ps} {im l : List Nat} {x y : Nat}
theorem insN_perm : ∀ {l : List Nat}, (insN x l).Perm (x :: l)
  | [] => .refl _
  | y :: r => by
    unfold insN
    split
    · exact .refl _
    · exact (insN_perm.cons y).trans (.swap x y r)
theorem isort_perm : ∀ {l : List Nat}, (isort l).Perm l
  | [] => .refl _
  | y :: r => by
    show (insN y (isort r)).Perm _
    exact insN_perm.trans (isort_perm.cons y)
theorem insN_sorted : ∀ {l : List Nat}, l.Pairwise (· ≤ ·) → (insN x l).Pairwise (· ≤ ·)
  | [], _ => by simp [insN]
  | y :: r, h => by
    have h' := List.pairwise_cons.mp h
    unfold insN
    split
    · rename_i e
      refine List.pairwise_cons.mpr ⟨fun z hz => ?_, h⟩
      rcases List.mem_cons.mp hz with rfl | hz
      · exact e
      · exact Nat.le_trans e (h'.1 z hz)
    · rename_i e
      refine List.pairwise_cons.mpr ⟨fun z hz => ?_, insN_sorted h'.2⟩
      rcases List.mem_cons.mp (insN_perm.mem_iff.mp hz) with rfl | hz
      · omega
      · exact h'.1 z hz
theorem isort_sorted : ∀ {l : List Nat}, (isort l).Pairwise (· ≤ ·)
  | [] => List.Pairwise.nil
  | y :: r => insN_sorted (isort_sorted (l := r))
theorem isort_eq {l k : List Nat} (h : l.Nodup) (hk : k.Pairwise (· < ·)) : isort l = k ↔ ∀ x, x ∈ l ↔ x ∈ k := by
  constructor
  · intro e x
    rw [← e, isort_perm.mem_iff]
  · intro e
    have nk : k.Nodup := row_nodup hk
    have p : (isort l).Perm k := isort_perm.trans ((List.perm_ext_iff_of_nodup h nk).mpr e)
    exact p.eq_of_pairwise (fun a b _ _ => Nat.le_antisymm) isort_sorted (hk.imp fun h => Nat.le_of_lt h)
theorem all_zip {f : Nat × Nat → Bool} : im.zipIdx.all f = true ↔ ∀ k, k < im.length → f (gN im k, k) = true := by
  rw [List.all_eq_true]
  have g : ∀ {k : Nat}, k < im.length → im[k]? = some (gN im k) := fun {k} h => by
    unfold gN
    rw [List.getD_eq_getElem?_getD, List.getElem?_eq_getElem h]
    rfl
  constructor
  · intro h k hk
    exact h _ (List.mem_zipIdx_iff_getElem?.mpr (g hk))
  · rintro h ⟨a, k⟩ hq
    have e := List.mem_zipIdx_iff_getElem?.mp hq
    have hk : k < im.length := (List.getElem?_eq_some_iff.mp e).1
    have e2 : a = gN im k := by
      rw [g hk] at e
      exact (Option.some.inj e).symm
    rw [e2]
    exact h k hk
theorem gN_mem {k : Nat} (h : k < im.length) : gN im k ∈ im := by
  unfold gN
  rw [List.getD_eq_getElem?_getD, List.getElem?_eq_getElem h]
  exact List.getElem_mem h
theorem mem_gN (h : x ∈ im) : ∃ k, k < im.length ∧ gN im k = x := by
  obtain ⟨k, hk, e⟩ := List.getElem_of_mem h
  refine ⟨k, hk, ?_⟩
  unfold gN
  rw [List.getD_eq_getElem?_getD, List.getElem?_eq_getElem hk, e]
  rfl
theorem inj_of (hi : ∀ k, k < m → gN im (gN im k) = k) {a b : Nat} (ha : a < m) (hb : b < m) (e : gN im a = gN im b) : a = b := by
  rw [← hi a ha, ← hi b hb, e]
theorem map_nodup (hi : ∀ k, k < m → gN im (gN im k) = k) (h : l.Nodup) (hl : ∀ x ∈ l, x < m) : (l.map (gN im)).Nodup := by
  rw [List.nodup_iff_pairwise_ne, List.pairwise_map]
  refine List.Pairwise.imp_of_mem (fun {a b} ha hb n e => n (inj_of hi (hl a ha) (hl b hb) e)) h
theorem mirN_iff (u : Up m ts) : mirN m ts im = true ↔ IsMir m ts im := by
  unfold mirN invo mirC
  rw [Bool.and_eq_true_iff, Bool.and_eq_true_iff, Bool.and_eq_true_iff, decide_eq_true_iff, all_zip, all_zip, List.all_eq_true]
  simp only [decide_eq_true_eq]
  unfold mirOk
  simp only [Bool.and_eq_true, Bool.or_eq_true, Bool.not_eq_true', decide_eq_true_eq, decide_eq_false_iff_not, List.all_eq_true]
  constructor
  · rintro ⟨⟨hl, hlt, hi⟩, hc⟩
    rw [hl] at hi hc
    have hlt' : ∀ k, k < m → gN im k < m := fun k hk => hlt _ (gN_mem (by omega))
    have key : ∀ a x, a < m → ((x < m ∧ Reach ts (gN im a) x) ↔ ∃ b, (b < m ∧ Reach ts a b) ∧ gN im b = x) := fun a x ha => by
      have := (isort_eq (map_nodup hi up_nodup up_lt) up_asc).mp (hc a ha).1 x
      rw [mem_up u, List.mem_map] at this
      simp only [mem_up u] at this
      exact this.symm
    refine ⟨hl, hlt', hi, fun a b ha hb r => ?_, fun a b ha hb r e => ?_⟩
    · exact ((key a (gN im b) ha).mpr ⟨b, ⟨hb, r⟩, rfl⟩).2
    · rcases (hc b hb).2 with h | h
      · exact absurd e h
      · exact h a ((mem_dn u).mpr ⟨ha, r⟩)
  · intro h
    have hl := h.len
    refine ⟨⟨hl, fun x hx => ?_, by rw [hl]; exact h.inv⟩, fun k hk => ?_⟩
    · obtain ⟨k, hk, rfl⟩ := mem_gN hx
      exact h.lt k (by omega)
    · rw [hl] at hk
      refine ⟨(isort_eq (map_nodup h.inv up_nodup up_lt) up_asc).mpr fun x => ?_, ?_⟩
      · rw [mem_up u, List.mem_map]
        simp only [mem_up u]
        constructor
        · rintro ⟨b, ⟨hb, r⟩, rfl⟩
          exact ⟨h.lt b hb, h.ord k b hk hb r⟩
        · rintro ⟨hx, r⟩
          refine ⟨gN im x, ⟨h.lt x hx, ?_⟩, h.inv x hx⟩
          have := h.ord _ x (h.lt k hk) hx r
          rwa [h.inv k hk] at this
      · by_cases e : gN im k = k
        · right
          intro a ha
          have ha' := (mem_dn u).mp ha
          exact h.fix a k ha'.1 hk ha'.2 e
        · exact .inl e
theorem lawM_iff (u : Up m ts) : lawM m ts im = true ↔ IsMir m ts im := by
  unfold lawM invo
  rw [Bool.and_eq_true_iff, Bool.and_eq_true_iff, decide_eq_true_iff, all_zip, List.all_eq_true]
  simp only [decide_eq_true_eq, List.all_eq_true, List.mem_range]
  unfold okL
  simp only [Bool.not_or, Bool.not_not, Bool.and_eq_true, decide_eq_true_eq, Bool.not_and, Bool.or_eq_true, Bool.not_eq_true', decide_eq_false_iff_not]
  constructor
  · rintro ⟨hs, hi, hc⟩
    have pm : im.Perm (List.range m) := by rw [← hs]; exact isort_perm.symm
    have hl : im.length = m := by rw [pm.length_eq]; simp
    rw [hl] at hi
    have hlt : ∀ k, k < m → gN im k < m := fun k hk => List.mem_range.mp (pm.mem_iff.mp (gN_mem (by omega)))
    refine ⟨hl, hlt, hi, fun a b ha hb r => ?_, fun a b ha hb r e => ?_⟩
    · have := (hc a ha b hb).1
      rw [(rb_iff u).mpr r] at this
      exact (rb_iff u).mp this.symm
    · rcases (hc a ha b hb).2 with h | h | h
      · rw [(rb_iff u).mpr r] at h; cases h
      · exact absurd e h
      · exact h
  · intro h
    have nd : im.Nodup := by
      have e : im = (List.range m).map (gN im) := by
        refine List.ext_getElem (by simp [h.len]) fun i i1 i2 => ?_
        simp only [List.getElem_map, List.getElem_range]
        unfold gN
        rw [List.getD_eq_getElem?_getD, List.getElem?_eq_getElem i1]
        rfl
      rw [e]
      exact map_nodup h.inv List.nodup_range fun x hx => List.mem_range.mp hx
    refine ⟨(isort_eq nd List.pairwise_lt_range).mpr fun x => ?_, by rw [h.len]; exact h.inv, fun a ha b hb => ⟨?_, ?_⟩⟩
    · rw [List.mem_range]
      constructor
      · intro hx
        obtain ⟨k, hk, rfl⟩ := mem_gN hx
        exact h.lt k (by rw [← h.len]; exact hk)
      · intro hx
        have := gN_mem (im := im) (k := gN im x) (by rw [h.len]; exact h.lt x hx)
        rwa [h.inv x hx] at this
    · rw [Bool.eq_iff_iff, rb_iff u, rb_iff u]
      refine ⟨h.ord a b ha hb, fun r => ?_⟩
      have := h.ord _ _ (h.lt a ha) (h.lt b hb) r
      rwa [h.inv a ha, h.inv b hb] at this
    · by_cases r : rb ts m a b = true
      · by_cases e : gN im b = b
        · exact .inr (.inr (h.fix a b ha hb ((rb_iff u).mp r) e))
        · exact .inr (.inl e)
      · exact .inl (Bool.eq_false_iff.mpr r)
theorem law_mir (u : Up m ts) : lawM m ts im = mirN m ts im := by
  rw [Bool.eq_iff_iff, lawM_iff u, mirN_iff u]
/-! those that stay, those that move -/
def stay (im : List Nat) : List Nat := (im.zipIdx.filter fun q => decide (q.1 = q.2)).map (·.2)
def movd (im : List Nat) : Ps := (im.zipIdx.filter fun q => decide (q.2 < q.1)).map fun q => (q.2, q.1)
theorem zip_asc : ∀ {l : List Nat} (n : Nat), (l.zipIdx n).Pairwise fun p q => p.2 < q.2 := fun {l} => by
  induction l with
  | nil => intro n; exact List.Pairwise.nil
  | cons x r ih =>
    intro n
    rw [List.zipIdx_cons]
    refine List.pairwise_cons.mpr ⟨fun p hp => ?_, ih (n + 1)⟩
    obtain ⟨a, i⟩ := p
    have := List.le_snd_of_mem_zipIdx hp
    simp at this ⊢
    omega
theorem stay_asc : (stay im).Pairwise (· < ·) := by
  unfold stay
  rw [List.pairwise_map]
  exact (zip_asc 0).filter _
theorem mem_stay : x ∈ stay im ↔ x < im.length ∧ gN im x = x := by
  unfold stay
  rw [List.mem_map]
  constructor
  · rintro ⟨⟨a, k⟩, hq, rfl⟩
    have h := List.mem_filter.mp hq
    have e := List.mem_zipIdx_iff_getElem?.mp h.1
    have e2 : a = k := by simpa using h.2
    simp only at e
    refine ⟨(List.getElem?_eq_some_iff.mp e).1, ?_⟩
    unfold gN
    rw [List.getD_eq_getElem?_getD, e]
    exact e2
  · rintro ⟨h, e⟩
    refine ⟨(x, x), List.mem_filter.mpr ⟨List.mem_zipIdx_iff_getElem?.mpr ?_, by simp⟩, rfl⟩
    unfold gN at e
    rw [List.getD_eq_getElem?_getD, List.getElem?_eq_getElem h] at e
    rw [List.getElem?_eq_getElem h]
    exact congrArg some e
end
end Mk
end

section
set_option Elab.async false
set_option linter.all false
set_option maxRecDepth 100000
set_option maxHeartbeats 2000000
namespace Mk
open PySem PySem.Spec PyProof.Rows L2
open Evl (Ex)
open C8 (Cal pe_c pe_gc)
section
variable {t u : TS} {te : TE} {tt : TT} {ρ ρ' ρ2 : DE} {ow ow' ow2 : Ow} {d d1 d2 : Da} {b c : Bool}
/-- if test: return .. and the rest -/
theorem sd_ifRet (h : EvB tt ρ b) (h1 : EvD te ρ d1) (h2 : b = false → StD u ρ ow (.rt d2)) : StD (tSeq (tIfS tt (tRet te) tNext) u) ρ ow (.rt (if b then d1 else d2)) := by
 cases b with
 | true => exact sd_seqR (sd_if (b := true) h (fun _ => sd_ret h1) fun z => nomatch z)
 | false => exact sd_seq (sd_if (b := false) h (fun z => nomatch z) fun _ => sd_next) (h2 rfl)
theorem sd_forRet (h1 : StD t ρ ow (if c then .nx ρ' ow else .rt d)) (h2 : c = true → StD u ρ' ow (.rt d2)) : StD (tSeq t u) ρ ow (.rt (if c then d2 else d)) := by
 cases c with
 | true => exact sd_seq h1 (h2 rfl)
 | false => exact sd_seqR h1
theorem sd_ifNx (h : EvB tt ρ b) (h1 : EvD te ρ d) : StD (tIfS tt (tRet te) tNext) ρ ow (if !b then .nx ρ ow else .rt d) := by
 cases b with
 | true => exact sd_if (b := true) h (fun _ => sd_ret h1) fun z => nomatch z
 | false => exact sd_if (b := false) h (fun z => nomatch z) fun _ => sd_next
theorem sd_seqC (h1 : StD t ρ ow (if b then .nx ρ' ow' else .rt d)) (h2 : b = true → StD u ρ' ow' (if c then .nx ρ2 ow2 else .rt d)) : StD (tSeq t u) ρ ow (if b && c then .nx ρ2 ow2 else .rt d) := by
 cases b with
 | true => exact sd_seq h1 (h2 rfl)
 | false => exact sd_seqR h1
theorem sd_outC (h : StD t ρ ow (if b then .nx ρ' ow' else .rt d)) (l : Le ρ2 ρ') (e : b = c) : StD t ρ ow (if c then .nx ρ2 ow' else .rt d) := by
 subst e
 cases b with
 | true => exact h.out l
 | false => exact h
end
def inr (m : Nat) : Da → Bool
 | .int i => decide (0 ≤ i) && decide (i < m)
 | _ => false
def natsOf (l : List Da) : List Nat := l.map fun | .int i => i.toNat | _ => 0
def rowI (m : Nat) : Da → Bool
 | .tup l => decide (l.length = m) && (l.all (inr m) && invo (natsOf l))
 | _ => false
def mirI (m : Nat) (ts : Ps) : Da → Bool
 | .tup l => rowI m (.tup l) && mirC m ts (natsOf l)
 | _ => false
theorem rowI_tup {m : Nat} {l : List Da} : rowI m (.tup l) = (decide (l.length = m) && (l.all (inr m) && invo (natsOf l))) := rfl
def mirD (m : Nat) (ts : Ps) : Da → Bool
 | .tup l => mirC m ts (natsOf l)
 | _ => false
theorem mirI_D {m : Nat} {ts : Ps} {d : Da} : mirI m ts d = (rowI m d && mirD m ts d) := by
 cases d <;> rfl
theorem natsOf_nats {l : List Nat} : natsOf (nats l) = l := by
 unfold natsOf
 rw [List.map_map]
 exact (List.map_congr_left fun x _ => by simp [nat]).trans (List.map_id l)
theorem nats_natsOf {m : Nat} : ∀ {l : List Da}, l.all (inr m) = true → nats (natsOf l) = l
 | [], _ => rfl
 | d :: r, h => by
   rw [List.all_cons] at h
   have z := Bool.and_eq_true_iff.mp h
   have ih := nats_natsOf z.2
   cases d with
   | int i =>
     have b := Bool.and_eq_true_iff.mp z.1
     have : 0 ≤ i := of_decide_eq_true b.1
     show nat i.toNat :: nats (natsOf r) = _
     have e : ((i.toNat : Nat) : Int) = i := by omega
     show Da.int ((i.toNat : Nat) : Int) :: nats (natsOf r) = _
     rw [ih, e]
   | _ => cases z.1
theorem inr_nats {m : Nat} {l : List Nat} : (nats l).all (inr m) = l.all fun x => decide (x < m) := by
 rw [List.all_map]
 congr 1
 funext x
 simp [inr, nat]
theorem mirI_nats {m : Nat} {ts : Ps} {im : List Nat} : mirI m ts (.tup (nats im)) = mirN m ts im := by
 show ((decide ((nats im).length = m) && ((nats im).all (inr m) && invo (natsOf (nats im)))) && mirC m ts (natsOf (nats im))) = _
 rw [natsOf_nats, inr_nats, List.length_map]
 rfl
theorem natsOf_len {l : List Da} : (natsOf l).length = l.length := by simp [natsOf]
abbrev N_is_row_of_images : List Str := ["many", "thing", "piece", "image", "own"]
theorem sc_is_row_of_images : FnScope N_is_row_of_images ["many", "thing"] (defScope s_is_row_of_images) := ⟨rfl, rfl, rfl, by decide +kernel, rfl, by decide +kernel, by decide +kernel⟩
def R_is_row_of_images (ds : List Da) (r : Da) : Prop := ∃ (m : Nat) (d : Da), ds = [nat m, d] ∧ m ≤ 60 ∧ d.sm ∧ r = .bl (rowI m d)
theorem ok_is_row_of_images {P : Program} {w : World} {K : PySem.W.Frag} {mg : Str → Option Value} {base : Heap} (T : Tx K mg) : Cal P w K mg base 2 "is_row_of_images" (spD R_is_row_of_images) [] := T.ok 32 32 rfl rfl sc_is_row_of_images (fun _ _ _ _ _ _ us hl => match us, hl with | [_, _], _ => rfl) (by rintro ds r h; obtain ⟨_, _, rfl, _⟩ := h; rfl) fun f cdv A outer s H E hr => ⟨_, (pss_cons (ps_if (PW.pt (pw_or (pt_not (pt_val (pe_callB (k_isi K rfl) (by rfl) T.b_isinstance (by decide +kernel) (pa_cons (pv 1) (pa_cons (pe_bltn (v := .ty "tuple") (by rfl) T.b_tuple (by decide +kernel) rfl) pa_nil))))) (pw_or1 (pt_cmpR (k_ne K rfl hr.units) (pe_callB (k_len K rfl) (by rfl) T.b_len (by decide +kernel) (pa_cons (pv 1) pa_nil)) (pv 0) (nomark _))))) (pss_one (ps_ret pe_bl)) pss_nil) (pss_cons (ps_if (pt_not (pt_val (pe_callB (k_all K rfl rfl) (by rfl) T.b_all (by decide +kernel) (pa_cons (pe_lc (own := [("own", 4)]) rfl sc_is_row_of_images.nd (k_seq K rfl (pv 1)) (blkOk_by (own := [("own", 4)]) (N := N_is_row_of_images) (sc := (defScope s_is_row_of_images)) (by decide +kernel)) (fun _ _ _ _ _ => (pg_name (i := 4) sc_is_row_of_images.nd rfl (Or.inl rfl))) (fun _ _ _ _ _ => pts_nil) (fun _ _ _ _ _ => (pe_and (pe_c (ok_is_number T) hr (by decide) (by rfl) (pa_cons (pv 4) pa_nil)) (pe_one (pe_chain op_le op_lt pe_int (pv 4) (pv 0)))))) pa_nil)))) (pss_one (ps_ret pe_bl)) pss_nil) (pss_one (ps_ret (pe_callB (k_all K rfl rfl) (by rfl) T.b_all (by decide +kernel) (pa_cons (pe_lc (own := [("piece", 2), ("image", 3)]) rfl sc_is_row_of_images.nd (k_enum K rfl (by rfl) T.b_enumerate (pa_cons (pv 1) pa_nil)) (blkOk_by (own := [("piece", 2), ("image", 3)]) (N := N_is_row_of_images) (sc := (defScope s_is_row_of_images)) (by decide +kernel)) (fun _ _ _ _ _ => (k_tup K (n := 2) rfl rfl (pgs_cons (pg_name (i := 2) sc_is_row_of_images.nd rfl (Or.inl rfl)) (pgs_cons (pg_name (i := 3) sc_is_row_of_images.nd rfl (Or.inl rfl)) pgs_nil)))) (fun _ _ _ _ _ => pts_nil) (fun _ _ _ _ _ => (pe_cmpR (k_eq K rfl hr.units) (pe_ix (k_ix K rfl) (pv 1) (pv 3) (fun _ _ => rfl)) (pv 2) (nomark _)))) pa_nil)))))), fun ds r hR => by
  obtain ⟨m, d, rfl, hm, hd, rfl⟩ := hR
  have k2 : kitB d.ty "tuple" = some d.isT := by cases d <;> rfl
  cases ht : d.isT with
  | false =>
    rw [ht] at k2
    have e : rowI m d = false := by cases d <;> first | rfl | cases ht
    rw [e]
    exact sd_seqR (sd_if (b := true) (eb_or (b := false) (eb_not (a := false) (eb_val (ev_isi (ev_v 1) k2))) fun z => nomatch z) (fun _ => sd_ret ev_bl) fun z => nomatch z)
  | true =>
    cases d with
    | tup l =>
      have hd : l.length ≤ 100000 := hd
      refine (sd_ifRet (b := !true || !decide (l.length = m)) (d1 := .bl false) (d2 := .bl (l.all (inr m) && invo (natsOf l))) (eb_or (eb_not (a := true) (eb_val (ev_isi (ev_v 1) k2))) fun _ => eb_val (ev_neAN (ev_cb (ea1 (ev_v 1)) rc_lenT) (ev_v 0))) ev_bl fun h1 => ?_).to ?_
      · have hlen : l.length = m := by simpa using h1
        refine (sd_ifRet (b := !l.all (inr m)) (d1 := .bl false) (d2 := .bl (invo (natsOf l))) (eb_not (eb_val (ev_all (as := l) (b := inr m) (EvL.toD (el_map (as := l) (en := fun d => d) (fn := fun d => .bl (inr m d)) (ρ' := fun d => [some (nat m), some (.tup l), none, none, some d]) (ei_seqT (ev_v 1)).id (fun _ _ => tg_name) (fun d _ => ?_) hd))))) ev_bl fun h2 => ?_).to ?_
        · cases d with
          | int i => exact (ev_and (a := true) (ev_call (ea1 (ev_v 4)) ⟨_, rfl, rfl⟩) fun _ => ev_chain ev_int (ev_v 4) rv_le (fun _ => ev_v 0) (fun _ => rv_lt)).to (by simp [inr])
          | _ => exact (ev_and (a := false) (b := true) (ev_call (ea1 (ev_v 4)) ⟨_, rfl, rfl⟩) fun z => nomatch z).to rfl
        · have hr : l.all (inr m) = true := by simpa using h2
          have en := nats_natsOf hr
          have ll := natsOf_len (l := l)
          rw [← en]
          rw [natsOf_nats]
          have hx : ∀ x ∈ natsOf l, x < m := fun x hx => by
            have := (List.all_eq_true.mp (by rw [← en, inr_nats] at hr; exact hr)) x hx
            simpa using this
          generalize natsOf l = im at ll hx
          refine sd_ret ((ev_all (as := im.zipIdx) (b := fun q => decide (gN im q.1 = q.2)) (EvL.toD (el_map (as := im.zipIdx) (en := fun q => .tup [nat q.2, nat q.1]) (fn := fun q => .bl (decide (gN im q.1 = q.2))) (ρ' := fun q => [some (nat m), some (.tup (nats im)), some (nat q.2), some (nat q.1), none]) (ei_enum (as := im) (en := nat) (.inr (ev_v 1))) (fun _ _ => tg_tup2) (fun q hq => ?_) (by rw [List.length_zipIdx]; omega)))).to rfl)
          have hq1 : q.1 < m := hx _ (List.mem_of_getElem? (List.mem_zipIdx_iff_getElem?.mp hq))
          exact ev_eqAN (ev_ixTN (i := q.1) (ev_v 1) (ev_v 3) (nat_at (by omega))) (ev_v 2)
        · cases l.all (inr m) <;> rfl
      · rw [rowI_tup]
        cases decide (l.length = m) <;> rfl
    | _ => cases ht⟩
theorem el_sortN {te : TE} {ρ : DE} {K : PySem.W.Frag} {l : List Nat} (h : EvD te ρ (.lst (nats l)) ∨ EvD te ρ (.tup (nats l))) : EvL (tCB (rSortedA K) (tCons te tNil)) ρ (nats (isort l)) := by
 rw [nats_ints] at *
 refine el_sorted (ns := l.map Int.ofNat) h (isort_perm.map _) ?_
 rw [List.pairwise_map]
 exact isort_sorted.imp fun h => Int.ofNat_le.mpr h
theorem isort_id {l : List Nat} (h : l.Pairwise (· < ·)) : isort l = l := (isort_eq (row_nodup h) h).mpr fun _ => Iff.rfl
abbrev N_is_mirror_in : List Str := ["own", "thing", "ups", "downs", "piece", "image", "other"]
theorem sc_is_mirror_in : FnScope N_is_mirror_in ["own", "thing"] (defScope s_is_mirror_in) := ⟨rfl, rfl, rfl, by decide +kernel, rfl, by decide +kernel, by decide +kernel⟩
def R_is_mirror_in (ds : List Da) (r : Da) : Prop := ∃ (m : Nat) (ts : Ps) (d : Da), ds = [od m ts, d] ∧ Sm m ts ∧ d.sm ∧ r = .bl (mirI m ts d)
theorem ok_is_mirror_in {P : Program} {w : World} {K : PySem.W.Frag} {mg : Str → Option Value} {base : Heap} (T : Tx K mg) : Cal P w K mg base 4 "is_mirror_in" (spD R_is_mirror_in) [] := T.ok 33 33 rfl rfl sc_is_mirror_in (fun _ _ _ _ _ _ us hl => match us, hl with | [_, _], _ => rfl) (by rintro ds r h; obtain ⟨_, _, _, rfl, _⟩ := h; rfl) fun f cdv A outer s H E hr => ⟨_, (pss_cons (ps_if (pt_not (pt_val (pe_c (ok_is_row_of_images T) hr (by decide) (by rfl) (pa_cons (pe_ix (k_ix K rfl) (pv 0) pe_int (fun _ _ => rfl)) (pa_cons (pv 1) pa_nil))))) (pss_one (ps_ret pe_bl)) pss_nil) (pss_cons (ps_par (i := 2) (j := 3) rfl sc_is_mirror_in.nd rfl rfl (by decide) rfl rfl (pa_cons (pe_c (ok_ups_in T) hr (by decide) (by rfl) (pa_cons (pv 0) pa_nil)) (pa_cons (pe_c (ok_downs_in T) hr (by decide) (by rfl) (pa_cons (pv 0) pa_nil)) pa_nil)) (by rfl)) (pss_cons (ps_for PassesOwn.never rfl (k_enum K rfl (by rfl) T.b_enumerate (pa_cons (pv 1) pa_nil)) (k_tup K (n := 2) rfl rfl (pgs_cons (pg_name (i := 4) sc_is_mirror_in.nd rfl (Or.inl rfl)) (pgs_cons (pg_name (i := 5) sc_is_mirror_in.nd rfl (Or.inl rfl)) pgs_nil))) (pss_cons (ps_if (pt_cmpR (k_ne K rfl hr.units) (pe_callB (k_sorted K rfl) (by rfl) T.b_sorted (by decide +kernel) (pa_cons (pe_lc (own := [("other", 6)]) rfl sc_is_mirror_in.nd (k_seq K rfl (pe_ix (k_ix K rfl) (pv 2) (pv 4) (fun _ _ => rfl))) (blkOk_by (own := [("other", 6)]) (N := N_is_mirror_in) (sc := (defScope s_is_mirror_in)) (by decide +kernel)) (fun _ _ _ _ _ => (pg_name (i := 6) sc_is_mirror_in.nd rfl (Or.inl rfl))) (fun _ _ _ _ _ => pts_nil) (fun _ _ _ _ _ => (pe_ix (k_ix K rfl) (pv 1) (pv 6) (fun _ _ => rfl)))) pa_nil)) (pe_callB (k_sorted K rfl) (by rfl) T.b_sorted (by decide +kernel) (pa_cons (pe_ix (k_ix K rfl) (pv 2) (pv 5) (fun _ _ => rfl)) pa_nil)) (nomark _)) (pss_one (ps_ret pe_bl)) pss_nil) (pss_one (ps_if (PW.pt (pw_and (pt_cmpR (k_eq K rfl hr.units) (pv 5) (pv 4) (nomark _)) (pw_and1 (pt_not (pt_val (pe_callB (k_all K rfl rfl) (by rfl) T.b_all (by decide +kernel) (pa_cons (pe_lc (own := [("other", 6)]) rfl sc_is_mirror_in.nd (k_seq K rfl (pe_ix (k_ix K rfl) (pv 3) (pv 4) (fun _ _ => rfl))) (blkOk_by (own := [("other", 6)]) (N := N_is_mirror_in) (sc := (defScope s_is_mirror_in)) (by decide +kernel)) (fun _ _ _ _ _ => (pg_name (i := 6) sc_is_mirror_in.nd rfl (Or.inl rfl))) (fun _ _ _ _ _ => pts_nil) (fun _ _ _ _ _ => (pe_cmpR (k_eq K rfl hr.units) (pe_ix (k_ix K rfl) (pv 1) (pv 6) (fun _ _ => rfl)) (pv 6) (nomark _)))) pa_nil))))))) (pss_one (ps_ret pe_bl)) pss_nil)))) (pss_one (ps_ret pe_bl))))), fun ds r hR => by
  obtain ⟨m, ts, d, rfl, sm, hd, rfl⟩ := hR
  have u := sm.up
  have hm := sm.m60
  refine (sd_ifRet (b := !rowI m d) (d1 := .bl false) (d2 := .bl (mirD m ts d)) (eb_not (eb_val (ev_call (ea2 (ev_ixTN (i := 0) (ev_v 0) ev_nat rfl) (ev_v 1)) ⟨m, d, rfl, hm, hd, rfl⟩))) ev_bl fun hr => ?_).to ?_
  · have hr : rowI m d = true := by simpa using hr
    cases d with
    | tup l =>
      unfold rowI at hr
      have z1 := Bool.and_eq_true_iff.mp hr
      have z2 := Bool.and_eq_true_iff.mp z1.2
      have hl : l.length = m := of_decide_eq_true z1.1
      have en := nats_natsOf z2.1
      have ll := natsOf_len (l := l)
      have hx : ∀ x ∈ natsOf l, x < m := fun x hx => by
        have := (List.all_eq_true.mp (by rw [← en, inr_nats] at z2; exact z2.1)) x hx
        simpa using this
      show StD _ _ _ (.rt (.bl (mirC m ts (natsOf l))))
      rw [← en]
      rw [natsOf_nats]
      generalize natsOf l = im at ll hx
      have lu : (upL m ts).length = m := by simp [upL]
      have ld : (dnL m ts).length = m := by simp [dnL]
      let ρ0 : DE := [some (od m ts), some (.tup (nats im)), some (tts (upL m ts)), some (tts (dnL m ts)), none, none, none]
      refine sd_seq (sd_par (ea2 (ev_call (ea1 (ev_v 0)) ⟨m, ts, rfl, sm, rfl⟩) (ev_call (ea1 (ev_v 0)) ⟨m, ts, rfl, sm, rfl⟩))) ?_
      refine (sd_forRet (c := im.zipIdx.all (mirOk m ts im)) (d2 := .bl true) (d := .bl false) (sd_forR (as := im.zipIdx) (en := fun q => .tup [nat q.2, nat q.1]) (ρ := ρ0) (ow := .no) (ρ0 := ρ0) (ρ' := fun q => [some (od m ts), some (.tup (nats im)), some (tts (upL m ts)), some (tts (dnL m ts)), some (nat q.2), some (nat q.1), none]) (c := mirOk m ts im) (ei_enum (as := im) (en := nat) (.inr (ev_v 1))) (Le.refl _) (fun _ _ => tg_tup2) (fun q hq => ?_) (fun _ _ z => nomatch z)) fun _ => sd_ret ev_bl).to ?_
      · have hk : q.2 < m := by
          have := (List.getElem?_eq_some_iff.mp (List.mem_zipIdx_iff_getElem?.mp hq)).1
          omega
        have hq1 : q.1 < m := hx _ (List.mem_of_getElem? (List.mem_zipIdx_iff_getElem?.mp hq))
        have hlu := up_len (m := m) (ps := ts) (a := q.2)
        have hld : (dn m ts q.2).length ≤ m := by unfold dn; exact Nat.le_trans (List.length_filter_le _ _) (by simp)
        have gu : ∀ a, a < m → gd (upL m ts) a = up m ts a := fun a ha => gd_map ha
        have gdn : gd (dnL m ts) q.2 = dn m ts q.2 := gd_map hk
        refine sd_outC (sd_seqC (b := !!decide (isort ((up m ts q.2).map (gN im)) = up m ts q.1)) (sd_ifNx (eb_val (ev_neLN (l := isort ((up m ts q.2).map (gN im))) (k := up m ts q.1)
          (EvL.toD (el_sortN (l := (up m ts q.2).map (gN im)) (.inl (EvD.to (EvL.toD (el_map (as := up m ts q.2) (en := nat) (fn := fun o => nat (gN im o)) (ρ' := fun o => [some (od m ts), some (.tup (nats im)), some (tts (upL m ts)), some (tts (dnL m ts)), some (nat q.2), some (nat q.1), some (nat o)])
            ((ei_seqT (ev_ixTN (i := q.2) (ev_v 2) (ev_v 4) (tts_at (by omega)))).to (by rw [gu _ hk])) (fun _ _ => tg_name) (fun o ho => ev_ixTN (i := o) (ev_v 1) (ev_v 6) (nat_at (by have := up_lt o ho; omega))) (by omega))) (by simp)))))
          (EvD.to (EvL.toD (el_sortN (.inr (ev_ixTN (i := q.1) (ev_v 2) (ev_v 5) (tts_at (by omega)))))) (by rw [gu _ hq1, isort_id up_asc])))) ev_bl)
          fun _ => sd_ifNx (b := decide (q.1 = q.2) && !(dn m ts q.2).all fun o => decide (gN im o = o)) (eb_and (eb_val (ev_eqAN (ev_v 5) (ev_v 4))) fun _ => eb_not (eb_val (ev_all (as := dn m ts q.2) (b := fun o => decide (gN im o = o)) (EvL.toD (el_map (as := dn m ts q.2) (en := nat) (fn := fun o => .bl (decide (gN im o = o))) (ρ' := fun o => [some (od m ts), some (.tup (nats im)), some (tts (upL m ts)), some (tts (dnL m ts)), some (nat q.2), some (nat q.1), some (nat o)])
            ((ei_seqT (ev_ixTN (i := q.2) (ev_v 3) (ev_v 4) (tts_at (by omega)))).to (by rw [gdn])) (fun _ _ => tg_name) (fun o ho => ev_eqAN (ev_ixTN (i := o) (ev_v 1) (ev_v 6) (nat_at (by have := ((mem_dn u).mp ho).1; omega))) (ev_v 6)) (by omega)))))) ev_bl) ⟨rfl, rfl, rfl, rfl, trivial⟩ ?_
        unfold mirOk
        simp
      · unfold mirC
        cases im.zipIdx.all (mirOk m ts im) <;> rfl
    | _ => cases hr
  · rw [mirI_D]
    cases rowI m d <;> rfl⟩
/-- mirror data, a tuple or a list of places -/
def IsIm (d : Da) (im : List Nat) : Prop := d.fit 40 = true ∧ d.tpd 40 = .tup (nats im) ∧ im.length ≤ 60
abbrev N_sure_mirror : List Str := ["own", "mirror", "images"]
theorem sc_sure_mirror : FnScope N_sure_mirror ["own", "mirror"] (defScope s_sure_mirror) := ⟨rfl, rfl, rfl, by decide +kernel, rfl, by decide +kernel, by decide +kernel⟩
def R_sure_mirror (ds : List Da) (r : Da) : Prop := ∃ (m : Nat) (ts : Ps) (im : List Nat) (d : Da), ds = [od m ts, d] ∧ Sm m ts ∧ IsIm d im ∧ mirN m ts im = true ∧ r = .tup (nats im)
theorem ok_sure_mirror {P : Program} {w : World} {K : PySem.W.Frag} {mg : Str → Option Value} {base : Heap} (T : Tx K mg) : Cal P w K mg base 41 "sure_mirror" (spD R_sure_mirror) [] := T.ok 34 34 rfl rfl sc_sure_mirror (fun _ _ _ _ _ _ us hl => match us, hl with | [_, _], _ => rfl) (by rintro ds r h; obtain ⟨_, _, _, _, rfl, _⟩ := h; rfl) fun f cdv A outer s H E hr => ⟨_, (pss_cons (ps_set (i := 2) sc_sure_mirror.nd rfl (Or.inl rfl) (pe_c (ok_tupled T 40) hr (by decide) (by rfl) (pa_cons (pv 1) pa_nil))) (pss_cons (ps_if (pt_not (pt_val (pe_c (ok_is_mirror_in T) hr (by decide) (by rfl) (pa_cons (pv 0) (pa_cons (pv 2) pa_nil))))) (pss_one ps_never) pss_nil) (pss_one (ps_ret (pv 2))))), fun ds r hR => by
  obtain ⟨m, ts, im, d, rfl, sm, hi, hM, rfl⟩ := hR
  refine sd_seq (sd_asg (ev_call (ea1 (ev_v 1)) ⟨d, rfl, hi.1, rfl⟩)) ?_
  refine sd_seq (sd_if (b := false) (eb_not (a := true) (eb_val (ev_call (ea2 (ev_v 0) (ev_v 2)) ⟨m, ts, _, rfl, sm, ?_, ?_⟩))) (fun z => nomatch z) fun _ => sd_next) ?_
  · rw [hi.2.1]
    show (nats im).length ≤ 100000
    have := hi.2.2
    rw [List.length_map]
    omega
  · rw [hi.2.1, mirI_nats, hM]
  · exact sd_ret ((ev_v 2).to hi.2.1)⟩
abbrev N_is_mirror : List Str := ["order", "thing"]
theorem sc_is_mirror : FnScope N_is_mirror ["order", "thing"] (defScope s_is_mirror) := ⟨rfl, rfl, rfl, by decide +kernel, rfl, by decide +kernel, by decide +kernel⟩
def R_is_mirror (ds : List Da) (r : Da) : Prop := ∃ (m : Nat) (ts : Ps) (o d : Da), ds = [o, d] ∧ IsOd o m ts ∧ d.sm ∧ r = .bl (mirI m ts d)
theorem okF_is_mirror {P : Program} {w : World} {K : PySem.W.Frag} {mg : Str → Option Value} {base : Heap} (T : Tx K mg) : ∃ fd, FunD K "is_mirror" "is_mirror" (defArgs s_is_mirror) (defBody s_is_mirror) (defScope s_is_mirror) [] [] (He.ga K "is_mirror") fd ∧ FnOk P w K mg base CX0 42 (He.ga K "is_mirror") fd ["order", "thing"] (spD R_is_mirror) := T.ok' 35 rfl sc_is_mirror (by rintro ds r h; obtain ⟨_, _, _, _, rfl, _⟩ := h; rfl) fun f cdv A outer s H E hr => ⟨_, (pss_one (ps_ret (pe_c (ok_is_mirror_in T) hr (by decide) (by rfl) (pa_cons (pe_c (ok_sure_order T) hr (by decide) (by rfl) (pa_cons (pv 0) pa_nil)) (pa_cons (pv 1) pa_nil))))), fun ds r hR => by
  obtain ⟨m, ts, o, d, rfl, ho, hd, rfl⟩ := hR
  exact sd_ret (ev_call (ea2 (ev_call (ea1 (ev_v 0)) ⟨m, ts, o, rfl, ho, rfl⟩) (ev_v 1)) ⟨m, ts, d, rfl, ho.2.2.sm, hd, rfl⟩)⟩
theorem ok_is_mirror {P : Program} {w : World} {K : PySem.W.Frag} {mg : Str → Option Value} {base : Heap} (T : Tx K mg) : Cal P w K mg base 42 "is_mirror" (spD R_is_mirror) [] := T.cal 35 rfl (fun _ _ _ _ _ _ us hl => match us, hl with | [_, _], _ => rfl) (okF_is_mirror T)
/-- an order and its mirror, as they are given -/
structure OM (o d : Da) (m : Nat) (ts : Ps) (im : List Nat) : Prop where
 o : IsOd o m ts
 d : IsIm d im
 m : mirN m ts im = true
abbrev N_mirror_sure : List Str := ["order", "mirror", "own"]
theorem sc_mirror_sure : FnScope N_mirror_sure ["order", "mirror"] (defScope s_mirror_sure) := ⟨rfl, rfl, rfl, by decide +kernel, rfl, by decide +kernel, by decide +kernel⟩
def R_mirror_sure (ds : List Da) (r : Da) : Prop := ∃ (m : Nat) (ts : Ps) (im : List Nat) (o d : Da), ds = [o, d] ∧ OM o d m ts im ∧ r = .tup [od m ts, .tup (nats im)]
theorem ok_mirror_sure {P : Program} {w : World} {K : PySem.W.Frag} {mg : Str → Option Value} {base : Heap} (T : Tx K mg) : Cal P w K mg base 42 "mirror_sure" (spD R_mirror_sure) [] := T.ok 36 36 rfl rfl sc_mirror_sure (fun _ _ _ _ _ _ us hl => match us, hl with | [_, _], _ => rfl) (by rintro ds r h; obtain ⟨_, _, _, _, _, rfl, _⟩ := h; rfl) fun f cdv A outer s H E hr => ⟨_, (pss_cons (ps_set (i := 2) sc_mirror_sure.nd rfl (Or.inl rfl) (pe_c (ok_sure_order T) hr (by decide) (by rfl) (pa_cons (pv 0) pa_nil))) (pss_one (ps_ret (pe_tup (pa_cons (pv 2) (pa_cons (pe_c (ok_sure_mirror T) hr (by decide) (by rfl) (pa_cons (pv 2) (pa_cons (pv 1) pa_nil))) pa_nil)))))), fun ds r hR => by
  obtain ⟨m, ts, im, o, d, rfl, h, rfl⟩ := hR
  refine sd_seq (sd_asg (ev_call (ea1 (ev_v 0)) ⟨m, ts, o, rfl, h.o, rfl⟩)) ?_
  exact sd_ret (ev_tup (ea2 (ev_v 2) (ev_call (ea2 (ev_v 2) (ev_v 1)) ⟨m, ts, im, d, rfl, h.o.2.2.sm, h.d, h.m, rfl⟩)))⟩
abbrev N_stays_in : List Str := ["images", "piece", "image"]
theorem sc_stays_in : FnScope N_stays_in ["images"] (defScope s_stays_in) := ⟨rfl, rfl, rfl, by decide +kernel, rfl, by decide +kernel, by decide +kernel⟩
def R_stays_in (ds : List Da) (r : Da) : Prop := ∃ im : List Nat, ds = [.tup (nats im)] ∧ im.length ≤ 1000 ∧ r = .tup (nats (stay im))
theorem ok_stays_in {P : Program} {w : World} {K : PySem.W.Frag} {mg : Str → Option Value} {base : Heap} (T : Tx K mg) : Cal P w K mg base 1 "stays_in" (spD R_stays_in) [] := T.ok 37 37 rfl rfl sc_stays_in (fun _ _ _ _ _ _ us hl => match us, hl with | [_], _ => rfl) (by rintro ds r h; obtain ⟨_, rfl, _⟩ := h; rfl) fun f cdv A outer s H E hr => ⟨_, (pss_one (ps_ret (pe_callTy (k_tuple K rfl) (by rfl) T.b_tuple (by decide +kernel) (pa_cons (pe_lc (own := [("piece", 1), ("image", 2)]) rfl sc_stays_in.nd (k_enum K rfl (by rfl) T.b_enumerate (pa_cons (pv 0) pa_nil)) (blkOk_by (own := [("piece", 1), ("image", 2)]) (N := N_stays_in) (sc := (defScope s_stays_in)) (by decide +kernel)) (fun _ _ _ _ _ => (k_tup K (n := 2) rfl rfl (pgs_cons (pg_name (i := 1) sc_stays_in.nd rfl (Or.inl rfl)) (pgs_cons (pg_name (i := 2) sc_stays_in.nd rfl (Or.inl rfl)) pgs_nil)))) (fun _ _ _ _ _ => pts_one (pt_cmpR (k_eq K rfl hr.units) (pv 2) (pv 1) (nomark _))) (fun _ _ _ _ _ => (pv 1))) pa_nil)))), fun ds r hR => by
  obtain ⟨im, rfl, hl, rfl⟩ := hR
  refine sd_ret ((ev_cb (ea1 (EvD.to (EvL.toD (el_lc (as := im.zipIdx) (en := fun q => .tup [nat q.2, nat q.1]) (p := fun q => decide (q.1 = q.2)) (fn := fun q => nat q.2) (ρ' := fun q => [some (.tup (nats im)), some (nat q.2), some (nat q.1)]) (ei_enum (as := im) (en := nat) (.inr (ev_v 0))) (fun _ _ => tg_tup2) (fun q _ => eb_val (ev_eqAN (ev_v 2) (ev_v 1))) (fun q _ _ => ev_v 1) (by rw [List.length_zipIdx]; omega))) ?_)) rc_tupL).to rfl)
  simp [stay]⟩
abbrev N_stays : List Str := ["order", "mirror"]
theorem sc_stays : FnScope N_stays ["order", "mirror"] (defScope s_stays) := ⟨rfl, rfl, rfl, by decide +kernel, rfl, by decide +kernel, by decide +kernel⟩
def R_stays (ds : List Da) (r : Da) : Prop := ∃ (m : Nat) (ts : Ps) (im : List Nat) (o d : Da), ds = [o, d] ∧ OM o d m ts im ∧ r = .tup (nats (stay im))
theorem okF_stays {P : Program} {w : World} {K : PySem.W.Frag} {mg : Str → Option Value} {base : Heap} (T : Tx K mg) : ∃ fd, FunD K "stays" "stays" (defArgs s_stays) (defBody s_stays) (defScope s_stays) [] [] (He.ga K "stays") fd ∧ FnOk P w K mg base CX0 43 (He.ga K "stays") fd ["order", "mirror"] (spD R_stays) := T.ok' 38 rfl sc_stays (by rintro ds r h; obtain ⟨_, _, _, _, _, rfl, _⟩ := h; rfl) fun f cdv A outer s H E hr => ⟨_, (pss_one (ps_ret (pe_c (ok_stays_in T) hr (by decide) (by rfl) (pa_cons (pe_ix (k_ix K rfl) (pe_c (ok_mirror_sure T) hr (by decide) (by rfl) (pa_cons (pv 0) (pa_cons (pv 1) pa_nil))) pe_int (fun _ _ => rfl)) pa_nil)))), fun ds r hR => by
  obtain ⟨m, ts, im, o, d, rfl, h, rfl⟩ := hR
  exact sd_ret (ev_call (ea1 (ev_ixTN (i := 1) (ev_call (ea2 (ev_v 0) (ev_v 1)) ⟨m, ts, im, o, d, rfl, h, rfl⟩) ev_nat rfl)) ⟨im, rfl, by have := h.d.2.2; omega, rfl⟩)⟩
theorem ok_stays {P : Program} {w : World} {K : PySem.W.Frag} {mg : Str → Option Value} {base : Heap} (T : Tx K mg) : Cal P w K mg base 43 "stays" (spD R_stays) [] := T.cal 38 rfl (fun _ _ _ _ _ _ us hl => match us, hl with | [_, _], _ => rfl) (okF_stays T)
abbrev N_moved_pairs : List Str := ["order", "mirror", "images", "piece", "image"]
theorem sc_moved_pairs : FnScope N_moved_pairs ["order", "mirror"] (defScope s_moved_pairs) := ⟨rfl, rfl, rfl, by decide +kernel, rfl, by decide +kernel, by decide +kernel⟩
def R_moved_pairs (ds : List Da) (r : Da) : Prop := ∃ (m : Nat) (ts : Ps) (im : List Nat) (o d : Da), ds = [o, d] ∧ OM o d m ts im ∧ r = .tup (prs (movd im))
theorem okF_moved_pairs {P : Program} {w : World} {K : PySem.W.Frag} {mg : Str → Option Value} {base : Heap} (T : Tx K mg) : ∃ fd, FunD K "moved_pairs" "moved_pairs" (defArgs s_moved_pairs) (defBody s_moved_pairs) (defScope s_moved_pairs) [] [] (He.ga K "moved_pairs") fd ∧ FnOk P w K mg base CX0 43 (He.ga K "moved_pairs") fd ["order", "mirror"] (spD R_moved_pairs) := T.ok' 39 rfl sc_moved_pairs (by rintro ds r h; obtain ⟨_, _, _, _, _, rfl, _⟩ := h; rfl) fun f cdv A outer s H E hr => ⟨_, (pss_cons (ps_set (i := 2) sc_moved_pairs.nd rfl (Or.inl rfl) (pe_ix (k_ix K rfl) (pe_c (ok_mirror_sure T) hr (by decide) (by rfl) (pa_cons (pv 0) (pa_cons (pv 1) pa_nil))) pe_int (fun _ _ => rfl))) (pss_one (ps_ret (pe_callTy (k_tuple K rfl) (by rfl) T.b_tuple (by decide +kernel) (pa_cons (pe_lc (own := [("piece", 3), ("image", 4)]) rfl sc_moved_pairs.nd (k_enum K rfl (by rfl) T.b_enumerate (pa_cons (pv 2) pa_nil)) (blkOk_by (own := [("piece", 3), ("image", 4)]) (N := N_moved_pairs) (sc := (defScope s_moved_pairs)) (by decide +kernel)) (fun _ _ _ _ _ => (k_tup K (n := 2) rfl rfl (pgs_cons (pg_name (i := 3) sc_moved_pairs.nd rfl (Or.inl rfl)) (pgs_cons (pg_name (i := 4) sc_moved_pairs.nd rfl (Or.inl rfl)) pgs_nil)))) (fun _ _ _ _ _ => pts_one (pt_cmpR op_lt (pv 3) (pv 4) (nomark _))) (fun _ _ _ _ _ => (pe_tup (pa_cons (pv 3) (pa_cons (pv 4) pa_nil))))) pa_nil))))), fun ds r hR => by
  obtain ⟨m, ts, im, o, d, rfl, h, rfl⟩ := hR
  have hl := h.d.2.2
  refine sd_seq (sd_asg (ev_ixTN (i := 1) (ev_call (ea2 (ev_v 0) (ev_v 1)) ⟨m, ts, im, o, d, rfl, h, rfl⟩) ev_nat rfl)) ?_
  refine sd_ret ((ev_cb (ea1 (EvD.to (EvL.toD (el_lc (as := im.zipIdx) (en := fun q => .tup [nat q.2, nat q.1]) (p := fun q => decide (q.2 < q.1)) (fn := fun q => pr (q.2, q.1)) (ρ' := fun q => [some o, some d, some (.tup (nats im)), some (nat q.2), some (nat q.1)]) (ei_enum (as := im) (en := nat) (.inr (ev_v 2))) (fun _ _ => tg_tup2) (fun q _ => eb_val (ev_ltN (ev_v 3) (ev_v 4))) (fun q _ _ => ev_tup (ea2 (ev_v 3) (ev_v 4))) (by rw [List.length_zipIdx]; omega))) ?_)) rc_tupL).to rfl)
  simp [movd, prs]⟩
theorem ok_moved_pairs {P : Program} {w : World} {K : PySem.W.Frag} {mg : Str → Option Value} {base : Heap} (T : Tx K mg) : Cal P w K mg base 43 "moved_pairs" (spD R_moved_pairs) [] := T.cal 39 rfl (fun _ _ _ _ _ _ us hl => match us, hl with | [_, _], _ => rfl) (okF_moved_pairs T)
/-- the order of those that stay -/
def stP (m : Nat) (ts : Ps) (im : List Nat) : Ps := red (stay im).length (partP m ts (stay im))
theorem OM.st {o d : Da} {m : Nat} {ts : Ps} {im : List Nat} (h : OM o d m ts im) : (∀ x ∈ stay im, x < m) ∧ (stay im).length ≤ m := by
 have M := (mirN_iff h.o.2.2.sm.up).mp h.m
 have a : ∀ x ∈ stay im, x < m := fun x hx => by
   have := (mem_stay.mp hx).1
   rw [M.len] at this
   exact this
 exact ⟨a, len_le (row_nodup stay_asc) a⟩
theorem OM.os {o d : Da} {m : Nat} {ts : Ps} {im : List Nat} (h : OM o d m ts im) : OS (stay im).length (stP m ts im) := by
 have u := h.o.2.2.sm.up
 have hp := partP_up u (stay_asc (im := im))
 have l1 := partP_len (m := m) (ps := ts) (l := stay im)
 have l2 := red_len hp
 have l3 : m * m ≤ 3600 := Nat.mul_le_mul h.o.2.2.sm.m60 h.o.2.2.sm.m60
 refine ⟨⟨red_up hp, Nat.le_trans h.st.2 h.o.2.2.sm.m60, by unfold stP; omega⟩, red_red hp⟩
abbrev N_staying_order : List Str := ["order", "mirror", "own", "images"]
theorem sc_staying_order : FnScope N_staying_order ["order", "mirror"] (defScope s_staying_order) := ⟨rfl, rfl, rfl, by decide +kernel, rfl, by decide +kernel, by decide +kernel⟩
def R_staying_order (ds : List Da) (r : Da) : Prop := ∃ (m : Nat) (ts : Ps) (im : List Nat) (o d : Da), ds = [o, d] ∧ OM o d m ts im ∧ r = od (stay im).length (stP m ts im)
theorem okF_staying_order {P : Program} {w : World} {K : PySem.W.Frag} {mg : Str → Option Value} {base : Heap} (T : Tx K mg) : ∃ fd, FunD K "staying_order" "staying_order" (defArgs s_staying_order) (defBody s_staying_order) (defScope s_staying_order) [] [] (He.ga K "staying_order") fd ∧ FnOk P w K mg base CX0 43 (He.ga K "staying_order") fd ["order", "mirror"] (spD R_staying_order) := T.ok' 40 rfl sc_staying_order (by rintro ds r h; obtain ⟨_, _, _, _, _, rfl, _⟩ := h; rfl) fun f cdv A outer s H E hr => ⟨_, (pss_cons (ps_asg (pe_c (ok_mirror_sure T) hr (by decide) (by rfl) (pa_cons (pv 0) (pa_cons (pv 1) pa_nil))) (k_tup K (n := 2) rfl rfl (pgs_cons (pg_name (i := 2) sc_staying_order.nd rfl (Or.inl rfl)) (pgs_cons (pg_name (i := 3) sc_staying_order.nd rfl (Or.inl rfl)) pgs_nil)))) (pss_one (ps_ret (pe_c (ok_part_in T) hr (by decide) (by rfl) (pa_cons (pv 2) (pa_cons (pe_c (ok_stays_in T) hr (by decide) (by rfl) (pa_cons (pv 3) pa_nil)) pa_nil)))))), fun ds r hR => by
  obtain ⟨m, ts, im, o, d, rfl, h, rfl⟩ := hR
  have hl := h.d.2.2
  refine sd_seq (sd_asgT (ev_call (ea2 (ev_v 0) (ev_v 1)) ⟨m, ts, im, o, d, rfl, h, rfl⟩) tg_tup2 (fun _ _ z => nomatch z)) ?_
  exact sd_ret (ev_call (ea2 (ev_v 2) (ev_call (ea1 (ev_v 3)) ⟨im, rfl, by omega, rfl⟩)) ⟨m, ts, stay im, rfl, h.o.2.2.sm, stay_asc, h.st.1, rfl⟩)⟩
theorem ok_staying_order {P : Program} {w : World} {K : PySem.W.Frag} {mg : Str → Option Value} {base : Heap} (T : Tx K mg) : Cal P w K mg base 43 "staying_order" (spD R_staying_order) [] := T.cal 40 rfl (fun _ _ _ _ _ _ us hl => match us, hl with | [_, _], _ => rfl) (okF_staying_order T)
abbrev N_worth_by_mirror : List Str := ["order", "mirror", "own", "images"]
theorem sc_worth_by_mirror : FnScope N_worth_by_mirror ["order", "mirror"] (defScope s_worth_by_mirror) := ⟨rfl, rfl, rfl, by decide +kernel, rfl, by decide +kernel, by decide +kernel⟩
def R_worth_by_mirror (ds : List Da) (r : Da) : Prop := ∃ (m : Nat) (ts : Ps) (im : List Nat) (o d : Da), ds = [o, d] ∧ OM o d m ts im ∧ m ≤ 9 ∧ r = nat (gw (stay im).length (stP m ts im) (2 ^ (stay im).length - 1))
theorem okF_worth_by_mirror {P : Program} {w : World} {K : PySem.W.Frag} {mg : Str → Option Value} {base : Heap} (T : Tx K mg) : ∃ fd, FunD K "worth_by_mirror" "worth_by_mirror" (defArgs s_worth_by_mirror) (defBody s_worth_by_mirror) (defScope s_worth_by_mirror) [] [] (He.ga K "worth_by_mirror") fd ∧ FnOk P w K mg base CX0 43 (He.ga K "worth_by_mirror") fd ["order", "mirror"] (spD R_worth_by_mirror) := T.ok' 41 rfl sc_worth_by_mirror (by rintro ds r h; obtain ⟨_, _, _, _, _, rfl, _⟩ := h; rfl) fun f cdv A outer s H E hr => ⟨_, (pss_cons (ps_asg (pe_c (ok_mirror_sure T) hr (by decide) (by rfl) (pa_cons (pv 0) (pa_cons (pv 1) pa_nil))) (k_tup K (n := 2) rfl rfl (pgs_cons (pg_name (i := 2) sc_worth_by_mirror.nd rfl (Or.inl rfl)) (pgs_cons (pg_name (i := 3) sc_worth_by_mirror.nd rfl (Or.inl rfl)) pgs_nil)))) (pss_one (ps_ret (pe_c (ok_worth_in T) hr (by decide) (by rfl) (pa_cons (pe_c (ok_part_in T) hr (by decide) (by rfl) (pa_cons (pv 2) (pa_cons (pe_c (ok_stays_in T) hr (by decide) (by rfl) (pa_cons (pv 3) pa_nil)) pa_nil))) pa_nil))))), fun ds r hR => by
  obtain ⟨m, ts, im, o, d, rfl, h, hm, rfl⟩ := hR
  have hl := h.d.2.2
  refine sd_seq (sd_asgT (ev_call (ea2 (ev_v 0) (ev_v 1)) ⟨m, ts, im, o, d, rfl, h, rfl⟩) tg_tup2 (fun _ _ z => nomatch z)) ?_
  exact sd_ret (ev_call (ea1 (ev_call (ea2 (ev_v 2) (ev_call (ea1 (ev_v 3)) ⟨im, rfl, by omega, rfl⟩)) ⟨m, ts, stay im, rfl, h.o.2.2.sm, stay_asc, h.st.1, rfl⟩)) ⟨_, _, rfl, h.os, by have := h.st.2; omega, rfl⟩)⟩
theorem ok_worth_by_mirror {P : Program} {w : World} {K : PySem.W.Frag} {mg : Str → Option Value} {base : Heap} (T : Tx K mg) : Cal P w K mg base 43 "worth_by_mirror" (spD R_worth_by_mirror) [] := T.cal 41 rfl (fun _ _ _ _ _ _ us hl => match us, hl with | [_, _], _ => rfl) (okF_worth_by_mirror T)
def evn (im pcs : List Nat) : Bool := pcs.all fun p => decide (gN im p ∈ pcs)
abbrev N_is_even_in : List Str := ["images", "left", "piece"]
theorem sc_is_even_in : FnScope N_is_even_in ["images", "left"] (defScope s_is_even_in) := ⟨rfl, rfl, rfl, by decide +kernel, rfl, by decide +kernel, by decide +kernel⟩
def R_is_even_in (ds : List Da) (r : Da) : Prop := ∃ im pcs : List Nat, ds = [.tup (nats im), .tup (nats pcs)] ∧ pcs.length ≤ 1000 ∧ (∀ x ∈ pcs, x < im.length) ∧ r = .bl (evn im pcs)
theorem ok_is_even_in {P : Program} {w : World} {K : PySem.W.Frag} {mg : Str → Option Value} {base : Heap} (T : Tx K mg) : Cal P w K mg base 1 "is_even_in" (spD R_is_even_in) [] := T.ok 42 42 rfl rfl sc_is_even_in (fun _ _ _ _ _ _ us hl => match us, hl with | [_, _], _ => rfl) (by rintro ds r h; obtain ⟨_, _, rfl, _⟩ := h; rfl) fun f cdv A outer s H E hr => ⟨_, (pss_one (ps_ret (pe_callB (k_all K rfl rfl) (by rfl) T.b_all (by decide +kernel) (pa_cons (pe_lc (own := [("piece", 2)]) rfl sc_is_even_in.nd (k_seq K rfl (pv 1)) (blkOk_by (own := [("piece", 2)]) (N := N_is_even_in) (sc := (defScope s_is_even_in)) (by decide +kernel)) (fun _ _ _ _ _ => (pg_name (i := 2) sc_is_even_in.nd rfl (Or.inl rfl))) (fun _ _ _ _ _ => pts_nil) (fun _ _ _ _ _ => (pe_cmpR (k_in K rfl) (pe_ix (k_ix K rfl) (pv 0) (pv 2) (fun _ _ => rfl)) (pv 1) (by rfl)))) pa_nil)))), fun ds r hR => by
  obtain ⟨im, pcs, rfl, hl, hx, rfl⟩ := hR
  exact sd_ret (ev_all (as := pcs) (b := fun p => decide (gN im p ∈ pcs)) (EvL.toD (el_map (as := pcs) (en := nat) (fn := fun p => .bl (decide (gN im p ∈ pcs))) (ρ' := fun p => [some (.tup (nats im)), some (.tup (nats pcs)), some (nat p)]) (ei_seqT (ev_v 1)) (fun _ _ => tg_name) (fun p hp => ev_inTN (ev_ixTN (i := p) (ev_v 0) (ev_v 2) (nat_at (hx p hp))) (ev_v 1)) (by omega))))⟩
/-- LEFT data -/
structure LD (d : Da) (m : Nat) (ts : Ps) (pcs : List Nat) : Prop where
 lf : Lf m ts pcs
 f : d.fit 40 = true
 t : d.tpd 40 = .tup (nats pcs)
abbrev N_is_even : List Str := ["order", "mirror", "left", "own", "images"]
theorem sc_is_even : FnScope N_is_even ["order", "mirror", "left"] (defScope s_is_even) := ⟨rfl, rfl, rfl, by decide +kernel, rfl, by decide +kernel, by decide +kernel⟩
def R_is_even (ds : List Da) (r : Da) : Prop := ∃ (m : Nat) (ts : Ps) (im pcs : List Nat) (o d l : Da), ds = [o, d, l] ∧ OM o d m ts im ∧ LD l m ts pcs ∧ r = .bl (evn im pcs)
theorem okF_is_even {P : Program} {w : World} {K : PySem.W.Frag} {mg : Str → Option Value} {base : Heap} (T : Tx K mg) : ∃ fd, FunD K "is_even" "is_even" (defArgs s_is_even) (defBody s_is_even) (defScope s_is_even) [] [] (He.ga K "is_even") fd ∧ FnOk P w K mg base CX0 43 (He.ga K "is_even") fd ["order", "mirror", "left"] (spD R_is_even) := T.ok' 43 rfl sc_is_even (by rintro ds r h; obtain ⟨_, _, _, _, _, _, _, rfl, _⟩ := h; rfl) fun f cdv A outer s H E hr => ⟨_, (pss_cons (ps_asg (pe_c (ok_mirror_sure T) hr (by decide) (by rfl) (pa_cons (pv 0) (pa_cons (pv 1) pa_nil))) (k_tup K (n := 2) rfl rfl (pgs_cons (pg_name (i := 3) sc_is_even.nd rfl (Or.inl rfl)) (pgs_cons (pg_name (i := 4) sc_is_even.nd rfl (Or.inl rfl)) pgs_nil)))) (pss_one (ps_ret (pe_c (ok_is_even_in T) hr (by decide) (by rfl) (pa_cons (pv 4) (pa_cons (pe_c (ok_sure_left T) hr (by decide) (by rfl) (pa_cons (pv 3) (pa_cons (pv 2) pa_nil))) pa_nil)))))), fun ds r hR => by
  obtain ⟨m, ts, im, pcs, o, d, l, rfl, h, hL, rfl⟩ := hR
  have hm := h.o.2.2.sm.m60
  have M := (mirN_iff h.o.2.2.sm.up).mp h.m
  have hlen := len_le (row_nodup hL.lf.asc) hL.lf.lt
  refine sd_seq (sd_asgT (ev_call (ea2 (ev_v 0) (ev_v 1)) ⟨m, ts, im, o, d, rfl, h, rfl⟩) tg_tup2 (fun _ _ z => nomatch z)) ?_
  exact sd_ret (ev_call (ea2 (ev_v 4) (ev_call (ea2 (ev_v 3) (ev_v 2)) ⟨m, ts, pcs, l, rfl, hm, h.o.2.2.sm.len, hL.lf, hL.f, hL.t, rfl⟩)) ⟨im, pcs, rfl, by omega, fun x hx => by rw [M.len]; exact hL.lf.lt x hx, rfl⟩)⟩
theorem ok_is_even {P : Program} {w : World} {K : PySem.W.Frag} {mg : Str → Option Value} {base : Heap} (T : Tx K mg) : Cal P w K mg base 43 "is_even" (spD R_is_even) [] := T.cal 43 rfl (fun _ _ _ _ _ _ us hl => match us, hl with | [_, _, _], _ => rfl) (okF_is_even T)
abbrev N_even_sure : List Str := ["order", "mirror", "left", "piece", "own", "images", "pieces"]
theorem sc_even_sure : FnScope N_even_sure ["order", "mirror", "left", "piece"] (defScope s_even_sure) := ⟨rfl, rfl, rfl, by decide +kernel, rfl, by decide +kernel, by decide +kernel⟩
def R_even_sure (ds : List Da) (r : Da) : Prop := ∃ (m : Nat) (ts : Ps) (im pcs : List Nat) (o d l : Da) (p : Nat), ds = [o, d, l, nat p] ∧ OM o d m ts im ∧ LD l m ts pcs ∧ evn im pcs = true ∧ p ∈ pcs ∧ r = .tup [od m ts, .tup (nats im), .tup (nats pcs)]
theorem ok_even_sure {P : Program} {w : World} {K : PySem.W.Frag} {mg : Str → Option Value} {base : Heap} (T : Tx K mg) : Cal P w K mg base 43 "even_sure" (spD R_even_sure) [] := T.ok 44 44 rfl rfl sc_even_sure (fun _ _ _ _ _ _ us hl => match us, hl with | [_, _, _, _], _ => rfl) (by rintro ds r h; obtain ⟨_, _, _, _, _, _, _, _, rfl, _⟩ := h; rfl) fun f cdv A outer s H E hr => ⟨_, (pss_cons (ps_asg (pe_c (ok_mirror_sure T) hr (by decide) (by rfl) (pa_cons (pv 0) (pa_cons (pv 1) pa_nil))) (k_tup K (n := 2) rfl rfl (pgs_cons (pg_name (i := 4) sc_even_sure.nd rfl (Or.inl rfl)) (pgs_cons (pg_name (i := 5) sc_even_sure.nd rfl (Or.inl rfl)) pgs_nil)))) (pss_cons (ps_set (i := 6) sc_even_sure.nd rfl (Or.inl rfl) (pe_c (ok_sure_left T) hr (by decide) (by rfl) (pa_cons (pv 4) (pa_cons (pv 2) pa_nil)))) (pss_cons (ps_if (PW.pt (pw_or (pt_not (pt_val (pe_c (ok_is_number T) hr (by decide) (by rfl) (pa_cons (pv 3) pa_nil)))) (pw_or1 (pt_not (pt_val (pe_c (ok_is_even_in T) hr (by decide) (by rfl) (pa_cons (pv 5) (pa_cons (pv 6) pa_nil)))))))) (pss_one ps_never) pss_nil) (pss_cons (ps_if (pt_cmpR (k_ni K rfl) (pv 3) (pv 6) (by rfl)) (pss_one ps_never) pss_nil) (pss_one (ps_ret (pe_tup (pa_cons (pv 4) (pa_cons (pv 5) (pa_cons (pv 6) pa_nil)))))))))), fun ds r hR => by
  obtain ⟨m, ts, im, pcs, o, d, l, p, rfl, h, hL, he, hp, rfl⟩ := hR
  have hm := h.o.2.2.sm.m60
  have M := (mirN_iff h.o.2.2.sm.up).mp h.m
  have hlen := len_le (row_nodup hL.lf.asc) hL.lf.lt
  refine sd_seq (sd_asgT (ev_call (ea2 (ev_v 0) (ev_v 1)) ⟨m, ts, im, o, d, rfl, h, rfl⟩) tg_tup2 (fun _ _ z => nomatch z)) ?_
  refine sd_seq (sd_asg (ev_call (ea2 (ev_v 4) (ev_v 2)) ⟨m, ts, pcs, l, rfl, hm, h.o.2.2.sm.len, hL.lf, hL.f, hL.t, rfl⟩)) ?_
  refine sd_seq (sd_if (b := false) (eb_or (a := false) (eb_not (a := true) (eb_val (ev_call (ea1 (ev_v 3)) ⟨_, rfl, rfl⟩))) fun _ => eb_not (a := true) (eb_val (ev_call (ea2 (ev_v 5) (ev_v 6)) ⟨im, pcs, rfl, by omega, fun x hx => by rw [M.len]; exact hL.lf.lt x hx, by rw [he]⟩))) (fun z => nomatch z) fun _ => sd_next) ?_
  refine sd_seq (sd_if (b := false) (eb_val ((ev_niTN (ev_v 3) (ev_v 6)).to (by simp [hp]))) (fun z => nomatch z) fun _ => sd_next) ?_
  exact sd_ret (ev_tup (ea3 (ev_v 4) (ev_v 5) (ev_v 6)))⟩
/-- what a move and its reply leave -/
def playd (m : Nat) (ts : Ps) (im pcs : List Nat) (p : Nat) : List Nat := if gN im p = p then bite m ts pcs p else bite m ts (bite m ts pcs p) (gN im p)
theorem bite_len {m : Nat} {ts : Ps} {pcs : List Nat} {p : Nat} : (bite m ts pcs p).length ≤ pcs.length := List.length_filter_le _ _
abbrev N_mirror_left : List Str := ["order", "mirror", "left", "piece", "own", "images", "pieces", "once"]
theorem sc_mirror_left : FnScope N_mirror_left ["order", "mirror", "left", "piece"] (defScope s_mirror_left) := ⟨rfl, rfl, rfl, by decide +kernel, rfl, by decide +kernel, by decide +kernel⟩
def R_mirror_left (ds : List Da) (r : Da) : Prop := ∃ (m : Nat) (ts : Ps) (im pcs : List Nat) (o d l : Da) (p : Nat), ds = [o, d, l, nat p] ∧ OM o d m ts im ∧ LD l m ts pcs ∧ evn im pcs = true ∧ p ∈ pcs ∧ r = .tup (nats (playd m ts im pcs p))
theorem okF_mirror_left {P : Program} {w : World} {K : PySem.W.Frag} {mg : Str → Option Value} {base : Heap} (T : Tx K mg) : ∃ fd, FunD K "mirror_left" "mirror_left" (defArgs s_mirror_left) (defBody s_mirror_left) (defScope s_mirror_left) [] [] (He.ga K "mirror_left") fd ∧ FnOk P w K mg base CX0 44 (He.ga K "mirror_left") fd ["order", "mirror", "left", "piece"] (spD R_mirror_left) := T.ok' 46 rfl sc_mirror_left (by rintro ds r h; obtain ⟨_, _, _, _, _, _, _, _, rfl, _⟩ := h; rfl) fun f cdv A outer s H E hr => ⟨_, (pss_cons (ps_asg (pe_c (ok_even_sure T) hr (by decide) (by rfl) (pa_cons (pv 0) (pa_cons (pv 1) (pa_cons (pv 2) (pa_cons (pv 3) pa_nil))))) (k_tup K (n := 3) rfl rfl (pgs_cons (pg_name (i := 4) sc_mirror_left.nd rfl (Or.inl rfl)) (pgs_cons (pg_name (i := 5) sc_mirror_left.nd rfl (Or.inl rfl)) (pgs_cons (pg_name (i := 6) sc_mirror_left.nd rfl (Or.inl rfl)) pgs_nil))))) (pss_cons (ps_set (i := 7) sc_mirror_left.nd rfl (Or.inl rfl) (pe_c (ok_bitten_in T) hr (by decide) (by rfl) (pa_cons (pv 4) (pa_cons (pv 6) (pa_cons (pv 3) pa_nil))))) (pss_one (ps_ret (pe_ifExp (pt_cmpR (k_eq K rfl hr.units) (pe_ix (k_ix K rfl) (pv 5) (pv 3) (fun _ _ => rfl)) (pv 3) (nomark _)) (pv 7) (pe_c (ok_bitten_in T) hr (by decide) (by rfl) (pa_cons (pv 4) (pa_cons (pv 7) (pa_cons (pe_ix (k_ix K rfl) (pv 5) (pv 3) (fun _ _ => rfl)) pa_nil))))))))), fun ds r hR => by
  obtain ⟨m, ts, im, pcs, o, d, l, p, rfl, h, hL, he, hp, rfl⟩ := hR
  have hm := h.o.2.2.sm.m60
  have M := (mirN_iff h.o.2.2.sm.up).mp h.m
  have hlen := len_le (row_nodup hL.lf.asc) hL.lf.lt
  have hpm := hL.lf.lt p hp
  have ix := nat_at (l := im) (i := p) (by rw [M.len]; exact hpm)
  refine sd_seq (sd_asgT (ev_call (ea_cons (ev_v 0) (ea3 (ev_v 1) (ev_v 2) (ev_v 3))) ⟨m, ts, im, pcs, o, d, l, p, rfl, h, hL, he, hp, rfl⟩) tg_tup3 (fun _ _ z => nomatch z)) ?_
  refine sd_seq (sd_asg (ev_call (ea3 (ev_v 4) (ev_v 6) (ev_v 3)) ⟨m, ts, pcs, p, rfl, h.o.2.2.sm, by omega, hpm, rfl⟩)) ?_
  refine sd_ret (ev_if (b := decide (gN im p = p)) (eb_val (ev_eqAN (ev_ixTN (i := p) (ev_v 5) (ev_v 3) ix) (ev_v 3))) (fun hb => (ev_v 7).to ?_) fun hb => (ev_call (ea3 (ev_v 4) (ev_v 7) (ev_ixTN (i := p) (ev_v 5) (ev_v 3) ix)) ⟨m, ts, bite m ts pcs p, gN im p, rfl, h.o.2.2.sm, ?_, M.lt p hpm, rfl⟩).to ?_)
  · unfold playd
    rw [if_pos (of_decide_eq_true hb)]
  · unfold playd
    rw [if_neg (of_decide_eq_false hb)]
  · have := bite_len (m := m) (ts := ts) (pcs := pcs) (p := p)
    omega⟩
theorem ok_mirror_left {P : Program} {w : World} {K : PySem.W.Frag} {mg : Str → Option Value} {base : Heap} (T : Tx K mg) : Cal P w K mg base 44 "mirror_left" (spD R_mirror_left) [] := T.cal 46 rfl (fun _ _ _ _ _ _ us hl => match us, hl with | [_, _, _, _], _ => rfl) (okF_mirror_left T)
end Mk
end

section
set_option Elab.async false
set_option linter.all false
set_option maxRecDepth 100000
set_option maxHeartbeats 2000000
namespace Mk
open PySem PySem.Spec PyProof.Rows L2
open Evl (Ex)
open C8 (Cal pe_c pe_gc)
def Da.isN : Da → Bool
 | .non => true
 | _ => false
def Da.isB : Da → Bool
 | .bl _ => true
 | _ => false
def Da.isS : Da → Bool
 | .str _ => true
 | _ => false
section
variable {te ta tb : TE} {tr : TA} {ρ : DE} {d : Da} {xs : List Da} {K : PySem.W.Frag}
theorem el_listRg {n : Nat} (h : EvD te ρ (nat n)) (hn : n ≤ 100000) : EvL (tLstRg (tRg1 te)) ρ (nats (List.range n)) := fun G H σ x en Q q => h G H σ x en _ fun v G1 H1 g1 r1 => by
 have := r1.isInt
 subst this
 refine ⟨n, rfl, RgOk.of_le (by omega) (by omega) (by omega) (by omega), fun l hl => ?_⟩
 have e : rgV 0 (n : Int) = ((List.range n).map Int.ofNat).map V.int := by
   unfold rgV
   have : ((n : Int) - 0).toNat = n := by omega
   rw [this, List.map_map]
   exact List.map_congr_left fun i _ => by simp
 refine q l (rgV 0 n) G1 _ (g1.trans (.sec g1.gh (Ex.new hl))) (ex_no g1.hh hl) (ex_no g1.gh hl) upd_same ?_
 rw [e, nats_ints]
 exact .ofInts _
theorem ev_tupRg {n : Nat} (h : EvD te ρ (nat n)) (hn : n ≤ 100000) : EvD (tTupRg (tRg1 te)) ρ (.tup (nats (List.range n))) := fun G H σ x en Q q => h G H σ x en _ fun v G1 H1 g1 r1 => by
 have := r1.isInt
 subst this
 refine ⟨n, rfl, RgOk.of_le (by omega) (by omega) (by omega) (by omega), fun l hl => ?_⟩
 have e : rgV 0 (n : Int) = ((List.range n).map Int.ofNat).map V.int := by
   unfold rgV
   have : ((n : Int) - 0).toNat = n := by omega
   rw [this, List.map_map]
   exact List.map_congr_left fun i _ => by simp
 refine q _ _ _ (g1.trans (.new g1.gh hl)) (.tup upd_same ?_)
 rw [e, nats_ints]
 exact .ofInts _
theorem ev_neS (ha : EvD ta ρ d) (hb : EvD tb ρ d) (c : Cmp d) : EvD (tOp (rNeA K) ta tb) ρ (.bl false) := (ev_neD ha hb c c).to (by rw [eqv_self]; rfl)
theorem cm_bl {b : Bool} {k : Nat} : Cm (k + 1) (.bl b) := ⟨by unfold Da.nd <;> rfl, by unfold Da.py PyData.canLay0 <;> rfl, by unfold Da.py PyData.depth; omega⟩
theorem ei_zipS (ha : EvD ta ρ (.lst xs)) (hb : EvD tb ρ (.lst xs)) : EvI (RZ.iZipA K (tCons ta (tCons tb tNil))) ρ (xs.map fun x => .tup [x, x]) := fun G H σ x en R q =>
 ha G H σ x en _ fun v G1 H1 g1 r1 => hb G1 H1 σ g1.gh (en.mono g1.gg) _ fun u G2 H2 g2 r2 => by
   obtain ⟨a, vs, rfl, e1, ra⟩ := (r1.mono g2.gg).isLst
   obtain ⟨b, ws, rfl, e2, rb⟩ := r2.isLst
   refine ⟨a, b, vs, ws, rfl, .inl ⟨SqL.of (g2.gh _ _ e1), SqL.of (g2.gh _ _ e2), q _ G2 H2 (g1.trans g2) fun G3 H3 x1 x2 i => ?_⟩⟩
   have h1 : SqL K H3 a vs := SqL.of (x2 _ _ (x1 _ _ e1))
   have h2 : SqL K H3 b ws := SqL.of (x2 _ _ (x1 _ _ e2))
   rw [List.length_map]
   refine ⟨fun hi => ?_, fun hi => ⟨vs, ws, h1, h2, .inl (by rw [ra.length]; exact hi)⟩, fun y H4 yl => ?_⟩
   · have hv : i < vs.length := by rw [ra.length]; exact hi
     have hw : i < ws.length := by rw [rb.length]; exact hi
     exact ⟨vs, ws, vs[i], ws[i], h1, h2, List.getElem?_eq_getElem hv, List.getElem?_eq_getElem hw⟩
   · obtain ⟨T, z, z', rfl, nT, rfl, f1, f2⟩ := yl
     obtain ⟨d1, k1, k2⟩ := ra.getV (f1 vs h1)
     obtain ⟨d2, k3, k4⟩ := rb.getV (f2 ws h2)
     have ed : d1 = d2 := Option.some.inj (k1.symm.trans k3)
     subst ed
     have g := Gr.new x2 (o := .tup [z, z']) nT
     refine ⟨_, .tup [d1, d1], g, fun hi => ⟨?_, .tup upd_same (.cons (k2.mono (x1.trans g.gg)) (.cons (k4.mono (x1.trans g.gg)) .nil))⟩⟩
     rw [List.getElem?_map, k1]
     rfl
theorem ei_zipST (ha : EvD ta ρ (.tup xs)) (hb : EvD tb ρ (.tup xs)) : EvI (RZ.iZipA K (tCons ta (tCons tb tNil))) ρ (xs.map fun x => .tup [x, x]) := fun G H σ x en R q =>
 ha G H σ x en _ fun v G1 H1 g1 r1 => hb G1 H1 σ g1.gh (en.mono g1.gg) _ fun u G2 H2 g2 r2 => by
   obtain ⟨a, vs, rfl, e1, ra⟩ := (r1.mono g2.gg).isTup
   obtain ⟨b, ws, rfl, e2, rb⟩ := r2.isTup
   refine ⟨a, b, vs, ws, rfl, .inr ⟨SqT.of (g2.gh _ _ e1), SqT.of (g2.gh _ _ e2), q _ G2 H2 (g1.trans g2) fun G3 H3 x1 x2 i => ?_⟩⟩
   have h1 : SqT K H3 a vs := SqT.of (x2 _ _ (x1 _ _ e1))
   have h2 : SqT K H3 b ws := SqT.of (x2 _ _ (x1 _ _ e2))
   rw [List.length_map]
   refine ⟨fun hi => ?_, fun hi => ⟨vs, ws, h1, h2, .inl (by rw [ra.length]; exact hi)⟩, fun y H4 yl => ?_⟩
   · have hv : i < vs.length := by rw [ra.length]; exact hi
     have hw : i < ws.length := by rw [rb.length]; exact hi
     exact ⟨vs, ws, vs[i], ws[i], h1, h2, List.getElem?_eq_getElem hv, List.getElem?_eq_getElem hw⟩
   · obtain ⟨T, z, z', rfl, nT, rfl, f1, f2⟩ := yl
     obtain ⟨d1, k1, k2⟩ := ra.getV (f1 vs h1)
     obtain ⟨d2, k3, k4⟩ := rb.getV (f2 ws h2)
     have ed : d1 = d2 := Option.some.inj (k1.symm.trans k3)
     subst ed
     have g := Gr.new x2 (o := .tup [z, z']) nT
     refine ⟨_, .tup [d1, d1], g, fun hi => ⟨?_, .tup upd_same (.cons (k2.mono (x1.trans g.gg)) (.cons (k4.mono (x1.trans g.gg)) .nil))⟩⟩
     rw [List.getElem?_map, k1]
     rfl
theorem ev_isN (ha : EvD ta ρ d) (hd : Sc d ∨ d.isT = true ∨ d.isL = true) (hb : EvD tb ρ .non) : EvD (tOp (fun x y H Q => y = .non ∧ Q (.bl (decide (x = .non))) H) ta tb) ρ (.bl d.isN) := ev_op ha hb fun G H x y ex r1 r2 Q q => by
 cases r2
 refine ⟨rfl, ?_⟩
 cases r1 <;> exact q _ G H (.refl ex) (.bl _)
end
abbrev N__law_is_mirror : List Str := ["_law_net_here", "_law_images_so", "_law_up_so", "_law_low_so", "_law_high_so", "_law_low", "_law_high", "_law_one", "_law_two", "_law_own", "_law_k"]
theorem sc__law_is_mirror : FnScope N__law_is_mirror ["_law_net_here", "_law_images_so"] (defScope s__law_is_mirror) := ⟨rfl, rfl, rfl, by decide +kernel, rfl, by decide +kernel, by decide +kernel⟩
def R__law_is_mirror (ds : List Da) (r : Da) : Prop := ∃ (m : Nat) (ts : Ps) (d : Da), ds = [od m ts, d] ∧ OS m ts ∧ ((∃ l, d = .lst l ∧ r = .bl false) ∨ ∃ im, d = .tup (nats im) ∧ im.length ≤ 1000 ∧ r = .bl (lawM m ts im))
theorem ok__law_is_mirror {P : Program} {w : World} {K : PySem.W.Frag} {mg : Str → Option Value} {base : Heap} (T : Tx K mg) : Cal P w K mg base 2 "_law_is_mirror" (spD R__law_is_mirror) [] := T.ok 70 70 rfl rfl sc__law_is_mirror (fun _ _ _ _ _ _ us hl => match us, hl with | [_, _], _ => rfl) (by rintro ds r h; obtain ⟨_, _, _, rfl, _⟩ := h; rfl) fun f cdv A outer s H E hr => ⟨_, (pss_cons (ps_if (PW.pt (pw_or (pt_not (pt_val (pe_callB (k_isi K rfl) (by rfl) T.b_isinstance (by decide +kernel) (pa_cons (pv 1) (pa_cons (pe_bltn (v := .ty "tuple") (by rfl) T.b_tuple (by decide +kernel) rfl) pa_nil))))) (pw_or1 (pt_cmpR (k_ne K rfl hr.units) (pe_lc (own := [("_law_own", 9)]) rfl sc__law_is_mirror.nd (k_seq K rfl (pv 1)) (blkOk_by (own := [("_law_own", 9)]) (N := N__law_is_mirror) (sc := (defScope s__law_is_mirror)) (by decide +kernel)) (fun _ _ _ _ _ => (pg_name (i := 9) sc__law_is_mirror.nd rfl (Or.inl rfl))) (fun _ _ _ _ _ => pts_one (PW.pt (pw_or (pt_val (pe_callB (k_isi K rfl) (by rfl) T.b_isinstance (by decide +kernel) (pa_cons (pv 9) (pa_cons (pe_bltn (v := .ty "bool") (by rfl) T.b_bool (by decide +kernel) rfl) pa_nil)))) (pw_or1 (pt_not (pt_val (pe_callB (k_isi K rfl) (by rfl) T.b_isinstance (by decide +kernel) (pa_cons (pv 9) (pa_cons (pe_bltn (v := .ty "int") (by rfl) T.b_int (by decide +kernel) rfl) pa_nil))))))))) (fun _ _ _ _ _ => pe_int)) (pe_lst pa_nil) (nomark _))))) (pss_one (ps_ret pe_bl)) pss_nil) (pss_cons (ps_if (PW.pt (pw_or (pt_cmpR (k_ne K rfl hr.units) (pe_callB (k_sorted K rfl) (by rfl) T.b_sorted (by decide +kernel) (pa_cons (pv 1) pa_nil)) (pe_listRg rfl (by rfl) T.b_list (prg_1 (by rfl) T.b_range (pe_ix (k_ix K rfl) (pv 0) pe_int (fun _ _ => rfl)))) (nomark _)) (pw_or1 (pt_cmpR (k_ne K rfl hr.units) (pe_lc (own := [("_law_k", 10), ("_law_own", 9)]) rfl sc__law_is_mirror.nd (k_enum K rfl (by rfl) T.b_enumerate (pa_cons (pv 1) pa_nil)) (blkOk_by (own := [("_law_k", 10), ("_law_own", 9)]) (N := N__law_is_mirror) (sc := (defScope s__law_is_mirror)) (by decide +kernel)) (fun _ _ _ _ _ => (k_tup K (n := 2) rfl rfl (pgs_cons (pg_name (i := 10) sc__law_is_mirror.nd rfl (Or.inl rfl)) (pgs_cons (pg_name (i := 9) sc__law_is_mirror.nd rfl (Or.inl rfl)) pgs_nil)))) (fun _ _ _ _ _ => pts_one (pt_cmpR (k_ne K rfl hr.units) (pe_ix (k_ix K rfl) (pv 1) (pv 9) (fun _ _ => rfl)) (pv 10) (nomark _))) (fun _ _ _ _ _ => (pv 10))) (pe_lst pa_nil) (nomark _))))) (pss_one (ps_ret pe_bl)) pss_nil) (pss_cons (ps_set (i := 2) sc__law_is_mirror.nd rfl (Or.inl rfl) (pe_c (ok__law_ups T) hr (by decide) (by rfl) (pa_cons (pv 0) pa_nil))) (pss_cons (ps_for PassesOwn.never rfl (pi_range1 rfl T.b_range (pa_cons (pe_ix (k_ix K rfl) (pv 0) pe_int (fun _ _ => rfl)) pa_nil)) (pg_name (i := 3) sc__law_is_mirror.nd rfl (Or.inl rfl)) (pss_one (ps_for PassesOwn.never rfl (pi_range1 rfl T.b_range (pa_cons (pe_ix (k_ix K rfl) (pv 0) pe_int (fun _ _ => rfl)) pa_nil)) (pg_name (i := 4) sc__law_is_mirror.nd rfl (Or.inl rfl)) (pss_cons (ps_par (i := 5) (j := 6) rfl sc__law_is_mirror.nd rfl rfl (by decide) rfl rfl (pa_cons (pe_ix (k_ix K rfl) (pv 1) (pv 3) (fun _ _ => rfl)) (pa_cons (pe_ix (k_ix K rfl) (pv 1) (pv 4) (fun _ _ => rfl)) pa_nil)) (by rfl)) (pss_cons (ps_par (i := 7) (j := 8) rfl sc__law_is_mirror.nd rfl rfl (by decide) rfl rfl (pa_cons (pe_op op_and (pe_op op_shr (pe_ix (k_ix K rfl) (pv 2) (pv 3) (fun _ _ => rfl)) (pv 4)) pe_int) (pa_cons (pe_op op_and (pe_op op_shr (pe_ix (k_ix K rfl) (pv 2) (pv 5) (fun _ _ => rfl)) (pv 6)) pe_int) pa_nil)) (by rfl)) (pss_one (ps_if (PW.pt (pw_or (pt_cmpR (k_ne K rfl hr.units) (pv 7) (pv 8) (nomark _)) (pw_or1 (PW.pt (pw_and (pt_cmpR (k_eq K rfl hr.units) (pv 7) pe_int (nomark _)) (pw_and (pt_cmpR (k_eq K rfl hr.units) (pv 6) (pv 4) (nomark _)) (pw_and1 (pt_cmpR (k_ne K rfl hr.units) (pv 5) (pv 3) (nomark _))))))))) (pss_one (ps_ret pe_bl)) pss_nil))))))) (pss_one (ps_ret pe_bl)))))), fun ds r hR => by
  obtain ⟨m, ts, d, rfl, os, h⟩ := hR
  have u := os.sm.up
  have hm := os.sm.m60
  rcases h with ⟨l, rfl, rfl⟩ | ⟨im, rfl, hl, rfl⟩
  · exact sd_seqR (sd_if (b := true) (eb_or (b := false) (eb_not (a := false) (eb_val (ev_isi (ev_v 1) rfl))) fun z => nomatch z) (fun _ => sd_ret ev_bl) fun z => nomatch z)
  · refine sd_seq (sd_if (b := false) (eb_or (a := false) (eb_not (a := true) (eb_val (ev_isi (ev_v 1) rfl))) fun _ => eb_val ((ev_neLN (l := []) (k := []) (EvD.to (EvL.toD (el_lc (as := im) (en := nat) (p := fun _ => false) (fn := fun _ => .int 1) (ρ' := fun x => [some (od m ts), some (.tup (nats im)), none, none, none, none, none, none, none, some (nat x), none]) (ei_seqT (ev_v 1)) (fun _ _ => tg_name) (fun x _ => eb_or (a := false) (eb_val (ev_isi (ev_v 9) rfl)) fun _ => eb_not (a := true) (eb_val (ev_isi (ev_v 9) rfl))) (fun x _ z => nomatch z) (by omega))) (by simp)) (el_lst ea_nil).toD).to rfl)) (fun z => nomatch z) fun _ => sd_next) ?_
    refine (sd_ifRet (b := !decide (isort im = List.range m) || !invo im) (d1 := .bl false) (d2 := .bl ((List.range m).all fun lo => (List.range m).all fun hi => okL m ts im lo hi)) (eb_or (eb_val (ev_neLN (EvL.toD (el_sortN (.inr (ev_v 1)))) (EvL.toD (el_listRg (ev_ixTN (i := 0) (ev_v 0) ev_nat rfl) (by omega))))) fun h1 => ?_) ev_bl fun h2 => ?_).to ?_
    · have hs : isort im = List.range m := by simpa using h1
      have pm : im.Perm (List.range m) := by rw [← hs]; exact isort_perm.symm
      have hlen : im.length = m := by rw [pm.length_eq]; simp
      refine (eb_val (ev_neLN (l := (im.zipIdx.filter fun q => !decide (gN im q.1 = q.2)).map (·.2)) (k := []) (EvD.to (EvL.toD (el_lc (as := im.zipIdx) (en := fun q => .tup [nat q.2, nat q.1]) (p := fun q => !decide (gN im q.1 = q.2)) (fn := fun q => nat q.2) (ρ' := fun q => [some (od m ts), some (.tup (nats im)), none, none, none, none, none, none, none, some (nat q.1), some (nat q.2)]) (ei_enum (as := im) (en := nat) (.inr (ev_v 1))) (fun _ _ => tg_tup2) (fun q hq => eb_val (ev_neAN (ev_ixTN (i := q.1) (ev_v 1) (ev_v 9) (nat_at ?_)) (ev_v 10))) (fun q _ _ => ev_v 10) (by rw [List.length_zipIdx]; omega))) (by simp)) (el_lst ea_nil).toD)).to ?_
      · have := List.mem_range.mp (pm.mem_iff.mp (List.mem_of_getElem? (List.mem_zipIdx_iff_getElem?.mp hq)))
        omega
      · congr 1
        unfold invo
        rw [Bool.eq_iff_iff, decide_eq_true_iff, List.map_eq_nil_iff, List.filter_eq_nil_iff, List.all_eq_true]
        simp
    · have h3 : isort im = List.range m ∧ invo im = true := by simpa using h2
      have pm : im.Perm (List.range m) := by rw [← h3.1]; exact isort_perm.symm
      have hlen : im.length = m := by rw [pm.length_eq]; simp
      have hlt : ∀ k, k < m → gN im k < m := fun k hk => List.mem_range.mp (pm.mem_iff.mp (gN_mem (by omega)))
      have lt : (tops m ts).length = m := by simp [tops]
      refine sd_seq (sd_asg (ev_call (ea1 (ev_v 0)) ⟨m, ts, rfl, os, rfl⟩)) ?_
      let TP : Da := .lst (nats (tops m ts))
      let ρ0 : DE := [some (od m ts), some (.tup (nats im)), some TP, none, none, none, none, none, none, none, none]
      refine (sd_forRet (c := (List.range m).all fun lo => (List.range m).all fun hi => okL m ts im lo hi) (d2 := .bl true) (d := .bl false) (sd_forR (as := List.range m) (en := nat) (ρ := ρ0) (ow := .no) (ρ0 := ρ0) (ρ' := fun lo => [some (od m ts), some (.tup (nats im)), some TP, some (nat lo), none, none, none, none, none, none, none]) (c := fun lo => (List.range m).all fun hi => okL m ts im lo hi) ((ei_rng1 (n := (m : Int)) (ea1 (ev_ixTN (i := 0) (ev_v 0) ev_nat rfl)) (by omega) (by omega)).to (by simp)) (Le.refl _) (fun _ _ => tg_name) (fun lo hlo => ?_) (fun _ _ z => nomatch z)) fun _ => sd_ret ev_bl).to ?_
      · have hlo : lo < m := List.mem_range.mp hlo
        refine sd_outC (sd_forR (as := List.range m) (en := nat) (ρ := [some (od m ts), some (.tup (nats im)), some TP, some (nat lo), none, none, none, none, none, none, none]) (ow := .no) (ρ0 := [some (od m ts), some (.tup (nats im)), some TP, some (nat lo), none, none, none, none, none, none, none]) (ρ' := fun hi => [some (od m ts), some (.tup (nats im)), some TP, some (nat lo), some (nat hi), none, none, none, none, none, none]) (c := fun hi => okL m ts im lo hi) ((ei_rng1 (n := (m : Int)) (ea1 (ev_ixTN (i := 0) (ev_v 0) ev_nat rfl)) (by omega) (by omega)).to (by simp)) (Le.refl _) (fun _ _ => tg_name) (fun hi hhi => ?_) (fun _ _ z => nomatch z)) ⟨rfl, rfl, rfl, trivial⟩ rfl
        have hhi : hi < m := List.mem_range.mp hhi
        refine sd_seq (sd_par (ea2 (ev_ixTN (i := lo) (ev_v 1) (ev_v 3) (nat_at (by omega))) (ev_ixTN (i := hi) (ev_v 1) (ev_v 4) (nat_at (by omega))))) ?_
        have l1 := hlt lo hlo
        have l2 := hlt hi hhi
        refine sd_seq (sd_par (ea2 ((ev_bit (b := gN (tops m ts) lo) (ev_ixLN (i := lo) (ev_v 2) (ev_v 3) (nat_at (by omega))) (ev_v 4)).to (by rw [tb_tops u hlo])) ((ev_bit (b := gN (tops m ts) (gN im lo)) (ev_ixLN (i := gN im lo) (ev_v 2) (ev_v 5) (nat_at (by omega))) (ev_v 6)).to (by rw [tb_tops u l1])))) ?_
        refine sd_outC (sd_ifNx (eb_or (eb_val (ev_neAN (ev_v 7) (ev_v 8))) fun _ => eb_and (eb_val (ev_eqAN (j := 1) (ev_v 7) ev_int)) fun _ => eb_and (eb_val (ev_eqAN (ev_v 6) (ev_v 4))) fun _ => eb_val (ev_neAN (ev_v 5) (ev_v 3))) ev_bl) ⟨rfl, rfl, rfl, rfl, trivial⟩ ?_
        unfold okL
        cases rb ts m lo hi <;> cases rb ts m (gN im lo) (gN im hi) <;> simp
      · cases (List.range m).all fun lo => (List.range m).all fun hi => okL m ts im lo hi <;> rfl
    · unfold lawM
      cases decide (isort im = List.range m) <;> cases invo im <;> rfl⟩
def goods (n k : Nat) (row : List Nat) : List Nat := if (row.zipIdx.filter fun q => decide (q.1 = k)).map (·.2) = [] then ((List.range (n - k)).map fun i => k + i).filter fun own => !decide (own ∈ row) else (row.zipIdx.filter fun q => decide (q.1 = k)).map (·.2)
def ustep (n : Nat) (found : List (List Nat)) (k : Nat) : List (List Nat) := found.flatMap fun row => (goods n k row).map fun own => row ++ [own]
def tns (n : Nat) : List (List Nat) := (List.range n).foldl (ustep n) [[]]
theorem goods_len {n k : Nat} {row : List Nat} (hn : n ≤ 5) (hr : row.length ≤ 5) : (goods n k row).length ≤ 5 := by
 unfold goods
 split
 · refine Nat.le_trans (List.length_filter_le _ _) ?_
   simp
   omega
 · rw [List.length_map]
   refine Nat.le_trans (List.length_filter_le _ _) ?_
   simp
   omega
theorem tns_at {n : Nat} (hn : n ≤ 5) : ∀ k, k ≤ n → ((List.range k).foldl (ustep n) [[]]).length ≤ 5 ^ k ∧ ∀ row ∈ (List.range k).foldl (ustep n) [[]], row.length = k := by
 intro k
 induction k with
 | zero => intro _; exact ⟨by simp, fun row h => by simp at h; rw [h]; rfl⟩
 | succ k ih =>
   intro hk
   obtain ⟨h1, h2⟩ := ih (by omega)
   rw [List.range_succ, List.foldl_append]
   generalize (List.range k).foldl (ustep n) [[]] = fs at h1 h2
   show (ustep n fs k).length ≤ _ ∧ ∀ row ∈ ustep n fs k, _
   unfold ustep
   refine ⟨?_, fun row h => ?_⟩
   · have := flat_len (l := fs) (f := fun row => (goods n k row).map fun own => row ++ [own]) (n := 5) fun row hr => by
       rw [List.length_map]
       exact goods_len hn (by rw [h2 row hr]; omega)
     rw [Nat.pow_succ]
     omega
   · obtain ⟨r, hr, h⟩ := List.mem_flatMap.mp h
     obtain ⟨o, _, rfl⟩ := List.mem_map.mp h
     simp [h2 r hr]
def rws (fs : List (List Nat)) : Da := .lst (fs.map fun l => .tup (nats l))
abbrev N__law_turnings : List Str := ["_law_many_so", "_law_found", "_law_k", "_law_later_so", "_law_row_so", "_law_goods_so", "_law_j", "_law_own"]
theorem sc__law_turnings : FnScope N__law_turnings ["_law_many_so"] (defScope s__law_turnings) := ⟨rfl, rfl, rfl, by decide +kernel, rfl, by decide +kernel, by decide +kernel⟩
def R__law_turnings (ds : List Da) (r : Da) : Prop := ∃ n : Nat, ds = [nat n] ∧ n ≤ 5 ∧ r = rws (tns n)
theorem ok__law_turnings {P : Program} {w : World} {K : PySem.W.Frag} {mg : Str → Option Value} {base : Heap} (T : Tx K mg) : Cal P w K mg base 1 "_law_turnings" (spD R__law_turnings) [] := T.ok 71 71 rfl rfl sc__law_turnings (fun _ _ _ _ _ _ us hl => match us, hl with | [_], _ => rfl) (by rintro ds r h; obtain ⟨_, rfl, _⟩ := h; rfl) fun f cdv A outer s H E hr => ⟨_, (pss_cons (ps_set (i := 1) sc__law_turnings.nd rfl (Or.inl rfl) (pe_lst (pa_cons (pe_tup pa_nil) pa_nil))) (pss_cons (ps_for PassesOwn.never rfl (pi_range1 rfl T.b_range (pa_cons (pv 0) pa_nil)) (pg_name (i := 2) sc__law_turnings.nd rfl (Or.inr rfl)) (pss_cons (ps_set (i := 3) sc__law_turnings.nd rfl (Or.inl rfl) (pe_lst pa_nil)) (pss_cons (ps_for PassesOwn.never rfl (k_seq K rfl (pv 1)) (pg_name (i := 4) sc__law_turnings.nd rfl (Or.inr rfl)) (pss_cons (ps_setLc (i := 5) (own := [("_law_j", 6), ("_law_own", 7)]) rfl sc__law_turnings.nd rfl rfl (sw_true rfl rfl rfl (by decide +kernel)) (k_enum K rfl (by rfl) T.b_enumerate (pa_cons (pv 4) pa_nil)) (blkOk_by (own := [("_law_j", 6), ("_law_own", 7)]) (N := N__law_turnings) (sc := (defScope s__law_turnings)) (by decide +kernel)) (fun _ _ _ _ _ => (k_tup K (n := 2) rfl rfl (pgs_cons (pg_name (i := 6) sc__law_turnings.nd rfl (Or.inl rfl)) (pgs_cons (pg_name (i := 7) sc__law_turnings.nd rfl (Or.inl rfl)) pgs_nil)))) (fun _ _ _ _ _ => pts_one (pt_cmpR (k_eq K rfl hr.units) (pv 7) (pv 2) (nomark _))) (fun _ _ _ _ _ => (pv 6))) (pss_cons (ps_if (pt_cmpR (k_eq K rfl hr.units) (pv 5) (pe_lst pa_nil) (nomark _)) (pss_one (ps_setLc (i := 5) (own := [("_law_own", 7)]) rfl sc__law_turnings.nd rfl rfl (sw_true rfl rfl rfl (by decide +kernel)) (pi_range2 rfl T.b_range (pa_cons (pv 2) (pa_cons (pv 0) pa_nil))) (blkOk_by (own := [("_law_own", 7)]) (N := N__law_turnings) (sc := (defScope s__law_turnings)) (by decide +kernel)) (fun _ _ _ _ _ => (pg_name (i := 7) sc__law_turnings.nd rfl (Or.inl rfl))) (fun _ _ _ _ _ => pts_one (pt_cmpR (k_ni K rfl) (pv 7) (pv 4) (by rfl))) (fun _ _ _ _ _ => (pv 7)))) pss_nil) (pss_one (ps_set (i := 3) sc__law_turnings.nd rfl (Or.inl rfl) (pe_op (k_add K rfl) (pv 3) (pe_lc (own := [("_law_own", 7)]) rfl sc__law_turnings.nd (k_seq K rfl (pv 5)) (blkOk_by (own := [("_law_own", 7)]) (N := N__law_turnings) (sc := (defScope s__law_turnings)) (by decide +kernel)) (fun _ _ _ _ _ => (pg_name (i := 7) sc__law_turnings.nd rfl (Or.inl rfl))) (fun _ _ _ _ _ => pts_nil) (fun _ _ _ _ _ => (pe_op (k_add K rfl) (pv 4) (pe_tup (pa_cons (pv 7) pa_nil))))))))))) (pss_one (ps_set (i := 1) sc__law_turnings.nd rfl (Or.inl rfl) (pv 3)))))) (pss_one (ps_ret (pv 1))))), fun ds r hR => by
  obtain ⟨n, rfl, hn, rfl⟩ := hR
  refine sd_seq (sd_asg (d := rws [[]]) (el_lst (ea1 (ev_tup ea_nil))).toD) ?_
  refine sd_seq (sd_for (as := List.range n) (en := nat) (ow := .no) (S := fun pre => [some (nat n), some (rws (pre.foldl (ustep n) [[]])), none, none, none, none, none, none]) (O := fun _ => .no) (ρ' := fun pre k => [some (nat n), some (rws (pre.foldl (ustep n) [[]])), some (nat k), none, none, none, none, none]) ((ei_rng1 (n := (n : Int)) (ea1 (ev_v 0)) (by omega) (by omega)).to (by simp)) ⟨rfl, rfl, trivial⟩ rfl (fun _ p _ _ => tg_name) ?_ (fun _ _ _ z => nomatch z)) (sd_ret (ev_v 1))
  intro pre k post e
  have e' : (List.range n).map (fun x => x) = pre ++ k :: post := by rw [List.map_id']; exact e
  obtain ⟨h1, h2, h3⟩ := pre_range e'
  have hk : k < n := by rw [h3]; exact h1
  have hpre : pre = List.range k := by rw [h3] ; simpa using h2
  obtain ⟨t1, t2⟩ := tns_at hn k (by omega)
  rw [hpre, foldl_snoc]
  generalize (List.range k).foldl (ustep n) [[]] = fs at t1 t2
  have t3 : fs.length ≤ 3125 := Nat.le_trans t1 (Nat.le_trans (Nat.pow_le_pow_right (by omega) (by omega : k ≤ 5)) (by decide))
  let G : List Nat → List (List Nat) := fun row => (goods n k row).map fun own => row ++ [own]
  refine sd_seq (sd_asg (d := rws []) (el_lst ea_nil).toD) ?_
  refine sd_seq (sd_for (as := fs) (en := fun l => .tup (nats l)) (ow := .no) (S := fun pre => [some (nat n), some (rws fs), some (nat k), some (rws (pre.flatMap G)), none, none, none, none]) (O := fun _ => .no) (ρ' := fun pre row => [some (nat n), some (rws fs), some (nat k), some (rws (pre.flatMap G)), some (.tup (nats row)), none, none, none]) (ei_seqL (ev_v 1)) ⟨rfl, rfl, rfl, rfl, trivial⟩ rfl (fun _ p _ _ => tg_name) ?_ (fun _ _ _ z => nomatch z)) ((sd_asg (ev_v 3)).out ⟨rfl, rfl, trivial⟩)
  intro pre2 row post2 e2
  have hrow : row.length = k := t2 row (by rw [e2]; simp)
  have hpre2 : pre2.length ≤ 3125 := by
    have : pre2.length ≤ fs.length := by rw [e2]; simp
    omega
  have hz := flat_len (l := pre2) (f := G) (n := 5) fun r hr => by
    simp only [G, List.length_map]
    exact goods_len hn (by rw [t2 r (by rw [e2]; simp [hr])]; omega)
  have hg := goods_len (n := n) (k := k) (row := row) hn (by omega)
  let g0 : List Nat := (row.zipIdx.filter fun q => decide (q.1 = k)).map (·.2)
  refine sd_seq (sd_asg (d := .lst (nats g0)) (EvD.to (EvL.toD (el_lc (as := row.zipIdx) (en := fun q => .tup [nat q.2, nat q.1]) (p := fun q => decide (q.1 = k)) (fn := fun q => nat q.2) (ρ' := fun q => [some (nat n), some (rws fs), some (nat k), some (rws (pre2.flatMap G)), some (.tup (nats row)), none, some (nat q.2), some (nat q.1)]) (ei_enum (as := row) (en := nat) (.inr (ev_v 4))) (fun _ _ => tg_tup2) (fun q _ => eb_val (ev_eqAN (ev_v 7) (ev_v 2))) (fun q _ _ => ev_v 6) (by rw [List.length_zipIdx]; omega))) (by simp [g0]))) ?_
  refine sd_seq (ρ' := [some (nat n), some (rws fs), some (nat k), some (rws (pre2.flatMap G)), some (.tup (nats row)), some (.lst (nats (goods n k row))), none, none]) (ow' := .no) (sd_if (b := decide (g0 = [])) (eb_val (ev_eqLN (k := []) (ev_v 5) (el_lst ea_nil).toD)) (fun h => ?_) fun h => ?_) ?_
  · refine (sd_asg (d := .lst (nats (goods n k row))) (EvD.to (EvL.toD (el_lc (as := (List.range (n - k)).map fun i => k + i) (en := nat) (p := fun own => !decide (own ∈ row)) (fn := nat) (ρ' := fun own => [some (nat n), some (rws fs), some (nat k), some (rws (pre2.flatMap G)), some (.tup (nats row)), some (.lst (nats g0)), none, some (nat own)]) ((ei_rng2 (lo := (k : Int)) (n := (n : Int)) (ea2 (ev_v 2) (ev_v 0)) (by omega)).to ?_) (fun _ _ => tg_name) (fun own _ => eb_val (ev_niTN (ev_v 7) (ev_v 4))) (fun own _ _ => ev_v 7) (by simp; omega))) ?_)).out (Le.refl _)
    · have : ((n : Int) - (k : Int)).toNat = n - k := by omega
      rw [this, List.map_map]
      refine List.map_congr_left fun i _ => ?_
      simp only [Function.comp, nat, Int.natCast_add]
    · have : goods n k row = ((List.range (n - k)).map fun i => k + i).filter fun own => !decide (own ∈ row) := if_pos (of_decide_eq_true h)
      rw [this]
  · have : goods n k row = g0 := if_neg (of_decide_eq_false h)
    rw [this]
    exact sd_next.out ⟨rfl, rfl, rfl, rfl, rfl, rfl, trivial⟩
  · refine (sd_asg (d := rws ((pre2 ++ [row]).flatMap G)) (EvL.toD (EvL.to (ea_lst (ds := (pre2.flatMap G).map fun l => .tup (nats l)) (es := (goods n k row).map fun own => .tup (nats (row ++ [own]))) (ev_v 3) (EvL.toD (el_map (as := goods n k row) (en := nat) (fn := fun own => .tup (nats (row ++ [own]))) (ρ' := fun own => [some (nat n), some (rws fs), some (nat k), some (rws (pre2.flatMap G)), some (.tup (nats row)), some (.lst (nats (goods n k row))), none, some (nat own)]) (ei_seqL (ev_v 5)) (fun _ _ => tg_name) (fun own _ => (ea_tup (ds := nats row) (es := [nat own]) (ev_v 4) (ev_tup (ea1 (ev_v 7))) (by simp; omega)).to (by simp)) (by omega))) ?_) ?_))).out ⟨rfl, rfl, rfl, rfl, trivial⟩
    · simp only [List.length_map]
      omega
    · simp [List.flatMap_append, G]⟩
def Da.lsd : Nat → Da → Da
 | k + 1, .tup l => .lst (l.map (Da.lsd k))
 | k + 1, .lst l => .lst (l.map (Da.lsd k))
 | _, d => d
abbrev N__law_lists : List Str := ["_law_matter", "_law_bit"]
theorem sc__law_lists : FnScope N__law_lists ["_law_matter"] (defScope s__law_lists) := ⟨rfl, rfl, rfl, by decide +kernel, rfl, by decide +kernel, by decide +kernel⟩
def R__law_lists (k : Nat) (ds : List Da) (r : Da) : Prop := ∃ d, ds = [d] ∧ d.fit k = true ∧ r = d.lsd k
theorem ok__law_lists {P : Program} {w : World} {K : PySem.W.Frag} {mg : Str → Option Value} {base : Heap} (T : Tx K mg) : ∀ k : Nat, Cal P w K mg base k "_law_lists" (spD (R__law_lists k)) []
  | 0 => T.never (ps := ["_law_matter"]) 52 52 rfl rfl (fun _ _ _ _ _ _ us hl => match us, hl with | [_], _ => rfl) (by rintro ds r ⟨d, rfl, h, rfl⟩; cases h)
  | k + 1 => have IH := ok__law_lists (P := P) (w := w) (base := base) T k; T.ok 52 52 rfl rfl sc__law_lists (fun _ _ _ _ _ _ us hl => match us, hl with | [_], _ => rfl) (by rintro ds r h; obtain ⟨_, rfl, _⟩ := h; rfl) fun f cdv A outer s H E hr => ⟨_, (pss_one (ps_ret (pe_ifExp (pt_val (pe_callB (k_isiT K rfl) (by rfl) T.b_isinstance (by decide +kernel) (pa_cons (pv 0) (pa_cons (pe_tup (pa_cons (pe_bltn (v := .ty "list") (by rfl) T.b_list (by decide +kernel) rfl) (pa_cons (pe_bltn (v := .ty "tuple") (by rfl) T.b_tuple (by decide +kernel) rfl) pa_nil))) pa_nil)))) (pe_lc (own := [("_law_bit", 1)]) rfl sc__law_lists.nd (k_seq K rfl (pv 0)) (blkOk_by (own := [("_law_bit", 1)]) (N := N__law_lists) (sc := (defScope s__law_lists)) (by decide +kernel)) (fun _ _ _ _ _ => (pg_name (i := 1) sc__law_lists.nd rfl (Or.inl rfl))) (fun _ _ _ _ _ => pts_nil) (fun _ _ _ _ _ => (pe_c IH hr (Nat.le_refl _) (by rfl) (pa_cons (pv 1) pa_nil)))) (pv 0)))), fun ds r hR => by
  obtain ⟨d, rfl, h, rfl⟩ := hR
  have k1 : kitB d.ty "list" = some d.isL := by cases d <;> rfl
  have k2 : kitB d.ty "tuple" = some d.isT := by cases d <;> rfl
  refine sd_ret (ev_if (eb_val (ev_isiT (ev_v 0) k1 k2)) (fun hb => ?_) fun hb => (ev_v 0 (d := d)).to ?_)
  · cases d with
    | tup l =>
      have z := Bool.and_eq_true_iff.mp h
      exact (el_map (ρ' := fun a => [some (.tup l), some a]) (ei_seqT (ev_v 0)).id (fun a _ => tg_name) (fun a ha => ev_call (ea1 (ev_v 1)) ⟨a, rfl, List.all_eq_true.mp z.2 a ha, rfl⟩) (of_decide_eq_true z.1)).toD
    | lst l =>
      have z := Bool.and_eq_true_iff.mp h
      exact (el_map (ρ' := fun a => [some (.lst l), some a]) (ei_seqL (ev_v 0)).id (fun a _ => tg_name) (fun a ha => ev_call (ea1 (ev_v 1)) ⟨a, rfl, List.all_eq_true.mp z.2 a ha, rfl⟩) (of_decide_eq_true z.1)).toD
    | _ => cases hb
  · cases d <;> first | rfl | cases hb⟩
/-- no dict, short, not deep -/
def Da.pln : Nat → Da → Bool
 | 0, _ => false
 | k + 1, .tup l => decide (l.length ≤ 100000) && l.all (Da.pln k)
 | k + 1, .lst l => decide (l.length ≤ 100000) && l.all (Da.pln k)
 | _ + 1, .dic _ => false
 | _ + 1, .str x => PyData.strOk x
 | _ + 1, _ => true
abbrev N__law_same : List Str := ["_law_got", "_law_due", "_law_mine", "_law_its"]
theorem sc__law_same : FnScope N__law_same ["_law_got", "_law_due"] (defScope s__law_same) := ⟨rfl, rfl, rfl, by decide +kernel, rfl, by decide +kernel, by decide +kernel⟩
def R__law_same (k : Nat) (ds : List Da) (r : Da) : Prop := ∃ d, ds = [d, d] ∧ d.pln k = true ∧ r = .bl true
theorem ok__law_same {P : Program} {w : World} {K : PySem.W.Frag} {mg : Str → Option Value} {base : Heap} (T : Tx K mg) : ∀ k : Nat, Cal P w K mg base k "_law_same" (spD (R__law_same k)) []
  | 0 => T.never (ps := ["_law_got", "_law_due"]) 53 53 rfl rfl (fun _ _ _ _ _ _ us hl => match us, hl with | [_, _], _ => rfl) (by rintro ds r ⟨d, rfl, h, rfl⟩; cases h)
  | k + 1 => have IH := ok__law_same (P := P) (w := w) (base := base) T k; T.ok 53 53 rfl rfl sc__law_same (fun _ _ _ _ _ _ us hl => match us, hl with | [_, _], _ => rfl) (by rintro ds r h; obtain ⟨_, rfl, _⟩ := h; rfl) fun f cdv A outer s H E hr => ⟨_, (pss_cons (ps_if (pt_val (pe_callB (k_isiT K rfl) (by rfl) T.b_isinstance (by decide +kernel) (pa_cons (pv 1) (pa_cons (pe_tup (pa_cons (pe_bltn (v := .ty "list") (by rfl) T.b_list (by decide +kernel) rfl) (pa_cons (pe_bltn (v := .ty "tuple") (by rfl) T.b_tuple (by decide +kernel) rfl) pa_nil))) pa_nil)))) (pss_cons (ps_if (PW.pt (pw_or (pt_cmpR (k_ne K rfl hr.units) (pe_callB (k_isi K rfl) (by rfl) T.b_isinstance (by decide +kernel) (pa_cons (pv 0) (pa_cons (pe_bltn (v := .ty "list") (by rfl) T.b_list (by decide +kernel) rfl) pa_nil))) (pe_callB (k_isi K rfl) (by rfl) T.b_isinstance (by decide +kernel) (pa_cons (pv 1) (pa_cons (pe_bltn (v := .ty "list") (by rfl) T.b_list (by decide +kernel) rfl) pa_nil))) (nomark _)) (pw_or1 (pt_cmpR (k_ne K rfl hr.units) (pe_callB (k_isi K rfl) (by rfl) T.b_isinstance (by decide +kernel) (pa_cons (pv 0) (pa_cons (pe_bltn (v := .ty "tuple") (by rfl) T.b_tuple (by decide +kernel) rfl) pa_nil))) (pe_callB (k_isi K rfl) (by rfl) T.b_isinstance (by decide +kernel) (pa_cons (pv 1) (pa_cons (pe_bltn (v := .ty "tuple") (by rfl) T.b_tuple (by decide +kernel) rfl) pa_nil))) (nomark _))))) (pss_one (ps_ret pe_bl)) pss_nil) (pss_one (ps_ret (pe_and (pe_cmpR (k_eq K rfl hr.units) (pe_callB (k_len K rfl) (by rfl) T.b_len (by decide +kernel) (pa_cons (pv 0) pa_nil)) (pe_callB (k_len K rfl) (by rfl) T.b_len (by decide +kernel) (pa_cons (pv 1) pa_nil)) (nomark _)) (pe_one (pe_callB (k_all K rfl rfl) (by rfl) T.b_all (by decide +kernel) (pa_cons (pe_lc (own := [("_law_mine", 2), ("_law_its", 3)]) rfl sc__law_same.nd (RZ.pi_zipA (by rfl) T.b_zip (pa_cons (pv 0) (pa_cons (pv 1) pa_nil))) (blkOk_by (own := [("_law_mine", 2), ("_law_its", 3)]) (N := N__law_same) (sc := (defScope s__law_same)) (by decide +kernel)) (fun _ _ _ _ _ => (k_tup K (n := 2) rfl rfl (pgs_cons (pg_name (i := 2) sc__law_same.nd rfl (Or.inl rfl)) (pgs_cons (pg_name (i := 3) sc__law_same.nd rfl (Or.inl rfl)) pgs_nil)))) (fun _ _ _ _ _ => pts_nil) (fun _ _ _ _ _ => (pe_c IH hr (Nat.le_refl _) (by rfl) (pa_cons (pv 2) (pa_cons (pv 3) pa_nil))))) pa_nil))))))) pss_nil) (pss_cons (ps_if (PW.pt (pw_or (pt_cmpR op_isN (pv 1) pe_non (nomark _)) (pw_or1 (pt_val (pe_callB (k_isiT K rfl) (by rfl) T.b_isinstance (by decide +kernel) (pa_cons (pv 1) (pa_cons (pe_tup (pa_cons (pe_bltn (v := .ty "bool") (by rfl) T.b_bool (by decide +kernel) rfl) (pa_cons (pe_bltn (v := .ty "str") (by rfl) T.b_str (by decide +kernel) rfl) pa_nil))) pa_nil))))))) (pss_one (ps_ret (pe_and (pe_cmpR (k_eq K rfl hr.units) (pv 0) (pv 1) (nomark _)) (pe_and (pe_cmpR (k_eq K rfl hr.units) (pe_callB (k_isi K rfl) (by rfl) T.b_isinstance (by decide +kernel) (pa_cons (pv 0) (pa_cons (pe_bltn (v := .ty "bool") (by rfl) T.b_bool (by decide +kernel) rfl) pa_nil))) (pe_callB (k_isi K rfl) (by rfl) T.b_isinstance (by decide +kernel) (pa_cons (pv 1) (pa_cons (pe_bltn (v := .ty "bool") (by rfl) T.b_bool (by decide +kernel) rfl) pa_nil))) (nomark _)) (pe_one (pe_cmpR (k_eq K rfl hr.units) (pe_cmpR op_isN (pv 0) pe_non (nomark _)) (pe_cmpR op_isN (pv 1) pe_non (nomark _)) (nomark _))))))) pss_nil) (pss_one (ps_ret (pe_and (pe_callB (k_isi K rfl) (by rfl) T.b_isinstance (by decide +kernel) (pa_cons (pv 0) (pa_cons (pe_bltn (v := .ty "int") (by rfl) T.b_int (by decide +kernel) rfl) pa_nil))) (pe_and (pe_not (pe_callB (k_isi K rfl) (by rfl) T.b_isinstance (by decide +kernel) (pa_cons (pv 0) (pa_cons (pe_bltn (v := .ty "bool") (by rfl) T.b_bool (by decide +kernel) rfl) pa_nil)))) (pe_one (pe_cmpR (k_eq K rfl hr.units) (pv 0) (pv 1) (nomark _))))))))), fun ds r hR => by
  obtain ⟨d, rfl, h, rfl⟩ := hR
  have k1 : kitB d.ty "list" = some d.isL := by cases d <;> rfl
  have k2 : kitB d.ty "tuple" = some d.isT := by cases d <;> rfl
  have cb : ∀ b : Bool, Cmp (.bl b) := fun b => (cm_bl (k := 0)).ok
  cases hs : (d.isL || d.isT) with
  | true =>
    refine sd_seqR (sd_if (b := true) (eb_val ((ev_isiT (ev_v 1) k1 k2).to (by rw [hs]))) (fun _ => ?_) fun z => nomatch z)
    refine sd_seq (sd_if (b := false) (eb_or (a := false) (eb_val (ev_neS (ev_isi (ev_v 0) k1) (ev_isi (ev_v 1) k1) (cb _))) fun _ => eb_val (ev_neS (ev_isi (ev_v 0) k2) (ev_isi (ev_v 1) k2) (cb _))) (fun z => nomatch z) fun _ => sd_next) ?_
    cases d with
    | tup l =>
      have z := Bool.and_eq_true_iff.mp h
      exact sd_ret ((ev_and (a := true) ((ev_eqAN (ev_cb (ea1 (ev_v 0)) rc_lenT) (ev_cb (ea1 (ev_v 1)) rc_lenT)).to (by simp)) fun _ => ev_all (as := l) (b := fun _ => true) (EvL.toD (el_map (as := l) (en := fun x => .tup [x, x]) (fn := fun _ => .bl true) (ρ' := fun x => [some (.tup l), some (.tup l), some x, some x]) (ei_zipST (ev_v 0) (ev_v 1)) (fun _ _ => tg_tup2) (fun x hx => ev_call (ea2 (ev_v 2) (ev_v 3)) ⟨x, rfl, List.all_eq_true.mp z.2 x hx, rfl⟩) (of_decide_eq_true z.1)))).to (by simp))
    | lst l =>
      have z := Bool.and_eq_true_iff.mp h
      exact sd_ret ((ev_and (a := true) ((ev_eqAN (ev_cb (ea1 (ev_v 0)) rc_lenL) (ev_cb (ea1 (ev_v 1)) rc_lenL)).to (by simp)) fun _ => ev_all (as := l) (b := fun _ => true) (EvL.toD (el_map (as := l) (en := fun x => .tup [x, x]) (fn := fun _ => .bl true) (ρ' := fun x => [some (.lst l), some (.lst l), some x, some x]) (ei_zipS (ev_v 0) (ev_v 1)) (fun _ _ => tg_tup2) (fun x hx => ev_call (ea2 (ev_v 2) (ev_v 3)) ⟨x, rfl, List.all_eq_true.mp z.2 x hx, rfl⟩) (of_decide_eq_true z.1)))).to (by simp))
    | _ => cases hs
  | false =>
    refine sd_seq (sd_if (b := false) (eb_val ((ev_isiT (ev_v 1) k1 k2).to (by rw [hs]))) (fun z => nomatch z) fun _ => sd_next) ?_
    have k3 : kitB d.ty "bool" = some d.isB := by cases d <;> rfl
    have k4 : kitB d.ty "str" = some d.isS := by cases d <;> rfl
    have sc : Sc d := by cases d <;> first | trivial | (cases hs; done) | (cases h; done)
    have cd : Cmp d := by
      refine ⟨?_, ?_⟩
      · cases d <;> first | (unfold Da.nd; rfl) | (cases hs; done) | (cases h; done)
      · unfold SeqAt.shaped
        cases d with
        | non => rfl
        | bl b => rfl
        | int i => rfl
        | str x =>
          have h' : PyData.strOk x = true := h
          simp [Da.py, PyData.canLay0, PyData.depth, h']
        | _ => first | (cases hs; done) | (cases h; done)
    cases h5 : (!d.isI) with
    | true =>
      have hbb : ∀ {tt : TT}, EvB tt (startD N__law_same.length [d, d]) (d.isN || (d.isB || d.isS)) → EvB tt (startD N__law_same.length [d, d]) true := fun {tt} z => z.to (by cases d <;> first | rfl | (cases hs; done) | (cases h5; done) | (cases h; done))
      refine sd_seqR (sd_if (b := true) (hbb (eb_or (eb_val (ev_isN (ev_v 1) (.inl sc) ev_non)) fun _ => eb_val (ev_isiT (ev_v 1) k3 k4))) (fun _ => ?_) fun z => nomatch z)
      exact sd_ret (ev_and (a := true) (b := true) (eqv_selfD (ev_v 0) (ev_v 1) cd) fun _ => ev_and (a := true) (b := true) (eqv_selfD (ev_isi (ev_v 0) k3) (ev_isi (ev_v 1) k3) (cb _)) fun _ => eqv_selfD (ev_isN (ev_v 0) (.inl sc) ev_non) (ev_isN (ev_v 1) (.inl sc) ev_non) (cb _))
    | false =>
      cases d with
      | int i =>
        refine sd_seq (sd_if (b := false) (eb_or (a := false) (eb_val (ev_isN (ev_v 1) (.inl sc) ev_non)) fun _ => eb_val (ev_isiT (ev_v 1) k3 k4)) (fun z => nomatch z) fun _ => sd_next) ?_
        exact sd_ret (ev_and (a := true) (b := true) (ev_isi (ev_v 0) rfl) fun _ => ev_and (a := true) (b := true) (ev_not (a := false) (ev_isi (ev_v 0) rfl)) fun _ => eqv_selfD (ev_v 0) (ev_v 1) cd)
      | _ => cases h5⟩
end Mk
end

section
set_option Elab.async false
set_option linter.all false
set_option maxRecDepth 100000
set_option maxHeartbeats 2000000
/-! mirror_reply, and who hears it -/
namespace Mk
open PySem PySem.Spec PyProof.Rows L2
open Evl (Ex)
open C8 (Cal pe_c pe_gc)
/-- X() -/
theorem pmk_own0 {X : Cx} {C : Addr} {bmB : List Value} {B newId initId : String} {x : Str} {p pos : Pos} (F : ExcBaseFacts B newId initId bmB) (q : PySem.W.excIn X.K C bmB newId = true) (gC : X.mg x = some (.ref C)) (kC : PySem.W.keepIn X.K (.ref C) = true) (r : Raises X (.ref C)) (hg : Gl X x)
    (hdb : (x == ("__debug__" : Str)) = false := by decide) : PMk X (.Call (.Name x p) [] [] pos) (fun _ H Q => Q (.ref C) none H) := by
  intro pins s σ H Q I h
  refine wpAny_Call_Name_kw (ld_glob I hg gC ?_ hdb)
  refine PySem.W.callWith_K0 I.kIn kC ?_
  show wpAny _ _ (call (.ref C) []) _ _ _
  obtain ⟨bm, N, nm, qn, bs, hdct, sn, sub, ab, col, dd, k0, k1, k2, k3, k5, mN, hC, hN, hni, T⟩ := exc_obj I.kIn q
  refine wpAny_call_exc_subT F T hC hN hni (fun h' e hm => ?_) (Nat.zero_le _)
  exact mk_of I hm r h (I.hok.gone hm.new)
/-- what mirror_reply is given -/
structure RIn (ds : List Da) (im : List Nat) (p : Nat) : Prop where
  ex : ∃ (m : Nat) (ts : Ps) (pcs : List Nat) (o d l : Da), ds = [o, d, l, nat p] ∧ OM o d m ts im ∧ LD l m ts pcs ∧ evn im pcs = true ∧ p ∈ pcs
def spMR (C : Addr) : Sp := fun vs H Q E => ∃ G ds im p, Ex G H ∧ RpA G vs ds ∧ RIn ds im p ∧
  (gN im p = p → ∀ G' H', Gr G H G' H' → E (.ref C) none H') ∧ (gN im p ≠ p → ∀ v G' H', Gr G H G' H' → Rp G' v (nat (gN im p)) → Q v H')
abbrev N_mirror_reply : List Str := ["order", "mirror", "left", "piece", "images"]
theorem sc_mirror_reply : FnScope N_mirror_reply ["order", "mirror", "left", "piece"] (defScope s_mirror_reply) := ⟨rfl, rfl, rfl, by decide +kernel, rfl, by decide +kernel, by decide +kernel⟩
/-- .. with the error let out -/
structure CalX (P : Program) (w : World) (K : PySem.W.Frag) (mg : Str → Option Value) (base : Heap) (k : Nat) (x : Str) (ps : List Str) (sp : Sp) : Prop where
  ex : ∃ (f : Addr) (fd : FuncData), FnOk P w K mg base (L2.CX P w) k f fd ps sp ∧ mg x = some (.ref f) ∧ PySem.W.keepIn K (.ref f) = true ∧ Binds K fd ps []
theorem okF_mirror_reply {P : Program} {w : World} {K : PySem.W.Frag} {mg : Str → Option Value} {base : Heap} (T : Tx K mg) : ∃ fd, FunD K "mirror_reply" "mirror_reply" (defArgs (top 56)) (defBody (top 56)) (defScope (top 56)) [] [] (He.ga K "mirror_reply") fd ∧ FnOk P w K mg base (L2.CX P w) 50 (He.ga K "mirror_reply") fd ["order", "mirror", "left", "piece"] (spMR (He.ga K "CanNot")) := by
  obtain ⟨fd, F⟩ := T.s.d.def_ 45 (show fn[45]? = some (dd "mirror_reply" 56) from rfl)
  obtain ⟨x1, x2, x3, x4⟩ := He.exc_ok (T.s.d.fact 101 rfl)
  have gC : mg "CanNot" = some (.ref (He.ga K "CanNot")) := T.gl 103 _ rfl
  refine ⟨fd, F, ?_⟩
  refine FunD.ok F sc_mirror_reply (fun vs H Q E h => ?_) fun cdv A outer s H vs Q E hr h => ⟨_,
    pss_cons (ps_set (i := 4) sc_mirror_reply.nd rfl (Or.inl rfl) (pe_ix (k_ix K rfl) (pe_c (ok_even_sure T) hr (by decide) (by rfl) (pa_cons (pv 0) (pa_cons (pv 1) (pa_cons (pv 2) (pa_cons (pv 3) pa_nil))))) pe_int (fun _ _ => rfl)))
      (pss_cons (ps_if (pt_cmpR (k_eq K rfl hr.units) (pe_ix (k_ix K rfl) (pv 4) (pv 3) (fun _ _ => rfl)) (pv 3) (nomark _)) (pss_one (ps_raise rfl (takes_of rfl rfl rfl rfl) (pmk_own0 PySem.F.excBase_ValueError x1 gC x2 (raises_own x3 x4) rfl))) pss_nil)
      (pss_one (ps_ret (pe_ix (k_ix K rfl) (pv 4) (pv 3) (fun _ _ => rfl))))), ?_⟩
  · obtain ⟨G, ds, im, p, _, r, ⟨_, _, _, _, _, _, e, _⟩, _⟩ := h
    rw [r.length, e]
    rfl
  · obtain ⟨G, ds, im, p, e, r, ⟨m, ts, pcs, o, d, l, ed, h1, h2, h3, h4⟩, k1, k2⟩ := h
    subst ed
    have M := (mirN_iff h1.o.2.2.sm.up).mp h1.m
    have hpm := h2.lf.lt p h4
    have ix := nat_at (l := im) (i := p) (by rw [M.len]; exact hpm)
    let ρ1 : DE := [some o, some d, some l, some (nat p), some (.tup (nats im))]
    have A0 : As G H (startD N_mirror_reply.length [o, d, l, nat p]) .no (L2.start N_mirror_reply vs) H := ⟨G, .refl e, env_start r _, trivial⟩
    refine sd_asg (ow := .no) (d := .tup (nats im)) (i := 4) (ρ := startD N_mirror_reply.length [o, d, l, nat p]) (ev_ixTN (i := 1) (ev_call (ea_cons (ev_v 0) (ea3 (ev_v 1) (ev_v 2) (ev_v 3))) ⟨m, ts, im, pcs, o, d, l, p, rfl, h1, h2, h3, h4, rfl⟩) ev_nat rfl) (fun z => nomatch z) { nx := _, rt := Q, bk := _, ct := _ } G H H _ A0 fun σ1 H1 A1 => ?_
    obtain ⟨G1, g1, en1, _⟩ := A1
    show tSeq _ _ _ σ1 H1
    refine eb_val (ev_eqAN (K := K) (i := gN im p) (j := p) (ev_ixTN (K := K) (i := p) (ev_v 4) (ev_v 3) ix) (ev_v 3)) G1 H1 σ1 g1.gh en1 _ fun G2 H2 g2 => ?_
    by_cases c : gN im p = p
    · rw [decide_eq_true c]
      exact k1 c G2 H2 (g1.trans g2)
    · rw [decide_eq_false c]
      refine (ev_ixTN (K := K) (i := p) (ev_v 4) (ev_v 3) ix) G2 H2 σ1 g2.gh (en1.mono g2.gg) _ fun v G3 H3 g3 r3 => ?_
      exact k2 c v G3 H3 ((g1.trans g2).trans g3) r3
theorem ok_mirror_reply {P : Program} {w : World} {K : PySem.W.Frag} {mg : Str → Option Value} {base : Heap} (T : Tx K mg) : CalX P w K mg base 50 "mirror_reply" ["order", "mirror", "left", "piece"] (spMR (He.ga K "CanNot")) := by
  obtain ⟨fd, F, ok⟩ := okF_mirror_reply (P := P) (w := w) (base := base) T
  exact ⟨_, fd, ok, T.gl 45 _ rfl, F.kp, FunD.bindsN F (fun _ _ _ _ _ _ us hl => match us, hl with | [_, _, _, _], _ => rfl)⟩
/-- isinstance(e, c), e the error that the suite holds, of the class C -/
def tIsE (K : PySem.W.Frag) (C a : Addr) (cls : Value) (d : Option Addr) (t : TA) : TE := fun σ H Q => cls = .ref C ∧ d = none ∧ tCB (rIsE K C a) t σ H Q
theorem pe_isE {X : Cx} {C a : Addr} {oe : Obj} {cls : Value} {d : Option Addr} {pn : List (Addr × Obj)} {e : Expr} {es : List Expr} {t : TA} {p pos : Pos} (c : ExcC X.K C) (hz : Zc cls d oe) (hf : ∃ vs, oe.data = .fields vs)
    (hg : Gl (X.suite a ((a, oe) :: pn)) "isinstance") (hm : (X.suite a ((a, oe) :: pn)).mg "isinstance" = none) (ha : PA (X.suite a ((a, oe) :: pn)) (e :: es) t)
    (he : starEach (e :: es) (X.suite a ((a, oe) :: pn)).env = (false, eval e (X.suite a ((a, oe) :: pn)).env) :: starEach es (X.suite a ((a, oe) :: pn)).env := by rfl) (hpl : (backTo pos (starEach es (X.suite a ((a, oe) :: pn)).env)).any (·.1) = false := by rfl) :
    PE (X.suite a ((a, oe) :: pn)) (.Call (.Name "isinstance" p) (e :: es) [] pos) (tIsE X.K C a cls d t) := by
  refine ⟨fun pins s σ H Q I h => ?_⟩
  obtain ⟨rfl, rfl, h⟩ := h
  exact (pe_callB (call_isE c hz hf) hg hm (by decide +kernel) ha (by decide) (by decide) he hpl).run pins s σ H Q I h
abbrev N__law_heard : List Str := ["_law_net_here", "_law_images_so", "_law_left_so", "_law_piece_so", "slip_so"]
theorem sc__law_heard : FnScope N__law_heard ["_law_net_here", "_law_images_so", "_law_left_so", "_law_piece_so"] (defScope s__law_heard) := ⟨rfl, rfl, rfl, by decide +kernel, rfl, by decide +kernel, by decide +kernel⟩
def heardD (im : List Nat) (p : Nat) : Da := if gN im p = p then .lst [.str "can not", .bl true] else nat (gN im p)
def R__law_heard (ds : List Da) (r : Da) : Prop := ∃ im p, RIn ds im p ∧ r = heardD im p
def t_suite (K : PySem.W.Frag) (C : Addr) : Addr → Value → Option Addr → TS := fun a cls d => tRet (tLst (tCons (tC (.str "can not")) (tCons (tIsE K C a cls d (tCons (tVar 4) (tCons (tC (.ty "ValueError")) tNil))) tNil)))
theorem ok__law_heard {P : Program} {w : World} {K : PySem.W.Frag} {mg : Str → Option Value} {base : Heap} (T : Tx K mg) : Cal P w K mg base 60 "_law_heard" (spD R__law_heard) [] := by
  obtain ⟨f, fd, F, mf, kf, bf⟩ := (ok_mirror_reply (P := P) (w := w) (base := base) T).ex
  have gC : mg "CanNot" = some (.ref (He.ga K "CanNot")) := T.gl 103 _ rfl
  have te : PySem.W.exmOne K (.ref (He.ga K "CanNot")) (.ref (He.ga K "CanNot")) = some true := He.exm_ok (T.s.d.fact 102 rfl)
  obtain ⟨xC, xV⟩ := exB_ok T.s.e
  refine T.ok 74 74 rfl rfl sc__law_heard (fun _ _ _ _ _ _ us hl => match us, hl with | [_, _, _, _], _ => rfl) (by rintro ds r ⟨_, _, ⟨_, _, _, _, _, _, e, _⟩, _⟩; rw [e]; rfl) fun g cdv A outer s H E hr => ⟨_,
    pss_one (ps_try_as (i := 4) (tb := fun W => tRet (tCallS (spMR (He.ga K "CanNot")) (WE W) (tCons (tVar 0) (tCons (tVar 1) (tCons (tVar 2) (tCons (tVar 3) tNil)))))) (ts := t_suite K (He.ga K "CanNot")) (Wout := fun _ _ _ _ => False) rfl rfl sc__law_heard.nd rfl rfl ⟨rfl, by decide, .inl gC⟩ takes0
      (fun W pn xe tk _ => pss_one (ps_ret (by exact (pe_callS F (hr.mono (by decide)) rfl mf kf bf (fun σ => passAt tk σ) (by exact (pa_cons (pv 0) (pa_cons (pv 1) (pa_cons (pv 2) (pa_cons (pv 3) pa_nil)))))))))
      (fun a oe cls d pn hz hf => pss_one (ps_ret (by exact (pe_lst (pa_cons pe_str (pa_cons (pe_isE xC hz hf rfl T.b_isinstance (pa_cons (pv 4) (pa_cons (pe_bltn (v := .ty "ValueError") (by rfl) T.b_ValueError (by decide +kernel) rfl) pa_nil))) pa_nil))))))), ?_⟩
  rintro ds r ⟨im, p, hI, rfl⟩
  obtain ⟨m, ts, pcs, o, d, l, rfl, h1, h2, h3, h4⟩ := id hI
  intro D G0 H0 H σ A0 q
  obtain ⟨G, g, en, ok⟩ := A0
  unfold tRet tCallS
  refine (ea_cons (ev_v 0) (ea3 (ev_v 1) (ev_v 2) (ev_v 3)) : EvA _ (startD N__law_heard.length [o, d, l, nat p]) [o, d, l, nat p]) G H σ g.gh en _ fun vs G1 H1 g1 r1 => ?_
  refine ⟨G1, _, im, p, g1.gh, r1, hI, fun c G2 H2 g2 => ⟨true, te, fun _ a ha => ?_, fun z => nomatch z⟩, fun c v G2 H2 g2 r2 => ?_⟩
  · refine ⟨rfl, rfl, .ref a, ?_, .ty "ValueError", .type "ValueError", true, rfl, fun u e => e, xV, ?_⟩
    · refine List.getElem?_set_self ?_
      rw [en.1]
      exact Nat.le_of_ble_eq_true rfl
    · refine ⟨by show 2 ≤ sizeLine; decide, fun t ht => ?_⟩
      have g3 : Gr G2 H2 (upd G2 t (.lst [.str "can not", .bl true])) (upd H2 t (.lst [.str "can not", .bl true])) := .new g2.gh ht
      refine q _ _ _ ((g.trans (g1.trans g2)).trans g3) ?_
      unfold heardD
      rw [if_pos c]
      exact .lst upd_same (.cons (.str _) (.cons (.bl true) .nil))
  · refine q v G2 H2 (g.trans (g1.trans g2)) ?_
    unfold heardD
    rw [if_neg c]
    exact r2
end Mk
end

section
set_option Elab.async false
set_option linter.all false
set_option maxRecDepth 100000
set_option maxHeartbeats 2000000
/-! draws: the tin is a list of three numbers at a, that changes; what is drawn is any number that may be drawn -/
namespace Mk
open PySem PySem.Spec PyProof.Rows L2
open Evl (Ex)
open C8 (Cal pe_c pe_gc)
def Bud : Nat := 1000000000
/-- the tin at a: at most n numbers were made -/
def Tn (n : Nat) (H : Hp) (a : Addr) : Prop := ∃ T M c : Int, H a = some (.lst [.int T, .int M, .int c]) ∧ 0 ≤ c ∧ c ≤ n
theorem Tn.mono {n m : Nat} {H : Hp} {a : Addr} (h : Tn n H a) (k : n ≤ m) : Tn m H a := let ⟨T, M, c, e, h1, h2⟩ := h; ⟨T, M, c, e, h1, by omega⟩
theorem Tn.ne {n : Nat} {H : Hp} {a : Addr} (h : Tn n H a) : H a ≠ none := by
  obtain ⟨_, _, _, e, _⟩ := h
  rw [e]
  exact fun z => nomatch z
structure GrT (a : Addr) (G H G' H' : Hp) : Prop where
  gg : Ex G G'
  gh : Ex G' H'
  hh : ∀ x o, x ≠ a → H x = some o → H' x = some o
  nw : ∀ x, H x ≠ none → G' x ≠ none → G x ≠ none
  ga : G' a = none
section
variable {a : Addr} {G H G1 H1 G2 H2 : Hp}
theorem GrT.refl (e : Ex G H) (n : G a = none) : GrT a G H G H := ⟨Ex.refl G, e, fun _ _ _ h => h, fun _ _ h => h, n⟩
theorem GrT.of (g : Gr G H G1 H1) (n : G a = none) (h : H a ≠ none) : GrT a G H G1 H1 := ⟨g.gg, g.gh, fun x o _ e => g.hh x o e, g.nw, by
  cases q : G1 a with
  | none => rfl
  | some o => exact absurd n (g.nw a h (by rw [q]; exact fun z => nomatch z))⟩
theorem GrT.trans (x : GrT a G H G1 H1) (y : GrT a G1 H1 G2 H2) (ha : H1 a ≠ none) : GrT a G H G2 H2 :=
  ⟨x.gg.trans y.gg, y.gh, fun b o n e => y.hh b o n (x.hh b o n e), (fun b h h2 => by
    by_cases e : b = a
    · subst e
      exact absurd y.ga h2
    · refine x.nw b h (y.nw b ?_ h2)
      obtain ⟨o, q⟩ := Option.ne_none_iff_exists'.mp h
      rw [x.hh b o e q]
      exact fun z => nomatch z), y.ga⟩
/-- the tin is written -/
theorem GrT.wr {o : HO} (g : GrT a G H G1 H1) : GrT a G H G1 (upd H1 a o) := ⟨g.gg, Ex.mut g.gh g.ga, fun x u n e => by rw [upd_ne n]; exact g.hh x u n e, g.nw, g.ga⟩
end
/-! ### expressions that draw -/
def EvX (t : TE) (ρ : DE) (w : Nat) (Ψ : Da → Prop) : Prop := ∀ (a : Addr) (n : Nat) (G H : Hp) (σ : L2.St), Ex G H → G a = none → Tn n H a → n + w ≤ Bud → σ[0]? = some (some (.ref a)) → EnvR G σ ρ →
  ∀ Q : VK, (∀ v G' H' d, GrT a G H G' H' → Tn (n + w) H' a → Rp G' v d → Ψ d → Q v H') → t σ H Q
def EvXA (t : TA) (ρ : DE) (w : Nat) (Ψ : List Da → Prop) : Prop := ∀ (a : Addr) (n : Nat) (G H : Hp) (σ : L2.St), Ex G H → G a = none → Tn n H a → n + w ≤ Bud → σ[0]? = some (some (.ref a)) → EnvR G σ ρ →
  ∀ Q : List V → Hp → Prop, (∀ vs G' H' ds, GrT a G H G' H' → Tn (n + w) H' a → RpA G' vs ds → Ψ ds → Q vs H') → t σ H Q
def EvXB (t : TT) (ρ : DE) (w : Nat) (Ψ : Bool → Prop) : Prop := ∀ (a : Addr) (n : Nat) (G H : Hp) (σ : L2.St), Ex G H → G a = none → Tn n H a → n + w ≤ Bud → σ[0]? = some (some (.ref a)) → EnvR G σ ρ →
  ∀ Q : Bool → Hp → Prop, (∀ b G' H', GrT a G H G' H' → Tn (n + w) H' a → Ψ b → Q b H') → t σ H Q
section
variable {t ta tb tc te : TE} {tr : TA} {tt tu : TT} {ρ : DE} {d e f : Da} {ds : List Da} {w w1 w2 : Nat} {Ψ Ψ1 Ψ2 : Da → Prop} {K : PySem.W.Frag} {r : R2}
theorem Tn.gr {n : Nat} {a : Addr} {G H G1 H1 : Hp} (h : Tn n H a) (g : Gr G H G1 H1) : Tn n H1 a := let ⟨T, M, c, e, h1, h2⟩ := h; ⟨T, M, c, g.hh _ _ e, h1, h2⟩
theorem EvD.x (h : EvD t ρ d) : EvX t ρ 0 (fun z => z = d) := fun a n G H σ x na tn _ s en Q q => h G H σ x en Q fun v G1 H1 g r => q v G1 H1 d (.of g na tn.ne) (tn.gr g) r rfl
theorem EvA.x (h : EvA tr ρ ds) : EvXA tr ρ 0 (fun z => z = ds) := fun a n G H σ x na tn _ s en Q q => h G H σ x en Q fun v G1 H1 g r => q v G1 H1 ds (.of g na tn.ne) (tn.gr g) r rfl
theorem EvB.x {b : Bool} (h : EvB tt ρ b) : EvXB tt ρ 0 (fun z => z = b) := fun a n G H σ x na tn _ s en Q q => h G H σ x en Q fun G1 H1 g => q b G1 H1 (.of g na tn.ne) (tn.gr g) rfl
theorem EvX.le (h : EvX t ρ w Ψ) (k : w ≤ w1) (i : ∀ d, Ψ d → Ψ1 d) : EvX t ρ w1 Ψ1 := fun a n G H σ x na tn bd s en Q q => h a n G H σ x na tn (by omega) s en Q fun v G1 H1 d g tn' r p => q v G1 H1 d g (tn'.mono (by omega)) r (i d p)
theorem EvX.im (h : EvX t ρ w Ψ) (i : ∀ d, Ψ d → Ψ1 d) : EvX t ρ w Ψ1 := h.le (Nat.le_refl _) i
theorem EvXB.le {Φ Φ1 : Bool → Prop} (h : EvXB tt ρ w Φ) (k : w ≤ w1) (i : ∀ d, Φ d → Φ1 d) : EvXB tt ρ w1 Φ1 := fun a n G H σ x na tn bd s en Q q => h a n G H σ x na tn (by omega) s en Q fun v G1 H1 g tn' p => q v G1 H1 g (tn'.mono (by omega)) (i v p)
/-- one after the other -/
theorem ex_op (ha : EvX ta ρ w1 Ψ1) (hb : EvX tb ρ w2 Ψ2) (hr : ∀ d e, Ψ1 d → Ψ2 e → ∃ f, RV r d e f ∧ Ψ f) : EvX (tOp r ta tb) ρ (w1 + w2) Ψ := fun a n G H σ x na tn bd s en Q q =>
  ha a n G H σ x na tn (by omega) s en _ fun v G1 H1 d g1 t1 r1 p1 => hb a (n + w1) G1 H1 σ g1.gh g1.ga t1 (by omega) s (en.mono g1.gg) _ fun u G2 H2 e g2 t2 r2 p2 => by
    obtain ⟨f, h1, h2⟩ := hr d e p1 p2
    refine h1 G2 H2 v u g2.gh (r1.mono g2.gg) r2 Q fun z G3 H3 g3 r3 => q z G3 H3 f ((g1.trans g2 t1.ne).trans (.of g3 g2.ga t2.ne) t2.ne) ?_ r3 h2
    rw [← Nat.add_assoc]
    exact t2.gr g3
theorem ex_un {ru : V → Hp → VK → Prop} (ha : EvX ta ρ w Ψ1) (hr : ∀ d, Ψ1 d → ∃ f, RU ru d f ∧ Ψ f) : EvX (tUn ru ta) ρ w Ψ := fun a n G H σ x na tn bd s en Q q =>
  ha a n G H σ x na tn bd s en _ fun v G1 H1 d g1 t1 r1 p1 => by
    obtain ⟨f, h1, h2⟩ := hr d p1
    exact h1 G1 H1 v g1.gh r1 Q fun z G3 H3 g3 r3 => q z G3 H3 f (g1.trans (.of g3 g1.ga t1.ne) t1.ne) (t1.gr g3) r3 h2
theorem exa_nil : EvXA tNil ρ 0 (fun z => z = []) := ea_nil.x
theorem exa_cons {Φ : List Da → Prop} (ha : EvX ta ρ w1 Ψ1) (hr : EvXA tr ρ w2 Φ) : EvXA (tCons ta tr) ρ (w1 + w2) (fun z => ∃ d ds, z = d :: ds ∧ Ψ1 d ∧ Φ ds) := fun a n G H σ x na tn bd s en Q q =>
  ha a n G H σ x na tn (by omega) s en _ fun v G1 H1 d g1 t1 r1 p1 => hr a (n + w1) G1 H1 σ g1.gh g1.ga t1 (by omega) s (en.mono g1.gg) _ fun us G2 H2 es g2 t2 r2 p2 =>
    q (v :: us) G2 H2 (d :: es) (g1.trans g2 t1.ne) (by rw [← Nat.add_assoc]; exact t2) (.cons (r1.mono g2.gg) r2) ⟨d, es, rfl, p1, p2⟩
theorem exa1 (ha : EvX ta ρ w Ψ) : EvXA (tCons ta tNil) ρ w (fun z => ∃ d, z = [d] ∧ Ψ d) := fun a n G H σ x na tn bd s en Q q => exa_cons ha exa_nil a n G H σ x na tn bd s en Q fun vs G1 H1 ds g t r p => by
  obtain ⟨d, es, rfl, p1, rfl⟩ := p
  exact q vs G1 H1 _ g t r ⟨d, rfl, p1⟩
theorem exa2 (ha : EvX ta ρ w1 Ψ1) (hb : EvX tb ρ w2 Ψ2) : EvXA (tCons ta (tCons tb tNil)) ρ (w1 + w2) (fun z => ∃ d e, z = [d, e] ∧ Ψ1 d ∧ Ψ2 e) := fun a n G H σ x na tn bd s en Q q => exa_cons ha (exa1 hb) a n G H σ x na tn bd s en Q fun vs G1 H1 ds g t r p => by
  obtain ⟨d, es, rfl, p1, e, rfl, p2⟩ := p
  exact q vs G1 H1 _ g t r ⟨d, e, rfl, p1, p2⟩
theorem ex_tup {Φ : List Da → Prop} (h : EvXA tr ρ w Φ) (hl : ∀ ds, Φ ds → ds.length ≤ 100000) : EvX (tTup tr) ρ w (fun z => ∃ ds, z = .tup ds ∧ Φ ds) := fun a n G H σ x na tn bd s en Q q =>
  h a n G H σ x na tn bd s en _ fun vs G1 H1 ds g1 t1 r1 p1 => ⟨r1.small (hl ds p1), fun p hp => by
    have g2 : Gr G1 H1 (upd G1 p (.tup vs)) (upd H1 p (.tup vs)) := .new g1.gh hp
    exact q _ _ _ _ (g1.trans (.of g2 g1.ga t1.ne) t1.ne) (t1.gr g2) (.tup upd_same (r1.mono (Ex.new (ex_no g1.gh hp)))) ⟨ds, rfl, p1⟩⟩
theorem ex_cb {rc : List V → Hp → VK → Prop} {Φ : List Da → Prop} (h : EvXA tr ρ w Φ) (hr : ∀ ds, Φ ds → ∃ f, RC rc ds f ∧ Ψ f) : EvX (tCB rc tr) ρ w Ψ := fun a n G H σ x na tn bd s en Q q =>
  h a n G H σ x na tn bd s en _ fun vs G1 H1 ds g1 t1 r1 p1 => by
    obtain ⟨f, h1, h2⟩ := hr ds p1
    exact h1 G1 H1 vs g1.gh r1 Q fun z G3 H3 g3 r3 => q z G3 H3 f (g1.trans (.of g3 g1.ga t1.ne) t1.ne) (t1.gr g3) r3 h2
/-- a call of a def that does not draw, of what was drawn -/
theorem ex_callD {R : List Da → Da → Prop} {E : XK} {Φ : List Da → Prop} (h : EvXA tr ρ w Φ) (hR : ∀ ds, Φ ds → ∃ d, R ds d ∧ Ψ d) : EvX (tCall (spD R) [] E tr) ρ w Ψ := fun a n G H σ x na tn bd s en Q q =>
  h a n G H σ x na tn bd s en _ fun vs G1 H1 ds g1 t1 r1 p1 => by
    obtain ⟨d, h1, h2⟩ := hR ds p1
    exact ⟨G1, ds, d, g1.gh, by rw [List.append_nil]; exact r1, h1, fun v G2 H2 g2 r2 => q v G2 H2 d (g1.trans (.of g2 g1.ga t1.ne) t1.ne) (t1.gr g2) r2 h2⟩
/-- a def that draws: its promise, its call -/
def spX (w : Nat) (Pre : List Da → Prop) (Post : List Da → Da → Prop) : Sp := fun vs H Q _ => ∃ a n G us ds, vs = .ref a :: us ∧ Ex G H ∧ G a = none ∧ Tn n H a ∧ n + w ≤ Bud ∧ RpA G us ds ∧ Pre ds ∧
  ∀ v G' H' d, GrT a G H G' H' → Tn (n + w) H' a → Rp G' v d → Post ds d → Q v H'
theorem ex_call {Pre : List Da → Prop} {Post : List Da → Da → Prop} {E : XK} {Φ : List Da → Prop} (h : EvXA tr ρ w1 Φ) (hp : ∀ ds, Φ ds → Pre ds) : EvX (tCall (spX w Pre Post) [] E (tCons (tVar 0) tr)) ρ (w1 + w) (fun z => ∃ ds, Φ ds ∧ Post ds z) := fun a n G H σ x na tn bd s en Q q =>
  ⟨.ref a, s, h a n G H σ x na tn (by omega) s en _ fun vs G1 H1 ds g1 t1 r1 p1 => ⟨a, n + w1, G1, vs, ds, by rw [List.append_nil], g1.gh, g1.ga, t1, by omega, r1, hp ds p1, fun v G2 H2 d g2 t2 r2 p2 =>
    q v G2 H2 d (g1.trans g2 t1.ne) (by rw [← Nat.add_assoc]; exact t2) r2 ⟨ds, p1, p2⟩⟩⟩
/-! tests -/
theorem xb_val {Φ : Bool → Prop} (h : EvX t ρ w Ψ) (i : ∀ d, Ψ d → ∃ b, d = .bl b ∧ Φ b) : EvXB (tTest t) ρ w Φ := fun a n G H σ x na tn bd s en Q q => h a n G H σ x na tn bd s en _ fun v G1 H1 d g t r p => by
  obtain ⟨b, rfl, p2⟩ := i d p
  cases r
  exact ⟨b, rfl, q b G1 H1 g t p2⟩
theorem xb_and {Φ1 Φ2 : Bool → Prop} (h1 : EvXB tt ρ w1 Φ1) (h2 : EvXB tu ρ w2 Φ2) : EvXB (tAnd tt tu) ρ (w1 + w2) (fun b => (b = true → Φ1 true ∧ Φ2 true)) := fun a n G H σ x na tn bd s en Q q => h1 a n G H σ x na tn (by omega) s en _ fun b G1 H1 g1 t1 p1 => by
  cases b with
  | true =>
    show tu σ H1 Q
    exact h2 a (n + w1) G1 H1 σ g1.gh g1.ga t1 (by omega) s (en.mono g1.gg) Q fun b G2 H2 g2 t2 p2 => q b G2 H2 (g1.trans g2 t1.ne) (by rw [← Nat.add_assoc]; exact t2) fun e => by subst e; exact ⟨p1, p2⟩
  | false => exact q false G1 H1 g1 (t1.mono (by omega)) fun z => nomatch z
theorem ex_if {Φ : Bool → Prop} (h : EvXB tt ρ w1 Φ) (h1 : Φ true → EvX ta ρ w2 Ψ) (h2 : Φ false → EvX tb ρ w2 Ψ) : EvX (tIf tt ta tb) ρ (w1 + w2) Ψ := fun a n G H σ x na tn bd s en Q q => h a n G H σ x na tn (by omega) s en _ fun b G1 H1 g1 t1 p1 => by
  cases b with
  | true =>
    show ta σ H1 Q
    exact h1 p1 a (n + w1) G1 H1 σ g1.gh g1.ga t1 (by omega) s (en.mono g1.gg) Q fun v G2 H2 d g2 t2 r2 p2 => q v G2 H2 d (g1.trans g2 t1.ne) (by rw [← Nat.add_assoc]; exact t2) r2 p2
  | false =>
    show tb σ H1 Q
    exact h2 p1 a (n + w1) G1 H1 σ g1.gh g1.ga t1 (by omega) s (en.mono g1.gg) Q fun v G2 H2 d g2 t2 r2 p2 => q v G2 H2 d (g1.trans g2 t1.ne) (by rw [← Nat.add_assoc]; exact t2) r2 p2
/-! the tin's own numbers -/
def IsI (P : Int → Prop) (d : Da) : Prop := ∃ i, d = .int i ∧ P i
theorem tin_at {i : Int} (j : Nat) (hi : i = (j : Int)) {P : Int → Prop} (h : ∀ (T M c : Int), 0 ≤ c → c ≤ Bud → ∃ k, ([T, M, c] : List Int)[j]? = some k ∧ P k) : EvX (tOp (rIx K) (tVar 0) (tC (.int i))) ρ 0 (IsI P) := fun a n G H σ x na tn bd s en Q q => by
  obtain ⟨T, M, c, e, h1, h2⟩ := id tn
  obtain ⟨k, h3, h4⟩ := h T M c h1 (by omega)
  refine ⟨.ref a, s, .inl ⟨a, [.int T, .int M, .int c], i, .int k, rfl, rfl, SqL.of e, ?_, q _ G H (.int k) (.refl x na) tn (.int k) ⟨k, rfl, h4⟩⟩⟩
  rw [hi]
  refine atI_nat ?_
  have : ([V.int T, V.int M, V.int c] : List V) = ([T, M, c] : List Int).map V.int := rfl
  rw [this, List.getElem?_map, h3]
  rfl
theorem tin0 : EvX (tOp (rIx K) (tVar 0) (tC (.int 0))) ρ 0 (IsI fun _ => True) := tin_at 0 rfl fun T M c _ _ => ⟨T, rfl, trivial⟩
theorem tin1 : EvX (tOp (rIx K) (tVar 0) (tC (.int 1))) ρ 0 (IsI fun _ => True) := tin_at 1 rfl fun T M c _ _ => ⟨M, rfl, trivial⟩
theorem tin2 : EvX (tOp (rIx K) (tVar 0) (tC (.int 2))) ρ 0 (IsI fun i => 0 ≤ i ∧ i ≤ 1000000000) := tin_at 2 rfl fun T M c h1 h2 => ⟨c, rfl, h1, h2⟩
/-! numbers -/
theorem xi_c {i : Int} {P : Int → Prop} (h : P i) : EvX (tC (.int i)) ρ 0 (IsI P) := ev_int.x.im fun d e => ⟨i, e, h⟩
theorem xi_v {k : Nat} {i : Int} {P : Int → Prop} (e : ρ[k]? = some (some (.int i))) (h : P i) : EvX (tVar k) ρ 0 (IsI P) := (ev_v k e).x.im fun d e => ⟨i, e, h⟩
theorem xi_add {P1 P2 P : Int → Prop} (ha : EvX ta ρ w1 (IsI P1)) (hb : EvX tb ρ w2 (IsI P2)) (h : ∀ i j, P1 i → P2 j → P (i + j)) : EvX (tOp (rAddA K) ta tb) ρ (w1 + w2) (IsI P) := ex_op ha hb fun d e ⟨i, e1, p1⟩ ⟨j, e2, p2⟩ => by
  subst e1 e2
  exact ⟨.int (i + j), fun G H x y ex r1 r2 Q q => .inl (rv_I0 (g := fun i j => .int (i + j)) (fun _ => .int _) G H x y ex r1 r2 Q q), _, rfl, h i j p1 p2⟩
theorem xi_sub {P1 P2 P : Int → Prop} (ha : EvX ta ρ w1 (IsI P1)) (hb : EvX tb ρ w2 (IsI P2)) (h : ∀ i j, P1 i → P2 j → P (i - j)) : EvX (tOp (rI0 fun i j => .int (i - j)) ta tb) ρ (w1 + w2) (IsI P) := ex_op ha hb fun d e ⟨i, e1, p1⟩ ⟨j, e2, p2⟩ => by
  subst e1 e2
  exact ⟨.int (i - j), rv_I0 fun _ => .int _, _, rfl, h i j p1 p2⟩
theorem xi_mul {P1 P2 P : Int → Prop} (ha : EvX ta ρ w1 (IsI P1)) (hb : EvX tb ρ w2 (IsI P2)) (hc : ∀ i j, P1 i → P2 j → CMul i j) (h : ∀ i j, P1 i → P2 j → P (i * j)) : EvX (tOp (rI CMul fun i j => .int (i * j)) ta tb) ρ (w1 + w2) (IsI P) := ex_op ha hb fun d e ⟨i, e1, p1⟩ ⟨j, e2, p2⟩ => by
  subst e1 e2
  exact ⟨.int (i * j), rv_I (hc i j p1 p2) fun _ => .int _, _, rfl, h i j p1 p2⟩
theorem xi_mod {P1 P2 P : Int → Prop} (ha : EvX ta ρ w1 (IsI P1)) (hb : EvX tb ρ w2 (IsI P2)) (hc : ∀ j, P2 j → 0 < j) (h : ∀ i j, P1 i → P2 j → 0 ≤ i % j → i % j < j → P (i % j)) : EvX (tOp (rI (fun _ j => 0 < j) fun i j => .int (i % j)) ta tb) ρ (w1 + w2) (IsI P) := ex_op ha hb fun d e ⟨i, e1, p1⟩ ⟨j, e2, p2⟩ => by
  subst e1 e2
  have hj := hc j p2
  exact ⟨.int (i % j), rv_I (C := fun _ j => 0 < j) hj fun _ => .int _, _, rfl, h i j p1 p2 (Int.emod_nonneg _ (by omega)) (Int.emod_lt_of_pos _ hj)⟩
theorem xi_fdiv {P1 P2 P : Int → Prop} (ha : EvX ta ρ w1 (IsI P1)) (hb : EvX tb ρ w2 (IsI P2)) (hc : ∀ j, P2 j → 0 < j ∧ j < 1073741824) (h : ∀ i j, P1 i → P2 j → P (i / j)) : EvX (tOp (rI CDiv fun i j => .int (i / j)) ta tb) ρ (w1 + w2) (IsI P) := ex_op ha hb fun d e ⟨i, e1, p1⟩ ⟨j, e2, p2⟩ => by
  subst e1 e2
  exact ⟨.int (i / j), rv_I (C := CDiv) (hc j p2) fun _ => .int _, _, rfl, h i j p1 p2⟩
theorem xi_int {P : Int → Prop} (ha : EvX ta ρ w (IsI P)) : EvX (tCB (fun xs H Q => (∃ i, xs = [V.int i] ∧ Q (.int i) H) ∨ ∃ k, xs = [V.bl k] ∧ Q (.int (if k then 1 else 0)) H) (tCons ta tNil)) ρ w (IsI P) := ex_cb (exa1 ha) fun ds ⟨d, e, i, e1, p⟩ => by
  subst e e1
  refine ⟨.int i, fun G H xs ex r Q q => ?_, i, rfl, p⟩
  cases r with
  | cons a b =>
    cases b
    cases a
    exact .inl ⟨i, rfl, q _ G H (.refl ex) (.int i)⟩
theorem xi_gt {P1 P2 : Int → Prop} {Φ : Da → Prop} (ha : EvX ta ρ w1 (IsI P1)) (hb : EvX tb ρ w2 (IsI P2)) (h : ∀ i j, P1 i → P2 j → Φ (.bl (decide (j < i)))) : EvX (tOp (rI0 fun i j => .bl (decide (j < i))) ta tb) ρ (w1 + w2) Φ := ex_op ha hb fun d e ⟨i, e1, p1⟩ ⟨j, e2, p2⟩ => by
  subst e1 e2
  exact ⟨_, rv_I0 (g := fun i j => .bl (decide (j < i))) fun _ => .bl _, h i j p1 p2⟩
theorem xi_eq {P1 P2 : Int → Prop} {Φ : Da → Prop} (ha : EvX ta ρ w1 (IsI P1)) (hb : EvX tb ρ w2 (IsI P2)) (h : ∀ i j, P1 i → P2 j → Φ (.bl (decide (i = j)))) : EvX (tOp (rEqA K) ta tb) ρ (w1 + w2) Φ := ex_op ha hb fun d e ⟨i, e1, p1⟩ ⟨j, e2, p2⟩ => by
  subst e1 e2
  exact ⟨.bl (PyData.eqv (Da.int i).py (Da.int j).py), fun G H x y ex r1 r2 Q q => .inr ⟨_, _, (r1.mono ex).dp cmp_int.1, (r2.mono ex).dp cmp_int.1, cmp_int.2, cmp_int.2, q _ G H (.refl ex) (.bl _)⟩, by rw [eqv_int]; exact h i j p1 p2⟩
end
/-! ### statements that draw -/
def AsT (a : Addr) (G0 H0 : Hp) (ρ : DE) (n : Nat) (σ : L2.St) (H : Hp) : Prop := ∃ G, GrT a G0 H0 G H ∧ EnvR G σ ρ ∧ Tn n H a ∧ σ[0]? = some (some (.ref a))
def StX (t : TS) (ρ : DE) (w : Nat) (N : DE → Prop) (R : Da → Prop) : Prop := ∀ (D : Ends) (a : Addr) (G0 H0 H : Hp) (σ : L2.St) (n : Nat), AsT a G0 H0 ρ n σ H → n + w ≤ Bud →
  (∀ ρ', N ρ' → ∀ σ H, AsT a G0 H0 ρ' (n + w) σ H → D.nx σ H) → (∀ d, R d → ∀ v G H, GrT a G0 H0 G H → Tn (n + w) H a → Rp G v d → D.rt v H) → t D σ H
section
variable {t u : TS} {ta tb te : TE} {tt : TT} {tr : TA} {ρ ρ' : DE} {w w1 w2 : Nat} {N N1 N2 : DE → Prop} {R R1 : Da → Prop} {Ψ Ψ1 Ψ2 : Da → Prop} {K : PySem.W.Frag}
theorem AsT.le {a : Addr} {G0 H0 H : Hp} {n m : Nat} {σ : L2.St} (h : AsT a G0 H0 ρ' n σ H) (l : Le ρ ρ') (k : n ≤ m) : AsT a G0 H0 ρ m σ H := let ⟨G, x, y, z, s⟩ := h; ⟨G, x, y.le l, z.mono k, s⟩
theorem StX.le (h : StX t ρ w N R) (k : w ≤ w1) (i : ∀ d, N d → N1 d) (j : ∀ d, R d → R1 d) : StX t ρ w1 N1 R1 := fun D a G0 H0 H σ n A bd p q => h D a G0 H0 H σ n A (by omega)
  (fun ρ' x σ H A' => p ρ' (i _ x) σ H (A'.le (Le.refl _) (by omega))) fun d x v G H g tn r => q d (j _ x) v G H g (tn.mono (by omega)) r
theorem StX.inn (h : StX t ρ w N R) (l : Le ρ ρ') : StX t ρ' w N R := fun D a G0 H0 H σ n A bd p q => h D a G0 H0 H σ n (A.le l (Nat.le_refl _)) bd p q
theorem sx_seq (h1 : StX t ρ w1 N1 R) (h2 : ∀ ρ', N1 ρ' → StX u ρ' w2 N R) : StX (tSeq t u) ρ (w1 + w2) N R := fun D a G0 H0 H σ n A bd p q =>
  h1 { D with nx := u D } a G0 H0 H σ n A (by omega) (fun ρ' x σ H A' => h2 ρ' x D a G0 H0 H σ (n + w1) A' (by omega) (fun ρ' x σ H A' => p ρ' x σ H (by rw [← Nat.add_assoc]; exact A')) fun d x v G H g tn r => q d x v G H g (by rw [← Nat.add_assoc]; exact tn) r)
    fun d x v G H g tn r => q d x v G H g (tn.mono (by omega)) r
theorem sx_next (h : N ρ) : StX tNext ρ 0 N R := fun D a G0 H0 H σ n A bd p q => p ρ h σ H A
theorem slot0 {σ : L2.St} {i : Nat} {a : Addr} {v : V} (s : σ[0]? = some (some (.ref a))) (hi : i ≠ 0) : (σ.set i (some v))[0]? = some (some (.ref a)) := by rw [List.getElem?_set_ne hi]; exact s
theorem sx_asg {i : Nat} (h : EvX te ρ w Ψ) (k : ∀ d, Ψ d → N (ρ.set i (some d))) (hi : i ≠ 0 := by decide) : StX (tAsg te (gName i)) ρ w N R := fun D a G0 H0 H σ n A bd p q => by
  obtain ⟨G, g, en, tn, s⟩ := A
  refine h a n G H σ g.gh g.ga tn bd s en _ fun v G1 H1 d g1 t1 r1 p1 => p _ (k d p1) _ H1 ⟨G1, g.trans g1 tn.ne, (en.mono g1.gg).set i r1, t1, slot0 s hi⟩
theorem sx_par {i j : Nat} (h : EvXA tr ρ w (fun z => ∃ d e, z = [d, e] ∧ Ψ1 d ∧ Ψ2 e)) (k : ∀ d e, Ψ1 d → Ψ2 e → N ((ρ.set i (some d)).set j (some e))) (hi : i ≠ 0 := by decide) (hj : j ≠ 0 := by decide) : StX (tPar i j tr) ρ w N R := fun D a G0 H0 H σ n A bd p q => by
  obtain ⟨G, g, en, tn, s⟩ := A
  refine h a n G H σ g.gh g.ga tn bd s en _ fun vs G1 H1 ds g1 t1 r1 p1 => ?_
  obtain ⟨d, e, rfl, p1, p2⟩ := p1
  cases r1 with
  | cons r1 r =>
    cases r with
    | cons r2 r =>
      cases r
      exact ⟨_, _, rfl, p _ (k d e p1 p2) _ H1 ⟨G1, g.trans g1 tn.ne, ((en.mono g1.gg).set i r1).set j r2, t1, slot0 (slot0 s hi) hj⟩⟩
/-- target = e -/
theorem sx_asgT {g : TG} {js : List Nat} {ρ' : Da → DE} (h : EvX te ρ w Ψ) (hg : ∀ d, Ψ d → TgD g d ρ (ρ' d) js) (k : ∀ d, Ψ d → N (ρ' d)) (h0 : 0 ∉ js := by decide) : StX (tAsg te g) ρ w N R := fun D a G0 H0 H σ n A bd p q => by
  obtain ⟨G, gr, en, tn, s⟩ := A
  refine h a n G H σ gr.gh gr.ga tn bd s en _ fun v G1 H1 d g1 t1 r1 p1 => ?_
  refine hg d p1 G1 H1 σ v g1.gh (en.mono g1.gg) r1 _ fun σ' G2 H2 g2 en2 _ hk => p _ (k d p1) σ' H2 ⟨G2, (gr.trans g1 tn.ne).trans (.of g2 g1.ga t1.ne) t1.ne, en2, t1.gr g2, by rw [hk 0 h0]; exact s⟩
theorem sx_ret (h : EvX te ρ w Ψ) (k : ∀ d, Ψ d → R d) : StX (tRet te) ρ w N R := fun D a G0 H0 H σ n A bd p q => by
  obtain ⟨G, g, en, tn, s⟩ := A
  exact h a n G H σ g.gh g.ga tn bd s en _ fun v G1 H1 d g1 t1 r1 p1 => q d (k d p1) v G1 H1 (g.trans g1 tn.ne) t1 r1
theorem sx_if {Φ : Bool → Prop} (h : EvXB tt ρ w1 Φ) (h1 : Φ true → StX t ρ w2 N R) (h2 : Φ false → StX u ρ w2 N R) : StX (tIfS tt t u) ρ (w1 + w2) N R := fun D a G0 H0 H σ n A bd p q => by
  obtain ⟨G, g, en, tn, s⟩ := A
  refine h a n G H σ g.gh g.ga tn (by omega) s en _ fun b G1 H1 g1 t1 p1 => ?_
  have A1 : AsT a G0 H0 ρ (n + w1) σ H1 := ⟨G1, g.trans g1 tn.ne, en.mono g1.gg, t1, s⟩
  cases b with
  | true => exact h1 p1 D a G0 H0 H1 σ (n + w1) A1 (by omega) (fun ρ' x σ H A' => p ρ' x σ H (by rw [← Nat.add_assoc]; exact A')) fun d x v G H g tn r => q d x v G H g (by rw [← Nat.add_assoc]; exact tn) r
  | false => exact h2 p1 D a G0 H0 H1 σ (n + w1) A1 (by omega) (fun ρ' x σ H A' => p ρ' x σ H (by rw [← Nat.add_assoc]; exact A')) fun d x v G H g tn r => q d x v G H g (by rw [← Nat.add_assoc]; exact tn) r
/-- tin[j] = e -/
theorem sx_tin {i : Int} (j : Nat) (hi : i = (j : Int)) (hj : j < 3) {P : Int → Prop} (h : EvX te ρ w (IsI P)) (k : N ρ) (h2 : j = 2 → False) : StX (tAsg te (gSub (tVar 0) (tC (.int i)) rSetL)) ρ w N R := fun D a G0 H0 H σ n A bd p q => by
  obtain ⟨G, g, en, tn, s⟩ := A
  refine h a n G H σ g.gh g.ga tn bd s en _ fun v G1 H1 d g1 t1 r1 p1 => ?_
  obtain ⟨z, rfl, pz⟩ := p1
  have := r1.isInt
  subst this
  obtain ⟨T, M, c, e, h3, h4⟩ := t1
  refine ⟨.ref a, s, a, [.int T, .int M, .int c], i, j, rfl, rfl, e, ?_, ?_⟩
  · unfold ixN
    have hlt : (j : Int) < (([V.int T, V.int M, V.int c] : List V).length : Int) := by
      show (j : Int) < ((3 : Nat) : Int)
      omega
    rw [hi, if_pos (Int.natCast_nonneg j), if_pos hlt]
    simp
  · have gg := (g.trans g1 tn.ne).wr (o := .lst (([.int T, .int M, .int c] : List V).set j (.int z)))
    refine p ρ k σ _ ⟨G1, gg, en.mono g1.gg, ?_, s⟩
    have h2' : j ≠ 2 := h2
    have hj' : j = 0 ∨ j = 1 := by omega
    rcases hj' with rfl | rfl
    · exact ⟨z, M, c, upd_same, h3, h4⟩
    · exact ⟨T, z, c, upd_same, h3, h4⟩
/-- tin[2] = tin[2] + 1 -/
theorem sx_inc (k : N ρ) : StX (tAsg (tOp (rAddA K) (tOp (rIx K) (tVar 0) (tC (.int 2))) (tC (.int 1))) (gSub (tVar 0) (tC (.int 2)) rSetL)) ρ 1 N R := fun D a G0 H0 H σ n A bd p q => by
  obtain ⟨G, g, en, tn, s⟩ := A
  obtain ⟨T, M, c, e, h3, h4⟩ := tn
  refine ⟨.ref a, s, .inl ⟨a, [.int T, .int M, .int c], 2, .int c, rfl, rfl, SqL.of e, rfl, ?_⟩⟩
  refine .inl ⟨c, 1, rfl, rfl, ?_⟩
  refine ⟨.ref a, s, a, [.int T, .int M, .int c], 2, 2, rfl, rfl, e, rfl, ?_⟩
  exact p ρ k σ _ ⟨G, g.wr, en, ⟨T, M, c + 1, upd_same, by omega, by omega⟩, s⟩
end
end Mk
end

section
set_option Elab.async false
set_option linter.all false
set_option maxRecDepth 100000
set_option maxHeartbeats 2000000
/-! comprehensions, loops, defs that draw -/
namespace Mk
open PySem PySem.Spec PyProof.Rows L2
open Evl (Ex)
open C8 (Cal pe_c pe_gc)
theorem wipe_ne {i : Nat} : ∀ {vs : List Nat} {σ : L2.St}, i ∉ vs → (wipe σ vs)[i]? = σ[i]?
  | [], _, _ => rfl
  | v :: vs, σ, h => by
    show ((wipe σ vs).set v none)[i]? = _
    rw [List.getElem?_set_ne (fun z => h (by rw [z]; exact List.mem_cons_self)), wipe_ne fun z => h (List.mem_cons_of_mem _ z)]
theorem GrT.no {a b : Addr} {G H G1 H1 : Hp} {o : HO} (g : GrT a G H G1 H1) (h : H b = some o) (n : G b = none) : G1 b = none := by
  cases q : G1 b with
  | none => rfl
  | some u => exact absurd n (g.nw b (by rw [h]; exact fun z => nomatch z) (by rw [q]; exact fun z => nomatch z))
theorem GrT.mut {a b : Addr} {G H G1 H1 : Hp} {o : HO} (g : GrT a G H G1 H1) (h : H b = none) (n : G1 b = none) : GrT a G H G1 (upd H1 b o) :=
  ⟨g.gg, Ex.mut g.gh n, fun x u ne e => by
    have : x ≠ b := fun z => by rw [z, h] at e; cases e
    rw [upd_ne this]
    exact g.hh x u ne e, g.nw, g.ga⟩
theorem GrT.know {a b : Addr} {G H G1 H1 : Hp} {o : HO} (g : GrT a G H G1 H1) (h : H b = none) (n : G1 b = none) (e : H1 b = some o) (ne : b ≠ a) : GrT a G H (upd G1 b o) H1 :=
  ⟨g.gg.trans (Ex.new n), fun x u q => by
    by_cases hx : x = b
    · subst hx; rw [upd_same] at q; rw [e]; exact q
    · rw [upd_ne hx] at q; exact g.gh x u q, g.hh, (fun x h1 h2 => by
    have hx : x ≠ b := fun z => by subst z; exact h1 h
    rw [upd_ne hx] at h2
    exact g.nw x h1 h2), by rw [upd_ne ne.symm]; exact g.ga⟩
section
variable {t u : TS} {ta tb te : TE} {tt : TT} {tr : TA} {ρ ρ0 : DE} {w w1 w2 : Nat} {N : DE → Prop} {R : Da → Prop} {Ψ : Da → Prop} {K : PySem.W.Frag}
/-- [e for x in .. if t], e and t draw -/
theorem ex_lc {wi : TI} {g : TG} {vs js : List Nat} {α : Type} {as : List α} {en : α → Da} {ρ' : α → DE} {Φ : α → Bool → Prop} {Ψ : α → Da → Prop}
    (hi : EvI wi ρ (as.map en)) (hg : ∀ a ∈ as, TgD g (en a) (wipeD ρ vs) (ρ' a) js) (ht : ∀ a ∈ as, EvXB tt (ρ' a) w1 (Φ a)) (hf : ∀ a ∈ as, Φ a true → EvX te (ρ' a) w2 (Ψ a))
    (hz : as.length ≤ 100000) (hjs : ∀ j ∈ js, j ∈ vs := by decide) (h0 : 0 ∉ vs := by decide) : EvX (tLc wi g tt te vs) ρ (as.length * (w1 + w2)) (fun z => ∃ ds, z = .lst ds ∧ ds.length ≤ as.length ∧ ∀ d ∈ ds, ∃ a ∈ as, Ψ a d) := fun a n G H σ x na tn bd s env Q q => by
  refine hi G H σ x env _ fun J G1 H1 g1 it D hD => ?_
  have tn1 := tn.gr g1
  have na1 : G1 a = none := (GrT.of g1 na tn.ne).ga
  have Da : D ≠ a := fun z => tn1.ne (by rw [← z]; exact hD)
  refine ⟨fun i m H' => m = as.length - i ∧ i ≤ as.length ∧ ∃ G2 ws ds, GrT a G1 H1 G2 H' ∧ Tn (n + i * (w1 + w2)) H' a ∧ G2 D = none ∧ H' D = some (.lst ws) ∧ RpA G2 ws ds ∧ ds.length ≤ i ∧ ∀ d ∈ ds, ∃ a ∈ as, Ψ a d, ⟨as.length, ?_⟩, ?_⟩
  · refine ⟨rfl, Nat.zero_le _, G1, [], [], (GrT.refl g1.gh na1).mut hD (ex_no g1.gh hD), ?_, ex_no g1.gh hD, upd_same, .nil, Nat.le_refl _, fun d hd => nomatch hd⟩
    obtain ⟨T, M, c, e, h1, h2⟩ := tn1
    exact ⟨T, M, c, by rw [upd_ne Da.symm]; exact e, h1, by omega⟩
  rintro i m H' ⟨rfl, hi', G2, ws, ds, g2, t2, nD, eD, rw', hl, hp⟩
  obtain ⟨h1, h2, h3⟩ := it G2 H' g2.gg g2.gh i
  rw [List.length_map] at h1 h2 h3
  by_cases hlt : i < as.length
  · refine .inr ⟨h1 hlt, fun H'' => ∃ G2 ws ds, GrT a G1 H1 G2 H'' ∧ Tn (n + (i + 1) * (w1 + w2)) H'' a ∧ G2 D = none ∧ H'' D = some (.lst ws) ∧ RpA G2 ws ds ∧ ds.length ≤ i + 1 ∧ ∀ d ∈ ds, ∃ a ∈ as, Ψ a d, fun H'' z => ⟨as.length - (i + 1), by omega, rfl, hlt, z⟩, fun v H2 y => ?_⟩
    obtain ⟨G3, d', g3, k3⟩ := h3 v H2 y
    obtain ⟨k4, r3⟩ := k3 hlt
    have ha : as[i]? = some as[i] := List.getElem?_eq_getElem hlt
    rw [List.getElem?_map, ha] at k4
    have ed : en as[i] = d' := Option.some.inj k4
    subst ed
    have hm : as[i] ∈ as := List.getElem_mem hlt
    have env3 : EnvR G3 (wipe σ vs) (wipeD ρ vs) := (env.mono (g1.gg.trans (g2.gg.trans g3.gg))).wipe vs
    have n3 := (GrT.of g3 g2.ga t2.ne)
    refine hg _ hm G3 H2 _ v g3.gh env3 r3 _ fun σ' G4 H4 g4 env4 hw hk => ⟨(hw vs hjs).trans (wipe_wipe σ vs), ?_⟩
    have s4 : σ'[0]? = some (some (.ref a)) := by rw [hk 0 (fun z => h0 (hjs 0 z)), wipe_ne h0]; exact s
    have t3 := t2.gr g3
    have t4 := t3.gr g4
    have n4 := GrT.of g4 n3.ga t3.ne
    have hb : n + i * (w1 + w2) + (w1 + w2) ≤ Bud := by
      have := Nat.mul_le_mul_right (w1 + w2) (show i + 1 ≤ as.length by omega)
      rw [Nat.add_mul, Nat.one_mul] at this
      omega
    refine ht _ hm a _ G4 H4 σ' g4.gh n4.ga t4 (by omega) s4 env4 _ fun b G5 H5 g5 t5 p5 => ?_
    have g25 := (((GrT.of g3 g2.ga t2.ne).trans n4 t3.ne).trans g5 t4.ne)
    have gg := g2.trans g25 t2.ne
    have nD5 : G5 D = none := g25.no eD nD
    have eD5 : H5 D = some (.lst ws) := g25.hh D _ Da eD
    have ew : n + (i + 1) * (w1 + w2) = n + i * (w1 + w2) + w1 + w2 := by rw [Nat.add_mul]; omega
    cases b with
    | false => exact ⟨G5, ws, ds, gg, t5.mono (by omega), nD5, eD5, rw'.mono g25.gg, by omega, hp⟩
    | true =>
      show te σ' H5 _
      refine hf _ hm p5 a _ G5 H5 σ' g5.gh g5.ga t5 (by omega) s4 (env4.mono g5.gg) _ fun y' G6 H6 dy g6 t6 r6 p6 => ?_
      have g26 := g25.trans g6 t5.ne
      have hsz : ws.length < sizeLine := Evl.sz_lt (by rw [rw'.length]; omega)
      refine ⟨ws, g26.hh D _ Da eD, hsz, G6, ws ++ [y'], ds ++ [dy], (g2.trans g26 t2.ne).mut hD (g26.no eD nD), ?_, g26.no eD nD, upd_same, (rw'.mono g26.gg).append (.cons r6 .nil), by rw [List.length_append]; simp; omega, fun d hd => ?_⟩
      · obtain ⟨T, M, c, e, h1, h2⟩ := t6
        exact ⟨T, M, c, by rw [upd_ne Da.symm]; exact e, h1, by omega⟩
      · rcases List.mem_append.mp hd with hd | hd
        · exact hp d hd
        · have : d = dy := by simpa using hd
          exact ⟨_, hm, by rw [this]; exact p6⟩
  · have ei : i = as.length := by omega
    subst ei
    have gf : GrT a G H G1 H1 := .of g1 na tn.ne
    exact .inl ⟨h2 (Nat.le_refl _), q (.ref D) _ H' (.lst ds) ((gf.trans g2 tn1.ne).know (ex_no g1.hh hD) nD eD Da) t2 (.lst upd_same (rw'.mono (Ex.new nD))) ⟨ds, rfl, hl, hp⟩⟩
/-- a loop whose turns draw -/
theorem sx_for {wi : TI} {g : TG} {js : List Nat} {α : Type} {as : List α} {en : α → Da} {I : List α → DE → Prop}
    (hi : EvI wi ρ (as.map en)) (hI : I [] ρ) (hg : ∀ pre a post ρ1, as = pre ++ a :: post → I pre ρ1 → ∃ ρ2, TgD g (en a) ρ1 ρ2 js ∧ StX t ρ2 w (I (pre ++ [a])) R) (h0 : 0 ∉ js := by decide) : StX (tFor wi g t) ρ (as.length * w) (I as) R := fun D a G0 H0 H σ n A bd p q => by
  obtain ⟨G, gr, env, tn, s⟩ := A
  refine hi G H σ gr.gh env _ fun J G1 H1 g1 it => ?_
  have tn1 := tn.gr g1
  have gb := gr.trans (.of g1 gr.ga tn.ne) tn.ne
  refine ⟨fun i m σ' H' => m = as.length - i ∧ i ≤ as.length ∧ ∃ ρ1 G2, I (as.take i) ρ1 ∧ GrT a G1 H1 G2 H' ∧ EnvR G2 σ' ρ1 ∧ Tn (n + i * w) H' a ∧ σ'[0]? = some (some (.ref a)), ⟨as.length, rfl, Nat.zero_le _, ρ, G1, hI, .refl g1.gh gb.ga, env.mono g1.gg, by rw [Nat.zero_mul]; exact tn1, s⟩, ?_⟩
  rintro i m σ2 H2 ⟨rfl, hle, ρ1, G2, i2, g2, en2, t2, s2⟩
  obtain ⟨h1, h2, h3⟩ := it G2 H2 g2.gg g2.gh i
  rw [List.length_map] at h1 h2 h3
  by_cases hlt : i < as.length
  · refine .inr ⟨h1 hlt, fun σ' H' => ∃ ρ1 G2, I (as.take (i + 1)) ρ1 ∧ GrT a G1 H1 G2 H' ∧ EnvR G2 σ' ρ1 ∧ Tn (n + (i + 1) * w) H' a ∧ σ'[0]? = some (some (.ref a)), fun σ' H' z => ⟨as.length - (i + 1), by omega, rfl, hlt, z⟩, fun v H3 y => ?_⟩
    obtain ⟨G3, d', g3, k3⟩ := h3 v H3 y
    obtain ⟨k4, r3⟩ := k3 hlt
    have ha : as[i]? = some as[i] := List.getElem?_eq_getElem hlt
    rw [List.getElem?_map, ha] at k4
    have ed : en as[i] = d' := Option.some.inj k4
    subst ed
    have ecut : as = as.take i ++ as[i] :: as.drop (i + 1) := by rw [List.getElem_cons_drop, List.take_append_drop]
    have etake : as.take (i + 1) = as.take i ++ [as[i]] := by rw [List.take_add_one, ha] <;> rfl
    obtain ⟨ρ2, hT, hS⟩ := hg _ _ _ ρ1 ecut i2
    have t3 := t2.gr g3
    have n3 := GrT.of g3 g2.ga t2.ne
    refine hT G3 H3 σ2 v g3.gh (en2.mono g3.gg) r3 _ fun σ4 G4 H4 g4 en4 _ hk => ?_
    have n4 := GrT.of g4 n3.ga t3.ne
    have g14 := (g2.trans n3 t2.ne).trans n4 t3.ne
    have hb : n + i * w + w ≤ Bud := by
      have := Nat.mul_le_mul_right w (show i + 1 ≤ as.length by omega)
      rw [Nat.add_mul, Nat.one_mul] at this
      omega
    have ew : n + (i + 1) * w = n + i * w + w := by rw [Nat.add_mul]; omega
    have t4 := t3.gr g4
    have A4 : AsT a G1 H1 ρ2 (n + i * w) σ4 H4 := ⟨G4, g14, en4, t4, by rw [hk 0 h0]; exact s2⟩
    refine hS _ a G1 H1 H4 σ4 (n + i * w) A4 hb (fun ρ5 i5 σ5 H5 A5 => ?_) fun d x v G5 H5 g5 t5 r5 => q d x v G5 H5 (gb.trans g5 tn1.ne) (t5.mono ?_) r5
    · obtain ⟨G5, g5, en5, t5, s5⟩ := A5
      rw [etake]
      exact ⟨ρ5, G5, i5, g5, en5, by rw [ew]; exact t5, s5⟩
    · have := Nat.mul_le_mul_right w (show i + 1 ≤ as.length by omega)
      rw [Nat.add_mul, Nat.one_mul] at this
      omega
  · have ei : i = as.length := by omega
    subst ei
    rw [List.take_length] at i2
    exact .inl ⟨h2 (Nat.le_refl _), p ρ1 i2 σ2 H2 ⟨G2, gb.trans g2 tn1.ne, en2, t2, s2⟩⟩
end
/-! ### a def that draws -/
def startT (n : Nat) (ds : List Da) : DE := none :: (ds.map some ++ List.replicate (n - 1 - ds.length) none)
theorem env_startT {G : Hp} {a : Addr} {vs : List V} {ds : List Da} (r : RpA G vs ds) (N : List Str) (hN : 1 ≤ N.length) : EnvR G (L2.start N (.ref a :: vs)) (startT N.length ds) := by
  unfold L2.start startT
  have e := r.length
  refine ⟨by simp [e]; omega, fun i d q => ?_⟩
  cases i with
  | zero => simp at q
  | succ i =>
    rw [List.getElem?_cons_succ] at q
    by_cases hi : i < ds.length
    · rw [List.getElem?_append_left (by simpa using hi), List.getElem?_map] at q
      have hd : ds[i]? = some ds[i] := List.getElem?_eq_getElem hi
      rw [hd] at q
      have ed : ds[i] = d := Option.some.inj (Option.some.inj q)
      rw [ed] at hd
      obtain ⟨v, hv, rv⟩ := r.get hd
      refine ⟨v, ?_, rv⟩
      rw [List.getElem?_append_left (by simp [e]; omega), List.getElem?_map, List.getElem?_cons_succ, hv]
      rfl
    · rw [List.getElem?_append_right (by simpa using hi)] at q
      obtain ⟨h1, h2⟩ := List.getElem?_eq_some_iff.mp q
      simp at h2
theorem Tx.okT {P : Program} {w : World} {K : PySem.W.Frag} {mg : Str → Option Value} {base : Heap} (T : Tx K mg) (i g : Nat) {x : Str} {j : Nat} {N ps : List Str} {k wt : Nat} {Pre : List Da → Prop} {Post : List Da → Da → Prop} (hf : fn[i]? = some (dd x j)) (hg : fa[g]? = some (.glo x)) (S : FnScope N ps (defScope (top j)))
    (hb : ∀ (kV doc pm : Value) (an : Option Addr) (cdv ct : Value) (us : List Value), us.length = ps.length → bindArgs (PySem.W.fnOf x x (defArgs (top j)) (defBody (top j)) (defScope (top j)) .none kV doc pm an cdv ct) ⟨us, []⟩ = pure (ps.zip us))
    (hl : ∀ ds, Pre ds → ds.length + 1 = ps.length) (hN : 1 ≤ N.length)
    (hbody : ∀ (f : Addr) (cdv : Value) (A : Around) (outer : List Env) (s : Shared) (H : Hp) (E : XK), Room k (A.deeper (envOfC x (defScope (top j)) s.heap.objs.size f cdv)) →
      ∃ t, PSs (cxOf CX0 P w K mg base N x (defScope (top j)) f cdv A outer s H E).nox (defBody (top j)) t ∧ ∀ ds, Pre ds → StX t (startT N.length ds) wt (fun _ => False) (Post ds)) : Cal P w K mg base (k + 1) x (spX wt Pre Post) [] := by
  obtain ⟨fd, F⟩ := T.s.d.def_ i hf
  refine ⟨_, fd, ps, [], ?_, T.gl g x hg, F.kp, FunD.bindsN F hb, .nil⟩
  refine FunD.ok F S (fun vs H Q E h => ?_) fun cdv A outer s H vs Q E hr h => ?_
  · obtain ⟨a, n, G, us, ds, rfl, _, _, _, _, r, hp, _⟩ := h
    rw [← hl ds hp, List.length_cons, r.length]
  · obtain ⟨t, h1, h2⟩ := hbody _ cdv A outer s H E hr
    refine ⟨t, h1.nox, ?_⟩
    obtain ⟨a, n, G, us, ds, rfl, e, na, tn, bd, r, hp, q⟩ := h
    refine h2 ds hp _ a G H H _ n ⟨G, .refl e na, env_startT r N hN, tn, ?_⟩ bd (fun _ z => z.elim) fun d x v G' H' g' t' r' => q v G' H' d g' t' r' x
    unfold L2.start
    simp
end Mk
end

section
set_option Elab.async false
set_option linter.all false
set_option maxRecDepth 100000
set_option maxHeartbeats 2000000
namespace Mk
open PySem PySem.Spec PyProof.Rows L2
open Evl (Ex)
open C8 (Cal pe_c pe_gc)
theorem small_c {j : Int} (h1 : 0 ≤ j) (h2 : j ≤ 1000100000) (i : Int) : CMul i j := .inr ⟨by omega, by omega⟩
theorem small_l {j : Int} (h1 : 0 ≤ j) (h2 : j ≤ 1000100000) (i : Int) : CMul j i := .inl ⟨by omega, by omega⟩
abbrev N__law_take : List Str := ["_law_tin", "_law_below_so", "_law_drawn_so", "_law_once_so", "_law_wide_so", "_law_twice_so"]
theorem sc__law_take : FnScope N__law_take ["_law_tin", "_law_below_so"] (defScope s__law_take) := ⟨rfl, rfl, rfl, by decide +kernel, rfl, by decide +kernel, by decide +kernel⟩
def Pre__law_take (ds : List Da) : Prop := ∃ b : Nat, ds = [nat b] ∧ 1 ≤ b ∧ b ≤ 1000000
def Post__law_take (ds : List Da) (d : Da) : Prop := ∃ b k : Nat, ds = [nat b] ∧ d = nat k ∧ k < b
theorem ok__law_take {P : Program} {w : World} {K : PySem.W.Frag} {mg : Str → Option Value} {base : Heap} (T : Tx K mg) : Cal P w K mg base 1 "_law_take" (spX 1 Pre__law_take Post__law_take) [] := T.okT 48 48 rfl rfl sc__law_take (fun _ _ _ _ _ _ us hl => match us, hl with | [_, _], _ => rfl) (by rintro ds h; obtain ⟨_, rfl, _⟩ := h; rfl) (by decide) fun f cdv A outer s H E hr => ⟨_, (pss_cons (ps_if (pt_cmpR op_gt (pe_ix (k_ix K rfl) (pv 0) pe_int (fun _ _ => rfl)) pe_int (nomark _)) (pss_cons (ps_set (i := 2) sc__law_take.nd rfl (Or.inl rfl) (pe_op op_mod (pe_callTy call_int1 (by rfl) T.b_int (by decide +kernel) (pa_cons (pe_ix (k_ix K rfl) (pv 0) pe_int (fun _ _ => rfl)) pa_nil)) (pv 1))) (pss_cons (ps_asg (pe_op op_fdiv (pe_ix (k_ix K rfl) (pv 0) pe_int (fun _ _ => rfl)) (pv 1)) (pg_sub (pv 0) pe_int set_list)) (pss_one (ps_ret (pv 2))))) pss_nil) (pss_cons (ps_asg (pe_op (k_add K rfl) (pe_ix (k_ix K rfl) (pv 0) pe_int (fun _ _ => rfl)) pe_int) (pg_sub (pv 0) pe_int set_list)) (pss_cons (ps_set (i := 3) sc__law_take.nd rfl (Or.inl rfl) (pe_op op_mod (pe_callTy call_int1 (by rfl) T.b_int (by decide +kernel) (pa_cons (pe_op op_mul (pe_op (k_add K rfl) (pe_ix (k_ix K rfl) (pv 0) pe_int (fun _ _ => rfl)) (pe_op op_mul pe_int (pe_ix (k_ix K rfl) (pv 0) pe_int (fun _ _ => rfl)))) (pe_op (k_add K rfl) pe_int (pe_ix (k_ix K rfl) (pv 0) pe_int (fun _ _ => rfl)))) pa_nil)) pe_int)) (pss_cons (ps_set (i := 4) sc__law_take.nd rfl (Or.inl rfl) (pe_op (k_add K rfl) (pe_op op_mod (pe_callTy call_int1 (by rfl) T.b_int (by decide +kernel) (pa_cons (pv 3) pa_nil)) pe_int) pe_int)) (pss_cons (ps_set (i := 5) sc__law_take.nd rfl (Or.inl rfl) (pe_op op_mod (pe_callTy call_int1 (by rfl) T.b_int (by decide +kernel) (pa_cons (pe_op op_mul (pe_op (k_add K rfl) (pe_op (k_add K rfl) (pv 3) (pe_ix (k_ix K rfl) (pv 0) pe_int (fun _ _ => rfl))) (pe_op op_fdiv (pe_ix (k_ix K rfl) (pv 0) pe_int (fun _ _ => rfl)) pe_int)) (pv 4)) pa_nil)) pe_int)) (pss_one (ps_ret (pe_op op_mod (pe_callTy call_int1 (by rfl) T.b_int (by decide +kernel) (pa_cons (pe_op op_fdiv (pe_op op_mod (pe_callTy call_int1 (by rfl) T.b_int (by decide +kernel) (pa_cons (pe_op (k_add K rfl) (pe_op op_mul (pv 5) pe_int) (pv 3)) pa_nil)) pe_int) pe_int) pa_nil)) (pv 1))))))))), fun ds hR => by
  obtain ⟨b, rfl, h1, h2⟩ := hR
  let ρ0 : DE := [none, some (nat b), none, none, none, none]
  have fin : ∀ (i : Int), 0 ≤ i → i < (b : Int) → Post__law_take [nat b] (.int i) := fun i z1 z2 => ⟨b, i.toNat, rfl, by rw [nat, Int.toNat_of_nonneg z1], by omega⟩
  have T' : True := trivial
  refine (sx_seq (w1 := 0) (w2 := 1) (N1 := fun z => z = ρ0) (StX.le (w := 0) (sx_if (w1 := 0) (w2 := 0) (Φ := fun _ => True) (xb_val (w := 0) (xi_gt (Φ := fun d => ∃ b, d = .bl b) tin0 (xi_c (P := fun _ => True) T') (fun i j _ _ => ⟨_, rfl⟩)) fun d ⟨b, e⟩ => ⟨b, e, T'⟩) (fun _ => ?_) fun _ => sx_next (N := fun z => z = ρ0) rfl) (Nat.le_refl _) (fun _ z => z) fun _ z => z) fun ρ' e => ?_).le (by decide) (fun _ z => z) fun _ z => z
  · refine sx_seq (w1 := 0) (w2 := 0) (N1 := fun z => ∃ k : Int, z = ρ0.set 2 (some (.int k)) ∧ 0 ≤ k ∧ k < b) (sx_asg (xi_mod (P := fun i => 0 ≤ i ∧ i < (b : Int)) (xi_int tin0) (xi_v (P := fun j => j = (b : Int)) rfl rfl) (fun j e => by omega) fun i j _ e z1 z2 => ⟨z1, by omega⟩) fun d ⟨i, e, z⟩ => ⟨i, by rw [e], z⟩) ?_
    rintro ρ' ⟨k, rfl, z1, z2⟩
    refine sx_seq (w1 := 0) (w2 := 0) (N1 := fun z => z = ρ0.set 2 (some (.int k))) (sx_tin 0 rfl (by decide) (P := fun _ => True) (xi_fdiv tin0 (xi_v (P := fun j => j = (b : Int)) rfl rfl) (fun j e => by omega) fun _ _ _ _ => T') rfl (fun z => nomatch z)) ?_
    rintro ρ' rfl
    exact sx_ret (ev_v 2).x fun d e => by rw [e]; exact fin k z1 z2
  · subst e
    refine sx_seq (w1 := 1) (w2 := 0) (N1 := fun z => z = ρ0) (sx_inc rfl) ?_
    rintro ρ' rfl
    refine sx_seq (w1 := 0) (w2 := 0) (N1 := fun z => ∃ k : Int, z = ρ0.set 3 (some (.int k))) (sx_asg (xi_mod (P := fun _ => True) (xi_int (xi_mul (P := fun _ => True) (xi_add (P := fun _ => True) tin1 (xi_mul (P := fun _ => True) (xi_c (P := fun i => i = 48271) rfl) tin2 (fun i j e _ => by subst e; exact small_l (by decide) (by decide) j) fun _ _ _ _ => T') fun _ _ _ _ => T') (xi_add (P := fun i => 0 ≤ i ∧ i ≤ 1000100000) (xi_c (P := fun i => i = 39373) rfl) tin2 fun i j e z => by omega) (fun i j _ z => small_c z.1 z.2 i) fun _ _ _ _ => T')) (xi_c (P := fun j => j = 2147483647) rfl) (fun j e => by omega) fun _ _ _ _ _ _ => T') fun d ⟨i, e, z⟩ => ⟨i, by rw [e]⟩) ?_
    rintro ρ' ⟨once, rfl⟩
    refine sx_seq (w1 := 0) (w2 := 0) (N1 := fun z => ∃ k : Int, z = (ρ0.set 3 (some (.int once))).set 4 (some (.int k)) ∧ 0 ≤ k ∧ k ≤ 1000100000) (sx_asg (xi_add (P := fun i => 0 ≤ i ∧ i ≤ 1000100000) (xi_mod (P := fun i => 0 ≤ i ∧ i < 40009) (xi_int (xi_v (P := fun _ => True) rfl T')) (xi_c (P := fun j => j = 40009) rfl) (fun j e => by omega) fun i j _ e z1 z2 => ⟨z1, by omega⟩) (xi_c (P := fun i => i = 7) rfl) fun i j z e => by omega) fun d ⟨i, e, z⟩ => ⟨i, by rw [e], z⟩) ?_
    rintro ρ' ⟨wide, rfl, w1, w2⟩
    refine sx_seq (w1 := 0) (w2 := 0) (N1 := fun z => ∃ k : Int, z = ((ρ0.set 3 (some (.int once))).set 4 (some (.int wide))).set 5 (some (.int k))) (sx_asg (xi_mod (P := fun _ => True) (xi_int (xi_mul (P := fun _ => True) (xi_add (P := fun _ => True) (xi_add (P := fun _ => True) (xi_v (P := fun _ => True) rfl T') tin2 fun _ _ _ _ => T') (xi_fdiv (P := fun _ => True) tin1 (xi_c (P := fun j => j = 1000003) rfl) (fun j e => by omega) fun _ _ _ _ => T') fun _ _ _ _ => T') (xi_v (P := fun j => j = wide) rfl rfl) (fun i j _ e => by subst e; exact small_c w1 w2 i) fun _ _ _ _ => T')) (xi_c (P := fun j => j = 2147483629) rfl) (fun j e => by omega) fun _ _ _ _ _ _ => T') fun d ⟨i, e, z⟩ => ⟨i, by rw [e]⟩) ?_
    rintro ρ' ⟨twice, rfl⟩
    exact sx_ret (xi_mod (P := fun i => 0 ≤ i ∧ i < (b : Int)) (xi_int (xi_fdiv (P := fun _ => True) (xi_mod (P := fun _ => True) (xi_int (xi_add (P := fun _ => True) (xi_mul (P := fun _ => True) (xi_v (P := fun _ => True) rfl T') (xi_c (P := fun j => j = 48271) rfl) (fun i j _ e => by subst e; exact small_c (by decide) (by decide) i) fun _ _ _ _ => T') (xi_v (P := fun _ => True) rfl T') fun _ _ _ _ => T')) (xi_c (P := fun j => j = 2147483587) rfl) (fun j e => by omega) fun _ _ _ _ _ _ => T') (xi_c (P := fun j => j = 64) rfl) (fun j e => by omega) fun _ _ _ _ => T')) (xi_v (P := fun j => j = (b : Int)) rfl rfl) (fun j e => by omega) fun i j _ e z1 z2 => ⟨z1, by omega⟩) fun d ⟨i, e, z⟩ => by rw [e]; exact fin i z.1 z.2⟩
/-- a number is drawn, below b -/
theorem ex_take {te : TE} {ρ : DE} {w : Nat} {b : Nat} {E : XK} (h : EvX te ρ w (fun z => z = nat b)) (h1 : 1 ≤ b) (h2 : b ≤ 1000000) : EvX (tCall (spX 1 Pre__law_take Post__law_take) [] E (tCons (tVar 0) (tCons te tNil))) ρ (w + 1) (fun z => ∃ k : Nat, z = nat k ∧ k < b) :=
 (ex_call (exa1 h) fun ds ⟨d, e, e2⟩ => ⟨b, by rw [e, e2], h1, h2⟩).im fun d ⟨ds, ⟨x, e, e2⟩, b', k, e3, e4, e5⟩ => by
   subst e e2
   have : nat b = nat b' := by simpa using e3
   have : (b : Int) = (b' : Int) := Da.int.inj this
   exact ⟨k, e4, by omega⟩
theorem ex_takeN {te : TE} {ρ : DE} {b : Nat} {E : XK} (h : EvD te ρ (nat b)) (h1 : 1 ≤ b) (h2 : b ≤ 1000000) : EvX (tCall (spX 1 Pre__law_take Post__law_take) [] E (tCons (tVar 0) (tCons te tNil))) ρ 1 (fun z => ∃ k : Nat, z = nat k ∧ k < b) := (ex_take h.x h1 h2).le (by decide) fun _ z => z
abbrev N__law_of : List Str := ["_law_tin", "_law_goods_so"]
theorem sc__law_of : FnScope N__law_of ["_law_tin", "_law_goods_so"] (defScope s__law_of) := ⟨rfl, rfl, rfl, by decide +kernel, rfl, by decide +kernel, by decide +kernel⟩
def Pre__law_of (ds : List Da) : Prop := ∃ l g, ds = [g] ∧ (g = .lst l ∨ g = .tup l) ∧ 1 ≤ l.length ∧ l.length ≤ 100000
def Post__law_of (ds : List Da) (d : Da) : Prop := ∃ l g, ds = [g] ∧ (g = .lst l ∨ g = .tup l) ∧ d ∈ l
theorem ok__law_of {P : Program} {w : World} {K : PySem.W.Frag} {mg : Str → Option Value} {base : Heap} (T : Tx K mg) : Cal P w K mg base 2 "_law_of" (spX 1 Pre__law_of Post__law_of) [] := T.okT 50 50 rfl rfl sc__law_of (fun _ _ _ _ _ _ us hl => match us, hl with | [_, _], _ => rfl) (by rintro ds h; obtain ⟨_, _, rfl, _⟩ := h; rfl) (by decide) fun f cdv A outer s H E hr => ⟨_, (pss_one (ps_ret (pe_ix (k_ix K rfl) (pv 1) (pe_c (ok__law_take T) hr (by decide) (by rfl) (pa_cons (pv 0) (pa_cons (pe_callB (k_len K rfl) (by rfl) T.b_len (by decide +kernel) (pa_cons (pv 1) pa_nil)) pa_nil))) (fun _ _ => rfl)))), fun ds hR => by
  obtain ⟨l, g, rfl, hg, h1, h2⟩ := hR
  have ln : EvD (tCB (fun xs H Q => ∃ p ys, xs = [V.ref p] ∧ (SqL K H p ys ∨ SqT K H p ys) ∧ Q (.int ys.length) H) (tCons (tVar 1) tNil)) [none, some g] (nat l.length) := by
    rcases hg with rfl | rfl
    · exact ev_cb (ea1 (ev_v 1)) rc_lenL
    · exact ev_cb (ea1 (ev_v 1)) rc_lenT
  refine sx_ret (w := 1) (Ψ := fun d => d ∈ l) (EvX.le (w := 0 + 1) (ex_op (ev_v 1 (d := g)).x (ex_takeN ln h1 (by omega)) (Ψ := fun d => d ∈ l) fun d e e1 ⟨k, e2, hk⟩ => ?_) (by decide) fun _ z => z) fun d hd => ⟨l, g, rfl, hg, hd⟩
  subst e1 e2
  have hx : l[k]? = some l[k] := List.getElem?_eq_getElem hk
  refine ⟨l[k], ?_, List.getElem_mem hk⟩
  intro G H x y ex r1 r2 Q q
  rcases hg with rfl | rfl
  · obtain ⟨a, vs, rfl, h1, ra⟩ := r1.isLst
    cases r2
    obtain ⟨v, hv, rv⟩ := ra.get hx
    exact .inl ⟨a, vs, (k : Int), v, rfl, rfl, SqL.of (ex _ _ h1), atI_nat hv, q v G H (.refl ex) rv⟩
  · obtain ⟨a, vs, rfl, h1, ra⟩ := r1.isTup
    cases r2
    obtain ⟨v, hv, rv⟩ := ra.get hx
    exact .inr (.inl ⟨a, vs, (k : Int), v, rfl, rfl, SqT.of (ex _ _ h1), atI_nat hv, q v G H (.refl ex) rv⟩)⟩
abbrev N__law_some_left : List Str := ["_law_tin", "_law_net_here"]
theorem sc__law_some_left : FnScope N__law_some_left ["_law_tin", "_law_net_here"] (defScope s__law_some_left) := ⟨rfl, rfl, rfl, by decide +kernel, rfl, by decide +kernel, by decide +kernel⟩
def Pre__law_some_left (ds : List Da) : Prop := ∃ m ts, ds = [od m ts] ∧ OS m ts ∧ m ≤ 9
def Post__law_some_left (ds : List Da) (d : Da) : Prop := ∃ m ts b, ds = [od m ts] ∧ Cl ts m b ∧ d = .tup (nats (pcsB b))
theorem ok__law_some_left {P : Program} {w : World} {K : PySem.W.Frag} {mg : Str → Option Value} {base : Heap} (T : Tx K mg) : Cal P w K mg base 3 "_law_some_left" (spX 1 Pre__law_some_left Post__law_some_left) [] := T.okT 73 73 rfl rfl sc__law_some_left (fun _ _ _ _ _ _ us hl => match us, hl with | [_, _], _ => rfl) (by rintro ds h; obtain ⟨_, _, rfl, _⟩ := h; rfl) (by decide) fun f cdv A outer s H E hr => ⟨_, (pss_one (ps_ret (pe_c (ok__law_pieces T) hr (by decide) (by rfl) (pa_cons (pe_c (ok__law_of T) hr (by decide) (by rfl) (pa_cons (pv 0) (pa_cons (pe_c (ok__law_lefts T) hr (by decide) (by rfl) (pa_cons (pv 1) pa_nil)) pa_nil))) pa_nil)))), fun ds hR => by
  obtain ⟨m, ts, rfl, os, hm⟩ := hR
  have u := os.sm.up
  have hz : (lf m ts).length ≤ 512 := Nat.le_trans (lf_len u os.plt) (Nat.le_trans (Nat.pow_le_pow_right (by omega) hm) (by decide))
  have h0 : 0 ∈ lf m ts := (mem_lf u os.plt).mpr ⟨Nat.two_pow_pos m, fun p _ z => by simp at z⟩
  have hpos := List.length_pos_of_mem h0
  refine sx_ret (w := 1) (Ψ := fun d => ∃ b, Cl ts m b ∧ d = .tup (nats (pcsB b))) (EvX.le (w := 0 + 1) (ex_callD (Ψ := fun d => ∃ b, Cl ts m b ∧ d = .tup (nats (pcsB b))) (exa1 (ex_call (w1 := 0) (Φ := fun z => z = [.lst (nats (lf m ts))]) (EvA.x (ea1 (ev_call (ea1 (ev_v 1)) ⟨m, ts, rfl, os, hm, rfl⟩))) fun ds e => ⟨_, _, e, .inl rfl, by rw [List.length_map]; omega, by rw [List.length_map]; omega⟩)) fun ds h => ?_) (by decide) fun _ z => z) fun d ⟨b, cl, e⟩ => ⟨m, ts, b, rfl, cl, e⟩
  obtain ⟨x, rfl, ds2, rfl, l, g, e1, e2, hx⟩ := h
  have : g = .lst (nats (lf m ts)) := by simpa using e1.symm
  subst this
  have e3 : l = nats (lf m ts) := by
    rcases e2 with e2 | e2
    · exact (Da.lst.inj e2).symm
    · cases e2
  subst e3
  obtain ⟨b, hb, rfl⟩ := List.mem_map.mp hx
  have cl := (mem_lf u os.plt).mp hb
  exact ⟨_, ⟨b, rfl, Nat.lt_of_lt_of_le cl.1 (Nat.pow_le_pow_right (by omega) (by omega)), rfl⟩, b, cl, rfl⟩⟩
end Mk
end

section
set_option Elab.async false
set_option linter.all false
set_option maxRecDepth 100000
set_option maxHeartbeats 2000000
namespace Mk
open PySem PySem.Spec PyProof.Rows L2
open Evl (Ex)
open C8 (Cal pe_c pe_gc)
theorem Le.set {d : Da} : ∀ {ρ ρ' : DE} (i : Nat), Le ρ ρ' → Le (ρ.set i (some d)) (ρ'.set i (some d))
 | [], [], _, _ => trivial
 | none :: r, _ :: s, 0, h => ⟨rfl, h⟩
 | none :: r, _ :: s, i + 1, h => Le.set (ρ := r) (ρ' := s) i h
 | some _ :: r, _ :: s, 0, h => ⟨rfl, h.2⟩
 | some _ :: r, _ :: s, i + 1, h => ⟨h.1, Le.set (ρ := r) (ρ' := s) i h.2⟩
theorem prs_of {ds : List Da} {C : Nat × Nat → Prop} (h : ∀ d ∈ ds, ∃ q, d = pr q ∧ C q) : ∃ qs : Ps, ds = prs qs ∧ ∀ q ∈ qs, C q := by
 induction ds with
 | nil => exact ⟨[], rfl, fun q z => nomatch z⟩
 | cons d r ih =>
   obtain ⟨q, rfl, hq⟩ := h d List.mem_cons_self
   obtain ⟨qs, rfl, h2⟩ := ih fun x hx => h x (List.mem_cons_of_mem _ hx)
   refine ⟨q :: qs, rfl, fun x hx => ?_⟩
   rcases List.mem_cons.mp hx with rfl | hx
   · exact hq
   · exact h2 x hx
theorem rv_cat {K : PySem.W.Frag} {ds es : List Da} (hz : ds.length + es.length ≤ 100000) : RV (rAddA K) (.lst ds) (.lst es) (.lst (ds ++ es)) := fun G H x y ex r1 r2 Q q => by
 obtain ⟨a, vs, rfl, ha, ra⟩ := r1.isLst
 obtain ⟨b, ws, rfl, hb, rb⟩ := r2.isLst
 refine .inr (.inl ⟨a, b, vs, ws, rfl, rfl, ex _ _ ha, ex _ _ hb, Evl.sz_of (by rw [ra.length, rb.length]; exact hz), fun p hp => ?_⟩)
 exact q _ _ _ (.new ex hp) (.lst upd_same ((ra.append rb).mono (Ex.new (ex_no ex hp))))
theorem rv_addN {K : PySem.W.Frag} {i j : Nat} : RV (rAddA K) (nat i) (nat j) (nat (i + j)) := fun G H x y ex r1 r2 Q q => .inl (rv_I0 (g := fun i j => .int (i + j)) (f := nat (i + j)) (fun _ => by rw [nat, Int.natCast_add]; exact .int _) G H x y ex r1 r2 Q q)
theorem xb_eqN {te : TE} {ρ : DE} {w : Nat} {i : Int} {K : PySem.W.Frag} (h : EvX te ρ w (fun z => ∃ k : Nat, z = nat k ∧ (k : Int) < 1000000)) : EvXB (tTest (tOp (rEqA K) te (tC (.int i)))) ρ w (fun _ => True) :=
 xb_val (w := w + 0) (xi_eq (Φ := fun d => ∃ b, d = .bl b) (P1 := fun _ => True) (P2 := fun _ => True) (h.im fun d ⟨k, e, _⟩ => ⟨k, e, trivial⟩) (xi_c trivial) fun _ _ _ _ => ⟨_, rfl⟩) fun d ⟨b, e⟩ => ⟨b, e, trivial⟩
theorem xb_gtN {te : TE} {ρ : DE} {w : Nat} {i : Int} (h : EvX te ρ w (fun z => ∃ k : Nat, z = nat k ∧ (k : Int) < 1000000)) : EvXB (tTest (tOp (rI0 fun i j => .bl (decide (j < i))) te (tC (.int i)))) ρ w (fun _ => True) :=
 xb_val (w := w + 0) (xi_gt (Φ := fun d => ∃ b, d = .bl b) (P1 := fun _ => True) (P2 := fun _ => True) (h.im fun d ⟨k, e, _⟩ => ⟨k, e, trivial⟩) (xi_c trivial) fun _ _ _ _ => ⟨_, rfl⟩) fun d ⟨b, e⟩ => ⟨b, e, trivial⟩
theorem os_net {m : Nat} {ps : Ps} (h3 : Up m ps) (hm : m ≤ 60) (hl : ps.length ≤ 10000) : OS m (red m ps) := ⟨⟨red_up h3, hm, Nat.le_trans (red_len h3) hl⟩, red_red h3⟩
abbrev N__law_loose_net : List Str := ["_law_tin", "_law_many_so", "_law_chance_so", "_law_pairs_so", "_law_high_so", "_law_low_so"]
theorem sc__law_loose_net : FnScope N__law_loose_net ["_law_tin", "_law_many_so"] (defScope s__law_loose_net) := ⟨rfl, rfl, rfl, by decide +kernel, rfl, by decide +kernel, by decide +kernel⟩
def Pre__law_loose_net (ds : List Da) : Prop := ∃ m : Nat, ds = [nat m] ∧ m ≤ 60
def Post__law_loose_net (ds : List Da) (d : Da) : Prop := ∃ m ts, ds = [nat m] ∧ d = od m ts ∧ OS m ts
theorem ok__law_loose_net {P : Program} {w : World} {K : PySem.W.Frag} {mg : Str → Option Value} {base : Heap} (T : Tx K mg) : Cal P w K mg base 2 "_law_loose_net" (spX 5000 Pre__law_loose_net Post__law_loose_net) [] := T.okT 67 67 rfl rfl sc__law_loose_net (fun _ _ _ _ _ _ us hl => match us, hl with | [_, _], _ => rfl) (by rintro ds h; obtain ⟨_, rfl, _⟩ := h; rfl) (by decide) fun f cdv A outer s H E hr => ⟨_, (pss_cons (ps_asg (pe_tup (pa_cons (pe_op (k_add K rfl) pe_int (pe_c (ok__law_take T) hr (by decide) (by rfl) (pa_cons (pv 0) (pa_cons pe_int pa_nil)))) (pa_cons (pe_lst pa_nil) pa_nil))) (k_tup K (n := 2) rfl rfl (pgs_cons (pg_name (i := 2) sc__law_loose_net.nd rfl (Or.inr rfl)) (pgs_cons (pg_name (i := 3) sc__law_loose_net.nd rfl (Or.inl rfl)) pgs_nil)))) (pss_cons (ps_for PassesOwn.never rfl (pi_range1 rfl T.b_range (pa_cons (pv 1) pa_nil)) (pg_name (i := 4) sc__law_loose_net.nd rfl (Or.inr rfl)) (pss_one (ps_set (i := 3) sc__law_loose_net.nd rfl (Or.inl rfl) (pe_op (k_add K rfl) (pv 3) (pe_lc (own := [("_law_low_so", 5)]) rfl sc__law_loose_net.nd (pi_range1 rfl T.b_range (pa_cons (pv 4) pa_nil)) (blkOk_by (own := [("_law_low_so", 5)]) (N := N__law_loose_net) (sc := (defScope s__law_loose_net)) (by decide +kernel)) (fun _ _ _ _ _ => (pg_name (i := 5) sc__law_loose_net.nd rfl (Or.inl rfl))) (fun _ _ _ _ _ => pts_one (pt_cmpR (k_eq K rfl hr.units) (pe_c (ok__law_take T) hr (by decide) (by rfl) (pa_cons (pv 0) (pa_cons (pv 2) pa_nil))) pe_int (nomark _))) (fun _ _ _ _ _ => (pe_tup (pa_cons (pv 5) (pa_cons (pv 4) pa_nil))))))))) (pss_one (ps_ret (pe_c (ok__law_net T) hr (by decide) (by rfl) (pa_cons (pv 1) (pa_cons (pv 3) pa_nil))))))), fun ds hR => by
  obtain ⟨m, rfl, hm⟩ := hR
  let ST : Nat → Ps → DE := fun c ps => [none, some (nat m), some (nat c), some (.lst (prs ps)), none, none]
  let Ok : Nat → Nat → Ps → Prop := fun n c ps => 1 ≤ c ∧ c ≤ 6 ∧ Up m ps ∧ ps.length ≤ n * 60
  let I : List Nat → DE → Prop := fun pre ρ => ∃ c ps, Le (ST c ps) ρ ∧ Ok pre.length c ps
  refine (sx_seq (w1 := 1) (w2 := m * 60 + 0) (N1 := fun ρ => I [] ρ) (sx_asgT (w := 1) (js := [2, 3]) (ρ' := fun d => match d with | .tup [x, y] => [none, some (nat m), some x, some y, none, none] | _ => []) (Ψ := fun d => ∃ c : Nat, d = .tup [nat c, .lst []] ∧ 1 ≤ c ∧ c ≤ 6)
    (EvX.le (w := 0 + 1 + 0) (ex_tup (Φ := fun ds => ∃ d e, ds = [d, e] ∧ (∃ c : Nat, d = nat c ∧ 1 ≤ c ∧ c ≤ 6) ∧ e = .lst []) (exa2 (ex_op (Ψ := fun d => ∃ c : Nat, d = nat c ∧ 1 ≤ c ∧ c ≤ 6) (ev_nat (i := 2)).x (ex_takeN (b := 4) ev_int (by decide) (by decide)) fun d e e1 ⟨k, e2, hk⟩ => ?_) (el_lst ea_nil).toD.x) fun ds ⟨d, e, h, _⟩ => by rw [h]; exact Nat.le_of_ble_eq_true rfl) (by decide) fun d ⟨ds, h1, d', e', h2, ⟨c, h3, h4⟩, h5⟩ => ⟨c, by rw [h1, h2, h3, h5], h4⟩)
    (fun d ⟨c, e, _⟩ => by subst e; exact tg_tup2) (fun d ⟨c, e, h⟩ => by subst e; exact ⟨c, [], ⟨rfl, rfl, rfl, trivial⟩, h.1, h.2, (fun p z => nomatch z), Nat.zero_le _⟩)) fun ρ1 i1 => ?_).le (by omega) (fun _ z => z) fun _ z => z
  · subst e1 e2
    exact ⟨nat (2 + k), rv_addN, 2 + k, rfl, by omega, by omega⟩
  refine sx_seq (w1 := m * 60) (w2 := 0) (N1 := fun ρ => I (List.range m) ρ) (StX.le (w := (List.range m).length * 60) (sx_for (as := List.range m) (en := nat) (js := [4]) (w := 60) (I := I) ?_ i1 ?_) (by simp) (fun _ z => z) fun _ z => z) ?_
  · obtain ⟨c, ps, l, _⟩ := i1
    have it : EvI (iRng1 (tCons (tVar 1) tNil)) (ST c ps) ((List.range m).map nat) := (ei_rng1 (n := (m : Int)) (ea1 (ev_v 1)) (by omega) (by omega)).to (by simp)
    exact fun G H σ x en R q => it G H σ x (en.le l) R q
  · rintro pre k post ρ1 e ⟨c, ps, l, h1, h2, h3, h4⟩
    have hk : k < m := by
      have : k ∈ List.range m := by rw [e]; simp
      simpa using this
    have hpre : pre.length ≤ 60 := by
      have := congrArg List.length e
      simp at this
      omega
    refine ⟨ρ1.set 4 (some (nat k)), tg_name, StX.inn ?_ (l.set 4)⟩
    refine (sx_asg (w := 0 + (List.range k).length * (1 + 0)) (Ψ := fun d => ∃ qs : Ps, d = .lst (prs (ps ++ qs)) ∧ Up m qs ∧ qs.length ≤ 60) (ex_op (ev_v 3).x (ex_lc (as := List.range k) (en := nat) (ρ' := fun a => [none, some (nat m), some (nat c), some (.lst (prs ps)), some (nat k), some (nat a)]) (Φ := fun _ _ => True) (Ψ := fun a d => d = pr (a, k))
      ((ei_rng1 (n := (k : Int)) (ea1 (ev_v 4)) (by omega) (by omega)).to (by simp)) (fun _ _ => tg_name) (fun a _ => xb_eqN ((ex_takeN (ev_v 2) h1 (by omega)).im fun d ⟨x, e, hx⟩ => ⟨x, e, by omega⟩)) (fun a _ _ => (ev_tup (ea2 (ev_v 5) (ev_v 4))).x) (by simp; omega)) fun d e e1 ⟨ds, e2, e3, e4⟩ => ?_) fun d ⟨qs, e1, e2, e3⟩ => ?_).le (by simp; omega) (fun _ z => z) fun _ z => z
    · subst e1 e2
      obtain ⟨qs, rfl, hq⟩ := prs_of (C := fun q => q.1 < q.2 ∧ q.2 < m) (ds := ds) fun d hd => by
        obtain ⟨a, ha, e⟩ := e4 d hd
        exact ⟨(a, k), e, List.mem_range.mp ha, hk⟩
      have l1 : qs.length ≤ 60 := by
        rw [List.length_map, List.length_range] at e3
        omega
      refine ⟨.lst (prs ps ++ prs qs), rv_cat (by rw [List.length_map, List.length_map]; omega), qs, by simp [prs], hq, l1⟩
    · subst e1
      refine ⟨c, ps ++ qs, ⟨rfl, rfl, rfl, trivial⟩, h1, h2, ?_, ?_⟩
      · intro p hp
        rcases List.mem_append.mp hp with hp | hp
        · exact h3 p hp
        · exact e2 p hp
      · simp only [List.length_append, List.length_cons, List.length_nil]
        omega
  · rintro ρ1 ⟨c, ps, l, h1, h2, h3, h4⟩
    have hl : ps.length ≤ 10000 := by
      rw [List.length_range] at h4
      omega
    refine StX.inn (sx_ret (ev_call (ea2 (ev_v 1) (ev_v 3)) ⟨m, ps, rfl, ⟨h3, hm, hl⟩, rfl⟩).x fun d e => ⟨m, red m ps, rfl, e, ⟨red_up h3, hm, Nat.le_trans (red_len h3) hl⟩, red_red h3⟩) l⟩
theorem aside_os {a b : Nat} {ts us : Ps} (h1 : OS a ts) (h2 : OS b us) (hm : a + b ≤ 60) (hl : ts.length + us.length ≤ 5000) : OS (a + b) (ts ++ shift a us) := ⟨⟨aside_up h1.sm.up h2.sm.up, hm, by simp [shift]; omega⟩, aside_red h1.sm.up h2.sm.up h1.red h2.red⟩
theorem heap_os {a b : Nat} {ts us : Ps} (h1 : OS a ts) (h2 : OS b us) (hm : a + b ≤ 60) (hl : ts.length + us.length ≤ 5000) : OS (a + b) (heapR a b ts us) := by
 have hup : Up (a + b) ((ts ++ shift a us) ++ heapP a b) := fun p hp => by
   rcases List.mem_append.mp hp with h | h
   · exact aside_up h1.sm.up h2.sm.up p h
   · exact heapP_up p h
 refine os_net hup hm ?_
 have lh : (heapP a b).length ≤ 3600 := by
   unfold heapP
   refine Nat.le_trans (flat_len (n := 60) fun x _ => by simp; omega) ?_
   simp
   omega
 simp only [List.length_append, shift, List.length_map]
 omega
theorem os_len {m : Nat} {ts : Ps} (h : OS m ts) : ts.length ≤ m * m := by
 rw [← h.red]
 unfold red
 refine Nat.le_trans (flat_len (n := m) fun a _ => ?_) (by simp)
 rw [List.length_map]
 exact Nat.le_trans (List.length_filter_le _ _) (by simp)
/-- an order of at least one piece, at most n -/
def IsO (n : Nat) (d : Da) : Prop := ∃ m ts, d = od m ts ∧ OS m ts ∧ 1 ≤ m ∧ m ≤ n
abbrev N__law_order : List Str := ["_law_tin", "_law_most_so", "_law_many_so", "_law_kind_so", "_law_cut_so", "_law_near", "_law_far", "_law_more_so", "_law_k"]
theorem sc__law_order : FnScope N__law_order ["_law_tin", "_law_most_so"] (defScope s__law_order) := ⟨rfl, rfl, rfl, by decide +kernel, rfl, by decide +kernel, by decide +kernel⟩
def Pre__law_order (ds : List Da) : Prop := ∃ n : Nat, ds = [nat n] ∧ 1 ≤ n ∧ n ≤ 30
def Post__law_order (ds : List Da) (d : Da) : Prop := ∃ n : Nat, ds = [nat n] ∧ IsO n d
theorem ok__law_order {P : Program} {w : World} {K : PySem.W.Frag} {mg : Str → Option Value} {base : Heap} (T : Tx K mg) : Cal P w K mg base 3 "_law_order" (spX 20000 Pre__law_order Post__law_order) [] := T.okT 66 66 rfl rfl sc__law_order (fun _ _ _ _ _ _ us hl => match us, hl with | [_, _], _ => rfl) (by rintro ds h; obtain ⟨_, rfl, _⟩ := h; rfl) (by decide) fun f cdv A outer s H E hr => ⟨_, (pss_cons (ps_par (i := 2) (j := 3) rfl sc__law_order.nd rfl rfl (by decide) rfl rfl (pa_cons (pe_op (k_add K rfl) pe_int (pe_c (ok__law_take T) hr (by decide) (by rfl) (pa_cons (pv 0) (pa_cons (pv 1) pa_nil)))) (pa_cons (pe_c (ok__law_take T) hr (by decide) (by rfl) (pa_cons (pv 0) (pa_cons pe_int pa_nil))) pa_nil)) (by rfl)) (pss_cons (ps_if (PW.pt (pw_and (pt_cmpR op_lt (pv 2) (pv 1) (nomark _)) (pw_and1 (pt_cmpR op_gt (pe_c (ok__law_take T) hr (by decide) (by rfl) (pa_cons (pv 0) (pa_cons pe_int pa_nil))) pe_int (nomark _))))) (pss_one (ps_set (i := 2) sc__law_order.nd rfl (Or.inl rfl) (pe_op op_sub (pv 1) (pe_c (ok__law_take T) hr (by decide) (by rfl) (pa_cons (pv 0) (pa_cons pe_int pa_nil)))))) pss_nil) (pss_cons (ps_if (pt_cmpR (k_eq K rfl hr.units) (pv 3) pe_int (nomark _)) (pss_one (ps_ret (pe_c (ok__law_net T) hr (by decide) (by rfl) (pa_cons (pv 2) (pa_cons (pe_lc (own := [("_law_k", 8)]) rfl sc__law_order.nd (pi_range2 rfl T.b_range (pa_cons pe_int (pa_cons (pv 2) pa_nil))) (blkOk_by (own := [("_law_k", 8)]) (N := N__law_order) (sc := (defScope s__law_order)) (by decide +kernel)) (fun _ _ _ _ _ => (pg_name (i := 8) sc__law_order.nd rfl (Or.inl rfl))) (fun _ _ _ _ _ => pts_nil) (fun _ _ _ _ _ => (pe_tup (pa_cons (pe_c (ok__law_take T) hr (by decide) (by rfl) (pa_cons (pv 0) (pa_cons (pv 8) pa_nil))) (pa_cons (pv 8) pa_nil))))) pa_nil))))) pss_nil) (pss_cons (ps_if (PW.pt (pw_and (pt_cmpR (k_in K rfl) (pv 3) (pe_tup (pa_cons pe_int (pa_cons pe_int pa_nil))) (by rfl)) (pw_and1 (pt_cmpR op_gt (pv 2) pe_int (nomark _))))) (pss_cons (ps_set (i := 4) sc__law_order.nd rfl (Or.inl rfl) (pe_op (k_add K rfl) pe_int (pe_c (ok__law_take T) hr (by decide) (by rfl) (pa_cons (pv 0) (pa_cons (pe_op op_sub (pv 2) pe_int) pa_nil))))) (pss_cons (ps_par (i := 5) (j := 6) rfl sc__law_order.nd rfl rfl (by decide) rfl rfl (pa_cons (pe_c (ok__law_loose_net T) hr (by decide) (by rfl) (pa_cons (pv 0) (pa_cons (pv 4) pa_nil))) (pa_cons (pe_c (ok__law_loose_net T) hr (by decide) (by rfl) (pa_cons (pv 0) (pa_cons (pe_op op_sub (pv 2) (pv 4)) pa_nil))) pa_nil)) (by rfl)) (pss_one (ps_ret (pe_ifExp (pt_cmpR (k_eq K rfl hr.units) (pv 3) pe_int (nomark _)) (pe_c (ok__law_aside T) hr (by decide) (by rfl) (pa_cons (pv 5) (pa_cons (pv 6) pa_nil))) (pe_c (ok__law_heap T) hr (by decide) (by rfl) (pa_cons (pv 5) (pa_cons (pv 6) pa_nil)))))))) pss_nil) (pss_cons (ps_if (PW.pt (pw_and (pt_cmpR (k_eq K rfl hr.units) (pv 3) pe_int (nomark _)) (pw_and1 (pt_cmpR op_gt (pv 2) pe_int (nomark _))))) (pss_cons (ps_setLc (i := 7) (own := [("_law_k", 8)]) rfl sc__law_order.nd rfl rfl (sw_true rfl rfl rfl (by decide +kernel)) (pi_range2 rfl T.b_range (pa_cons pe_int (pa_cons (pv 2) pa_nil))) (blkOk_by (own := [("_law_k", 8)]) (N := N__law_order) (sc := (defScope s__law_order)) (by decide +kernel)) (fun _ _ _ _ _ => (pg_name (i := 8) sc__law_order.nd rfl (Or.inl rfl))) (fun _ _ _ _ _ => pts_one (pt_cmpR op_gt (pe_c (ok__law_take T) hr (by decide) (by rfl) (pa_cons (pv 0) (pa_cons pe_int pa_nil))) pe_int (nomark _))) (fun _ _ _ _ _ => (pe_tup (pa_cons (pe_c (ok__law_take T) hr (by decide) (by rfl) (pa_cons (pv 0) (pa_cons (pv 8) pa_nil))) (pa_cons (pv 8) pa_nil))))) (pss_one (ps_ret (pe_c (ok__law_net T) hr (by decide) (by rfl) (pa_cons (pv 2) (pa_cons (pe_op (k_add K rfl) (pe_lst (pa_cons (pe_tup (pa_cons pe_int (pa_cons pe_int pa_nil))) (pa_cons (pe_tup (pa_cons pe_int (pa_cons pe_int pa_nil))) (pa_cons (pe_tup (pa_cons pe_int (pa_cons pe_int pa_nil))) pa_nil)))) (pv 7)) pa_nil)))))) pss_nil) (pss_one (ps_ret (pe_c (ok__law_loose_net T) hr (by decide) (by rfl) (pa_cons (pv 0) (pa_cons (pv 2) pa_nil)))))))))), fun ds hR => by
  obtain ⟨n, rfl, h1, h2⟩ := hR
  let ST : Nat → Nat → DE := fun m k => [none, some (nat n), some (nat m), some (nat k), none, none, none, none, none]
  let I : DE → Prop := fun ρ => ∃ m k, ρ = ST m k ∧ 1 ≤ m ∧ m ≤ n ∧ k < 8
  have tk : ∀ {ρ : DE} {te : TE} {b : Nat} {E : XK}, EvD te ρ (nat b) → 1 ≤ b → b ≤ 1000000 → EvX (tCall (spX 1 Pre__law_take Post__law_take) [] E (tCons (tVar 0) (tCons te tNil))) ρ 1 (fun z => ∃ k : Nat, z = nat k ∧ k < b) := fun h h1 h2 => ex_takeN h h1 h2
  refine (sx_seq (w1 := 2) (w2 := 19000) (N1 := I) (sx_par (w := 2) (Ψ1 := fun d => ∃ m : Nat, d = nat m ∧ 1 ≤ m ∧ m ≤ n) (Ψ2 := fun d => ∃ k : Nat, d = nat k ∧ k < 8) (exa2 (EvX.le (w := 0 + 1) (ex_op (ev_nat (i := 1)).x (tk (ev_v 1) h1 (by omega)) (Ψ := fun d => ∃ m : Nat, d = nat m ∧ 1 ≤ m ∧ m ≤ n) fun d e e1 ⟨k, e2, hk⟩ => by subst e1 e2; exact ⟨nat (1 + k), rv_addN, 1 + k, rfl, by omega, by omega⟩) (by decide) fun _ z => z) (tk (b := 8) ev_int (by decide) (by decide)))
    fun d e ⟨m, e1, z⟩ ⟨k, e2, hk⟩ => by subst e1 e2; exact ⟨m, k, rfl, z.1, z.2, hk⟩) fun ρ1 i1 => ?_).le (by decide) (fun _ z => z) fun _ z => z
  obtain ⟨m, k, rfl, m1, m2, hk⟩ := i1
  refine StX.le (w := 2 + 18000) (sx_seq (w1 := 2) (w2 := 18000) (N1 := I) (StX.le (w := (0 + 1) + 1) (sx_if (w1 := 0 + 1) (w2 := 1) (Φ := fun b => b = true → m < n) (EvXB.le (w := 0 + 1) (xb_and (Φ1 := fun b => b = true → m < n) (Φ2 := fun _ => True) (xb_val (Φ := fun b => b = true → m < n) (ev_ltN (ev_v 2) (ev_v 1)).x fun d e => ⟨decide (m < n), e, fun z => of_decide_eq_true z⟩) (xb_gtN ((tk (b := 3) ev_int (by decide) (by decide)).im fun d ⟨x, e, hx⟩ => ⟨x, e, by omega⟩))) (Nat.le_refl _) fun b z e => (z e).1 rfl)
    (fun hlt => sx_asg (Ψ := fun d => ∃ m : Nat, d = nat m ∧ 1 ≤ m ∧ m ≤ n) (EvX.le (w := 0 + 1) (ex_op (ev_v 1).x (tk (b := 2) ev_int (by decide) (by decide)) (Ψ := fun d => ∃ m : Nat, d = nat m ∧ 1 ≤ m ∧ m ≤ n) fun d e e1 ⟨x, e2, hx⟩ => by
      subst e1 e2
      have := hlt rfl
      refine ⟨nat (n - x), ?_, n - x, rfl, by omega, by omega⟩
      have e : nat (n - x) = Da.int ((n : Int) - (x : Int)) := by rw [nat]; congr 1; omega
      rw [e]
      exact rv_I0 fun _ => .int _) (by decide) fun _ z => z) fun d ⟨m', e, z⟩ => by subst e; exact ⟨m', k, rfl, z.1, z.2, hk⟩)
    fun _ => (sx_next (N := I) ⟨m, k, rfl, m1, m2, hk⟩).le (by decide) (fun _ z => z) fun _ z => z) (by decide) (fun _ z => z) fun _ z => z) fun ρ1 i1 => ?_) (by decide) (fun _ z => z) fun _ z => z
  obtain ⟨m, k, rfl, m1, m2, hk⟩ := i1
  have one : ∀ {d : Da}, IsO n d → Post__law_order [nat n] d := fun h => ⟨n, rfl, h⟩
  have netR : ∀ (ps : Ps), Up m ps → ps.length ≤ 10000 → IsO n (od m (red m ps)) := fun ps u l => ⟨m, _, rfl, os_net u (by omega) l, m1, m2⟩
  have m60 : m ≤ 60 := by omega
  refine StX.le (w := (0 + 100) + 17000) (sx_seq (w1 := 0 + 100) (w2 := 17000) (N1 := fun z => z = ST m k) (sx_if (w1 := 0) (w2 := 100) (Φ := fun _ => True) (EvXB.le (eb_val (ev_eqAN (j := 0) (ev_v 3) ev_int)).x (Nat.le_refl _) fun _ _ => trivial) (fun _ => ?_) fun _ => (sx_next (N := fun z => z = ST m k) rfl).le (by decide) (fun _ z => z) fun _ z => z) fun ρ1 e1 => ?_) (by decide) (fun _ z => z) fun _ z => z
  · refine (sx_ret (w := 0 + (((List.range (m - 1)).map fun i => 1 + i).length * (0 + (1 + 0)))) (Ψ := IsO n) (ex_callD (Ψ := IsO n) (exa2 (ev_v 2 (d := nat m)).x (ex_lc (as := (List.range (m - 1)).map fun i => 1 + i) (en := nat) (ρ' := fun a => [none, some (nat n), some (nat m), some (nat k), none, none, none, none, some (nat a)]) (Φ := fun _ _ => True) (Ψ := fun a d => ∃ x, x < a ∧ d = pr (x, a)) ((ei_rng2 (lo := 1) (n := (m : Int)) (ea2 ev_int (ev_v 2)) (by omega)).to ?_) (fun _ _ => tg_name) (fun a _ => eb_yes.x.le (Nat.le_refl _) fun _ _ => trivial)
      (fun a ha _ => (ex_tup (Φ := fun ds => ∃ d e, ds = [d, e] ∧ (∃ x : Nat, d = nat x ∧ x < a) ∧ e = nat a) (exa2 (tk (ev_v 8) ?_ ?_) (ev_v 8).x) fun ds ⟨d, e, h, _⟩ => by rw [h]; exact Nat.le_of_ble_eq_true rfl).im fun d ⟨ds, e1, d', e', e2, ⟨x, e3, hx⟩, e4⟩ => ⟨x, hx, by rw [e1, e2, e3, e4]⟩) (by simp; omega))) fun ds ⟨d, e, e1, e2, dss, e3, e4, e5⟩ => ?_) fun d h => one h).le (by simp; omega) (fun _ z => z) fun _ z => z
    · have : ((m : Int) - 1).toNat = m - 1 := by omega
      rw [this, List.map_map]
      refine List.map_congr_left fun i _ => ?_
      show Da.int (1 + (i : Int)) = nat (1 + i)
      rw [nat, Int.natCast_add]
      rfl
    · obtain ⟨i, _, rfl⟩ := List.mem_map.mp ha
      omega
    · obtain ⟨i, hi, rfl⟩ := List.mem_map.mp ha
      have := List.mem_range.mp hi
      omega
    · subst e2 e3 e1
      obtain ⟨qs, rfl, hq⟩ := prs_of (C := fun q => q.1 < q.2 ∧ q.2 < m) (ds := dss) fun d hd => by
        obtain ⟨a, ha, x, hx, e⟩ := e5 d hd
        obtain ⟨i, hi, rfl⟩ := List.mem_map.mp ha
        have := List.mem_range.mp hi
        exact ⟨(x, 1 + i), e, hx, by show 1 + i < m; omega⟩
      have hl : qs.length ≤ 10000 := by
        simp only [List.length_map, List.length_range] at e4
        omega
      exact ⟨_, ⟨m, qs, rfl, ⟨hq, m60, hl⟩, rfl⟩, netR qs hq hl⟩
  subst e1
  refine StX.le (w := (0 + 10100) + 6000) (sx_seq (w1 := 0 + 10100) (w2 := 6000) (N1 := fun z => z = ST m k) (sx_if (w1 := 0) (w2 := 10100) (Φ := fun b => b = true → 3 < m) (EvXB.le (eb_and (a := decide (k ∈ [1, 2])) (eb_val (ev_inTN (ev_v 3) ((ev_tup (ea2 (ev_int (i := 1)) (ev_int (i := 2)))).to rfl))) fun _ => eb_val (ev_gtN (j := 3) (ev_v 2) ev_int)).x (Nat.le_refl _) fun b e z => by rw [e] at z; exact of_decide_eq_true (Bool.and_eq_true_iff.mp z).2) (fun h => ?_) fun _ => (sx_next (N := fun z => z = ST m k) rfl).le (by decide) (fun _ z => z) fun _ z => z) fun ρ1 e1 => ?_) (by decide) (fun _ z => z) fun _ z => z
  · have h3 := h rfl
    refine StX.le (w := 1 + (10000 + 0)) (sx_seq (w1 := 1) (w2 := 10000 + 0) (N1 := fun z => ∃ c : Nat, z = (ST m k).set 4 (some (nat c)) ∧ 2 ≤ c ∧ c < m) (sx_asg (Ψ := fun d => ∃ c : Nat, d = nat c ∧ 2 ≤ c ∧ c < m) (EvX.le (w := 0 + 1) (ex_op (ev_nat (i := 2)).x (tk (b := m - 3) ((ev_sub (ev_v 2) (ev_int (i := 3))).to (by rw [nat]; congr 1; omega)) (by omega) (by omega)) (Ψ := fun d => ∃ c : Nat, d = nat c ∧ 2 ≤ c ∧ c < m) fun d e e1 ⟨x, e2, hx⟩ => by subst e1 e2; exact ⟨nat (2 + x), rv_addN, 2 + x, rfl, by omega, by omega⟩) (by decide) fun _ z => z) fun d ⟨c, e, z⟩ => ⟨c, by rw [e], z⟩) ?_) (by decide) (fun _ z => z) fun _ z => z
    rintro ρ1 ⟨c, rfl, c1, c2⟩
    have ln : ∀ {ρ : DE} {te : TE} {b : Nat} {E : XK}, EvD te ρ (nat b) → b ≤ 60 → EvX (tCall (spX 5000 Pre__law_loose_net Post__law_loose_net) [] E (tCons (tVar 0) (tCons te tNil))) ρ 5000 (fun z => ∃ ts, z = od b ts ∧ OS b ts) := fun {ρ te b E} h hb => EvX.le (w := 0 + 5000) (ex_call (exa1 h.x) fun ds ⟨d, e, e2⟩ => ⟨b, by rw [e, e2], hb⟩) (by decide) fun d ⟨ds, ⟨x, e, e2⟩, b', ts, e3, e4, os⟩ => by
      subst e e2
      have e6 : nat b = nat b' := by simpa using e3
      have e7 : b = b' := by have := Da.int.inj e6; omega
      subst e7
      exact ⟨ts, e4, os⟩
    refine sx_seq (w1 := 10000) (w2 := 0) (N1 := fun z => ∃ ts us, z = [none, some (nat n), some (nat m), some (nat k), some (nat c), some (od c ts), some (od (m - c) us), none, none] ∧ OS c ts ∧ OS (m - c) us) (sx_par (exa2 (ln (ev_v 4) (by omega)) (ln (b := m - c) ((ev_sub (ev_v 2) (ev_v 4)).to (by rw [nat]; congr 1; omega)) (by omega))) fun d e ⟨ts, e1, o1⟩ ⟨us, e2, o2⟩ => ⟨ts, us, by rw [e1, e2]; rfl, o1, o2⟩) ?_
    rintro ρ1 ⟨ts, us, rfl, o1, o2⟩
    have l1 := os_len o1
    have l2 := os_len o2
    have l3 : c * c ≤ 900 := Nat.mul_le_mul (show c ≤ 30 by omega) (show c ≤ 30 by omega)
    have l4 : (m - c) * (m - c) ≤ 900 := Nat.mul_le_mul (show m - c ≤ 30 by omega) (show m - c ≤ 30 by omega)
    have ecm : c + (m - c) = m := by omega
    refine sx_ret (w := 0) (Ψ := IsO n) (EvX.le (w := 0 + 0) (ex_if (Φ := fun _ => True) ((eb_val (ev_eqAN (j := 1) (ev_v 3) ev_int)).x.le (Nat.le_refl _) fun _ _ => trivial) (fun _ => (ev_call (ea2 (ev_v 5) (ev_v 6)) ⟨c, m - c, ts, us, rfl, by omega, by omega, rfl⟩).x.im fun d e => ?_) fun _ => (ev_call (ea2 (ev_v 5) (ev_v 6)) ⟨c, m - c, ts, us, rfl, o1.sm, o2.sm, by omega, by omega, rfl⟩).x.im fun d e => ?_) (by decide) fun _ z => z) fun d h => one h
    · rw [ecm] at e
      exact ⟨m, _, e, by have := aside_os o1 o2 (by omega) (by omega); rwa [ecm] at this, m1, m2⟩
    · rw [ecm] at e
      exact ⟨m, _, e, by have := heap_os o1 o2 (by omega) (by omega); rwa [ecm] at this, m1, m2⟩
  subst e1
  have lnet : StX (tRet (tCall (spX 5000 Pre__law_loose_net Post__law_loose_net) [] E0 (tCons (tVar 0) (tCons (tVar 2) tNil)))) (ST m k) 5000 (fun _ => False) (Post__law_order [nat n]) := sx_ret (w := 5000) (Ψ := IsO n) (EvX.le (w := 0 + 5000) (ex_call (E := E0) (Pre := Pre__law_loose_net) (Post := Post__law_loose_net) (exa1 (ev_v (ρ := ST m k) 2 (d := nat m)).x) fun ds ⟨d, e, e2⟩ => ⟨m, by rw [e, e2], m60⟩) (by decide) fun d ⟨ds, ⟨x, e, e2⟩, b', ts, e3, e4, os⟩ => by
    subst e e2
    have e6 : nat m = nat b' := by simpa using e3
    have e7 : m = b' := by have := Da.int.inj e6; omega
    subst e7
    exact ⟨m, ts, e4, os, m1, m2⟩) fun d h => one h
  refine StX.le (w := (0 + 200) + 5000) (sx_seq (w1 := 0 + 200) (w2 := 5000) (N1 := fun z => z = ST m k) (sx_if (w1 := 0) (w2 := 200) (Φ := fun b => b = true → 3 < m) (EvXB.le (eb_and (eb_val (ev_eqAN (j := 3) (ev_v 3) ev_int)) fun _ => eb_val (ev_gtN (j := 3) (ev_v 2) ev_int)).x (Nat.le_refl _) fun b e z => by rw [e] at z; exact of_decide_eq_true (Bool.and_eq_true_iff.mp z).2) (fun h => ?_) fun _ => (sx_next (N := fun z => z = ST m k) rfl).le (by decide) (fun _ z => z) fun _ z => z) fun ρ1 e1 => by subst e1; exact lnet) (by decide) (fun _ z => z) fun _ z => z
  have h3 := h rfl
  refine StX.le (w := 200 + 0) (sx_seq (w1 := 200) (w2 := 0) (N1 := fun z => ∃ qs : Ps, z = (ST m k).set 7 (some (.lst (prs qs))) ∧ Up m qs ∧ qs.length ≤ 60) (StX.le (sx_asg (w := ((List.range (m - 4)).map fun i => 4 + i).length * (1 + (1 + 0))) (Ψ := fun d => ∃ qs : Ps, d = .lst (prs qs) ∧ Up m qs ∧ qs.length ≤ 60) (EvX.im (ex_lc (as := (List.range (m - 4)).map fun i => 4 + i) (en := nat) (ρ' := fun a => [none, some (nat n), some (nat m), some (nat k), none, none, none, none, some (nat a)]) (Φ := fun _ _ => True) (Ψ := fun a d => ∃ x, x < a ∧ d = pr (x, a)) ((ei_rng2 (lo := 4) (n := (m : Int)) (ea2 ev_int (ev_v 2)) (by omega)).to ?_) (fun _ _ => tg_name) (fun a _ => xb_gtN ((tk (b := 3) ev_int (by decide) (by decide)).im fun d ⟨x, e, hx⟩ => ⟨x, e, by omega⟩))
      (fun a ha _ => (ex_tup (Φ := fun ds => ∃ d e, ds = [d, e] ∧ (∃ x : Nat, d = nat x ∧ x < a) ∧ e = nat a) (exa2 (tk (ev_v 8) ?_ ?_) (ev_v 8).x) fun ds ⟨d, e, h, _⟩ => by rw [h]; exact Nat.le_of_ble_eq_true rfl).im fun d ⟨ds, e1, d', e', e2, ⟨x, e3, hx⟩, e4⟩ => ⟨x, hx, by rw [e1, e2, e3, e4]⟩) (by simp; omega)) fun d ⟨dss, e3, e4, e5⟩ => ?_) fun d ⟨qs, e, z⟩ => ⟨qs, by rw [e], z⟩) (by simp; omega) (fun _ z => z) fun _ z => z) ?_) (by decide) (fun _ z => z) fun _ z => z
  · have : ((m : Int) - 4).toNat = m - 4 := by omega
    rw [this, List.map_map]
    refine List.map_congr_left fun i _ => ?_
    show Da.int (4 + (i : Int)) = nat (4 + i)
    rw [nat, Int.natCast_add]
    rfl
  · obtain ⟨i, _, rfl⟩ := List.mem_map.mp ha
    omega
  · obtain ⟨i, hi, rfl⟩ := List.mem_map.mp ha
    have := List.mem_range.mp hi
    omega
  · obtain ⟨qs, rfl, hq⟩ := prs_of (C := fun q => q.1 < q.2 ∧ q.2 < m) (ds := dss) fun d hd => by
      obtain ⟨a, ha, x, hx, e⟩ := e5 d hd
      obtain ⟨i, hi, rfl⟩ := List.mem_map.mp ha
      have := List.mem_range.mp hi
      exact ⟨(x, 4 + i), e, hx, by show 4 + i < m; omega⟩
    refine ⟨qs, e3, hq, ?_⟩
    simp only [List.length_map, List.length_range] at e4
    omega
  · rintro ρ1 ⟨qs, rfl, hq, hl⟩
    have hu : Up m ([(0, 2), (1, 2), (1, 3)] ++ qs) := fun p hp => by
      rcases List.mem_append.mp hp with hp | hp
      · simp at hp
        rcases hp with rfl | rfl | rfl <;> simp <;> omega
      · exact hq p hp
    have hl2 : ([(0, 2), (1, 2), (1, 3)] ++ qs).length ≤ 10000 := by simp; omega
    exact sx_ret (ev_call (ea2 (ev_v 2) (EvD.to (EvL.toD (ea_lst (ds := prs [(0, 2), (1, 2), (1, 3)]) (es := prs qs) (EvL.toD (el_lst (ea3 (ev_tup (ea2 (ev_int (i := 0)) (ev_int (i := 2)))) (ev_tup (ea2 (ev_int (i := 1)) (ev_int (i := 2)))) (ev_tup (ea2 (ev_int (i := 1)) (ev_int (i := 3))))))) (ev_v 7) (by simp; omega))) (by simp [prs]))) ⟨m, [(0, 2), (1, 2), (1, 3)] ++ qs, rfl, ⟨hu, m60, hl2⟩, rfl⟩).x fun d e => one (by rw [e]; exact netR _ hu hl2)⟩
end Mk
end

section
set_option Elab.async false
set_option linter.all false
set_option maxRecDepth 100000
set_option maxHeartbeats 2000000
namespace Mk
open PySem PySem.Spec PyProof.Rows L2
open Evl (Ex)
open C8 (Cal pe_c pe_gc)
section
variable {te ta tb : TE} {ρ : DE}
theorem ev_int1 {i : Int} (h : EvD te ρ (.int i)) : EvD (tCB (fun xs H Q => (∃ i, xs = [V.int i] ∧ Q (.int i) H) ∨ ∃ k, xs = [V.bl k] ∧ Q (.int (if k then 1 else 0)) H) (tCons te tNil)) ρ (.int i) := ev_cb (ea1 h) fun G H xs ex r Q q => by
 cases r with
 | cons a b =>
   cases b
   cases a
   exact .inl ⟨i, rfl, q _ G H (.refl ex) (.int i)⟩
theorem ev_fdivI {i j : Int} (ha : EvD ta ρ (.int i)) (hb : EvD tb ρ (.int j)) (h : 0 < j ∧ j < 1073741824) : EvD (tOp (rI CDiv fun i j => .int (i / j)) ta tb) ρ (.int (i / j)) := ev_op ha hb (rv_I (C := CDiv) h fun _ => .int _)
theorem ev_modI {i j : Int} (ha : EvD ta ρ (.int i)) (hb : EvD tb ρ (.int j)) (h : 0 < j) : EvD (tOp (rI (fun _ j => 0 < j) fun i j => .int (i % j)) ta tb) ρ (.int (i % j)) := ev_op ha hb (rv_I (C := fun _ j => 0 < j) h fun _ => .int _)
theorem ev_max2 {i j : Int} (ha : EvD ta ρ (.int i)) (hb : EvD tb ρ (.int j)) : EvD (tCB (fun xs H Q => ∃ i j, xs = [V.int i, .int j] ∧ Q (.int (if j > i then j else i)) H) (tCons ta (tCons tb tNil))) ρ (.int (if j > i then j else i)) := ev_cb (ea2 ha hb) fun G H xs ex r Q q => by
 cases r with
 | cons a b =>
   cases b with
   | cons b c =>
     cases c
     cases a
     cases b
     exact ⟨i, j, rfl, q _ G H (.refl ex) (.int _)⟩
theorem ev_min2 {i j : Int} (ha : EvD ta ρ (.int i)) (hb : EvD tb ρ (.int j)) : EvD (tCB (fun xs H Q => ∃ i j, xs = [V.int i, .int j] ∧ Q (.int (if j < i then j else i)) H) (tCons ta (tCons tb tNil))) ρ (.int (if j < i then j else i)) := ev_cb (ea2 ha hb) fun G H xs ex r Q q => by
 cases r with
 | cons a b =>
   cases b with
   | cons b c =>
     cases c
     cases a
     cases b
     exact ⟨i, j, rfl, q _ G H (.refl ex) (.int _)⟩
theorem ev_dblN {k : Nat} (h : EvD te ρ (nat k)) : EvD (tOp (rI CMul fun i j => .int (i * j)) (tC (.int 2)) te) ρ (nat (2 * k)) := (ev_mul ev_int h (.inl ⟨by decide, by decide⟩)).to (by rw [nat, Int.natCast_mul]; rfl)
end
theorem Le.trans : ∀ {ρ1 ρ2 ρ3 : DE}, Le ρ1 ρ2 → Le ρ2 ρ3 → Le ρ1 ρ3
 | [], [], [], _, _ => trivial
 | none :: r, none :: s, _ :: t, h, k => Le.trans (ρ1 := r) (ρ2 := s) (ρ3 := t) h k
 | none :: r, some _ :: s, _ :: t, h, k => Le.trans (ρ1 := r) (ρ2 := s) (ρ3 := t) h k.2
 | some _ :: r, none :: s, _ :: t, h, _ => nomatch h.1
 | some _ :: r, some _ :: s, _ :: t, h, k => ⟨by rw [k.1]; exact h.1, Le.trans (ρ1 := r) (ρ2 := s) (ρ3 := t) h.2 k.2⟩
/-- the twins change places -/
def imT (b k : Nat) : List Nat := List.range b ++ (List.range k).flatMap fun j => [b + 2 * j + 1, b + 2 * j]
/-- the pairs stand between the stays, from a stay to a twin, or from twins to later twins -/
def Gd (b k : Nat) (ps : Ps) : Prop := ∀ p ∈ ps, p.1 < p.2 ∧ p.2 < b + 2 * k ∧ (p.1 < b ∨ (p.1 - b) / 2 < (p.2 - b) / 2)
def cnt (b l : Nat) : Nat → Nat
 | 0 => l
 | j + 1 => cnt b l j + 2 * b + 4 * j
theorem cnt_lt {b l k : Nat} (hb : b ≤ 3) (hl : l ≤ b * b) (hk : b + 2 * k ≤ 8) : cnt b l k < 32 := by
 have hk4 : k ≤ 4 := by omega
 have mono : ∀ j, cnt b l j ≤ cnt b (b * b) j := fun j => by
   induction j with
   | zero => exact hl
   | succ j ih => unfold cnt; omega
 have := mono k
 have : ∀ b, b ≤ 3 → ∀ k, k ≤ 4 → b + 2 * k ≤ 8 → cnt b (b * b) k < 32 := by decide
 have := this b hb k hk4 hk
 omega
theorem os0 : OS 0 [] := ⟨⟨(fun p z => nomatch z), by decide, by decide⟩, rfl⟩
structure TwP (n b k : Nat) (ps : Ps) : Prop where
 b3 : b ≤ 3
 k1 : 1 ≤ k
 m : b + 2 * k ≤ n
 g : Gd b k ps
 l : ps.length < 32
def twD (b k : Nat) (ps : Ps) : Da := .tup [od (b + 2 * k) (red (b + 2 * k) (bw (b + 2 * k) (imT b k) ps)), .tup (nats (imT b k))]
theorem imT_len {b k : Nat} : (imT b k).length = b + 2 * k := by
 unfold imT
 rw [List.length_append, List.length_range]
 congr 1
 induction k with
 | zero => rfl
 | succ k ih => rw [List.range_succ, List.flatMap_append, List.length_append, ih]; simp; omega
theorem imT_succ {b k : Nat} : imT b (k + 1) = imT b k ++ [b + 2 * k + 1, b + 2 * k] := by
 unfold imT
 rw [List.range_succ, List.flatMap_append]
 simp
theorem gN_app {l r : List Nat} {i : Nat} : gN (l ++ r) i = if i < l.length then gN l i else gN r (i - l.length) := by
 unfold gN
 rw [List.getD_eq_getElem?_getD, List.getD_eq_getElem?_getD, List.getD_eq_getElem?_getD]
 split
 · rw [List.getElem?_append_left (by assumption)]
 · rw [List.getElem?_append_right (by omega)]
theorem imT_lo {b k x : Nat} (h : x < b) : gN (imT b k) x = x := by
 unfold imT
 rw [gN_app, List.length_range, if_pos h]
 unfold gN
 rw [List.getD_eq_getElem?_getD, List.getElem?_range h]
 rfl
theorem imT_hi {b : Nat} : ∀ {k j : Nat}, j < k → gN (imT b k) (b + 2 * j) = b + 2 * j + 1 ∧ gN (imT b k) (b + 2 * j + 1) = b + 2 * j
 | 0, _, h => absurd h (Nat.not_lt_zero _)
 | k + 1, j, h => by
   rw [imT_succ, gN_app, gN_app, imT_len]
   by_cases e : j = k
   · subst e
     rw [if_neg (by omega), if_neg (by omega)]
     have e1 : b + 2 * j - (b + 2 * j) = 0 := by omega
     have e2 : b + 2 * j + 1 - (b + 2 * j) = 1 := by omega
     rw [e1, e2]
     exact ⟨rfl, rfl⟩
   · rw [if_pos (by omega), if_pos (by omega)]
     exact imT_hi (by omega)
theorem imT_lt {b k x : Nat} (h : x < b + 2 * k) : gN (imT b k) x < b + 2 * k := by
 by_cases hx : x < b
 · rw [imT_lo hx]; exact h
 · have hj : (x - b) / 2 < k := by omega
   obtain ⟨h1, h2⟩ := imT_hi (b := b) hj
   by_cases e : (x - b) % 2 = 0
   · have : x = b + 2 * ((x - b) / 2) := by omega
     rw [this, h1]
     omega
   · have : x = b + 2 * ((x - b) / 2) + 1 := by omega
     rw [this, h2]
     omega
theorem imT_inv {b k x : Nat} (h : x < b + 2 * k) : gN (imT b k) (gN (imT b k) x) = x := by
 by_cases hx : x < b
 · rw [imT_lo hx, imT_lo hx]
 · have hj : (x - b) / 2 < k := by omega
   obtain ⟨h1, h2⟩ := imT_hi (b := b) hj
   by_cases e : (x - b) % 2 = 0
   · have : x = b + 2 * ((x - b) / 2) := by omega
     rw [this, h1, h2]
   · have : x = b + 2 * ((x - b) / 2) + 1 := by omega
     rw [this, h2, h1]
theorem imT_fix {b k x : Nat} (h : x < b + 2 * k) : gN (imT b k) x = x ↔ x < b := by
 constructor
 · intro e
   refine Nat.lt_of_not_le fun hx => ?_
   have hj : (x - b) / 2 < k := by omega
   obtain ⟨h1, h2⟩ := imT_hi (b := b) hj
   by_cases e2 : (x - b) % 2 = 0
   · have : x = b + 2 * ((x - b) / 2) := by omega
     rw [this, h1] at e
     omega
   · have : x = b + 2 * ((x - b) / 2) + 1 := by omega
     rw [this, h2] at e
     omega
 · exact imT_lo
theorem imT_ge {b k x : Nat} (hx : b ≤ x) (h : x < b + 2 * k) : b ≤ gN (imT b k) x ∧ (gN (imT b k) x - b) / 2 = (x - b) / 2 := by
 have hj : (x - b) / 2 < k := by omega
 obtain ⟨h1, h2⟩ := imT_hi (b := b) hj
 by_cases e2 : (x - b) % 2 = 0
 · have e : x = b + 2 * ((x - b) / 2) := by omega
   rw [← e] at h1
   rw [h1]
   omega
 · have e : x = b + 2 * ((x - b) / 2) + 1 := by omega
   rw [← e] at h2
   rw [h2]
   omega
theorem imT_mono {b k : Nat} {p : Nat × Nat} (h1 : p.1 < p.2) (h2 : p.2 < b + 2 * k) (h3 : p.1 < b ∨ (p.1 - b) / 2 < (p.2 - b) / 2) : gN (imT b k) p.1 < gN (imT b k) p.2 := by
 by_cases hx : p.1 < b
 · rw [imT_lo hx]
   by_cases hy : p.2 < b
   · rw [imT_lo hy]; exact h1
   · have := (imT_ge (k := k) (by omega) h2).1
     omega
 · have a1 := imT_ge (k := k) (show b ≤ p.1 by omega) (by omega)
   have a2 := imT_ge (k := k) (show b ≤ p.2 by omega) h2
   omega
theorem bw_up {b k : Nat} {ps : Ps} (h : Gd b k ps) : Up (b + 2 * k) (bw (b + 2 * k) (imT b k) ps) := fun p hp => by
 have hb : ∀ p ∈ ps ++ imgP (imT b k) ps, p.1 < p.2 ∧ p.2 < b + 2 * k := fun p hp => by
   rcases List.mem_append.mp hp with h' | h'
   · exact ⟨(h p h').1, (h p h').2.1⟩
   · obtain ⟨q, hq, rfl⟩ := List.mem_map.mp h'
     have := h q hq
     exact ⟨imT_mono this.1 this.2.1 this.2.2, imT_lt this.2.1⟩
 exact hb p ((mem_bw fun q hq => ⟨by have := hb q hq; omega, (hb q hq).2⟩).mp hp)
theorem bw_len {m : Nat} {im : List Nat} {ps : Ps} : (bw m im ps).length ≤ m * m := by
 unfold bw
 refine Nat.le_trans (flat_len (n := m) fun a _ => ?_) (by simp)
 rw [List.length_map]
 exact Nat.le_trans (List.length_filter_le _ _) (by simp)
abbrev N__law_twinned : List Str := ["_law_tin", "_law_most_so", "_law_base_so", "_law_twins_so", "_law_pairs_so", "_law_stay_so", "_law_j", "_law_near", "_law_far", "_law_low_so", "_law_i", "_law_kind_so", "_law_images_so", "_law_own"]
theorem sc__law_twinned : FnScope N__law_twinned ["_law_tin", "_law_most_so"] (defScope s__law_twinned) := ⟨rfl, rfl, rfl, by decide +kernel, rfl, by decide +kernel, by decide +kernel⟩
def Pre__law_twinned (ds : List Da) : Prop := ds = [nat 8]
def Post__law_twinned (ds : List Da) (d : Da) : Prop := ∃ b k ps, TwP 8 b k ps ∧ d = twD b k ps
theorem ok__law_twinned {P : Program} {w : World} {K : PySem.W.Frag} {mg : Str → Option Value} {base : Heap} (T : Tx K mg) : Cal P w K mg base 4 "_law_twinned" (spX 50000 Pre__law_twinned Post__law_twinned) [] := T.okT 68 68 rfl rfl sc__law_twinned (fun _ _ _ _ _ _ us hl => match us, hl with | [_, _], _ => rfl) (by rintro ds h; obtain ⟨rfl⟩ := h; rfl) (by decide) fun f cdv A outer s H E hr => ⟨_, (pss_cons (ps_set (i := 2) sc__law_twinned.nd rfl (Or.inl rfl) (pe_ifExp (pt_cmpR op_gt (pe_c (ok__law_take T) hr (by decide) (by rfl) (pa_cons (pv 0) (pa_cons pe_int pa_nil))) pe_int (nomark _)) (pe_c (ok__law_order T) hr (by decide) (by rfl) (pa_cons (pv 0) (pa_cons pe_int pa_nil))) (pe_tup (pa_cons pe_int (pa_cons (pe_tup pa_nil) pa_nil))))) (pss_cons (ps_set (i := 3) sc__law_twinned.nd rfl (Or.inl rfl) (pe_op (k_add K rfl) pe_int (pe_c (ok__law_take T) hr (by decide) (by rfl) (pa_cons (pv 0) (pa_cons (pe_callB (call_max2 rfl) (by rfl) T.b_max (by decide +kernel) (pa_cons pe_int (pa_cons (pe_op op_fdiv (pe_callTy call_int1 (by rfl) T.b_int (by decide +kernel) (pa_cons (pe_op op_sub (pv 1) (pe_ix (k_ix K rfl) (pv 2) pe_int (fun _ _ => rfl))) pa_nil)) pe_int) pa_nil))) pa_nil))))) (pss_cons (ps_par (i := 4) (j := 5) rfl sc__law_twinned.nd rfl rfl (by decide) rfl rfl (pa_cons (pe_callTy (k_list K rfl) (by rfl) T.b_list (by decide +kernel) (pa_cons (pe_ix (k_ix K rfl) (pv 2) pe_int (fun _ _ => rfl)) pa_nil)) (pa_cons (pe_ix (k_ix K rfl) (pv 2) pe_int (fun _ _ => rfl)) pa_nil)) (by rfl)) (pss_cons (ps_for PassesOwn.never rfl (pi_range1 rfl T.b_range (pa_cons (pv 3) pa_nil)) (pg_name (i := 6) sc__law_twinned.nd rfl (Or.inr rfl)) (pss_cons (ps_par (i := 7) (j := 8) rfl sc__law_twinned.nd rfl rfl (by decide) rfl rfl (pa_cons (pe_op (k_add K rfl) (pv 5) (pe_op op_mul pe_int (pv 6))) (pa_cons (pe_op (k_add K rfl) (pe_op (k_add K rfl) (pv 5) (pe_op op_mul pe_int (pv 6))) pe_int) pa_nil)) (by rfl)) (pss_cons (ps_for PassesOwn.never rfl (pi_range1 rfl T.b_range (pa_cons (pv 5) pa_nil)) (pg_name (i := 9) sc__law_twinned.nd rfl (Or.inr rfl)) (pss_one (ps_set (i := 4) sc__law_twinned.nd rfl (Or.inl rfl) (pe_op (k_add K rfl) (pv 4) (pe_lc (own := [("_law_own", 13)]) rfl sc__law_twinned.nd (k_seq K rfl (pe_tup (pa_cons (pv 7) (pa_cons (pv 8) pa_nil)))) (blkOk_by (own := [("_law_own", 13)]) (N := N__law_twinned) (sc := (defScope s__law_twinned)) (by decide +kernel)) (fun _ _ _ _ _ => (pg_name (i := 13) sc__law_twinned.nd rfl (Or.inl rfl))) (fun _ _ _ _ _ => pts_one (PW.pt (pw_and (pt_cmpR (k_eq K rfl hr.units) (pe_op op_mod (pe_op (k_add K rfl) (pv 9) (pv 6)) pe_int) pe_int (nomark _)) (pw_and1 (pt_cmpR (k_eq K rfl hr.units) (pe_c (ok__law_take T) hr (by decide) (by rfl) (pa_cons (pv 0) (pa_cons pe_int pa_nil))) pe_int (nomark _)))))) (fun _ _ _ _ _ => (pe_tup (pa_cons (pv 9) (pa_cons (pv 13) pa_nil))))))))) (pss_one (ps_for PassesOwn.never rfl (pi_range1 rfl T.b_range (pa_cons (pv 6) pa_nil)) (pg_name (i := 10) sc__law_twinned.nd rfl (Or.inl rfl)) (pss_cons (ps_asg (pe_tup (pa_cons (pe_c (ok__law_take T) hr (by decide) (by rfl) (pa_cons (pv 0) (pa_cons pe_int pa_nil))) (pa_cons (pe_op (k_add K rfl) (pv 5) (pe_op op_mul pe_int (pv 10))) pa_nil))) (k_tup K (n := 2) rfl rfl (pgs_cons (pg_name (i := 11) sc__law_twinned.nd rfl (Or.inl rfl)) (pgs_cons (pg_name (i := 9) sc__law_twinned.nd rfl (Or.inr rfl)) pgs_nil)))) (pss_cons (ps_if (pt_cmpR (k_in K rfl) (pv 11) (pe_tup (pa_cons pe_int (pa_cons pe_int pa_nil))) (by rfl)) (pss_one (ps_set (i := 4) sc__law_twinned.nd rfl (Or.inl rfl) (pe_op (k_add K rfl) (pv 4) (pe_lst (pa_cons (pe_tup (pa_cons (pv 9) (pa_cons (pv 7) pa_nil))) (pa_cons (pe_tup (pa_cons (pe_op (k_add K rfl) (pv 9) pe_int) (pa_cons (pv 8) pa_nil))) pa_nil)))))) pss_nil) (pss_one (ps_if (pt_cmpR (k_in K rfl) (pv 11) (pe_tup (pa_cons pe_int (pa_cons pe_int pa_nil))) (by rfl)) (pss_one (ps_set (i := 4) sc__law_twinned.nd rfl (Or.inl rfl) (pe_op (k_add K rfl) (pv 4) (pe_lst (pa_cons (pe_tup (pa_cons (pv 9) (pa_cons (pv 8) pa_nil))) (pa_cons (pe_tup (pa_cons (pe_op (k_add K rfl) (pv 9) pe_int) (pa_cons (pv 7) pa_nil))) pa_nil)))))) pss_nil))))))))) (pss_cons (ps_set (i := 12) sc__law_twinned.nd rfl (Or.inl rfl) (pe_listRg rfl (by rfl) T.b_list (prg_1 (by rfl) T.b_range (pv 5)))) (pss_cons (ps_for PassesOwn.never rfl (pi_range1 rfl T.b_range (pa_cons (pv 3) pa_nil)) (pg_name (i := 6) sc__law_twinned.nd rfl (Or.inr rfl)) (pss_one (ps_set (i := 12) sc__law_twinned.nd rfl (Or.inl rfl) (pe_op (k_add K rfl) (pv 12) (pe_lst (pa_cons (pe_op (k_add K rfl) (pe_op (k_add K rfl) (pv 5) (pe_op op_mul pe_int (pv 6))) pe_int) (pa_cons (pe_op (k_add K rfl) (pv 5) (pe_op op_mul pe_int (pv 6))) pa_nil))))))) (pss_one (ps_ret (pe_tup (pa_cons (pe_c (ok__law_net T) hr (by decide) (by rfl) (pa_cons (pe_op (k_add K rfl) (pv 5) (pe_op op_mul pe_int (pv 3))) (pa_cons (pe_c (ok__law_both_ways T) hr (by decide) (by rfl) (pa_cons (pv 4) (pa_cons (pv 12) pa_nil))) pa_nil))) (pa_cons (pe_callTy (k_tuple K rfl) (by rfl) T.b_tuple (by decide +kernel) (pa_cons (pv 12) pa_nil)) pa_nil))))))))))), fun ds hR => by
  subst hR
  have tk : ∀ {ρ : DE} {te : TE} {b : Nat} {E : XK}, EvD te ρ (nat b) → 1 ≤ b → b ≤ 1000000 → EvX (tCall (spX 1 Pre__law_take Post__law_take) [] E (tCons (tVar 0) (tCons te tNil))) ρ 1 (fun z => ∃ k : Nat, z = nat k ∧ k < b) := fun h h1 h2 => ex_takeN h h1 h2
  refine (sx_seq (w1 := 21000) (w2 := 20000) (N1 := fun z => ∃ b ts, z = [none, some (nat 8), some (od b ts), none, none, none, none, none, none, none, none, none, none, none] ∧ OS b ts ∧ b ≤ 3) (sx_asg (Ψ := fun d => ∃ b ts, d = od b ts ∧ OS b ts ∧ b ≤ 3) (EvX.le (w := 1 + 20000) (ex_if (Φ := fun _ => True) (xb_gtN ((tk (b := 4) ev_int (by decide) (by decide)).im fun d ⟨x, e, hx⟩ => ⟨x, e, by omega⟩)) (fun _ => EvX.le (w := 0 + 20000) (ex_call (E := E0) (Pre := Pre__law_order) (Post := Post__law_order) (exa1 (ev_nat (i := 3)).x) fun ds ⟨d, e, e2⟩ => ⟨3, by rw [e, e2], by decide, by decide⟩) (by decide) fun d ⟨ds, ⟨x, e, e2⟩, n, e3, m, ts, e4, os, h1, h2⟩ => by
      subst e e2
      have e6 : nat 3 = nat n := by simpa using e3
      have e7 : 3 = n := by have := Da.int.inj e6; omega
      subst e7
      exact ⟨m, ts, e4, os, h2⟩) fun _ => (ev_tup (ea2 (ev_int (i := 0)) (ev_tup ea_nil))).x.le (by decide) fun d e => ⟨0, [], e, os0, by decide⟩) (by decide) fun _ z => z) fun d ⟨b, ts, e, z⟩ => ⟨b, ts, by rw [e]; rfl, z⟩) ?_).le (by decide) (fun _ z => z) fun _ z => z
  rintro ρ1 ⟨b, ts, rfl, os, hb⟩
  have lts := os_len os
  refine (sx_seq (w1 := 1) (w2 := 10000) (N1 := fun z => ∃ k, z = [none, some (nat 8), some (od b ts), some (nat k), none, none, none, none, none, none, none, none, none, none] ∧ 1 ≤ k ∧ b + 2 * k ≤ 8) (sx_asg (Ψ := fun d => ∃ k : Nat, d = nat k ∧ 1 ≤ k ∧ b + 2 * k ≤ 8) (EvX.le (w := 0 + 1) (ex_op (ev_nat (i := 1)).x (tk (b := (8 - b) / 2) ((ev_max2 (ev_int (i := 1)) (ev_fdivI (ev_int1 (ev_sub (ev_v 1) (ev_ixTN (i := 0) (ev_v 2) ev_nat rfl))) (ev_int (i := 2)) (by decide))).to ?_) (by omega) (by omega)) (Ψ := fun d => ∃ k : Nat, d = nat k ∧ 1 ≤ k ∧ b + 2 * k ≤ 8) fun d e e1 ⟨x, e2, hx⟩ => by subst e1 e2; exact ⟨nat (1 + x), rv_addN, 1 + x, rfl, by omega, by omega⟩) (by decide) fun _ z => z) fun d ⟨k, e, z⟩ => ⟨k, by rw [e]; rfl, z⟩) ?_).le (by decide) (fun _ z => z) fun _ z => z
  · have hx : (((8 : Nat) : Int) - (b : Int)) / 2 = (((8 - b) / 2 : Nat) : Int) := by omega
    rw [hx, nat]
    congr 1
    split <;> omega
  rintro ρ1 ⟨k, rfl, k1, hm⟩
  have k4 : k ≤ 4 := by omega
  have hc := cnt_lt hb lts hm
  let X : Ps → DE := fun ps => [none, some (nat 8), some (od b ts), some (nat k), some (.lst (prs ps)), some (nat b), none, none, none, none, none, none, none, none]
  refine (sx_seq (w1 := 0) (w2 := 9000) (N1 := fun z => z = X ts) (sx_par (Ψ1 := fun d => d = .lst (prs ts)) (Ψ2 := fun d => d = nat b) (exa2 (EvL.toD (el_listOf (.inr (ev_ixTN (i := 1) (ev_v 2) ev_nat rfl)))).x (ev_ixTN (i := 0) (ev_v 2) ev_nat rfl).x) fun d e e1 e2 => by rw [e1, e2]; rfl) ?_).le (by decide) (fun _ z => z) fun _ z => z
  rintro ρ1 rfl
  let I : List Nat → DE → Prop := fun pre ρ => ∃ ps, Le (X ps) ρ ∧ Gd b k ps ∧ ps.length ≤ cnt b ts.length pre.length
  refine (sx_seq (w1 := k * 50) (w2 := 100) (N1 := fun z => I (List.range k) z) (StX.le (w := (List.range k).length * 50) (sx_for (as := List.range k) (en := nat) (js := [6]) (w := 50) (I := I) ((ei_rng1 (n := (k : Int)) (ea1 (ev_v 3)) (by omega) (by omega)).to (by simp)) ⟨ts, Le.refl _, ?_, Nat.le_refl _⟩ ?_) (by simp) (fun _ z => z) fun _ z => z) ?_).le (by omega) (fun _ z => z) fun _ z => z
  · intro p hp
    have := os.sm.up p hp
    exact ⟨this.1, by omega, by omega⟩
  · rintro pre j post ρ1 e ⟨ps, l, gd0, ln⟩
    have e' : (List.range k).map (fun x => x) = pre ++ j :: post := by rw [List.map_id']; exact e
    obtain ⟨q1, q2, q3⟩ := pre_range e'
    have hj : j = pre.length := q3
    have hjk : j < k := by omega
    refine ⟨ρ1.set 6 (some (nat j)), tg_name, StX.inn ?_ (l.set 6)⟩
    let Y : Ps → DE := fun ps => [none, some (nat 8), some (od b ts), some (nat k), some (.lst (prs ps)), some (nat b), some (nat j), some (nat (b + 2 * j)), some (nat (b + 2 * j + 1)), none, none, none, none, none]
    refine (sx_seq (w1 := 0) (w2 := 30) (N1 := fun z => z = Y ps) (sx_par (Ψ1 := fun d => d = nat (b + 2 * j)) (Ψ2 := fun d => d = nat (b + 2 * j + 1)) (exa2 (ea_nat (ev_v 5) (ev_dblN (ev_v 6))).x (ea_nat (j := 1) (ea_nat (ev_v 5) (ev_dblN (ev_v 6))) ev_int).x) fun d e e1 e2 => by rw [e1, e2]; rfl) ?_).le (by decide) (fun _ z => z) fun _ z => z
    rintro ρ2 rfl
    have hcm : ∀ i, i ≤ j → cnt b ts.length j + 2 * b + 4 * i ≤ 100 := fun i hi => by
      have : ∀ n, n ≤ k → cnt b ts.length n ≤ cnt b ts.length k := fun n hn => by
        have : ∀ d, cnt b ts.length n ≤ cnt b ts.length (n + d) := fun d => by
          induction d with
          | zero => exact Nat.le_refl _
          | succ d ih =>
            have e : cnt b ts.length (n + (d + 1)) = cnt b ts.length (n + d) + 2 * b + 4 * (n + d) := rfl
            omega
        have := this (k - n)
        rwa [show n + (k - n) = k by omega] at this
      have := this j (by omega)
      omega
    let I1 : List Nat → DE → Prop := fun pre1 ρ => ∃ ps1, Le (Y ps1) ρ ∧ Gd b k ps1 ∧ ps1.length ≤ cnt b ts.length j + 2 * pre1.length
    refine (sx_seq (w1 := b * 4) (w2 := 18) (N1 := fun z => I1 (List.range b) z) (StX.le (w := (List.range b).length * 4) (sx_for (as := List.range b) (en := nat) (js := [9]) (w := 4) (I := I1) ((ei_rng1 (n := (b : Int)) (ea1 (ev_v 5)) (by omega) (by omega)).to (by simp)) ⟨ps, Le.refl _, gd0, by rw [hj]; exact ln⟩ ?_) (by simp) (fun _ z => z) fun _ z => z) ?_).le (by omega) (fun _ z => z) fun _ z => z
    · rintro pre1 low post1 ρ3 e3 ⟨ps1, l1, gd1, ln1⟩
      have hlow : low < b := by
        have : low ∈ List.range b := by rw [e3]; simp
        simpa using this
      have hpre1 : pre1.length ≤ 3 := by
        have := congrArg List.length e3
        simp at this
        omega
      have hcj := hcm 0 (by omega)
      refine ⟨ρ3.set 9 (some (nat low)), tg_name, StX.inn ?_ (l1.set 9)⟩
      refine (sx_asg (w := 0 + [b + 2 * j, b + 2 * j + 1].length * (1 + 0)) (Ψ := fun d => ∃ qs : Ps, d = .lst (prs (ps1 ++ qs)) ∧ Gd b k qs ∧ qs.length ≤ 2) (ex_op (ev_v 4 (d := .lst (prs ps1))).x (ex_lc (w1 := 1) (as := [b + 2 * j, b + 2 * j + 1]) (en := nat) (ρ' := fun a => [none, some (nat 8), some (od b ts), some (nat k), some (.lst (prs ps1)), some (nat b), some (nat j), some (nat (b + 2 * j)), some (nat (b + 2 * j + 1)), some (nat low), none, none, none, some (nat a)]) (Φ := fun _ _ => True) (Ψ := fun a d => d = pr (low, a))
        (ei_seqT ((ev_tup (ea2 (ev_v 7) (ev_v 8))).to rfl)) (fun _ _ => tg_name) (fun a _ => EvXB.le (w := 0 + 1) (xb_and (Φ1 := fun _ => True) (Φ2 := fun _ => True) ((eb_val (ev_eqA (j := 0) (ev_modI (ea_int (ev_v 9) (ev_v 6)) (ev_int (i := 2)) (by decide)) ev_int)).x.le (Nat.le_refl _) fun _ _ => trivial) (xb_eqN ((tk (b := 2) ev_int (by decide) (by decide)).im fun d ⟨x, e, hx⟩ => ⟨x, e, by omega⟩))) (by decide) fun _ _ => trivial) (fun a _ _ => (ev_tup (ea2 (ev_v 9) (ev_v 13))).x) (by simp)) fun d e e1 ⟨ds, e2, e4, e5⟩ => ?_) fun d ⟨qs, e1, e2, e4⟩ => ?_).le (by simp) (fun _ z => z) fun _ z => z
      · subst e1 e2
        obtain ⟨qs, rfl, hq⟩ := prs_of (C := fun q => q.1 < q.2 ∧ q.2 < b + 2 * k ∧ (q.1 < b ∨ (q.1 - b) / 2 < (q.2 - b) / 2)) (ds := ds) fun d hd => by
          obtain ⟨a, ha, e⟩ := e5 d hd
          have ha' : a = b + 2 * j ∨ a = b + 2 * j + 1 := by simpa using ha
          exact ⟨(low, a), e, by show low < a; omega, by show a < b + 2 * k; omega, .inl hlow⟩
        have l2 : qs.length ≤ 2 := by simpa using e4
        exact ⟨.lst (prs ps1 ++ prs qs), rv_cat (by rw [List.length_map, List.length_map]; omega), qs, by simp [prs], hq, l2⟩
      · subst e1
        refine ⟨ps1 ++ qs, ⟨rfl, rfl, rfl, rfl, rfl, rfl, rfl, rfl, trivial⟩, fun p hp => (List.mem_append.mp hp).elim (gd1 p) (e2 p), ?_⟩
        simp only [List.length_append, List.length_cons, List.length_nil]
        omega
    rintro ρ2 ⟨ps1, l1, gd1, ln1⟩
    refine StX.inn ?_ l1
    rw [List.length_range] at ln1
    let I2 : List Nat → DE → Prop := fun pre2 ρ => ∃ ps2, Le (Y ps2) ρ ∧ Gd b k ps2 ∧ ps2.length ≤ cnt b ts.length j + 2 * b + 4 * pre2.length
    refine (StX.le (w := (List.range j).length * 1) (sx_for (as := List.range j) (en := nat) (js := [10]) (w := 1) (I := I2) ((ei_rng1 (n := (j : Int)) (ea1 (ev_v 6)) (by omega) (by omega)).to (by simp)) ⟨ps1, Le.refl _, gd1, ln1⟩ ?_) (by simp; omega) ?_ fun _ z => z)
    · rintro pre2 i post2 ρ3 e3 ⟨ps2, l2, gd2, ln2⟩
      have hi : i < j := by
        have : i ∈ List.range j := by rw [e3]; simp
        simpa using this
      have hpre2 : pre2.length < j := by
        have := congrArg List.length e3
        simp at this
        omega
      have hcj := hcm pre2.length (by omega)
      refine ⟨ρ3.set 10 (some (nat i)), tg_name, StX.inn ?_ (l2.set 10)⟩
      let Z : Nat → Ps → DE := fun q ps => [none, some (nat 8), some (od b ts), some (nat k), some (.lst (prs ps)), some (nat b), some (nat j), some (nat (b + 2 * j)), some (nat (b + 2 * j + 1)), some (nat (b + 2 * i)), some (nat i), some (nat q), none, none]
      refine (sx_seq (w1 := 1) (w2 := 0) (N1 := fun z => ∃ q, z = Z q ps2) (sx_asgT (w := 1) (js := [11, 9]) (ρ' := fun d => match d with | .tup [x, y] => [none, some (nat 8), some (od b ts), some (nat k), some (.lst (prs ps2)), some (nat b), some (nat j), some (nat (b + 2 * j)), some (nat (b + 2 * j + 1)), some y, some (nat i), some x, none, none] | _ => []) (Ψ := fun d => ∃ q : Nat, d = .tup [nat q, nat (b + 2 * i)]) (EvX.le (w := 1 + 0) (ex_tup (Φ := fun ds => ∃ d e, ds = [d, e] ∧ (∃ q : Nat, d = nat q) ∧ e = nat (b + 2 * i)) (exa2 ((tk (b := 4) ev_int (by decide) (by decide)).im fun d ⟨q, e, _⟩ => ⟨q, e⟩) (ea_nat (ev_v 5) (ev_dblN (ev_v 10))).x) fun ds ⟨d, e, h, _⟩ => by rw [h]; exact Nat.le_of_ble_eq_true rfl) (by decide) fun d ⟨ds, h1, d', e', h2, ⟨q, h3⟩, h5⟩ => ⟨q, by rw [h1, h2, h3, h5]⟩)
        (fun d ⟨q, e⟩ => by subst e; exact tg_tup2) fun d ⟨q, e⟩ => by subst e; exact ⟨q, rfl⟩) ?_).le (by decide) (fun _ z => z) fun _ z => z
      rintro ρ4 ⟨q, rfl⟩
      have gq : ∀ (c d : Nat), c ≤ 1 → d ≤ 1 → (b + 2 * i + c) < (b + 2 * j + d) ∧ (b + 2 * j + d) < b + 2 * k ∧ ((b + 2 * i + c) < b ∨ (b + 2 * i + c - b) / 2 < (b + 2 * j + d - b) / 2) := fun c d hc hd => ⟨by omega, by omega, .inr (by omega)⟩
      have A1 : Gd b k [(b + 2 * i, b + 2 * j), (b + 2 * i + 1, b + 2 * j + 1)] := fun p hp => by
        have : p = (b + 2 * i, b + 2 * j) ∨ p = (b + 2 * i + 1, b + 2 * j + 1) := by simpa using hp
        rcases this with rfl | rfl
        · exact gq 0 0 (by decide) (by decide)
        · exact gq 1 1 (by decide) (by decide)
      have A2 : Gd b k [(b + 2 * i, b + 2 * j + 1), (b + 2 * i + 1, b + 2 * j)] := fun p hp => by
        have : p = (b + 2 * i, b + 2 * j + 1) ∨ p = (b + 2 * i + 1, b + 2 * j) := by simpa using hp
        rcases this with rfl | rfl
        · exact gq 0 1 (by decide) (by decide)
        · exact gq 1 0 (by decide) (by decide)
      have gap : ∀ {p q : Ps}, Gd b k p → Gd b k q → Gd b k (p ++ q) := fun h1 h2 x hx => (List.mem_append.mp hx).elim (h1 x) (h2 x)
      refine (sx_seq (w1 := 0) (w2 := 0) (N1 := fun z => ∃ ps3, z = Z q ps3 ∧ Gd b k ps3 ∧ ps3.length ≤ ps2.length + 2) (StX.le (w := 0 + 0) (sx_if (Φ := fun _ => True) ((eb_val (ev_inTN (ns := [1, 3]) (ev_v 11) ((ev_tup (ea2 (ev_int (i := 1)) (ev_int (i := 3)))).to rfl))).x.le (Nat.le_refl _) fun _ _ => trivial)
        (fun _ => sx_asg (Ψ := fun d => d = .lst (prs (ps2 ++ [(b + 2 * i, b + 2 * j), (b + 2 * i + 1, b + 2 * j + 1)]))) (EvD.x (EvD.to (EvL.toD (ea_lst (ds := prs ps2) (es := prs [(b + 2 * i, b + 2 * j), (b + 2 * i + 1, b + 2 * j + 1)]) (ev_v 4) (EvL.toD (el_lst (ea2 (ev_tup (ea2 (ev_v 9) (ev_v 7))) (ev_tup (ea2 (ea_nat (j := 1) (ev_v 9) ev_int) (ev_v 8)))))) (by simp; omega))) (by simp [prs]))) fun d e => ⟨_, by rw [e]; rfl, gap gd2 A1, by simp⟩)
        fun _ => sx_next ⟨ps2, rfl, gd2, by omega⟩) (by decide) (fun _ z => z) fun _ z => z) ?_).le (by decide) (fun _ z => z) fun _ z => z
      rintro ρ5 ⟨ps3, rfl, gd3, ln3⟩
      refine StX.le (w := 0 + 0) (sx_if (Φ := fun _ => True) ((eb_val (ev_inTN (ns := [2, 3]) (ev_v 11) ((ev_tup (ea2 (ev_int (i := 2)) (ev_int (i := 3)))).to rfl))).x.le (Nat.le_refl _) fun _ _ => trivial)
        (fun _ => sx_asg (Ψ := fun d => d = .lst (prs (ps3 ++ [(b + 2 * i, b + 2 * j + 1), (b + 2 * i + 1, b + 2 * j)]))) (EvD.x (EvD.to (EvL.toD (ea_lst (ds := prs ps3) (es := prs [(b + 2 * i, b + 2 * j + 1), (b + 2 * i + 1, b + 2 * j)]) (ev_v 4) (EvL.toD (el_lst (ea2 (ev_tup (ea2 (ev_v 9) (ev_v 8))) (ev_tup (ea2 (ea_nat (j := 1) (ev_v 9) ev_int) (ev_v 7)))))) (by simp; omega))) (by simp [prs]))) fun d e => by
          subst e
          refine ⟨_, ⟨rfl, rfl, rfl, rfl, rfl, rfl, rfl, rfl, trivial⟩, gap gd3 A2, ?_⟩
          simp only [List.length_append, List.length_cons, List.length_nil]
          omega)
        fun _ => sx_next ⟨ps3, ⟨rfl, rfl, rfl, rfl, rfl, rfl, rfl, rfl, trivial⟩, gd3, by simp only [List.length_append, List.length_cons, List.length_nil]; omega⟩) (by decide) (fun _ z => z) fun _ z => z
    · rintro ρ3 ⟨ps2, l2, gd2, ln2⟩
      rw [List.length_range] at ln2
      refine ⟨ps2, Le.trans (show Le (X ps2) (Y ps2) from ⟨rfl, rfl, rfl, rfl, rfl, trivial⟩) l2, gd2, ?_⟩
      rw [List.length_append]
      show ps2.length ≤ cnt b ts.length (pre.length + 1)
      unfold cnt
      rw [← hj]
      omega
  · rintro ρ1 ⟨ps, l, gd0, ln⟩
    refine StX.inn ?_ l
    rw [List.length_range] at ln
    let X2 : Nat → DE := fun q => [none, some (nat 8), some (od b ts), some (nat k), some (.lst (prs ps)), some (nat b), none, none, none, none, none, none, some (.lst (nats (imT b q))), none]
    refine (sx_seq (w1 := 0) (w2 := 0) (N1 := fun z => z = X2 0) (sx_asg (Ψ := fun d => d = .lst (nats (List.range b))) (EvL.toD (el_listRg (ev_v 5) (by omega))).x fun d e => by rw [e]; simp only [X2, imT, List.range_zero, List.flatMap_nil, List.append_nil]; rfl) ?_).le (by decide) (fun _ z => z) fun _ z => z
    rintro ρ2 rfl
    refine (sx_seq (w1 := (List.range k).length * 0) (w2 := 0) (N1 := fun z => Le (X2 k) z) (StX.le (sx_for (as := List.range k) (en := nat) (js := [6]) (w := 0) (I := fun pre ρ => Le (X2 pre.length) ρ) ((ei_rng1 (n := (k : Int)) (ea1 (ev_v 3)) (by omega) (by omega)).to (by simp)) (Le.refl _) ?_) (Nat.le_refl _) (fun ρ h => by rw [List.length_range] at h; exact h) fun _ z => z) ?_).le (by simp) (fun _ z => z) fun _ z => z
    · rintro pre j post ρ3 e l3
      have e' : (List.range k).map (fun x => x) = pre ++ j :: post := by rw [List.map_id']; exact e
      obtain ⟨q1, q2, q3⟩ := pre_range e'
      refine ⟨ρ3.set 6 (some (nat j)), tg_name, StX.inn ?_ (l3.set 6)⟩
      have hl : (imT b pre.length).length ≤ 100 := by rw [imT_len]; omega
      refine sx_asg (Ψ := fun d => d = .lst (nats (imT b (pre.length + 1)))) (EvD.x (EvD.to (EvL.toD (ea_lst (ds := nats (imT b pre.length)) (es := nats [b + 2 * j + 1, b + 2 * j]) (ev_v 12) (EvL.toD (el_lst (ea2 (ea_nat (j := 1) (ea_nat (ev_v 5) (ev_dblN (ev_v 6))) ev_int) (ea_nat (ev_v 5) (ev_dblN (ev_v 6)))))) (by simp; omega))) ?_)) fun d e => ?_
      · rw [imT_succ, ← (show j = pre.length from q3)]
        simp
      · subst e
        rw [List.length_append]
        exact ⟨rfl, rfl, rfl, rfl, rfl, rfl, trivial⟩
    rintro ρ2 l2
    refine StX.inn ?_ l2
    have il : (imT b k).length = b + 2 * k := imT_len
    have u := bw_up gd0
    have bl := bw_len (m := b + 2 * k) (im := imT b k) (ps := ps)
    have bl2 : (b + 2 * k) * (b + 2 * k) ≤ 64 := Nat.mul_le_mul hm hm
    refine sx_ret (Ψ := fun d => d = twD b k ps) (ev_tup (ea2 (ev_call (ea2 (ea_nat (ev_v 5) (ev_dblN (ev_v 3))) (ev_call (ea2 (ev_v 4) (ev_v 12)) ⟨b + 2 * k, ps, imT b k, rfl, by omega, by omega, il, ?_, ?_, rfl⟩)) ⟨b + 2 * k, _, rfl, ⟨u, by omega, by omega⟩, rfl⟩) (ev_cb (ea1 (ev_v 12)) rc_tupL))).x fun d e => ⟨b, k, ps, ⟨hb, k1, hm, gd0, by omega⟩, e⟩
    · intro x hx
      obtain ⟨i, hi, rfl⟩ := mem_gN hx
      exact imT_lt (by rw [← il]; exact hi)
    · intro p hp
      have := gd0 p hp
      omega⟩
end Mk
end

section
set_option Elab.async false
set_option linter.all false
set_option maxRecDepth 100000
/-! what the twins' net obeys -/
namespace Mk
section
variable {b k : Nat} {ps : Ps}
def tm (b k : Nat) : Nat := b + 2 * k
def tN (b k : Nat) (ps : Ps) : Ps := bw (b + 2 * k) (imT b k) ps
def tT (b k : Nat) (ps : Ps) : Ps := red (b + 2 * k) (bw (b + 2 * k) (imT b k) ps)
theorem t_os (g : Gd b k ps) (h : b + 2 * k ≤ 60) : OS (b + 2 * k) (tT b k ps) := os_net (bw_up g) h (Nat.le_trans bw_len (Nat.le_trans (Nat.mul_le_mul h h) (by decide)))
theorem t_mem (g : Gd b k ps) {x : Nat × Nat} : x ∈ bw (b + 2 * k) (imT b k) ps ↔ x ∈ ps ++ imgP (imT b k) ps := mem_bw fun p hp => by
  rcases List.mem_append.mp hp with h' | h'
  · have := g p h'
    omega
  · obtain ⟨q, hq, rfl⟩ := List.mem_map.mp h'
    have := g q hq
    exact ⟨imT_lt (by omega), imT_lt this.2.1⟩
theorem t_step (g : Gd b k ps) {x y : Nat} (h : (x, y) ∈ bw (b + 2 * k) (imT b k) ps) : (gN (imT b k) x, gN (imT b k) y) ∈ bw (b + 2 * k) (imT b k) ps := by
  rw [t_mem g] at h ⊢
  rcases List.mem_append.mp h with h | h
  · exact List.mem_append_right _ (List.mem_map.mpr ⟨_, h, rfl⟩)
  · obtain ⟨q, hq, e⟩ := List.mem_map.mp h
    have := g q hq
    have e1 := congrArg Prod.fst e
    have e2 := congrArg Prod.snd e
    simp only at e1 e2
    subst e1 e2
    rw [imT_inv (by omega), imT_inv (by omega)]
    exact List.mem_append_left _ hq
theorem t_reach (g : Gd b k ps) {x y : Nat} : Reach (tT b k ps) x y ↔ Reach (bw (b + 2 * k) (imT b k) ps) x y := reach_red (bw_up g)
theorem t_mir (g : Gd b k ps) : IsMir (b + 2 * k) (tT b k ps) (imT b k) := by
  refine ⟨imT_len, fun x hx => imT_lt hx, fun x hx => imT_inv hx, fun x y hx hy r => ?_, fun x y hx hy r e => ?_⟩
  · rw [t_reach g] at r ⊢
    clear hx hy
    induction r with
    | refl => exact .refl _
    | step e _ ih => exact .step (t_step g e) ih
  · have := (imT_fix hy).mp e
    have := ((t_reach g).mp r).le (bw_up g)
    exact imT_lo (by omega)
theorem t_stay : stay (imT b k) = List.range b := by
  refine eq_of_lt stay_asc List.pairwise_lt_range fun x => ?_
  rw [mem_stay, List.mem_range, imT_len]
  constructor
  · rintro ⟨h, e⟩
    exact (imT_fix h).mp e
  · intro h
    exact ⟨by omega, imT_lo h⟩
theorem pl_range {x : Nat} (h : x < b) : pl (List.range b) x = x := by
  have := pl_gn (row := List.range b) List.pairwise_lt_range (i := x) (by simpa using h)
  have e : gn (List.range b) x = x := by
    unfold gn
    rw [List.getD_eq_getElem?_getD, List.getElem?_range h]
    rfl
  rwa [e] at this
theorem gn_range {x : Nat} (h : x < b) : gn (List.range b) x = x := by
  unfold gn
  rw [List.getD_eq_getElem?_getD, List.getElem?_range h]
  rfl
end
/-- the part of the first b pieces -/
theorem part_reach {m b : Nat} {ts : Ps} (u : Up m ts) {x y : Nat} (hx : x < b) (hy : y < b) : Reach (red b (partP m ts (List.range b))) x y ↔ Reach ts x y := by
  have ha : (List.range b).Pairwise (· < ·) := List.pairwise_lt_range
  have hl : (List.range b).length = b := List.length_range
  have up0 := partP_up (l := List.range b) u ha
  rw [hl] at up0
  rw [reach_red up0]
  constructor
  · intro r
    have z := cps_reach (ps := kept m ts (List.range b)) ha kept_ends (kept_up u) r
    rw [gn_range hx, gn_range hy] at z
    have : ∀ {x y}, Reach (kept m ts (List.range b)) x y → Reach ts x y := fun h => by
      induction h with
      | refl => exact .refl _
      | step e _ ih => exact ((mem_prsIn u).mp (List.mem_filter.mp e).1).2.trans ih
    exact this z
  · intro r
    by_cases e : x = y
    · subst e; exact .refl _
    · refine .one (List.mem_map.mpr ⟨(x, y), List.mem_filter.mpr ⟨(mem_prsIn u).mpr ⟨e, r⟩, ?_⟩, ?_⟩)
      · simp [hx, hy]
      · rw [pl_range hx, pl_range hy]
section
variable {m b : Nat} {ts : Ps} {im : List Nat}
/-- the pieces below b stay, all others move -/
structure Pre0 (m b : Nat) (ts : Ps) (im : List Nat) : Prop where
  u : Up m ts
  M : IsMir m ts im
  bm : b ≤ m
  st : ∀ x, x < m → (gN im x = x ↔ x < b)
def Even (m : Nat) (im : List Nat) (S : Nat) : Prop := ∀ x, x < m → S.testBit x = true → S.testBit (gN im x) = true
theorem tb_up {m : Nat} {ts : Ps} (u : Up m ts) {p x : Nat} (hx : x < m) : (bs (up m ts p)).testBit x = true ↔ Reach ts p x := by
  rw [tb_bs up_asc, decide_eq_true_iff, mem_up u]
  exact ⟨fun h => h.2, fun h => ⟨hx, h⟩⟩
theorem tb_bite {m : Nat} {ts : Ps} (u : Up m ts) {S p x : Nat} (hx : x < m) : (mns S (bs (up m ts p))).testBit x = true ↔ S.testBit x = true ∧ ¬ Reach ts p x := by
  rw [tb_mns, Bool.and_eq_true_iff, Bool.not_eq_true', ← Bool.not_eq_true, tb_up u hx]
theorem worth_even (P : Pre0 m b ts im) : ∀ n S, S ≤ n → S < 2 ^ m → Even m im S → gw m ts S = gw b (red b (partP m ts (List.range b))) (S % 2 ^ b) := by
  have u := P.u
  have M := P.M
  have ha : (List.range b).Pairwise (· < ·) := List.pairwise_lt_range
  have hl : (List.range b).length = b := List.length_range
  have up0 := partP_up (l := List.range b) u ha
  rw [hl] at up0
  have uq := red_up up0
  generalize hq : red b (partP m ts (List.range b)) = qs at uq
  have rq : ∀ {x y}, x < b → y < b → (Reach qs x y ↔ Reach ts x y) := fun hx hy => by rw [← hq]; exact part_reach u hx hy
  intro n
  induction n with
  | zero =>
    intro S h _ _
    have : S = 0 := by omega
    subst this
    simp [gw, gW_zero]
  | succ n ih =>
    intro S hS hlt ev
    have tlt : ∀ {x}, S.testBit x = true → x < m := fun {x} t => Nat.lt_of_not_le fun z => by rw [tb_big hlt z] at t; cases t
    rw [gw_eq u]
    have spec := mex_spec (((List.range b).filter fun p => (S % 2 ^ b).testBit p).map fun p => gw b qs (mns (S % 2 ^ b) (bs (up b qs p))))
    rw [← gw_eq uq] at spec
    obtain ⟨s1, s2, _⟩ := spec
    -- a stay's bite
    have stay : ∀ p, p < b → S.testBit p = true → gw m ts (mns S (bs (up m ts p))) = gw b qs (mns (S % 2 ^ b) (bs (up b qs p))) := fun p hp t => by
      have hpm : p < m := Nat.lt_of_lt_of_le hp P.bm
      have l := mns_lt t (self_up u hpm)
      have e : mns S (bs (up m ts p)) % 2 ^ b = mns (S % 2 ^ b) (bs (up b qs p)) := by
        refine Nat.eq_of_testBit_eq fun x => ?_
        rw [Nat.testBit_mod_two_pow, Bool.eq_iff_iff, Bool.and_eq_true_iff, decide_eq_true_iff]
        by_cases hx : x < b
        · have hxm : x < m := Nat.lt_of_lt_of_le hx P.bm
          rw [tb_bite u hxm, tb_bite uq hx, Nat.testBit_mod_two_pow, rq hp hx]
          simp [hx]
        · rw [tb_mns (b := S % 2 ^ b), Nat.testBit_mod_two_pow]
          simp [hx]
      rw [← e]
      refine ih _ (by omega) (by omega) fun x hx tx => ?_
      rw [tb_bite u hx] at tx
      rw [tb_bite u (M.lt x hx)]
      refine ⟨ev x hx tx.1, fun r => tx.2 ?_⟩
      have := M.ord _ _ hpm (M.lt x hx) r
      rwa [M.inv x hx, (P.st p hpm).mpr hp] at this
    -- a mover's bite
    have move : ∀ p, b ≤ p → S.testBit p = true → gw m ts (mns S (bs (up m ts p))) ≠ gw b qs (S % 2 ^ b) := fun p hp t => by
      have hpm := tlt t
      have hne : gN im p ≠ p := fun z => by have := (P.st p hpm).mp z; omega
      have hp2 := M.lt p hpm
      have l := mns_lt t (self_up u hpm)
      have t1 : (mns S (bs (up m ts p))).testBit (gN im p) = true := (tb_bite u hp2).mpr ⟨ev p hpm t, fun r => by
        have r2 := M.ord _ _ hpm hp2 r
        rw [M.inv p hpm] at r2
        exact hne (r2.anti u r)⟩
      have l2 := mns_lt t1 (self_up u hp2)
      have e2 : gw m ts (mns (mns S (bs (up m ts p))) (bs (up m ts (gN im p)))) = gw b qs (S % 2 ^ b) := by
        have e : mns (mns S (bs (up m ts p))) (bs (up m ts (gN im p))) % 2 ^ b = S % 2 ^ b := by
          refine Nat.eq_of_testBit_eq fun x => ?_
          rw [Nat.testBit_mod_two_pow, Nat.testBit_mod_two_pow, Bool.eq_iff_iff, Bool.and_eq_true_iff, Bool.and_eq_true_iff, decide_eq_true_iff]
          refine and_congr_right fun hx => ?_
          have hxm : x < m := Nat.lt_of_lt_of_le hx P.bm
          rw [tb_bite u hxm, tb_bite u hxm]
          have q1 : ¬ Reach ts p x := fun r => by have := r.le u; omega
          have q2 : ¬ Reach ts (gN im p) x := fun r => by
            have r2 := M.fix _ _ hp2 hxm r ((P.st x hxm).mpr hx)
            rw [M.inv p hpm] at r2
            exact hne r2.symm
          exact ⟨fun h => h.1.1, fun h => ⟨⟨h, q1⟩, q2⟩⟩
        rw [← e]
        refine ih _ (by omega) (by omega) fun x hx tx => ?_
        rw [tb_bite u hx, tb_bite u hx] at tx
        rw [tb_bite u (M.lt x hx), tb_bite u (M.lt x hx)]
        refine ⟨⟨ev x hx tx.1.1, fun r => tx.2 ?_⟩, fun r => tx.1.2 ?_⟩
        · have := M.ord _ _ hpm (M.lt x hx) r
          rwa [M.inv x hx] at this
        · have := M.ord _ _ hp2 (M.lt x hx) r
          rwa [M.inv x hx, M.inv p hpm] at this
      rw [gw_eq u, ← e2]
      intro z
      have s := (mex_spec (((List.range m).filter fun x => (mns S (bs (up m ts p))).testBit x).map fun x => gw m ts (mns (mns S (bs (up m ts p))) (bs (up m ts x))))).1
      rw [z] at s
      exact s (List.mem_map.mpr ⟨gN im p, List.mem_filter.mpr ⟨List.mem_range.mpr hp2, t1⟩, rfl⟩)
    refine mex_unique (fun z => ?_) fun j hj => ?_
    · obtain ⟨p, hp, e⟩ := List.mem_map.mp z
      have hp' := List.mem_filter.mp hp
      by_cases hpb : p < b
      · rw [stay p hpb hp'.2] at e
        refine s1 (List.mem_map.mpr ⟨p, List.mem_filter.mpr ⟨List.mem_range.mpr hpb, ?_⟩, e⟩)
        rw [Nat.testBit_mod_two_pow, hp'.2]
        simp [hpb]
      · exact move p (by omega) hp'.2 e
    · obtain ⟨p, hp, e⟩ := List.mem_map.mp (s2 j hj)
      have hp' := List.mem_filter.mp hp
      have hpb := List.mem_range.mp hp'.1
      have t : S.testBit p = true := by
        have := hp'.2
        rw [Nat.testBit_mod_two_pow] at this
        exact (Bool.and_eq_true_iff.mp this).2
      exact List.mem_map.mpr ⟨p, List.mem_filter.mpr ⟨List.mem_range.mpr (Nat.lt_of_lt_of_le hpb P.bm), t⟩, by rw [stay p hpb t]; exact e⟩
theorem worth_full (P : Pre0 m b ts im) : gw m ts (2 ^ m - 1) = gw b (red b (partP m ts (List.range b))) (2 ^ b - 1) := by
  have e : (2 ^ m - 1) % 2 ^ b = 2 ^ b - 1 := by
    refine Nat.eq_of_testBit_eq fun x => ?_
    rw [Nat.testBit_mod_two_pow, Nat.testBit_two_pow_sub_one, Nat.testBit_two_pow_sub_one, Bool.eq_iff_iff]
    simp
    intro h
    exact Nat.lt_of_lt_of_le h P.bm
  have := worth_even P _ (2 ^ m - 1) (Nat.le_refl _) (by have := Nat.two_pow_pos m; omega) fun x hx _ => by
    rw [Nat.testBit_two_pow_sub_one]
    exact decide_eq_true (P.M.lt x hx)
  rw [this, e]
/-! the play -/
theorem mem_bite {pcs : List Nat} (u : Up m ts) {p x : Nat} (h : ∀ x ∈ pcs, x < m) : x ∈ bite m ts pcs p ↔ x ∈ pcs ∧ ¬ Reach ts p x := by
  unfold bite
  rw [List.mem_filter]
  refine and_congr_right fun hx => ?_
  rw [Bool.not_eq_true', decide_eq_false_iff_not, mem_up u]
  exact ⟨fun n r => n ⟨h x hx, r⟩, fun n r => n r.2⟩
theorem lf_bite {pcs : List Nat} (u : Up m ts) {p : Nat} (h : Lf m ts pcs) : Lf m ts (bite m ts pcs p) := by
  refine ⟨h.asc.filter _, fun x hx => h.lt x (List.mem_filter.mp hx).1, fun e he hx => ?_⟩
  rw [mem_bite u h.lt] at hx ⊢
  exact ⟨h.dn e he hx.1, fun r => hx.2 (r.trans (.one he))⟩
theorem evn_iff {pcs : List Nat} : evn im pcs = true ↔ ∀ x ∈ pcs, gN im x ∈ pcs := by
  unfold evn
  rw [List.all_eq_true]
  simp
theorem play_ok {pcs : List Nat} (u : Up m ts) (M : IsMir m ts im) {p : Nat} (h : Lf m ts pcs) (he : evn im pcs = true) (hp : p ∈ pcs) : Lf m ts (playd m ts im pcs p) ∧ evn im (playd m ts im pcs p) = true := by
  have hpm := h.lt p hp
  rw [evn_iff] at he ⊢
  unfold playd
  split
  · rename_i e
    refine ⟨lf_bite u h, fun x hx => ?_⟩
    rw [mem_bite u h.lt] at hx ⊢
    have hxm := h.lt x hx.1
    refine ⟨he x hx.1, fun r => hx.2 ?_⟩
    have := M.ord _ _ hpm (M.lt x hxm) r
    rwa [M.inv x hxm, e] at this
  · have h1 := lf_bite (p := p) u h
    refine ⟨lf_bite u h1, fun x hx => ?_⟩
    rw [mem_bite u h1.lt, mem_bite u h.lt] at hx ⊢
    have hxm := h.lt x hx.1.1
    refine ⟨⟨he x hx.1.1, fun r => hx.2 ?_⟩, fun r => hx.1.2 ?_⟩
    · have := M.ord _ _ hpm (M.lt x hxm) r
      rwa [M.inv x hxm] at this
    · have := M.ord _ _ (M.lt p hpm) (M.lt x hxm) r
      rwa [M.inv x hxm, M.inv p hpm] at this
theorem lf_cl {S : Nat} (h : Cl ts m S) : Lf m ts (pcsB S) := by
  refine ⟨pcsB_asc, fun x hx => ?_, fun p hp hx => ?_⟩
  · have t := mem_pcsB.mp hx
    exact Nat.lt_of_not_le fun z => by rw [tb_big h.1 z] at t; cases t
  · rw [mem_pcsB] at hx ⊢
    exact h.2 p hp hx
theorem lf_all (u : Up m ts) : Lf m ts (List.range m) := ⟨List.pairwise_lt_range, fun x hx => List.mem_range.mp hx, fun p hp _ => List.mem_range.mpr (by have := u p hp; omega)⟩
theorem evn_all (M : IsMir m ts im) : evn im (List.range m) = true := evn_iff.mpr fun x hx => List.mem_range.mpr (M.lt x (List.mem_range.mp hx))
end
theorem t_pre {b k : Nat} {ps : Ps} (g : Gd b k ps) : Pre0 (b + 2 * k) b (tT b k ps) (imT b k) := ⟨red_up (bw_up g), t_mir g, by omega, fun x hx => imT_fix hx⟩
end Mk
end

section
set_option Elab.async false
set_option linter.all false
set_option maxRecDepth 100000
set_option maxHeartbeats 2000000
namespace Mk
open PySem PySem.Spec PyProof.Rows L2
open Evl (Ex)
open C8 (Cal pe_c pe_gc)
theorem nats_rp {G : Hp} {vs : List V} {l : List Nat} (r : RpA G vs (nats l)) : vs = (l.map Int.ofNat).map V.int := by
 rw [nats_ints] at r
 exact r.ints
theorem map_erase {α β : Type} {f : α → β} : ∀ {l : List α} {k : Nat}, (l.map f).eraseIdx k = (l.eraseIdx k).map f
 | [], _ => by simp
 | _ :: _, 0 => by simp
 | x :: r, k + 1 => by
   rw [List.map_cons, List.eraseIdx_cons_succ, List.eraseIdx_cons_succ, List.map_cons, map_erase]
abbrev N__law_pick : List Str := ["_law_tin", "_law_goods_so", "_law_count_so", "_law_pool_so", "_law_found", "_law_lap"]
theorem sc__law_pick : FnScope N__law_pick ["_law_tin", "_law_goods_so", "_law_count_so"] (defScope s__law_pick) := ⟨rfl, rfl, rfl, by decide +kernel, rfl, by decide +kernel, by decide +kernel⟩
def Pre__law_pick (ds : List Da) : Prop := ∃ (l : List Nat) (c : Nat), ds = [.lst (nats l), nat c] ∧ l.length ≤ 60 ∧ c ≤ 60
def Post__law_pick (ds : List Da) (d : Da) : Prop := ∃ l : List Nat, d = .lst (nats l) ∧ l.length ≤ 60
theorem ok__law_pick {P : Program} {w : World} {K : PySem.W.Frag} {mg : Str → Option Value} {base : Heap} (T : Tx K mg) : Cal P w K mg base 2 "_law_pick" (spX 100 Pre__law_pick Post__law_pick) [] := T.okT 51 51 rfl rfl sc__law_pick (fun _ _ _ _ _ _ us hl => match us, hl with | [_, _, _], _ => rfl) (by rintro ds h; obtain ⟨_, _, rfl, _⟩ := h; rfl) (by decide) fun f cdv A outer s H E hr => ⟨_, (pss_cons (ps_par (i := 3) (j := 4) rfl sc__law_pick.nd rfl rfl (by decide) rfl rfl (pa_cons (pe_callTy (k_list K rfl) (by rfl) T.b_list (by decide +kernel) (pa_cons (pv 1) pa_nil)) (pa_cons (pe_lst pa_nil) pa_nil)) (by rfl)) (pss_cons (ps_for PassesOwn.never rfl (pi_range1 rfl T.b_range (pa_cons (pe_callB (call_min2 rfl) (by rfl) T.b_min (by decide +kernel) (pa_cons (pe_callTy call_int1 (by rfl) T.b_int (by decide +kernel) (pa_cons (pv 2) pa_nil)) (pa_cons (pe_callB (k_len K rfl) (by rfl) T.b_len (by decide +kernel) (pa_cons (pv 3) pa_nil)) pa_nil))) pa_nil)) (pg_name (i := 5) sc__law_pick.nd rfl (Or.inl rfl)) (pss_one (ps_expr (pe_bm PySem.F.plainAttrs_list PySem.F.slot_list_append PySem.F.type_list_append mt_append (pv 4) (pa_cons (pe_bm PySem.F.plainAttrs_list PySem.F.slot_list_pop PySem.F.type_list_pop mt_popAt (pv 3) (pa_cons (pe_c (ok__law_take T) hr (by decide) (by rfl) (pa_cons (pv 0) (pa_cons (pe_callB (k_len K rfl) (by rfl) T.b_len (by decide +kernel) (pa_cons (pv 3) pa_nil)) pa_nil))) pa_nil)) pa_nil))))) (pss_one (ps_ret (pv 4))))), fun ds hR => by
  obtain ⟨l, c, rfl, hl, hc⟩ := hR
  intro D a G0 H0 H σ n A bd pn pr'
  obtain ⟨G, g, en, tn, s⟩ := A
  refine (ev_v (ρ := startT N__law_pick.length [.lst (nats l), nat c]) 1 (d := .lst (nats l))) G H σ g.gh en _ fun v1 G1 H1 g1 r1 => ?_
  obtain ⟨b, vs, rfl, hb, rb⟩ := r1.isLst
  have ev := nats_rp rb
  subst ev
  have t1 := tn.gr g1
  have gg := g.trans (.of g1 g.ga tn.ne) tn.ne
  refine ⟨b, _, rfl, .inl (SqL.of (g1.gh _ _ hb)), fun p hp => ?_⟩
  refine ⟨Nat.zero_le _, fun q hq => ⟨.ref p, .ref q, rfl, ?_⟩⟩
  have pa : p ≠ a := fun z => t1.ne (by rw [← z]; exact hp)
  have hq1 : H1 q = none := ex_no (Ex.new hp) hq
  have pq : p ≠ q := fun z => by rw [← z, upd_same] at hq; cases hq
  have qa : q ≠ a := fun z => t1.ne (by rw [← z]; exact hq1)
  have G1p : G1 p = none := ex_no g1.gh hp
  have G1q : G1 q = none := ex_no g1.gh hq1
  have H0p : H0 p = none := by
    cases e : H0 p with
    | none => rfl
    | some o =>
      have := gg.hh p o pa e
      rw [hp] at this
      cases this
  have H0q : H0 q = none := by
    cases e : H0 q with
    | none => rfl
    | some o =>
      have := gg.hh q o qa e
      rw [hq1] at this
      cases this
  let ρ1 : DE := [none, some (.lst (nats l)), some (nat c), none, none, none]
  have len0 : σ.length = 6 := en.1
  have en1 : EnvR G1 ((σ.set 3 (some (.ref p))).set 4 (some (.ref q))) ρ1 := ((en.mono g1.gg).setN 3).setN 4
  let Hs : Hp := upd (upd H1 p (.lst ((l.map Int.ofNat).map V.int))) q (.lst [])
  have gs : GrT a G0 H0 G1 Hs := (gg.mut H0p G1p).mut H0q G1q
  have sl3 : ∀ {τ : L2.St} {x : V}, τ.length = 6 → (τ.set 3 (some x))[3]? = some (some x) := fun h => List.getElem?_set_self (by omega)
  -- the state: the pool and what is found
  let Inv' : Nat → L2.St → Hp → Prop := fun i τ Z => ∃ (G' : Hp) (pl fl : List Nat), GrT a G0 H0 G' Z ∧ EnvR G' τ ρ1 ∧ Tn (n + i) Z a ∧ τ[0]? = some (some (.ref a)) ∧ τ[3]? = some (some (.ref p)) ∧ τ[4]? = some (some (.ref q)) ∧
    Z p = some (.lst ((pl.map Int.ofNat).map V.int)) ∧ Z q = some (.lst ((fl.map Int.ofNat).map V.int)) ∧ G' p = none ∧ G' q = none ∧ pl.length + i = l.length ∧ fl.length = i
  have q3 : ((σ.set 3 (some (.ref p))).set 4 (some (.ref q)))[3]? = some (some (.ref p)) := by
    rw [List.getElem?_set_ne (by decide)]
    exact List.getElem?_set_self (by omega)
  have q5 : Hs p = some (.lst ((l.map Int.ofNat).map V.int)) := by
    show upd (upd H1 p _) q _ p = _
    rw [upd_ne pq]
    exact upd_same
  have inv0 : Inv' 0 ((σ.set 3 (some (.ref p))).set 4 (some (.ref q))) Hs := by
    refine ⟨G1, l, [], gs, en1, ?_, slot0 (slot0 s (by decide)) (by decide), q3, List.getElem?_set_self (by rw [List.length_set]; omega), q5, upd_same, G1p, G1q, rfl, rfl⟩
    · obtain ⟨T', M', c', e1, e2, e3⟩ := t1
      exact ⟨T', M', c', by show upd (upd H1 p _) q _ a = _; rw [upd_ne qa.symm, upd_ne pa.symm]; exact e1, e2, by omega⟩
  obtain ⟨v2, s2, r2⟩ := en1.2 2 (nat c) rfl
  have := r2.isInt
  subst this
  refine ⟨.int (c : Int), s2, .inl ⟨(c : Int), rfl, ?_⟩⟩
  refine ⟨.ref p, q3, p, _, rfl, .inl (SqL.of q5), ?_⟩
  have hlen : ((l.map Int.ofNat).map V.int).length = l.length := by simp
  refine ⟨(c : Int), (l.length : Int), by rw [hlen], ?_⟩
  let N : Nat := if (l.length : Int) < (c : Int) then l.length else c
  have hN : (if (l.length : Int) < (c : Int) then (l.length : Int) else (c : Int)) = ((N : Nat) : Int) := by
    simp only [N]
    split <;> rfl
  have hNl : N ≤ l.length ∧ N ≤ 60 := by
    simp only [N]
    split <;> omega
  refine ⟨((N : Nat) : Int), by rw [hN], by omega, by omega, ?_⟩
  rw [Int.toNat_natCast]
  refine ⟨fun i m τ Z => m = N - i ∧ i ≤ N ∧ Inv' i τ Z, ⟨N, rfl, Nat.zero_le _, inv0⟩, ?_⟩
  rintro i m τ Z ⟨rfl, hi, inv⟩
  by_cases hlt : i < N
  · refine .inr ⟨hlt, fun τ Z => Inv' (i + 1) τ Z, fun τ Z z => ⟨N - (i + 1), by omega, rfl, hlt, z⟩, fun x Z' y => ?_⟩
    obtain ⟨rfl, rfl⟩ := y
    obtain ⟨G', pl, fl, z1, z2, z3, z4, z5, z6, z7, z8, z9, z10, z11, z12⟩ := inv
    have e0 : (τ.set 5 (some (V.int (0 + (i : Int)))))[0]? = some (some (.ref a)) := slot0 z4 (by decide)
    have e3 : (τ.set 5 (some (V.int (0 + (i : Int)))))[3]? = some (some (.ref p)) := by rw [List.getElem?_set_ne (by decide)]; exact z5
    have e4 : (τ.set 5 (some (V.int (0 + (i : Int)))))[4]? = some (some (.ref q)) := by rw [List.getElem?_set_ne (by decide)]; exact z6
    have en5 : EnvR G' (τ.set 5 (some (V.int (0 + (i : Int))))) ρ1 := z2.setN 5
    have pos : 1 ≤ pl.length := by omega
    refine ⟨.ref q, e4, .inl ⟨rfl, _, SqL.of z8⟩, .ref p, e3, .inl ⟨rfl, _, SqL.of z7⟩, .ref a, e0, .ref p, e3, p, _, rfl, .inl (SqL.of z7), ?_⟩
    have hpl : ((pl.map Int.ofNat).map V.int).length = pl.length := by simp
    rw [hpl]
    refine ⟨a, n + i, G', [.int (pl.length : Int)], [nat pl.length], rfl, z1.gh, z1.ga, z3, by omega, .cons (.int _) .nil, ⟨pl.length, rfl, pos, by omega⟩, fun v G2 H2 d g2 t2 r2 ⟨b', k, e1, e2, hk⟩ => ?_⟩
    subst e2
    have := r2.isInt
    subst this
    have eb : pl.length = b' := by
      have : nat pl.length = nat b' := by simpa using e1
      have := Da.int.inj this
      omega
    subst eb
    have hk' : k < pl.length := hk
    have w7 : H2 p = some (.lst ((pl.map Int.ofNat).map V.int)) := g2.hh p _ pa z7
    have w8 : H2 q = some (.lst ((fl.map Int.ofNat).map V.int)) := g2.hh q _ qa z8
    have n9 : G2 p = none := g2.no z7 z9
    have n10 : G2 q = none := g2.no z8 z10
    refine ⟨p, _, (k : Int), k, V.int (Int.ofNat pl[k]), rfl, rfl, w7, by omega, by omega, ?_, ?_, ?_⟩
    · unfold seqIndex?
      rw [hpl]
      have e1 : (if (k : Int) < 0 then (k : Int) + (pl.length : Int) else (k : Int)) = (k : Int) := if_neg (by omega)
      have e2 : (decide (0 ≤ (k : Int)) && decide ((k : Int) < (pl.length : Int))) = true := by simp; omega
      simp only [e1, e2, if_true, Int.toNat_natCast]
    · simp [hk']
    · have ee : ((pl.map Int.ofNat).map V.int).eraseIdx k = ((pl.eraseIdx k).map Int.ofNat).map V.int := by rw [map_erase, map_erase]
      rw [ee]
      have x8 : upd H2 p (.lst (((pl.eraseIdx k).map Int.ofNat).map V.int)) q = some (.lst ((fl.map Int.ofNat).map V.int)) := by rw [upd_ne pq.symm]; exact w8
      refine ⟨q, _, _, rfl, rfl, x8, Evl.sz_lt (by simp; omega), ?_⟩
      have ef : (fl.map Int.ofNat).map V.int ++ [V.int (Int.ofNat pl[k])] = ((fl ++ [pl[k]]).map Int.ofNat).map V.int := by simp
      rw [ef]
      refine ⟨G2, pl.eraseIdx k, fl ++ [pl[k]], ((z1.trans g2 z3.ne).mut H0p n9).mut H0q n10, en5.mono g2.gg, ?_, e0, e3, e4, ?_, upd_same, n9, n10, ?_, by rw [List.length_append]; simp; omega⟩
      · obtain ⟨T', M', c', f1, f2, f3⟩ := t2
        exact ⟨T', M', c', by rw [upd_ne qa.symm, upd_ne pa.symm]; exact f1, f2, by omega⟩
      · rw [upd_ne pq]
        exact upd_same
      · rw [List.length_eraseIdx_of_lt hk']
        omega
  · have ei : i = N := by omega
    subst ei
    refine .inl ⟨Nat.le_refl _, ?_⟩
    obtain ⟨G', pl, fl, z1, z2, z3, z4, z5, z6, z7, z8, z9, z10, z11, z12⟩ := inv
    refine ⟨.ref q, z6, pr' (.lst (nats fl)) ⟨fl, rfl, by omega⟩ (.ref q) (upd G' q (.lst ((fl.map Int.ofNat).map V.int))) Z (z1.know H0q z10 z8 qa) (z3.mono (by omega)) ?_⟩
    refine .lst upd_same ?_
    rw [nats_ints]
    exact .ofInts _⟩
end Mk
end

section
set_option Elab.async false
set_option linter.all false
set_option maxRecDepth 100000
set_option maxHeartbeats 2000000
/-! given data: orders, mirrors, lefts, as tuples and as lists -/
namespace Mk
open PySem PySem.Spec PyProof.Rows L2
theorem fit_nats {k : Nat} {l : List Nat} (h : l.length ≤ 100000) : (nats l).all (Da.fit (k + 1)) = true := by
  rw [List.all_eq_true]
  intro d hd
  obtain ⟨x, _, rfl⟩ := List.mem_map.mp hd
  rfl
theorem tpd_nats {k : Nat} {l : List Nat} : (nats l).map (Da.tpd k) = nats l := by
  rw [List.map_map]
  refine List.map_congr_left fun x _ => ?_
  cases k <;> rfl
theorem lsd_nats {k : Nat} {l : List Nat} : (nats l).map (Da.lsd k) = nats l := by
  rw [List.map_map]
  refine List.map_congr_left fun x _ => ?_
  cases k <;> rfl
theorem imT_ok {im : List Nat} (h : im.length ≤ 60) : IsIm (.tup (nats im)) im := by
  refine ⟨?_, ?_, h⟩
  · show (decide ((nats im).length ≤ 100000) && (nats im).all (Da.fit 39)) = true
    rw [fit_nats (by omega), Bool.and_true, List.length_map]
    exact decide_eq_true (by omega)
  · show Da.tup ((nats im).map (Da.tpd 39)) = _
    rw [tpd_nats]
theorem imL_ok {im : List Nat} (h : im.length ≤ 60) : IsIm (.lst (nats im)) im := by
  refine ⟨?_, ?_, h⟩
  · show (decide ((nats im).length ≤ 100000) && (nats im).all (Da.fit 39)) = true
    rw [fit_nats (by omega), Bool.and_true, List.length_map]
    exact decide_eq_true (by omega)
  · show Da.tup ((nats im).map (Da.tpd 39)) = _
    rw [tpd_nats]
theorem ldT_ok {m : Nat} {ts : Ps} {pcs : List Nat} (h : Lf m ts pcs) (hl : pcs.length ≤ 60) : LD (.tup (nats pcs)) m ts pcs := ⟨h, (imT_ok hl).1, (imT_ok hl).2.1⟩
theorem ldL_ok {m : Nat} {ts : Ps} {pcs : List Nat} (h : Lf m ts pcs) (hl : pcs.length ≤ 60) : LD (.lst (nats pcs)) m ts pcs := ⟨h, (imL_ok hl).1, (imL_ok hl).2.1⟩
theorem fit_prs {k : Nat} {ts : Ps} : (prs ts).all (Da.fit (k + 2)) = true := by
  rw [List.all_eq_true]
  intro d hd
  obtain ⟨x, _, rfl⟩ := List.mem_map.mp hd
  rfl
theorem tpd_prs {k : Nat} {ts : Ps} : (prs ts).map (Da.tpd (k + 1)) = prs ts := by
  rw [List.map_map]
  refine List.map_congr_left fun x _ => ?_
  cases k <;> rfl
/-- an order, as lists -/
def odL (m : Nat) (ts : Ps) : Da := .lst [nat m, .lst (ts.map fun p => .lst [nat p.1, nat p.2])]
theorem od_fit {m : Nat} {ts : Ps} (h : ts.length ≤ 10000) : (od m ts).fit 40 = true := by
  show (decide (2 ≤ 100000) && [nat m, Da.tup (prs ts)].all (Da.fit 39)) = true
  have e : Da.fit 39 (Da.tup (prs ts)) = true := by
    show (decide ((prs ts).length ≤ 100000) && (prs ts).all (Da.fit 38)) = true
    rw [fit_prs, List.length_map, Bool.and_true]
    exact decide_eq_true (by omega)
  simp only [List.all_cons, e, List.all_nil]
  rfl
theorem od_lsd {m : Nat} {ts : Ps} : (od m ts).lsd 40 = odL m ts := by
  show Da.lst [nat m, Da.lst ((prs ts).map (Da.lsd 38))] = _
  unfold odL
  rw [List.map_map]
  rfl
theorem od_is {m : Nat} {ts : Ps} (h : OS m ts) : IsOd (od m ts) m ts := by
  refine ⟨od_fit h.sm.len, ?_, h⟩
  show Da.tup [nat m, Da.tup ((prs ts).map (Da.tpd 38))] = _
  rw [tpd_prs]
  rfl
theorem odL_is {m : Nat} {ts : Ps} (h : OS m ts) : IsOd (odL m ts) m ts := by
  refine ⟨?_, ?_, h⟩
  · show (decide (2 ≤ 100000) && [nat m, Da.lst (ts.map fun p => .lst [nat p.1, nat p.2])].all (Da.fit 39)) = true
    have e : Da.fit 39 (Da.lst (ts.map fun p => .lst [nat p.1, nat p.2])) = true := by
      show (decide ((ts.map fun p => Da.lst [nat p.1, nat p.2]).length ≤ 100000) && (ts.map fun p => Da.lst [nat p.1, nat p.2]).all (Da.fit 38)) = true
      have e2 : (ts.map fun p => Da.lst [nat p.1, nat p.2]).all (Da.fit 38) = true := by
        rw [List.all_eq_true]
        intro d hd
        obtain ⟨x, _, rfl⟩ := List.mem_map.mp hd
        rfl
      rw [e2, List.length_map, Bool.and_true]
      exact decide_eq_true (by have := h.sm.len; omega)
    simp only [List.all_cons, e, List.all_nil]
    rfl
  · show Da.tup [nat m, Da.tup ((ts.map fun p => Da.lst [nat p.1, nat p.2]).map (Da.tpd 38))] = _
    rw [List.map_map]
    rfl
/-! may be compared by the law's own same -/
theorem pln_nats {k : Nat} {l : List Nat} : (nats l).all (Da.pln (k + 1)) = true := by
  rw [List.all_eq_true]
  intro d hd
  obtain ⟨x, _, rfl⟩ := List.mem_map.mp hd
  rfl
theorem pln_tup {k : Nat} {l : List Nat} (h : l.length ≤ 100000) : Da.pln (k + 2) (.tup (nats l)) = true := by
  show (decide ((nats l).length ≤ 100000) && (nats l).all (Da.pln (k + 1))) = true
  rw [pln_nats, List.length_map, Bool.and_true]
  exact decide_eq_true h
theorem pln_prs {k : Nat} {ts : Ps} (h : ts.length ≤ 100000) : Da.pln (k + 3) (.tup (prs ts)) = true := by
  show (decide ((prs ts).length ≤ 100000) && (prs ts).all (Da.pln (k + 2))) = true
  have e : (prs ts).all (Da.pln (k + 2)) = true := by
    rw [List.all_eq_true]
    intro d hd
    obtain ⟨x, _, rfl⟩ := List.mem_map.mp hd
    rfl
  rw [e, List.length_map, Bool.and_true]
  exact decide_eq_true h
theorem pln_od {k m : Nat} {ts : Ps} (h : ts.length ≤ 100000) : Da.pln (k + 4) (od m ts) = true := by
  show (decide (2 ≤ 100000) && [nat m, Da.tup (prs ts)].all (Da.pln (k + 3))) = true
  simp only [List.all_cons, pln_prs (k := k) h, List.all_nil]
  rfl
end Mk
end

section
set_option Elab.async false
set_option linter.all false
set_option maxRecDepth 100000
set_option maxHeartbeats 2000000
/-! steps of the law's main def -/
namespace Mk
open PySem PySem.Spec PyProof.Rows L2
open Evl (Ex)
section
variable {t u : TS} {ta tb te : TE} {tt : TT} {tr : TA} {ρ ρ1 : DE} {w w1 w2 : Nat} {N : DE → Prop} {R : Da → Prop} {Ψ : Da → Prop} {K : PySem.W.Frag} {d : Da}
theorem sx_let {i : Nat} (h : EvD te ρ d) (hi : i ≠ 0 := by decide) : StX (tAsg te (gName i)) ρ 0 (fun z => z = ρ.set i (some d)) R := sx_asg h.x (fun d' e => by rw [e]) hi
theorem sx_seqE (h1 : StX t ρ w1 (fun z => z = ρ1) R) (h2 : StX u ρ1 w2 N R) : StX (tSeq t u) ρ (w1 + w2) N R := sx_seq h1 fun ρ' e => by rw [e]; exact h2
theorem sx_ifF (h : EvB tt ρ false) : StX (tIfS tt t tNext) ρ 0 (fun z => z = ρ) R := sx_if (w1 := 0) (w2 := 0) (Φ := fun b => b = false) h.x (fun z => nomatch z) fun _ => sx_next rfl
theorem ex_lst {Φ : List Da → Prop} (h : EvXA tr ρ w Φ) (hl : ∀ ds, Φ ds → ds.length ≤ 100000) : EvX (tLst tr) ρ w (fun z => ∃ ds, z = .lst ds ∧ Φ ds) := fun a n G H σ x na tn bd s en Q q =>
  h a n G H σ x na tn bd s en _ fun vs G1 H1 ds g1 t1 r1 p1 => ⟨r1.small (hl ds p1), fun p hp => by
    have g2 : Gr G1 H1 (upd G1 p (.lst vs)) (upd H1 p (.lst vs)) := .new g1.gh hp
    exact q _ _ _ _ (g1.trans (.of g2 g1.ga t1.ne) t1.ne) (t1.gr g2) (.lst upd_same (r1.mono (Ex.new (ex_no g1.gh hp)))) ⟨ds, rfl, p1⟩⟩
/-- xs = list(t); xs[i], xs[j] = xs[j], xs[i] -/
theorem sx_bent {im : List Nat} {i j : Nat} (h2 : ρ[2]? = some (some (.tup (nats im)))) (h12 : ρ[12]? = some (some (nat i))) (h13 : ρ[13]? = some (some (nat j))) (hi : i < im.length) (hj : j < im.length) (h14 : 14 < ρ.length)
    (h : ∀ bl : List Nat, bl.length = im.length → StX u (ρ.set 14 (some (.lst (nats bl)))) w N R) :
    StX (tSeq (tAsg (tCB (fun xs H Q => ∃ p ys, xs = [V.ref p] ∧ (SqL K H p ys ∨ SqT K H p ys) ∧ ∀ l, H l = none → Q (.ref l) (upd H l (.lst ys))) (tCons (tVar 2) tNil)) (gName 14))
      (tSeq (tAsg (tTup (tCons (tOp (rIx K) (tVar 14) (tVar 13)) (tCons (tOp (rIx K) (tVar 14) (tVar 12)) tNil))) (gTup K 2 (gCons (gSub (tVar 14) (tVar 12) rSetL) (gCons (gSub (tVar 14) (tVar 13) rSetL) gNil)))) u)) ρ w N R := fun D a G0 H0 H σ n A bd pn pr' => by
  obtain ⟨G, g, en, tn, s⟩ := A
  obtain ⟨v2, s2, r2⟩ := en.2 2 _ h2
  obtain ⟨v12, s12, r12⟩ := en.2 12 _ h12
  obtain ⟨v13, s13, r13⟩ := en.2 13 _ h13
  have e12 := r12.isInt
  have e13 := r13.isInt
  subst e12 e13
  obtain ⟨b, vs, rfl, hb, rb⟩ := r2.isTup
  have ev := nats_rp rb
  subst ev
  have hl14 : 14 < σ.length := by rw [en.1]; exact h14
  refine ⟨.ref b, s2, b, _, rfl, .inr (SqT.of (g.gh _ _ hb)), fun p hp => ?_⟩
  have pa : p ≠ a := fun z => tn.ne (by rw [← z]; exact hp)
  have Gp : G p = none := ex_no g.gh hp
  have H0p : H0 p = none := by
    cases e : H0 p with
    | none => rfl
    | some o =>
      have := g.hh p o pa e
      rw [hp] at this
      cases this
  have s14 : (σ.set 14 (some (V.ref p)))[14]? = some (some (.ref p)) := List.getElem?_set_self hl14
  have s12' : (σ.set 14 (some (V.ref p)))[12]? = some (some (.int (i : Int))) := by rw [List.getElem?_set_ne (by decide)]; exact s12
  have s13' : (σ.set 14 (some (V.ref p)))[13]? = some (some (.int (j : Int))) := by rw [List.getElem?_set_ne (by decide)]; exact s13
  have at' : ∀ {x : Nat}, x < im.length → atI ((im.map Int.ofNat).map V.int) (x : Int) = some (.int (Int.ofNat (gN im x))) := fun {x} hx => by
    refine atI_nat ?_
    rw [List.getElem?_map, List.getElem?_map, getD_at (x := 0) hx]
    rfl
  have ix : ∀ {l : List V} {x : Nat}, x < l.length → ixN l.length (x : Int) = some x := fun {l x} hx => by
    unfold ixN
    rw [if_pos (Int.natCast_nonneg x), if_pos (by omega)]
    simp
  show tSeq _ _ _ (σ.set 14 (some (.ref p))) (upd H p (.lst ((im.map Int.ofNat).map V.int)))
  refine ⟨.ref p, s14, .int (j : Int), s13', .inl ⟨p, _, (j : Int), _, rfl, rfl, SqL.of upd_same, at' hj, ?_⟩⟩
  refine ⟨.ref p, s14, .int (i : Int), s12', .inl ⟨p, _, (i : Int), _, rfl, rfl, SqL.of upd_same, at' hi, ?_⟩⟩
  refine ⟨by show 2 ≤ sizeLine; decide, fun q hq => ?_⟩
  have pq : p ≠ q := fun z => by rw [← z, upd_same] at hq; cases hq
  have hq0 : H q = none := ex_no (Ex.new hp) hq
  have qa : q ≠ a := fun z => tn.ne (by rw [← z]; exact hq0)
  have H0q : H0 q = none := by
    cases e : H0 q with
    | none => rfl
    | some o =>
      have := g.hh q o qa e
      rw [hq0] at this
      cases this
  have Gq : G q = none := ex_no g.gh hq0
  refine ⟨q, _, rfl, SqT.of upd_same, rfl, _, _, rfl, .ref p, s14, .int (i : Int), s12', p, (im.map Int.ofNat).map V.int, (i : Int), i, rfl, rfl, by rw [upd_ne pq]; exact upd_same, ix (by simp; exact hi), ?_⟩
  refine ⟨_, _, rfl, .ref p, s14, .int (j : Int), s13', p, _, (j : Int), j, rfl, rfl, upd_same, ix (by simp; exact hj), rfl, ?_⟩
  let bl : List Nat := (im.set i (gN im j)).set j (gN im i)
  have eb : (((im.map Int.ofNat).map V.int).set i (.int (Int.ofNat (gN im j)))).set j (.int (Int.ofNat (gN im i))) = (bl.map Int.ofNat).map V.int := by simp only [bl, List.map_set]
  rw [eb]
  have gT := (((g.mut (o := .lst ((im.map Int.ofNat).map V.int)) H0p Gp).mut (b := q) (o := .tup [.int (Int.ofNat (gN im j)), .int (Int.ofNat (gN im i))]) H0q Gq).mut (b := p) (o := .lst (((im.map Int.ofNat).map V.int).set i (.int (Int.ofNat (gN im j))))) H0p Gp).mut (b := p) (o := .lst ((bl.map Int.ofNat).map V.int)) H0p Gp
  refine h bl (by simp [bl]) D a G0 H0 _ _ n ⟨upd G p (.lst ((bl.map Int.ofNat).map V.int)), gT.know H0p Gp upd_same pa, ?_, ?_, ?_⟩ bd pn pr'
  · exact (en.mono (Ex.new Gp)).set 14 (.lst upd_same (by rw [nats_ints]; exact .ofInts _))
  · obtain ⟨T', M', c', f1, f2, f3⟩ := tn
    exact ⟨T', M', c', by rw [upd_ne pa.symm, upd_ne pa.symm, upd_ne qa.symm, upd_ne pa.symm]; exact f1, f2, f3⟩
  · rw [List.getElem?_set_ne (by decide)]; exact s
end
end Mk
end

section
set_option Elab.async false
set_option linter.all false
set_option maxRecDepth 100000
set_option maxHeartbeats 4000000
namespace Mk
open PySem PySem.Spec PyProof.Rows L2
open Evl (Ex)
open C8 (Cal pe_c pe_gc)
def scR : Scope := relS { kind := .function, names := [(".0", .local), ("_law_own", .cell), ("_law_images_so", .free)], isGenerator := false, isCoroutine := false, more := [] } (defScope s__law_right)
/-- a tuple or a list of places -/
def TL (d : Da) : Prop := ∃ l : List Nat, l.length ≤ 100 ∧ (d = .tup (nats l) ∨ d = .lst (nats l))
theorem TL.sm {d : Da} (h : TL d) : d.sm := by
 obtain ⟨l, hl, rfl | rfl⟩ := h
 · show (nats l).length ≤ 100000
   rw [List.length_map]; omega
 · trivial
theorem ev_lawM {K : PySem.W.Frag} {m : Nat} {ts : Ps} {d : Da} (os : OS m ts) (h : TL d) : R__law_is_mirror [od m ts, d] (.bl (mirI m ts d)) := by
 obtain ⟨l, hl, rfl | rfl⟩ := h
 · exact ⟨m, ts, _, rfl, os, .inr ⟨l, rfl, by omega, by rw [mirI_nats, law_mir os.sm.up]⟩⟩
 · exact ⟨m, ts, _, rfl, os, .inl ⟨_, rfl, rfl⟩⟩
theorem choose_lefts {m : Nat} {ts : Ps} {ds : List Da} (h : ∀ d ∈ ds, ∃ S, Cl ts m S ∧ d = .tup (nats (pcsB S))) : ∃ Ss : List Nat, ds = Ss.map (fun S => .tup (nats (pcsB S))) ∧ ∀ S ∈ Ss, Cl ts m S := by
 induction ds with
 | nil => exact ⟨[], rfl, fun q z => nomatch z⟩
 | cons d r ih =>
   obtain ⟨q, hq, rfl⟩ := h d List.mem_cons_self
   obtain ⟨qs, rfl, h2⟩ := ih fun x hx => h x (List.mem_cons_of_mem _ hx)
   refine ⟨q :: qs, rfl, fun x hx => ?_⟩
   rcases List.mem_cons.mp hx with rfl | hx
   · exact hq
   · exact h2 x hx
theorem pln_bls {k : Nat} {α : Type} {l : List α} {f : α → Bool} : (l.map fun x => Da.bl (f x)).all (Da.pln (k + 1)) = true := by
 rw [List.all_eq_true]
 intro d hd
 obtain ⟨x, _, rfl⟩ := List.mem_map.mp hd
 rfl
section
variable {ta tb te : TE} {tr : TA} {ρ : DE} {w1 w2 : Nat} {K : PySem.W.Frag} {ds : List Da}
/-- t[1:] of a tuple -/
theorem ev_tail (h : EvD te ρ (.tup ds)) (hl : 1 ≤ ds.length) : EvD (tSl (rSlSeq K) te (tPart (tC (.int 1))) tNoPart) ρ (.tup (ds.drop 1)) := fun G H σ x en Q q => by
 refine h G H σ x en _ fun v G1 H1 g1 r1 => ?_
 obtain ⟨a, vs, rfl, ha, ra⟩ := r1.isTup
 have len : vs.length = ds.length := ra.length
 have e1 : HT.sIx vs.length 0 (some 1) = 1 := by
   show (if (1 : Int) < 0 then ((1 : Int) + (vs.length : Int)).toNat else min (1 : Int).toNat vs.length) = 1
   rw [if_neg (by decide)]
   show min 1 vs.length = 1
   omega
 have ec : cutV vs (some 1) none = vs.drop 1 := by
   unfold cutV
   rw [e1]
   show List.take (vs.length - 1) (List.drop 1 vs) = _
   exact List.take_of_length_le (by rw [List.length_drop]; exact Nat.le_refl _)
 refine ⟨1, rfl, .inr ⟨a, vs, rfl, SqT.of (g1.gh _ _ ha), fun z => ?_, fun _ p hp => ?_⟩⟩
 · rw [e1] at z
   exact absurd z.1 (by decide)
 · rw [ec]
   exact q _ _ _ (g1.trans (.new g1.gh hp)) (.tup upd_same ((ra.drop 1).mono (Ex.new (ex_no g1.gh hp))))
theorem exa_tl {n : Nat} (ha : EvX ta ρ w1 TL) (hr : EvXA tr ρ w2 (fun z => z.length = n ∧ ∀ d ∈ z, TL d)) : EvXA (tCons ta tr) ρ (w1 + w2) (fun z => z.length = n + 1 ∧ ∀ d ∈ z, TL d) := fun a n' G H σ x na tn bd s en Q q =>
 exa_cons ha hr a n' G H σ x na tn bd s en Q fun vs G1 H1 ds g t r ⟨d, es, e, h1, h2, h3⟩ => q vs G1 H1 ds g t r ⟨by rw [e, List.length_cons, h2], fun y hy => by
   rw [e] at hy
   rcases List.mem_cons.mp hy with rfl | hy
   · exact h1
   · exact h3 y hy⟩
theorem exa_tl0 : EvXA tNil ρ 0 (fun z => z.length = 0 ∧ ∀ d ∈ z, TL d) := fun a n G H σ x na tn bd s en Q q =>
 exa_nil a n G H σ x na tn bd s en Q fun vs G1 H1 ds g t r e => q vs G1 H1 ds g t r ⟨by rw [e]; rfl, fun d hd => by rw [e] at hd; cases hd⟩
theorem ev_neT {l k : List Nat} (ha : EvD ta ρ (.tup (nats l))) (hb : EvD tb ρ (.tup (nats k))) : EvD (tOp (rNeA K) ta tb) ρ (.bl (!decide (l.map Int.ofNat = k.map Int.ofNat))) := by
 have h1 : Cmp (.tup (nats l)) := by rw [nats_ints]; exact cmp_tints
 have h2 : Cmp (.tup (nats k)) := by rw [nats_ints]; exact cmp_tints
 refine (ev_neD ha hb h1 h2).to ?_
 rw [nats_ints, nats_ints, eqv_tints]
theorem ev_hd0 {m : Nat} {ts : Ps} (h : ρ[1]? = some (some (od m ts))) : EvD (tOp (rIx K) (tVar 1) (tC (.int 0))) ρ (nat m) := ev_ixTN (i := 0) (ev_v 1 h) ev_nat rfl
theorem tns_small {n : Nat} (hn : n ≤ 5) : 1 ≤ (tns n).length ∧ (tns n).length ≤ 100000 ∧ ∀ r ∈ tns n, r.length ≤ 100 := by
 have h : ∀ n : Fin 6, 1 ≤ (tns n.val).length := by decide +kernel
 have h2 := tns_at hn n (Nat.le_refl _)
 refine ⟨h ⟨n, by omega⟩, Nat.le_trans h2.1 (Nat.le_trans (Nat.pow_le_pow_right (by decide) hn) (by decide)), fun r hr => ?_⟩
 rw [h2.2 r hr]
 omega
theorem pln_hd {im : List Nat} {p k : Nat} : Da.pln (k + 2) (heardD im p) = true := by
 unfold heardD
 split
 · simp [Da.pln]
   decide +kernel
 · rfl
end
abbrev N__law_right : List Str := ["_law_tin", "_law_net_here", "_law_images_so", "_law_soft_so", "_law_stay_so", "_law_got", "_law_due", "_law_lap", "_law_some_so", "_law_left_so", "_law_piece_so", "_law_after_so", "_law_i", "_law_j", "_law_bent_so", "_law_things_so", "_law_other", "_law_own", "_law_k", "_law_its"]
theorem sc__law_right : FnScope N__law_right ["_law_tin"] (defScope s__law_right) := ⟨rfl, rfl, rfl, by decide +kernel, rfl, by decide +kernel, by decide +kernel⟩
def Pre__law_right (ds : List Da) : Prop := ds = []
def Post__law_right (ds : List Da) (d : Da) : Prop := d = .bl true
theorem ok__law_right {P : Program} {w : World} {K : PySem.W.Frag} {mg : Str → Option Value} {base : Heap} (T : Tx K mg) : Cal P w K mg base 61 "_law_right" (spX 200000 Pre__law_right Post__law_right) [] := T.okT 76 76 rfl rfl sc__law_right (fun _ _ _ _ _ _ us hl => match us, hl with | [_], _ => rfl) (by rintro ds h; obtain ⟨rfl⟩ := h; rfl) (by decide) fun f cdv A outer s H E hr => ⟨_, (pss_cons (ps_asg (pe_c (ok__law_twinned T) hr (by decide) (by rfl) (pa_cons (pv 0) (pa_cons pe_int pa_nil))) (k_tup K (n := 2) rfl rfl (pgs_cons (pg_name (i := 1) sc__law_right.nd rfl (Or.inr rfl)) (pgs_cons (pg_name (i := 2) sc__law_right.nd rfl (Or.inr rfl)) pgs_nil)))) (pss_cons (ps_asg (pe_tup (pa_cons (pe_c (ok__law_lists T 40) hr (by decide) (by rfl) (pa_cons (pv 1) pa_nil)) (pa_cons (pe_callTy (k_tuple K rfl) (by rfl) T.b_tuple (by decide +kernel) (pa_cons (pe_lc (own := [("_law_k", 18), ("_law_own", 17)]) rfl sc__law_right.nd (k_enum K rfl (by rfl) T.b_enumerate (pa_cons (pv 2) pa_nil)) (blkOk_by (own := [("_law_k", 18), ("_law_own", 17)]) (N := N__law_right) (sc := (defScope s__law_right)) (by decide +kernel)) (fun _ _ _ _ _ => (k_tup K (n := 2) rfl rfl (pgs_cons (pg_name (i := 18) sc__law_right.nd rfl (Or.inl rfl)) (pgs_cons (pg_name (i := 17) sc__law_right.nd rfl (Or.inl rfl)) pgs_nil)))) (fun _ _ _ _ _ => pts_one (pt_cmpR (k_eq K rfl hr.units) (pv 17) (pv 18) (nomark _))) (fun _ _ _ _ _ => (pv 18))) pa_nil)) pa_nil))) (k_tup K (n := 2) rfl rfl (pgs_cons (pg_name (i := 3) sc__law_right.nd rfl (Or.inr rfl)) (pgs_cons (pg_name (i := 4) sc__law_right.nd rfl (Or.inl rfl)) pgs_nil)))) (pss_cons (ps_set (i := 5) sc__law_right.nd rfl (Or.inl rfl) (pe_lst (pa_cons (pe_c (ok_is_mirror T) hr (by decide) (by rfl) (pa_cons (pv 1) (pa_cons (pv 2) pa_nil))) (pa_cons (pe_c (ok_stays T) hr (by decide) (by rfl) (pa_cons (pv 3) (pa_cons (pv 2) pa_nil))) (pa_cons (pe_c (ok_moved_pairs T) hr (by decide) (by rfl) (pa_cons (pv 1) (pa_cons (pe_callTy (k_list K rfl) (by rfl) T.b_list (by decide +kernel) (pa_cons (pv 2) pa_nil)) pa_nil))) (pa_cons (pe_c (ok_staying_order T) hr (by decide) (by rfl) (pa_cons (pv 3) (pa_cons (pv 2) pa_nil))) (pa_cons (pe_c (ok_worth_by_mirror T) hr (by decide) (by rfl) (pa_cons (pv 1) (pa_cons (pe_callTy (k_list K rfl) (by rfl) T.b_list (by decide +kernel) (pa_cons (pv 2) pa_nil)) pa_nil))) pa_nil))))))) (pss_cons (ps_set (i := 6) sc__law_right.nd rfl (Or.inl rfl) (pe_lst (pa_cons pe_bl (pa_cons (pv 4) (pa_cons (pe_callTy (k_tuple K rfl) (by rfl) T.b_tuple (by decide +kernel) (pa_cons (pe_lc (own := [("_law_k", 18), ("_law_own", 17)]) rfl sc__law_right.nd (k_enum K rfl (by rfl) T.b_enumerate (pa_cons (pv 2) pa_nil)) (blkOk_by (own := [("_law_k", 18), ("_law_own", 17)]) (N := N__law_right) (sc := (defScope s__law_right)) (by decide +kernel)) (fun _ _ _ _ _ => (k_tup K (n := 2) rfl rfl (pgs_cons (pg_name (i := 18) sc__law_right.nd rfl (Or.inl rfl)) (pgs_cons (pg_name (i := 17) sc__law_right.nd rfl (Or.inl rfl)) pgs_nil)))) (fun _ _ _ _ _ => pts_one (pt_cmpR op_lt (pv 18) (pv 17) (nomark _))) (fun _ _ _ _ _ => (pe_tup (pa_cons (pv 18) (pa_cons (pv 17) pa_nil))))) pa_nil)) (pa_cons (pe_c (ok__law_part T) hr (by decide) (by rfl) (pa_cons (pv 1) (pa_cons (pv 4) pa_nil))) (pa_cons (pe_c (ok__law_worth T) hr (by decide) (by rfl) (pa_cons (pv 1) pa_nil)) pa_nil))))))) (pss_cons (ps_if (pt_not (pt_val (pe_c (ok__law_same T 40) hr (by decide) (by rfl) (pa_cons (pv 5) (pa_cons (pv 6) pa_nil))))) (pss_one (ps_ret pe_bl)) pss_nil) (pss_cons (ps_setLc (i := 8) (own := [("_law_lap", 7)]) rfl sc__law_right.nd rfl rfl (sw_true rfl rfl rfl (by decide +kernel)) (pi_range1 rfl T.b_range (pa_cons pe_int pa_nil)) (blkOk_by (own := [("_law_lap", 7)]) (N := N__law_right) (sc := (defScope s__law_right)) (by decide +kernel)) (fun _ _ _ _ _ => (pg_name (i := 7) sc__law_right.nd rfl (Or.inl rfl))) (fun _ _ _ _ _ => pts_nil) (fun _ _ _ _ _ => (pe_c (ok__law_some_left T) hr (by decide) (by rfl) (pa_cons (pv 0) (pa_cons (pv 1) pa_nil))))) (pss_cons (ps_setLc (i := 5) (own := [("_law_own", 17)]) rfl sc__law_right.nd rfl rfl (sw_true rfl rfl rfl (by decide +kernel)) (k_seq K rfl (pv 8)) (blkOk_by (own := [("_law_own", 17)]) (N := N__law_right) (sc := (defScope s__law_right)) (by decide +kernel)) (fun _ _ _ _ _ => (pg_name (i := 17) sc__law_right.nd rfl (Or.inl rfl))) (fun _ _ _ _ _ => pts_nil) (fun _ _ _ _ _ => (pe_c (ok_is_even T) hr (by decide) (by rfl) (pa_cons (pv 3) (pa_cons (pv 2) (pa_cons (pe_callTy (k_list K rfl) (by rfl) T.b_list (by decide +kernel) (pa_cons (pv 17) pa_nil)) pa_nil)))))) (pss_cons (ps_if (pt_not (pt_val (pe_c (ok__law_same T 40) hr (by decide) (by rfl) (pa_cons (pv 5) (pa_cons (pe_lc (own := [("_law_own", 17)]) rfl sc__law_right.nd (k_seq K rfl (pv 8)) (blkOk_by (own := [("_law_own", 17)]) (N := N__law_right) (sc := (defScope s__law_right)) (by decide +kernel)) (fun _ _ _ _ _ => (pg_name (i := 17) sc__law_right.nd rfl (Or.inr rfl))) (fun _ _ _ _ _ => pts_nil) (fun _ _ _ _ _ => (pe_cmpR (k_eq K rfl hr.units) (pe_lc (own := [("_law_its", 19)]) rfl sc__law_right.nd (k_seq K rfl (pv 17)) (blkOk_by (own := [("_law_its", 19)]) (N := N__law_right) (sc := scR) (by decide +kernel)) (fun _ _ _ _ _ => (pg_name (i := 19) sc__law_right.nd rfl (Or.inl rfl))) (fun _ _ _ _ _ => pts_one (pt_cmpR (k_ni K rfl) (pe_ix (k_ix K rfl) (pv 2) (pv 19) (fun _ _ => rfl)) (pv 17) (by rfl))) (fun _ _ _ _ _ => pe_int)) (pe_lst pa_nil) (nomark _)))) pa_nil))))) (pss_one (ps_ret pe_bl)) pss_nil) (pss_cons (ps_set (i := 9) sc__law_right.nd rfl (Or.inl rfl) (pe_tupRg rfl (by rfl) T.b_tuple (prg_1 (by rfl) T.b_range (pe_ix (k_ix K rfl) (pv 1) pe_int (fun _ _ => rfl))))) (pss_cons (ps_for PassesOwn.never rfl (pi_range1 rfl T.b_range (pa_cons (pe_ix (k_ix K rfl) (pv 1) pe_int (fun _ _ => rfl)) pa_nil)) (pg_name (i := 7) sc__law_right.nd rfl (Or.inl rfl)) (pss_one (ps_if (pt_cmpR (k_ne K rfl hr.units) (pv 9) (pe_tup pa_nil) (nomark _)) (pss_cons (ps_set (i := 10) sc__law_right.nd rfl (Or.inl rfl) (pe_c (ok__law_of T) hr (by decide) (by rfl) (pa_cons (pv 0) (pa_cons (pv 9) pa_nil)))) (pss_cons (ps_set (i := 11) sc__law_right.nd rfl (Or.inl rfl) (pe_c (ok__law_bite T) hr (by decide) (by rfl) (pa_cons (pv 1) (pa_cons (pv 9) (pa_cons (pv 10) pa_nil))))) (pss_cons (ps_par (i := 5) (j := 6) rfl sc__law_right.nd rfl rfl (by decide) rfl rfl (pa_cons (pe_lst (pa_cons (pe_c (ok__law_heard T) hr (by decide) (by rfl) (pa_cons (pv 3) (pa_cons (pv 2) (pa_cons (pe_callTy (k_list K rfl) (by rfl) T.b_list (by decide +kernel) (pa_cons (pv 9) pa_nil)) (pa_cons (pv 10) pa_nil))))) (pa_cons (pe_c (ok_mirror_left T) hr (by decide) (by rfl) (pa_cons (pv 1) (pa_cons (pe_callTy (k_list K rfl) (by rfl) T.b_list (by decide +kernel) (pa_cons (pv 2) pa_nil)) (pa_cons (pv 9) (pa_cons (pv 10) pa_nil))))) pa_nil))) (pa_cons (pe_lst (pa_cons (pe_lst (pa_cons pe_str (pa_cons pe_bl pa_nil))) (pa_cons (pv 11) pa_nil))) pa_nil)) (by rfl)) (pss_cons (ps_if (pt_cmpR (k_ne K rfl hr.units) (pe_ix (k_ix K rfl) (pv 2) (pv 10) (fun _ _ => rfl)) (pv 10) (nomark _)) (pss_one (ps_set (i := 6) sc__law_right.nd rfl (Or.inl rfl) (pe_lst (pa_cons (pe_ix (k_ix K rfl) (pv 2) (pv 10) (fun _ _ => rfl)) (pa_cons (pe_c (ok__law_bite T) hr (by decide) (by rfl) (pa_cons (pv 1) (pa_cons (pv 11) (pa_cons (pe_ix (k_ix K rfl) (pv 2) (pv 10) (fun _ _ => rfl)) pa_nil)))) pa_nil))))) pss_nil) (pss_cons (ps_if (pt_not (pt_val (pe_c (ok__law_same T 40) hr (by decide) (by rfl) (pa_cons (pv 5) (pa_cons (pv 6) pa_nil))))) (pss_one (ps_ret pe_bl)) pss_nil) (pss_one (ps_set (i := 9) sc__law_right.nd rfl (Or.inl rfl) (pe_ix (k_ix K rfl) (pv 6) pe_int (fun _ _ => rfl))))))))) pss_nil))) (pss_cons (ps_par (i := 12) (j := 13) rfl sc__law_right.nd rfl rfl (by decide) rfl rfl (pa_cons (pe_c (ok__law_take T) hr (by decide) (by rfl) (pa_cons (pv 0) (pa_cons (pe_ix (k_ix K rfl) (pv 1) pe_int (fun _ _ => rfl)) pa_nil))) (pa_cons (pe_c (ok__law_take T) hr (by decide) (by rfl) (pa_cons (pv 0) (pa_cons (pe_ix (k_ix K rfl) (pv 1) pe_int (fun _ _ => rfl)) pa_nil))) pa_nil)) (by rfl)) (pss_cons (ps_set (i := 14) sc__law_right.nd rfl (Or.inl rfl) (pe_callTy (k_list K rfl) (by rfl) T.b_list (by decide +kernel) (pa_cons (pv 2) pa_nil))) (pss_cons (ps_asg (pe_tup (pa_cons (pe_ix (k_ix K rfl) (pv 14) (pv 13) (fun _ _ => rfl)) (pa_cons (pe_ix (k_ix K rfl) (pv 14) (pv 12) (fun _ _ => rfl)) pa_nil))) (k_tup K (n := 2) rfl rfl (pgs_cons (pg_sub (pv 14) (pv 12) set_list) (pgs_cons (pg_sub (pv 14) (pv 13) set_list) pgs_nil)))) (pss_cons (ps_set (i := 15) sc__law_right.nd rfl (Or.inl rfl) (pe_lst (pa_cons (pe_callTy (k_tuple K rfl) (by rfl) T.b_tuple (by decide +kernel) (pa_cons (pv 14) pa_nil)) (pa_cons (pv 14) (pa_cons (pe_revT (pv 2)) (pa_cons (pe_tupRg rfl (by rfl) T.b_tuple (prg_1 (by rfl) T.b_range (pe_ix (k_ix K rfl) (pv 1) pe_int (fun _ _ => rfl)))) (pa_cons (pe_slice (k_sl K rfl) (pv 2) (po_some pe_int) po_none) (pa_cons (pe_callTy (k_tuple K rfl) (by rfl) T.b_tuple (by decide +kernel) (pa_cons (pe_c (ok__law_pick T) hr (by decide) (by rfl) (pa_cons (pv 0) (pa_cons (pe_listRg rfl (by rfl) T.b_list (prg_1 (by rfl) T.b_range (pe_ix (k_ix K rfl) (pv 1) pe_int (fun _ _ => rfl)))) (pa_cons (pe_ix (k_ix K rfl) (pv 1) pe_int (fun _ _ => rfl)) pa_nil)))) pa_nil)) (pa_cons (pe_c (ok__law_of T) hr (by decide) (by rfl) (pa_cons (pv 0) (pa_cons (pe_c (ok__law_turnings T) hr (by decide) (by rfl) (pa_cons (pe_callB (call_min2 rfl) (by rfl) T.b_min (by decide +kernel) (pa_cons (pe_ix (k_ix K rfl) (pv 1) pe_int (fun _ _ => rfl)) (pa_cons pe_int pa_nil))) pa_nil)) pa_nil))) pa_nil))))))))) (pss_cons (ps_set (i := 16) sc__law_right.nd rfl (Or.inr rfl) (pe_c (ok__law_order T) hr (by decide) (by rfl) (pa_cons (pv 0) (pa_cons (pe_ix (k_ix K rfl) (pv 1) pe_int (fun _ _ => rfl)) pa_nil)))) (pss_cons (ps_set (i := 5) sc__law_right.nd rfl (Or.inl rfl) (pe_op (k_add K rfl) (pe_lc (own := [("_law_own", 17)]) rfl sc__law_right.nd (k_seq K rfl (pv 15)) (blkOk_by (own := [("_law_own", 17)]) (N := N__law_right) (sc := (defScope s__law_right)) (by decide +kernel)) (fun _ _ _ _ _ => (pg_name (i := 17) sc__law_right.nd rfl (Or.inl rfl))) (fun _ _ _ _ _ => pts_nil) (fun _ _ _ _ _ => (pe_c (ok_is_mirror T) hr (by decide) (by rfl) (pa_cons (pv 3) (pa_cons (pv 17) pa_nil))))) (pe_lc (own := [("_law_own", 17)]) rfl sc__law_right.nd (k_seq K rfl (pv 15)) (blkOk_by (own := [("_law_own", 17)]) (N := N__law_right) (sc := (defScope s__law_right)) (by decide +kernel)) (fun _ _ _ _ _ => (pg_name (i := 17) sc__law_right.nd rfl (Or.inl rfl))) (fun _ _ _ _ _ => pts_nil) (fun _ _ _ _ _ => (pe_c (ok_is_mirror T) hr (by decide) (by rfl) (pa_cons (pv 16) (pa_cons (pv 17) pa_nil))))))) (pss_one (ps_ret (pe_c (ok__law_same T 40) hr (by decide) (by rfl) (pa_cons (pv 5) (pa_cons (pe_op (k_add K rfl) (pe_lc (own := [("_law_own", 17)]) rfl sc__law_right.nd (k_seq K rfl (pv 15)) (blkOk_by (own := [("_law_own", 17)]) (N := N__law_right) (sc := (defScope s__law_right)) (by decide +kernel)) (fun _ _ _ _ _ => (pg_name (i := 17) sc__law_right.nd rfl (Or.inl rfl))) (fun _ _ _ _ _ => pts_nil) (fun _ _ _ _ _ => (pe_c (ok__law_is_mirror T) hr (by decide) (by rfl) (pa_cons (pv 1) (pa_cons (pv 17) pa_nil))))) (pe_lc (own := [("_law_own", 17)]) rfl sc__law_right.nd (k_seq K rfl (pv 15)) (blkOk_by (own := [("_law_own", 17)]) (N := N__law_right) (sc := (defScope s__law_right)) (by decide +kernel)) (fun _ _ _ _ _ => (pg_name (i := 17) sc__law_right.nd rfl (Or.inl rfl))) (fun _ _ _ _ _ => pts_nil) (fun _ _ _ _ _ => (pe_c (ok__law_is_mirror T) hr (by decide) (by rfl) (pa_cons (pv 16) (pa_cons (pv 17) pa_nil)))))) pa_nil))))))))))))))))))))), fun ds hR => by
  subst hR
  refine (sx_seq (w1 := 50000) (w2 := 100000) (N1 := fun z => ∃ b k ps, TwP 8 b k ps ∧ z = ((startT N__law_right.length []).set 1 (some (od (b + 2 * k) (tT b k ps)))).set 2 (some (.tup (nats (imT b k))))) (sx_asgT (w := 50000) (js := [1, 2]) (ρ' := fun d => match d with | .tup [x, y] => ((startT N__law_right.length []).set 1 (some x)).set 2 (some y) | _ => []) (Ψ := fun d => ∃ b k ps, TwP 8 b k ps ∧ d = twD b k ps)
    (EvX.le (w := 0 + 50000) (ex_call (E := E0) (Pre := Pre__law_twinned) (Post := Post__law_twinned) (exa1 (ev_nat (i := 8)).x) fun ds ⟨d, e, e2⟩ => by rw [e, e2]; rfl) (by decide) fun d ⟨ds, _, h⟩ => h) (fun d ⟨b, k, ps, _, e⟩ => by subst e; exact tg_tup2) fun d ⟨b, k, ps, h, e⟩ => ⟨b, k, ps, h, by subst e; rfl⟩) ?_).le (by decide) (fun _ z => z) fun _ z => z
  rintro ρ1 ⟨b, k, ps, tw, rfl⟩
  have hm8 := tw.m
  have g := tw.g
  have os := t_os g (by omega)
  have M := t_mir g
  have il : (imT b k).length = b + 2 * k := imT_len
  have P0 := t_pre g
  have hst : stay (imT b k) = List.range b := t_stay
  generalize hm : b + 2 * k = m at hm8 os M il P0
  generalize hts : tT b k ps = ts at os M P0
  generalize him : imT b k = im at M il P0 hst
  have u := os.sm.up
  have mN : mirN m ts im = true := (mirN_iff u).mpr M
  have i1 := imT_ok (im := im) (by omega)
  have i2 := imL_ok (im := im) (by omega)
  have om1 : OM (od m ts) (.tup (nats im)) m ts im := ⟨od_is os, i1, mN⟩
  have om2 : OM (odL m ts) (.tup (nats im)) m ts im := ⟨odL_is os, i1, mN⟩
  have om3 : OM (od m ts) (.lst (nats im)) m ts im := ⟨od_is os, i2, mN⟩
  have hsl : (stay im).length = b := by rw [hst, List.length_range]
  have hb := tw.b3
  have ew : gw (stay im).length (stP m ts im) (2 ^ (stay im).length - 1) = gw m ts (2 ^ m - 1) := by
    rw [stP, hsl, hst, worth_full P0]
  let SO : Da := od (stay im).length (stP m ts im)
  let X : Da → Da → Da → DE := fun x y z => [none, some (od m ts), some (.tup (nats im)), some (odL m ts), some (.tup (nats (stay im))), some x, some y, none, none, some z, none, none, none, none, none, none, none, none, none, none]
  let GD : Da := .lst [.bl true, .tup (nats (stay im)), .tup (prs (movd im)), SO, nat (gw m ts (2 ^ m - 1))]
  have lm : (movd im).length ≤ 1000 := by
    unfold movd
    rw [List.length_map]
    refine Nat.le_trans (List.length_filter_le _ _) ?_
    rw [List.length_zipIdx]
    omega
  have pSO : Da.pln 39 SO = true := pln_od (by have := om1.os.sm.len; omega)
  have pGD : Da.pln 40 GD = true := by
    have e1 : Da.pln 39 (.tup (nats (stay im))) = true := pln_tup (by omega)
    have e2 : Da.pln 39 (.tup (prs (movd im))) = true := pln_prs (by omega)
    show (decide (5 ≤ 100000) && [Da.bl true, .tup (nats (stay im)), .tup (prs (movd im)), SO, nat (gw m ts (2 ^ m - 1))].all (Da.pln 39)) = true
    simp only [List.all_cons, e1, e2, pSO, List.all_nil]
    rfl
  refine StX.le (w := 0 + 90000) (sx_seq (w1 := 0) (w2 := 90000) (N1 := fun z => z = [none, some (od m ts), some (.tup (nats im)), some (odL m ts), some (.tup (nats (stay im))), none, none, none, none, none, none, none, none, none, none, none, none, none, none, none]) (sx_asgT (w := 0) (js := [3, 4]) (Ψ := fun d => d = .tup [odL m ts, .tup (nats (stay im))]) (ρ' := fun d => [none, some (od m ts), some (.tup (nats im)), some (odL m ts), some (.tup (nats (stay im))), none, none, none, none, none, none, none, none, none, none, none, none, none, none, none])
    (ev_tup (ea2 (ev_call (ea1 (ev_v 1)) ⟨od m ts, rfl, od_fit os.sm.len, od_lsd.symm⟩) (EvD.to (ev_cb (ea1 (EvL.toD (el_lc (as := im.zipIdx) (en := fun q => .tup [nat q.2, nat q.1]) (p := fun q => decide (q.1 = q.2)) (fn := fun q => nat q.2) (ρ' := fun q => [none, some (od m ts), some (.tup (nats im)), none, none, none, none, none, none, none, none, none, none, none, none, none, none, some (nat q.1), some (nat q.2), none]) (ei_enum (as := im) (en := nat) (.inr (ev_v 2))) (fun _ _ => tg_tup2) (fun q _ => eb_val (ev_eqAN (ev_v 17) (ev_v 18))) (fun q _ _ => ev_v 18) (by rw [List.length_zipIdx]; omega)))) rc_tupL) (by simp [stay])))).x
    (fun d e => by subst e; exact tg_tup2) fun _ _ => rfl) ?_) (by decide) (fun _ z => z) fun _ z => z
  rintro ρ1 rfl
  refine StX.le (w := 0 + 80000) (sx_seqE (sx_let (d := GD) ?_) (w2 := 80000) ?_) (by decide) (fun _ z => z) fun _ z => z
  · refine (el_lst (ea_cons (ev_call (ea2 (ev_v 1) (ev_v 2)) ⟨m, ts, _, .tup (nats im), rfl, od_is os, (show (nats im).length ≤ 100000 by rw [List.length_map]; omega), rfl⟩) (ea_cons (ev_call (ea2 (ev_v 3) (ev_v 2)) ⟨m, ts, im, _, _, rfl, om2, rfl⟩) (ea3 (ev_call (ea2 (ev_v 1) (EvL.toD (el_listOf (.inr (ev_v 2))))) ⟨m, ts, im, _, _, rfl, om3, rfl⟩) (ev_call (ea2 (ev_v 3) (ev_v 2)) ⟨m, ts, im, _, _, rfl, om2, rfl⟩) (ev_call (ea2 (ev_v 1) (EvL.toD (el_listOf (.inr (ev_v 2))))) ⟨m, ts, im, _, _, rfl, om3, by omega, rfl⟩))))).toD.to ?_
    rw [mirI_nats, mN, ew]
  refine StX.le (w := 0 + 70000) (sx_seqE (sx_let (d := GD) ?_) (w2 := 70000) ?_) (by decide) (fun _ z => z) fun _ z => z
  · refine (el_lst (ea_cons ev_bl (ea_cons (ev_v 4) (ea3 (EvD.to (f := .tup (prs (movd im))) (ev_cb (ea1 (EvL.toD (el_lc (as := im.zipIdx) (en := fun q => .tup [nat q.2, nat q.1]) (p := fun q => decide (q.2 < q.1)) (fn := fun q => pr (q.2, q.1)) (ρ' := fun q => [none, some (od m ts), some (.tup (nats im)), some (odL m ts), some (.tup (nats (stay im))), some GD, none, none, none, none, none, none, none, none, none, none, none, some (nat q.1), some (nat q.2), none]) (ei_enum (as := im) (en := nat) (.inr (ev_v 2))) (fun _ _ => tg_tup2) (fun q _ => eb_val (ev_ltN (ev_v 18) (ev_v 17))) (fun q _ _ => ev_tup (ea2 (ev_v 18) (ev_v 17))) (by rw [List.length_zipIdx]; omega)))) rc_tupL) (by simp [movd, prs])) (ev_call (ea2 (ev_v 1) (ev_v 4)) ⟨m, ts, stay im, rfl, os, stay_asc, om1.st.1, rfl⟩) (ev_call (ea1 (ev_v 1)) ⟨m, ts, rfl, os, by omega, rfl⟩))))).toD
  refine StX.le (w := 0 + 60000) (sx_seqE (sx_ifF (eb_not (a := true) (eb_val (ev_call (ea2 (ev_v 5) (ev_v 6)) ⟨GD, rfl, pGD, rfl⟩)))) (w2 := 60000) ?_) (by decide) (fun _ z => z) fun _ z => z
  refine StX.inn (ρ := [none, some (od m ts), some (.tup (nats im)), some (odL m ts), none, none, none, none, none, none, none, none, none, none, none, none, none, none, none, none]) ?_ ⟨rfl, rfl, rfl, trivial⟩
  let Y : Da → DE := fun x => [none, some (od m ts), some (.tup (nats im)), some (odL m ts), none, none, none, none, some x, none, none, none, none, none, none, none, none, none, none, none]
  let SD : List Nat → Da := fun Ss => .lst (Ss.map fun S => .tup (nats (pcsB S)))
  refine StX.le (w := 4 + 50000) (sx_seq (w1 := 4) (w2 := 50000) (N1 := fun z => ∃ Ss : List Nat, z = Y (SD Ss) ∧ Ss.length ≤ 4 ∧ ∀ S ∈ Ss, Cl ts m S) (StX.le (w := (List.range 4).length * (0 + 1)) (sx_asg (Ψ := fun d => ∃ Ss : List Nat, d = SD Ss ∧ Ss.length ≤ 4 ∧ ∀ S ∈ Ss, Cl ts m S) (EvX.im (ex_lc (w1 := 0) (w2 := 1) (as := List.range 4) (en := nat) (ρ' := fun a => [none, some (od m ts), some (.tup (nats im)), some (odL m ts), none, none, none, some (nat a), none, none, none, none, none, none, none, none, none, none, none, none]) (Φ := fun _ _ => True) (Ψ := fun _ d => ∃ S, Cl ts m S ∧ d = .tup (nats (pcsB S))) ((ei_rng1 (n := ((4 : Nat) : Int)) (ea1 ev_int) (by decide) (by decide)).to rfl) (fun _ _ => tg_name) (fun a _ => eb_yes.x.le (Nat.le_refl _) fun _ _ => trivial)
    (fun a _ _ => EvX.le (w := 0 + 1) (ex_call (E := E0) (Pre := Pre__law_some_left) (Post := Post__law_some_left) (exa1 (ev_v 1 (d := od m ts)).x) fun ds ⟨d, e, e2⟩ => ⟨m, ts, by rw [e, e2], os, by omega⟩) (by decide) fun d ⟨ds, ⟨x, e, e2⟩, m', ts', S, e3, cl, e4⟩ => by
      subst e e2
      have e5 : od m ts = od m' ts' := by simpa using e3
      unfold od at e5
      have e6 := Da.tup.inj e5
      have e7 : nat m = nat m' := by simpa using (List.cons.inj e6).1
      have e8 : m = m' := by have := Da.int.inj e7; omega
      have e9 : prs ts = prs ts' := by
        have := (List.cons.inj (List.cons.inj e6).2).1
        exact Da.tup.inj this
      have e10 : ts = ts' := List.map_inj_right (fun a b z => by
        have z1 := Da.tup.inj z
        have z2 := (List.cons.inj z1).1
        have z3 := (List.cons.inj (List.cons.inj z1).2).1
        have z4 := Da.int.inj z2
        have z5 := Da.int.inj z3
        exact Prod.ext (by omega) (by omega)) |>.mp e9
      subst e8 e10
      exact ⟨S, cl, e4⟩) (by decide)) fun d ⟨ds, e, hl, h⟩ => by
        obtain ⟨Ss, e2, h2⟩ := choose_lefts (ds := ds) fun d hd => by
          obtain ⟨_, _, h3⟩ := h d hd
          exact h3
        exact ⟨Ss, by rw [e, e2], by rw [e2, List.length_map] at hl; simpa using hl, h2⟩) fun d ⟨Ss, e, h⟩ => ⟨Ss, by rw [e]; rfl, h⟩) (by decide) (fun _ z => z) fun _ z => z) ?_) (by decide) (fun _ z => z) fun _ z => z
  rintro ρ1 ⟨Ss, rfl, hSl, hS⟩
  have ldS : ∀ S ∈ Ss, Lf m ts (pcsB S) ∧ (pcsB S).length ≤ 60 := fun S hS' => by
    have l := lf_cl (hS S hS')
    exact ⟨l, Nat.le_trans (len_le (row_nodup l.asc) l.lt) (by omega)⟩
  let EV : Da := .lst (Ss.map fun S => .bl (evn im (pcsB S)))
  have pEV : Da.pln 40 EV = true := by
    show (decide ((Ss.map fun S => Da.bl (evn im (pcsB S))).length ≤ 100000) && (Ss.map fun S => Da.bl (evn im (pcsB S))).all (Da.pln 39)) = true
    rw [pln_bls, List.length_map, Bool.and_true]
    exact decide_eq_true (by omega)
  refine StX.le (w := 0 + 40000) (sx_seqE (sx_let (d := EV) ?_) (w2 := 40000) ?_) (by decide) (fun _ z => z) fun _ z => z
  · exact (el_map (as := Ss) (en := fun S => .tup (nats (pcsB S))) (fn := fun S => .bl (evn im (pcsB S))) (ρ' := fun S => [none, some (od m ts), some (.tup (nats im)), some (odL m ts), none, none, none, none, some (SD Ss), none, none, none, none, none, none, none, none, some (.tup (nats (pcsB S))), none, none]) (ei_seqL (ev_v 8)) (fun _ _ => tg_name) (fun S hS' => ev_call (ea3 (ev_v 3) (ev_v 2) (EvL.toD (el_listOf (.inr (ev_v 17))))) ⟨m, ts, im, pcsB S, _, _, _, rfl, om2, ldL_ok (ldS S hS').1 (ldS S hS').2, rfl⟩) (by omega)).toD
  refine StX.le (w := 0 + 30000) (sx_seqE (sx_ifF (eb_not (a := true) (eb_val (ev_call (ea2 (ev_v 5) ?_) ⟨EV, rfl, pEV, rfl⟩)))) (w2 := 30000) ?_) (by decide) (fun _ z => z) fun _ z => z
  · refine (el_map (as := Ss) (en := fun S => .tup (nats (pcsB S))) (fn := fun S => .bl (evn im (pcsB S))) (ρ' := fun S => [none, some (od m ts), some (.tup (nats im)), some (odL m ts), none, some EV, none, none, some (SD Ss), none, none, none, none, none, none, none, none, some (.tup (nats (pcsB S))), none, none]) (ei_seqL (ev_v 8)) (fun _ _ => tg_name) (fun S hS' => ?_) (by omega)).toD
    refine (ev_eqLN (l := ((pcsB S).filter fun x => !decide (gN im x ∈ pcsB S)).map fun _ => 1) (k := []) (EvD.to (EvL.toD (el_lc (as := pcsB S) (en := nat) (p := fun x => !decide (gN im x ∈ pcsB S)) (fn := fun _ => .int 1) (ρ' := fun x => [none, some (od m ts), some (.tup (nats im)), some (odL m ts), none, some EV, none, none, some (SD Ss), none, none, none, none, none, none, none, none, some (.tup (nats (pcsB S))), none, some (nat x)]) (ei_seqT (ev_v 17)) (fun _ _ => tg_name) (fun x hx => eb_val (ev_niTN (ev_ixTN (i := x) (ev_v 2) (ev_v 19) (nat_at (by have := (ldS S hS').1.lt x hx; omega))) (ev_v 17))) (fun x _ _ => ev_int) (by have := (ldS S hS').2; omega))) (by simp only [nats, List.map_map]; rfl)) (el_lst ea_nil).toD).to ?_
    congr 1
    unfold evn
    rw [Bool.eq_iff_iff, decide_eq_true_iff, List.map_eq_nil_iff, List.filter_eq_nil_iff, List.all_eq_true]
    simp
  refine StX.inn (ρ := [none, some (od m ts), some (.tup (nats im)), some (odL m ts), none, none, none, none, none, none, none, none, none, none, none, none, none, none, none, none]) ?_ ⟨rfl, rfl, rfl, trivial⟩
  have m1 : 1 ≤ m := by have := tw.k1; omega
  let Z : List Nat → DE := fun pcs => [none, some (od m ts), some (.tup (nats im)), some (odL m ts), none, none, none, none, none, some (.tup (nats pcs)), none, none, none, none, none, none, none, none, none, none]
  refine StX.le (w := 0 + 29000) (sx_seqE (sx_let (i := 9) (d := .tup (nats (List.range m))) (ev_tupRg (ev_hd0 rfl) (by omega))) (w2 := 29000) ?_) (by decide) (fun _ z => z) fun _ z => z
  refine StX.le (w := (List.range m).length * 1 + 25000) (sx_seq (w1 := (List.range m).length * 1) (w2 := 25000) (sx_for (js := [7]) (w := 1) (as := List.range m) (en := nat) (I := fun _ z => ∃ pcs c5 c6 c7 c10 c11, z = [none, some (od m ts), some (.tup (nats im)), some (odL m ts), none, c5, c6, c7, none, some (.tup (nats pcs)), c10, c11, none, none, none, none, none, none, none, none] ∧ Lf m ts pcs ∧ evn im pcs = true) ((ei_rng1 (n := (m : Int)) (ea1 (ev_hd0 rfl)) (by omega) (by omega)).to rfl) ⟨_, none, none, none, none, none, rfl, lf_all u, evn_all M⟩ ?_) ?_) (by rw [List.length_range]; omega) (fun _ z => z) fun _ z => z
  · rintro pre a post ρ1 _ ⟨pcs, c5, c6, c7, c10, c11, rfl, lf, he⟩
    refine ⟨_, tg_name, StX.inn (ρ := Z pcs) ?_ ⟨rfl, rfl, rfl, rfl, trivial⟩⟩
    have hl : pcs.length ≤ 60 := Nat.le_trans (len_le (row_nodup lf.asc) lf.lt) (by omega)
    refine StX.le (w := 0 + 1) (sx_if (w1 := 0) (w2 := 1) (Φ := fun b => b = !decide (pcs.map Int.ofNat = ([] : List Nat).map Int.ofNat)) (eb_val (ev_neT (k := []) (ev_v 9) (ev_tup ea_nil))).x (fun e => ?_) fun _ => (sx_next ⟨pcs, none, none, none, none, none, rfl, lf, he⟩).le (by decide) (fun _ z => z) fun _ z => z) (by decide) (fun _ z => z) fun _ z => z
    have ne : pcs ≠ [] := fun z => by rw [z] at e; cases e
    have hpl : 1 ≤ pcs.length := Nat.one_le_iff_ne_zero.mpr fun z => ne (List.eq_nil_of_length_eq_zero z)
    refine StX.le (w := 1 + 0) (sx_seq (w1 := 1) (w2 := 0) (N1 := fun z => ∃ p, z = (Z pcs).set 10 (some (nat p)) ∧ p ∈ pcs) (sx_asg (Ψ := fun d => ∃ p, d = nat p ∧ p ∈ pcs) (EvX.le (w := 0 + 1) (ex_call (E := E0) (Pre := Pre__law_of) (Post := Post__law_of) (exa1 (ev_v 9 (d := .tup (nats pcs))).x) fun ds ⟨d, e, e2⟩ => ⟨nats pcs, d, e, .inr e2, by rw [List.length_map]; exact hpl, by rw [List.length_map]; omega⟩) (by decide) fun d ⟨ds, ⟨x, e, e2⟩, l, g', e3, h, hm⟩ => by
      subst e e2
      have e4 : Da.tup (nats pcs) = g' := (List.cons.inj e3).1
      subst e4
      rcases h with h | h
      · cases h
      · cases h
        obtain ⟨p, hp, rfl⟩ := List.mem_map.mp hm
        exact ⟨p, rfl, hp⟩) fun d ⟨p, e, hp⟩ => ⟨p, by rw [e], hp⟩) ?_) (by decide) (fun _ z => z) fun _ z => z
    rintro ρ1 ⟨p, rfl, hp⟩
    have hpm := lf.lt p hp
    have hip : p < im.length := by omega
    have hgm : gN im p < m := M.lt p hpm
    let A := bite m ts pcs p
    have hA : A.length ≤ 60 := Nat.le_trans bite_len hl
    let DUE : Da := .lst [heardD im p, .tup (nats (playd m ts im pcs p))]
    obtain ⟨lf2, he2⟩ := play_ok u M lf he hp
    have hl2 : (playd m ts im pcs p).length ≤ 60 := Nat.le_trans (len_le (row_nodup lf2.asc) lf2.lt) (by omega)
    have pD : Da.pln 40 DUE = true := by
      have e1 : Da.pln 39 (.tup (nats (playd m ts im pcs p))) = true := pln_tup (by omega)
      have e2 : Da.pln 39 (heardD im p) = true := pln_hd
      show (decide (2 ≤ 100000) && [heardD im p, .tup (nats (playd m ts im pcs p))].all (Da.pln 39)) = true
      simp only [List.all_cons, e1, e2, List.all_nil]
      rfl
    let V : Option Da → Option Da → DE := fun x y => [none, some (od m ts), some (.tup (nats im)), some (odL m ts), none, x, y, none, none, some (.tup (nats pcs)), some (nat p), some (.tup (nats A)), none, none, none, none, none, none, none, none]
    refine sx_seqE (w1 := 0) (w2 := 0) (ρ1 := V none none) (sx_let (i := 11) (ev_call (ea3 (ev_v 1) (ev_v 9) (ev_v 10)) ⟨m, ts, pcs, p, rfl, os, by omega, hpm, rfl⟩)) ?_
    refine sx_seqE (w1 := 0) (w2 := 0) (ρ1 := V (some DUE) (some (.lst [.lst [.str "can not", .bl true], .tup (nats A)]))) (sx_par (w := 0 + 0) (i := 5) (j := 6) (Ψ1 := fun z => z = DUE) (Ψ2 := fun z => z = .lst [.lst [.str "can not", .bl true], .tup (nats A)]) (exa2 (EvD.x ?_) (EvD.x ?_)) fun d e h1 h2 => by rw [h1, h2]; rfl) ?_
    · exact EvL.toD (el_lst (ea2 (ev_call (ea_cons (ev_v 3) (ea3 (ev_v 2) (EvL.toD (el_listOf (.inr (ev_v 9)))) (ev_v 10))) ⟨im, p, ⟨⟨m, ts, pcs, _, _, _, rfl, om2, ldL_ok lf hl, he, hp⟩⟩, rfl⟩) (ev_call (ea_cons (ev_v 1) (ea3 (EvL.toD (el_listOf (.inr (ev_v 2)))) (ev_v 9) (ev_v 10))) ⟨m, ts, im, pcs, _, _, _, p, rfl, om3, ldT_ok lf hl, he, hp, rfl⟩)))
    · exact EvL.toD (el_lst (ea2 (EvL.toD (el_lst (ea2 ev_str ev_bl))) (ev_v 11)))
    refine sx_seqE (w1 := 0) (w2 := 0) (ρ1 := V (some DUE) (some DUE)) (StX.le (w := 0 + 0) (sx_if (w1 := 0) (w2 := 0) (Φ := fun b => b = !decide (gN im p = p)) (eb_val (ev_neAN (ev_ixTN (i := p) (ev_v 2) (ev_v 10) (nat_at hip)) (ev_v 10))).x (fun e => ?_) fun e => sx_next ?_) (by decide) (fun _ z => z) fun _ z => z) ?_
    · have hne : gN im p ≠ p := by simpa using e
      refine (sx_let (i := 6) (d := DUE) ((el_lst (ea2 (ev_ixTN (i := p) (ev_v 2) (ev_v 10) (nat_at hip)) (ev_call (ea3 (ev_v 1) (ev_v 11) (ev_ixTN (i := p) (ev_v 2) (ev_v 10) (nat_at hip))) ⟨m, ts, A, gN im p, rfl, os, by omega, hgm, rfl⟩))).toD.to ?_)).le (by decide) (fun _ z => z) fun _ z => z
      show Da.lst [_, _] = Da.lst [_, _]
      unfold heardD playd
      rw [if_neg hne, if_neg hne]
    · have heq : gN im p = p := by simpa using e
      show V _ _ = V _ _
      have : DUE = .lst [.lst [.str "can not", .bl true], .tup (nats A)] := by
        show Da.lst [_, _] = Da.lst [_, _]
        unfold heardD playd
        rw [if_pos heq, if_pos heq]
      rw [this]
    refine sx_seqE (w1 := 0) (w2 := 0) (ρ1 := V (some DUE) (some DUE)) (sx_ifF (eb_not (a := true) (eb_val (ev_call (ea2 (ev_v 5) (ev_v 6)) ⟨DUE, rfl, pD, rfl⟩)))) ?_
    exact sx_asg (ev_ixLN (i := 1) (d := .tup (nats (playd m ts im pcs p))) (ev_v 6) ev_nat rfl).x fun d e => ⟨_, some DUE, some DUE, none, some (nat p), some (.tup (nats A)), by rw [e]; rfl, lf2, he2⟩
  rintro ρ1 ⟨pcs, c5, c6, c7, c10, c11, rfl, _, _⟩
  refine StX.inn (ρ := [none, some (od m ts), some (.tup (nats im)), some (odL m ts), none, none, none, none, none, none, none, none, none, none, none, none, none, none, none, none]) ?_ ⟨rfl, rfl, rfl, trivial⟩
  let W : Nat → Nat → DE := fun i j => [none, some (od m ts), some (.tup (nats im)), some (odL m ts), none, none, none, none, none, none, none, none, some (nat i), some (nat j), none, none, none, none, none, none]
  refine StX.le (w := 2 + 24000) (sx_seq (w1 := 2) (w2 := 24000) (N1 := fun z => ∃ i j, z = W i j ∧ i < m ∧ j < m) (sx_par (w := 1 + 1) (i := 12) (j := 13) (exa2 (ex_takeN (ev_hd0 rfl) m1 (by omega)) (ex_takeN (ev_hd0 rfl) m1 (by omega))) fun d e ⟨i, h1, h2⟩ ⟨j, h3, h4⟩ => ⟨i, j, by rw [h1, h3]; rfl, h2, h4⟩) ?_) (by decide) (fun _ z => z) fun _ z => z
  rintro ρ1 ⟨i, j, rfl, hi, hj⟩
  refine sx_bent (im := im) (i := i) (j := j) rfl rfl rfl (by omega) (by omega) (Nat.le_of_ble_eq_true rfl) fun bl hbl => ?_
  refine StX.inn (ρ := [none, some (od m ts), some (.tup (nats im)), some (odL m ts), none, none, none, none, none, none, none, none, none, none, some (.lst (nats bl)), none, none, none, none, none]) ?_ ⟨rfl, rfl, rfl, rfl, trivial⟩
  let B : Da → DE := fun x => [none, some (od m ts), some (.tup (nats im)), some (odL m ts), none, none, none, none, none, none, none, none, none, none, none, some x, none, none, none, none]
  have lb : bl.length ≤ 100 := by omega
  refine StX.le (w := 200 + 23000) (sx_seq (w1 := 200) (w2 := 23000) (N1 := fun z => ∃ ds : List Da, z = ((B (.lst ds)).set 14 (some (.lst (nats bl)))) ∧ ds.length = 7 ∧ ∀ d ∈ ds, TL d) (sx_asg (EvX.le (w := 0 + (0 + (0 + (0 + (0 + (100 + (1 + 0))))))) (ex_lst (exa_tl ((ev_cb (ea1 (ev_v 14)) rc_tupL).x.im fun d e => ⟨bl, lb, .inl e⟩) (exa_tl ((ev_v 14).x.im fun d e => ⟨bl, lb, .inr e⟩) (exa_tl ((ev_revT (ev_v 2)).x.im fun d e => ⟨im.reverse, by rw [List.length_reverse]; omega, .inl (by rw [e, nats, nats, List.map_reverse])⟩) (exa_tl ((ev_tupRg (n := m) (ev_hd0 rfl) (by omega)).x.im fun d e => ⟨List.range m, by rw [List.length_range]; omega, .inl e⟩) (exa_tl ((ev_tail (ev_v 2) (by rw [List.length_map]; omega)).x.im fun d e => ⟨im.drop 1, by rw [List.length_drop]; omega, .inl (by rw [e, nats, nats, List.map_drop])⟩)
    (exa_tl (w1 := 100) (EvX.le (w := 100) (ex_cb (exa1 (EvX.le (Ψ1 := fun d => ∃ l : List Nat, d = .lst (nats l) ∧ l.length ≤ 60) (w := 0 + 100) (ex_call (E := E0) (Pre := Pre__law_pick) (Post := Post__law_pick) (exa2 (EvL.toD (el_listRg (n := m) (ev_hd0 rfl) (by omega))).x (ev_hd0 rfl).x) fun ds ⟨d, e, h1, h2, h3⟩ => ⟨List.range m, m, by rw [h1, h2, h3], by rw [List.length_range]; omega, by omega⟩) (by decide) fun d ⟨ds, _, h⟩ => h)) fun ds ⟨d, e, l, e2, hl⟩ => ⟨.tup (nats l), by rw [e, e2]; exact rc_tupL, ⟨l, by omega, .inl rfl⟩⟩) (by decide) fun _ z => z)
    (exa_tl (w1 := 1) (EvX.le (w := 0 + 1) (ex_call (E := E0) (Pre := Pre__law_of) (Post := Post__law_of) (exa1 (ev_call (ea1 (EvD.to (f := nat (min m 5)) (ev_min2 (ev_hd0 rfl) ev_int) (by show Da.int _ = Da.int _; congr 1; split <;> omega))) ⟨min m 5, rfl, by omega, rfl⟩).x) fun ds ⟨d, e, e2⟩ => ⟨(tns (min m 5)).map fun r => .tup (nats r), d, e, .inl e2, ?_, ?_⟩) (by decide) ?_) exa_tl0))))))) fun ds h => by rw [h.1]; decide) (by decide) fun _ z => z) fun d ⟨ds, e, h1, h2⟩ => ⟨ds, by rw [e]; rfl, h1, h2⟩) ?_) (by decide) (fun _ z => z) fun _ z => z
  · rw [List.length_map]
    exact (tns_small (Nat.min_le_right _ _)).1
  · rw [List.length_map]
    exact (tns_small (Nat.min_le_right _ _)).2.1
  · rintro d ⟨ds, ⟨x, e, e2⟩, l, g', e3, h, hm⟩
    subst e e2
    have e4 := (List.cons.inj e3).1
    subst e4
    rcases h with h | h
    · have e5 := Da.lst.inj h
      subst e5
      obtain ⟨r, hr, rfl⟩ := List.mem_map.mp hm
      exact ⟨r, (tns_small (Nat.min_le_right _ _)).2.2 r hr, .inl rfl⟩
    · cases h
  rintro ρ1 ⟨ds, rfl, hd7, hd⟩
  refine StX.inn (ρ := B (.lst ds)) ?_ ⟨rfl, rfl, rfl, rfl, trivial⟩
  refine StX.le (w := 20000 + 2000) (sx_seq (w1 := 20000) (w2 := 2000) (N1 := fun z => ∃ m2 ts2, z = (B (.lst ds)).set 16 (some (od m2 ts2)) ∧ OS m2 ts2) (sx_asg (EvX.le (Ψ1 := fun d => ∃ m2 ts2, d = od m2 ts2 ∧ OS m2 ts2) (w := 0 + 20000) (ex_call (E := E0) (Pre := Pre__law_order) (Post := Post__law_order) (exa1 (ev_hd0 rfl).x) fun ds ⟨d, e, e2⟩ => ⟨m, by rw [e, e2], m1, by omega⟩) (by decide) fun d ⟨ds, _, n, _, m2, ts2, h1, h2, _⟩ => ⟨m2, ts2, h1, h2⟩) fun d ⟨m2, ts2, e, h⟩ => ⟨m2, ts2, by rw [e], h⟩) ?_) (by decide) (fun _ z => z) fun _ z => z
  rintro ρ1 ⟨m2, ts2, rfl, os2⟩
  let C : Option Da → Option Da → DE := fun x y => [none, some (od m ts), some (.tup (nats im)), some (odL m ts), none, x, none, none, none, none, none, none, none, none, none, some (.lst ds), some (od m2 ts2), y, none, none]
  let GOT : List Da := (ds.map fun d => Da.bl (mirI m ts d)) ++ ds.map fun d => Da.bl (mirI m2 ts2 d)
  have lG : (ds.map fun d => Da.bl (mirI m ts d)).length + (ds.map fun d => Da.bl (mirI m2 ts2 d)).length ≤ 100000 := by rw [List.length_map, List.length_map]; omega
  have pG : Da.pln 40 (.lst GOT) = true := by
    show (decide (GOT.length ≤ 100000) && GOT.all (Da.pln 39)) = true
    have e1 : GOT.all (Da.pln 39) = true := by rw [List.all_append, pln_bls, pln_bls]; rfl
    rw [e1, Bool.and_true]
    exact decide_eq_true (by rw [List.length_append]; exact lG)
  refine StX.le (w := 0 + 1000) (sx_seqE (ρ1 := C (some (.lst GOT)) none) (sx_let (i := 5) (d := .lst GOT) (ea_lst (K := K) (el_map (as := ds) (en := id) (fn := fun d => .bl (mirI m ts d)) (ρ' := fun d => C none (some d)) (EvI.to (ei_seqL (ev_v 15)) (by simp)) (fun _ _ => tg_name) (fun d h => ev_call (ea2 (ev_v 3) (ev_v 17)) ⟨m, ts, _, d, rfl, odL_is os, (hd d h).sm, rfl⟩) (by omega)).toD (el_map (as := ds) (en := id) (fn := fun d => .bl (mirI m2 ts2 d)) (ρ' := fun d => C none (some d)) (EvI.to (ei_seqL (ev_v 15)) (by simp)) (fun _ _ => tg_name) (fun d h => ev_call (ea2 (ev_v 16) (ev_v 17)) ⟨m2, ts2, _, d, rfl, od_is os2, (hd d h).sm, rfl⟩) (by omega)).toD lG).toD) (w2 := 1000) ?_) (by decide) (fun _ z => z) fun _ z => z
  refine (sx_ret (ev_call (ea2 (ev_v 5) (ea_lst (K := K) (el_map (as := ds) (en := id) (fn := fun d => .bl (mirI m ts d)) (ρ' := fun d => C (some (.lst GOT)) (some d)) (EvI.to (ei_seqL (ev_v 15)) (by simp)) (fun _ _ => tg_name) (fun d h => ev_call (ea2 (ev_v 1) (ev_v 17)) (ev_lawM (K := K) os (hd d h))) (by omega)).toD (el_map (as := ds) (en := id) (fn := fun d => .bl (mirI m2 ts2 d)) (ρ' := fun d => C (some (.lst GOT)) (some d)) (EvI.to (ei_seqL (ev_v 15)) (by simp)) (fun _ _ => tg_name) (fun d h => ev_call (ea2 (ev_v 16) (ev_v 17)) (ev_lawM (K := K) os2 (hd d h))) (by omega)).toD lG).toD) ⟨.lst GOT, rfl, pG, rfl⟩).x fun d e => e).le (by decide) (fun _ z => z) fun _ z => z⟩
end Mk
end

section
set_option Elab.async false
set_option linter.all false
set_option maxRecDepth 100000
set_option maxHeartbeats 4000000
namespace Mk
open PySem PySem.Spec PyProof.Rows L2
open Evl (Ex)
open C8 (Cal pe_c pe_gc)

/-- a def with a promise of its own -/
theorem Tx.okR {P : Program} {w : World} {K : PySem.W.Frag} {mg : Str → Option Value} {base : Heap} (T : Tx K mg) (i g : Nat) {x : Str} {j : Nat} {N ps : List Str} {k : Nat} {sp : Sp} (hf : fn[i]? = some (dd x j)) (hg : fa[g]? = some (.glo x)) (S : FnScope N ps (defScope (top j)))
    (hb : ∀ (kV doc pm : Value) (an : Option Addr) (cdv ct : Value) (us : List Value), us.length = ps.length → bindArgs (PySem.W.fnOf x x (defArgs (top j)) (defBody (top j)) (defScope (top j)) .none kV doc pm an cdv ct) ⟨us, []⟩ = pure (ps.zip us))
    (hl : ∀ vs H Q E, sp vs H Q E → vs.length = ps.length)
    (hbody : ∀ (f : Addr) (cdv : Value) (A : Around) (outer : List Env) (s : Shared) (H : Hp) (E : XK), Room k (A.deeper (envOfC x (defScope (top j)) s.heap.objs.size f cdv)) →
      ∃ t, PSs (cxOf CX0 P w K mg base N x (defScope (top j)) f cdv A outer s H E).nox (defBody (top j)) t ∧ ∀ vs Q, sp vs H Q E → t { nx := fun _ H' => Q .non H', rt := Q } (L2.start N vs) H) : Cal P w K mg base (k + 1) x sp [] := by
  obtain ⟨fd, F⟩ := T.s.d.def_ i hf
  refine ⟨_, fd, ps, [], ?_, T.gl g x hg, F.kp, FunD.bindsN F hb, .nil⟩
  refine FunD.ok F S (fun vs H Q E h => hl vs H Q E h) fun cdv A outer s H vs Q E hr h => ?_
  obtain ⟨t, h1, h2⟩ := hbody _ cdv A outer s H E hr
  exact ⟨t, h1.nox, h2 vs Q h⟩
def spBox : Sp := fun vs H Q _ => ∃ (a : Addr) (v : Int), vs = [.ref a, .int 0] ∧ H a = some (.lst [.int v]) ∧ ∀ p (T M : Int), H p = none → Q (.ref p) (upd H p (.lst [.int T, .int M, .int 0]))
abbrev N__law_box : List Str := ["_law_script", "_law_k", "_law_bit_so"]
theorem sc__law_box : FnScope N__law_box ["_law_script", "_law_k"] (defScope s__law_box) := ⟨rfl, rfl, rfl, by decide +kernel, rfl, by decide +kernel, by decide +kernel⟩
theorem cmul01 {i : Int} (k : Bool) : CMul i (if k = true then 1 else 0) := by cases k <;> exact .inr ⟨by decide, by decide⟩
theorem ok__law_box {P : Program} {w : World} {K : PySem.W.Frag} {mg : Str → Option Value} {base : Heap} (T : Tx K mg) : Cal P w K mg base 1 "_law_box" spBox [] := T.okR 47 47 rfl rfl sc__law_box (fun _ _ _ _ _ _ us hl => match us, hl with | [_, _], _ => rfl) (by rintro vs H Q E ⟨a, v, rfl, _⟩; rfl) fun f cdv A outer s H E hr => ⟨_, (pss_cons (ps_set (i := 2) sc__law_box.nd rfl (Or.inl rfl) (pe_ifExp (pt_cmpR op_lt (pv 1) (pe_callB (k_len K rfl) (by rfl) T.b_len (by decide +kernel) (pa_cons (pv 0) pa_nil)) (nomark _)) (pe_ix (k_ix K rfl) (pv 0) (pv 1) (fun _ _ => rfl)) pe_int)) (pss_one (ps_ret (pe_lst (pa_cons (pe_op op_mul (pe_callB call_abs (by rfl) T.b_abs (by decide +kernel) (pa_cons (pv 2) pa_nil)) (pe_callTy call_int1 (by rfl) T.b_int (by decide +kernel) (pa_cons (pe_cmpR op_ge (pe_callB call_abs (by rfl) T.b_abs (by decide +kernel) (pa_cons (pv 2) pa_nil)) (pe_op op_pow pe_int pe_int) (nomark _)) pa_nil))) (pa_cons (pe_op (k_add K rfl) (pe_op (k_add K rfl) (pe_op op_mod (pe_callTy call_int1 (by rfl) T.b_int (by decide +kernel) (pa_cons (pv 2) pa_nil)) pe_int) (pe_op op_mul pe_int (pv 1))) pe_int) (pa_cons pe_int pa_nil))))))), fun vs Q h => by
  obtain ⟨a, v, rfl, ha, q⟩ := h
  refine ⟨.int 0, rfl, .ref a, rfl, a, [.int v], rfl, .inl (SqL.of ha), 0, 1, rfl, rfl, true, rfl, ?_⟩
  refine ⟨.ref a, rfl, .int 0, rfl, .inl ⟨a, [.int v], 0, .int v, rfl, rfl, SqL.of ha, rfl, ?_⟩⟩
  refine ⟨.int v, rfl, v, rfl, .int v, rfl, v, rfl, 10, 18, rfl, rfl, ⟨by decide, by decide, by decide⟩, _, _, rfl, rfl, .inr ⟨_, rfl, _, _, rfl, rfl, cmul01 _, ?_⟩⟩
  refine ⟨.int v, rfl, .inl ⟨v, rfl, v, 2305843009213693951, rfl, rfl, by show (0 : Int) < _; decide, .int 0, rfl, 39373, 0, rfl, rfl, .inr ⟨by decide, by decide⟩, .inl ⟨_, _, rfl, rfl, .inl ⟨_, _, rfl, rfl, by show 3 ≤ sizeLine; decide, fun p hp => q p _ _ hp⟩⟩⟩⟩⟩
end Mk
end

section
set_option Elab.async false
set_option linter.all false
set_option maxRecDepth 100000
set_option maxHeartbeats 4000000
namespace Mk
open PySem PySem.Spec PyProof.Rows L2
open Evl (Ex)
open C8 (Cal pe_c pe_gc)

theorem sqL_ex {K : PySem.W.Frag} {H H' : Hp} {a : Addr} {xs : List V} (h : SqL K H a xs) (e : Ex H H') : SqL K H' a xs := by
  rcases h with (h | ⟨o, h⟩) | h
  · exact .inl (.inl (e _ _ h))
  · exact .inl (.inr ⟨o, e _ _ h⟩)
  · exact .inr h
theorem cut1 {x : Int} {r : List Int} : cutV ((x :: r).map V.int) none (some 1) = [V.int x] := by
  unfold cutV
  have e : HT.sIx ((x :: r).map V.int).length ((x :: r).map V.int).length (some 1) = 1 := by
    show min 1 _ = 1
    rw [List.length_map, List.length_cons]
    omega
  rw [e]
  rfl
theorem cut_ints {ns : List Int} {lo hi : Option Int} : ∃ zs : List Int, cutV (ns.map V.int) lo hi = zs.map V.int ∧ zs.length ≤ ns.length := by
  unfold cutV
  refine ⟨(ns.drop _).take _, by rw [List.map_take, List.map_drop], ?_⟩
  rw [List.length_take, List.length_drop]
  omega
theorem cells_head {K : PySem.W.Frag} {u : TS} {σ : L2.St} {H : Hp} {D : Ends} {a : Addr} {ns : List Int} (s0 : σ[0]? = some (some (.ref a))) (s1 : σ[1]? = some (some (.int 1))) (hS : SqL K H a (ns.map V.int))
    (h : ∀ c v Z, SqL K Z a (ns.map V.int) → Z c = some (.lst [.int v]) → u D (σ.set 2 (some (.ref c))) Z) :
    tSeq (tAsg (tOrT K (tCB (fun xs H Q => ∃ p ys, xs = [V.ref p] ∧ (SqL K H p ys ∨ SqT K H p ys) ∧ ∀ l, H l = none → Q (.ref l) (upd H l (.lst ys))) (tCons (tSl (rSlSeq K) (tVar 0) tNoPart (tPart (tVar 1))) tNil)) (tLst (tCons (tC (.int 0)) tNil))) (gName 2)) u D σ H := by
  refine ⟨.ref a, s0, .int 1, s1, 1, rfl, .inl ⟨a, ns.map V.int, rfl, hS, fun p1 h1 => ?_⟩⟩
  refine ⟨p1, _, rfl, .inl (SqL.of upd_same), fun p2 h2 => ?_⟩
  have e2 : Ex H (upd (upd H p1 (.lst (cutV (ns.map V.int) none (some 1)))) p2 (.lst (cutV (ns.map V.int) none (some 1)))) := (Ex.new h1).trans (Ex.new h2)
  cases ns with
  | nil =>
    refine ⟨false, .inl ⟨_, SqL.of upd_same, rfl⟩, by show 1 ≤ sizeLine; decide, fun p3 h3 => ?_⟩
    exact h p3 0 _ (sqL_ex hS (e2.trans (Ex.new h3))) upd_same
  | cons x r =>
    refine ⟨true, .inl ⟨_, SqL.of upd_same, by rw [cut1]; rfl⟩, ?_⟩
    exact h p2 x _ (sqL_ex hS e2) (by rw [upd_same, cut1])
def spCells (K : PySem.W.Frag) : Sp := fun vs H Q _ => ∃ (a : Addr) (ns : List Int), vs = [.ref a, .int 1] ∧ SqL K H a (ns.map V.int) ∧ ns.length ≤ 63 ∧ ∀ c v H', H' c = some (.lst [.int v]) → Q (.ref c) H'
abbrev N__law_cells : List Str := ["_law_script", "_law_most_so", "_law_cells_so", "_law_k", "_law_bit_so", "_law_at_so"]
theorem sc__law_cells : FnScope N__law_cells ["_law_script", "_law_most_so"] (defScope s__law_cells) := ⟨rfl, rfl, rfl, by decide +kernel, rfl, by decide +kernel, by decide +kernel⟩
theorem ok__law_cells {P : Program} {w : World} {K : PySem.W.Frag} {mg : Str → Option Value} {base : Heap} (T : Tx K mg) : Cal P w K mg base 1 "_law_cells" (spCells K) [] := T.okR 49 49 rfl rfl sc__law_cells (fun _ _ _ _ _ _ us hl => match us, hl with | [_, _], _ => rfl) (by rintro vs H Q E ⟨a, v, rfl, _⟩; rfl) fun f cdv A outer s H E hr => ⟨_, (pss_cons (ps_set (i := 2) sc__law_cells.nd rfl (Or.inl rfl) (pe_orT (pe_callTy (k_list K rfl) (by rfl) T.b_list (by decide +kernel) (pa_cons (pe_slice (k_sl K rfl) (pv 0) po_none (po_some (pv 1))) pa_nil)) (pe_one (pe_lst (pa_cons pe_int pa_nil))))) (pss_cons (ps_for PassesOwn.never rfl (k_enum K rfl (by rfl) T.b_enumerate (pa_cons (pe_slice (k_sl K rfl) (pv 0) (po_some (pv 1)) (po_some pe_int)) pa_nil)) (k_tup K (n := 2) rfl rfl (pgs_cons (pg_name (i := 3) sc__law_cells.nd rfl (Or.inl rfl)) (pgs_cons (pg_name (i := 4) sc__law_cells.nd rfl (Or.inl rfl)) pgs_nil))) (pss_cons (ps_set (i := 5) sc__law_cells.nd rfl (Or.inl rfl) (pe_op op_mod (pe_callTy call_int1 (by rfl) T.b_int (by decide +kernel) (pa_cons (pv 3) pa_nil)) (pv 1))) (pss_one (ps_asg (pe_op (k_add K rfl) (pe_ix (k_ix K rfl) (pv 2) (pv 5) (fun _ _ => rfl)) (pe_op op_mul (pv 4) (pe_op (k_add K rfl) (pv 3) pe_int))) (pg_sub (pv 2) (pv 5) set_list))))) (pss_one (ps_ret (pv 2))))), fun vs Q h => by
  obtain ⟨a, ns, rfl, hS, hl, q⟩ := h
  refine cells_head (a := a) (ns := ns) rfl rfl hS fun c v Z hS' hc => ?_
  refine ⟨.ref a, rfl, .int 1, rfl, 1, rfl, 63, rfl, .inl ⟨a, ns.map V.int, rfl, hS', fun p hp => ?_⟩⟩
  obtain ⟨zs, ez, lz⟩ := cut_ints (ns := ns) (lo := some 1) (hi := some 63)
  rw [ez]
  have pc : p ≠ c := fun z => by rw [z, hc] at hp; cases hp
  refine ⟨p, rfl, .inl ⟨⟨_, SqL.of upd_same⟩, ?_⟩⟩
  refine ⟨fun i m τ Y => m = zs.length - i ∧ i ≤ zs.length ∧ τ.length = 6 ∧ τ[1]? = some (some (.int 1)) ∧ τ[2]? = some (some (.ref c)) ∧ (∃ v, Y c = some (.lst [.int v])) ∧ Y p = some (.lst (zs.map V.int)), ⟨zs.length, rfl, Nat.zero_le _, rfl, rfl, rfl, ⟨v, by rw [upd_ne pc.symm]; exact hc⟩, upd_same⟩, ?_⟩
  rintro i m τ Y ⟨rfl, hi, l6, s1, s2, ⟨v, hc⟩, hp⟩
  by_cases hlt : i < zs.length
  · have ez : (zs.map V.int)[i]? = some (.int zs[i]) := by rw [List.getElem?_map, List.getElem?_eq_getElem hlt]; rfl
    refine .inr ⟨⟨zs.map V.int, .int zs[i], SqL.of hp, ez⟩, fun τ Y => τ.length = 6 ∧ τ[1]? = some (some (.int 1)) ∧ τ[2]? = some (some (.ref c)) ∧ (∃ v, Y c = some (.lst [.int v])) ∧ Y p = some (.lst (zs.map V.int)), fun τ Y z => ⟨zs.length - (i + 1), by omega, rfl, hlt, z⟩, fun x Y' y => ?_⟩
    obtain ⟨Tt, x', rfl, hT, rfl, hx⟩ := y
    have ex := hx _ (SqL.of hp)
    rw [ez] at ex
    cases ex
    have Tc : Tt ≠ c := fun z => by rw [z, hc] at hT; cases hT
    have Tp : Tt ≠ p := fun z => by rw [z, hp] at hT; cases hT
    have t1 : ((τ.set 3 (some (V.int (i : Int)))).set 4 (some (V.int zs[i])))[1]? = some (some (.int 1)) := by simp [s1]
    have t2 : ((τ.set 3 (some (V.int (i : Int)))).set 4 (some (V.int zs[i])))[2]? = some (some (.ref c)) := by simp [s2]
    have t3 : ((τ.set 3 (some (V.int (i : Int)))).set 4 (some (V.int zs[i])))[3]? = some (some (.int (i : Int))) := by simp [l6]
    have t4 : ((τ.set 3 (some (V.int (i : Int)))).set 4 (some (V.int zs[i])))[4]? = some (some (.int zs[i])) := by simp [l6]
    have tl : ((τ.set 3 (some (V.int (i : Int)))).set 4 (some (V.int zs[i]))).length = 6 := by simp [l6]
    generalize hτ : (τ.set 3 (some (V.int (i : Int)))).set 4 (some (V.int zs[i])) = τ4 at t1 t2 t3 t4 tl
    have u1 : (τ4.set 5 (some (V.int ((i : Int) % 1))))[1]? = some (some (.int 1)) := by simp [t1]
    have u2 : (τ4.set 5 (some (V.int ((i : Int) % 1))))[2]? = some (some (.ref c)) := by simp [t2]
    have u3 : (τ4.set 5 (some (V.int ((i : Int) % 1))))[3]? = some (some (.int (i : Int))) := by simp [t3]
    have u4 : (τ4.set 5 (some (V.int ((i : Int) % 1))))[4]? = some (some (.int zs[i])) := by simp [t4]
    have u5 : (τ4.set 5 (some (V.int ((i : Int) % 1))))[5]? = some (some (.int ((i : Int) % 1))) := List.getElem?_set_self (by omega)
    have ul : (τ4.set 5 (some (V.int ((i : Int) % 1)))).length = 6 := by simp [tl]
    have e0 : (i : Int) % 1 = 0 := Int.emod_one _
    have hc' : upd Y Tt (.tup [.int (i : Nat), .int zs[i]]) c = some (.lst [.int v]) := by rw [upd_ne Tc.symm]; exact hc
    have hp' : upd Y Tt (.tup [.int (i : Nat), .int zs[i]]) p = some (.lst (zs.map V.int)) := by rw [upd_ne Tp.symm]; exact hp
    refine ⟨Tt, _, rfl, SqT.of upd_same, rfl, _, _, rfl, _, _, rfl, rfl, ?_⟩
    rw [hτ]
    refine ⟨.int (i : Int), t3, .inl ⟨(i : Int), rfl, .int 1, t1, (i : Int), 1, rfl, rfl, by show (0 : Int) < 1; decide, ?_⟩⟩
    refine ⟨.ref c, u2, .int ((i : Int) % 1), u5, .inl ⟨c, [.int v], (i : Int) % 1, .int v, rfl, rfl, SqL.of hc', by rw [e0]; rfl, ?_⟩⟩
    refine ⟨.int zs[i], u4, .int (i : Int), u3, .inl ⟨(i : Int), 2, rfl, rfl, zs[i], (i : Int) + 2, rfl, rfl, .inr ⟨by omega, by omega⟩, .inl ⟨_, _, rfl, rfl, ?_⟩⟩⟩
    refine ⟨.ref c, u2, .int ((i : Int) % 1), u5, c, [.int v], (i : Int) % 1, 0, rfl, rfl, hc', by rw [e0]; rfl, ?_⟩
    exact ⟨ul, u1, u2, ⟨_, upd_same⟩, by rw [upd_ne pc]; exact hp'⟩
  · exact .inl ⟨⟨zs.map V.int, SqL.of hp, by rw [List.length_map]; omega⟩, .ref c, s2, q c v _ hc⟩⟩
end Mk
end

section
set_option Elab.async false
set_option linter.all false
set_option maxRecDepth 100000
set_option maxHeartbeats 4000000
namespace Mk
open PySem PySem.Spec PyProof.Rows L2
open Evl (Ex)
open C8 (Cal pe_c pe_gc)

def R__law_by_hand_right (ds : List Da) (r : Da) : Prop := ds = [] ∧ r = .bl true
theorem pe_c0 {X : Cx} {k j : Nat} {x : Str} {sp : Sp} {dvs : List V} {p pos : Pos} (c : Cal X.prog X.w X.K X.mg X.base k x sp dvs) (hr : Room j X.A) (hk : k ≤ j) (hg : Gl X x) (hdb : (x == ("__debug__" : Str)) = false := by decide) : PE X (.Call (.Name x p) [] [] pos) (tCall sp dvs C8.E0 tNil) := by
  obtain ⟨f, fd, ps, ds, F, hm, kp, hb, hd⟩ := c.ex
  exact pe_call0 F (hr.mono hk) hg hm kp hb hd pass0 hdb
def spLaw (K : PySem.W.Frag) : Sp := fun vs H Q _ => ∃ (a : Addr) (ns : List Int), vs = [.ref a] ∧ SqL K H a (ns.map V.int) ∧ ns.length ≤ 63 ∧ ∀ H', Q (.bl true) H'
abbrev N_law : List Str := ["_law_script"]
theorem sc_law : FnScope N_law ["_law_script"] (defScope s_law) := ⟨rfl, rfl, rfl, by decide +kernel, rfl, by decide +kernel, by decide +kernel⟩
theorem ok_law {P : Program} {w : World} {K : PySem.W.Frag} {mg : Str → Option Value} {base : Heap} (T : Tx K mg) (bh : Cal P w K mg base 62 "_law_by_hand_right" (spD R__law_by_hand_right) []) {fd : FuncData} (F : FunD K "law" "law" (defArgs s_law) (defBody s_law) (defScope s_law) [] [] (He.ga K "law") fd) : FnOk P w K mg base CX0 64 (He.ga K "law") fd ["_law_script"] (spLaw K) := by
  refine FunD.ok F sc_law (fun vs H Q E h => ?_) fun cdv A outer s H vs Q E hr h => ?_
  · obtain ⟨a, ns, rfl, _⟩ := h
    rfl
  · refine ⟨_, PSs.nox (pss_one (ps_ret (pe_and (pe_c0 bh hr (by decide) (by rfl)) (pe_one (pe_c (ok__law_right T) hr (by decide) (by rfl) (pa_cons (pe_c (ok__law_box T) hr (by decide) (by rfl) (pa_cons (pe_c (ok__law_cells T) hr (by decide) (by rfl) (pa_cons (pv 0) (pa_cons pe_int pa_nil))) (pa_cons pe_int pa_nil))) pa_nil)))))), ?_⟩
    obtain ⟨a, ns, rfl, hS, hl, hQ⟩ := h
    refine ⟨H, [], .bl true, Ex.refl H, .nil, ⟨rfl, rfl⟩, fun v G' H' g r => ?_⟩
    cases r
    refine ⟨true, rfl, .ref a, rfl, a, ns, rfl, sqL_ex hS (g.gg.trans g.gh), hl, fun c v H1 hc => ?_⟩
    refine ⟨c, v, rfl, hc, fun p T M hp => ?_⟩
    refine ⟨p, 0, fun _ => none, [], [], rfl, (fun _ _ z => nomatch z), rfl, ⟨T, M, 0, upd_same, Int.le_refl _, Int.le_refl _⟩, by decide, .nil, rfl, fun v G' H' d g t r e => ?_⟩
    cases e
    cases r
    exact hQ _
end Mk
end

section
set_option Elab.async false
set_option linter.all false
set_option maxRecDepth 100000
set_option maxHeartbeats 4000000
/-! plain facts of the nets of the law's hand-made cases -/
namespace Mk
open PySem PySem.Spec PyProof.Rows L2
abbrev tFork : Ps := [(0, 1), (0, 2)]
abbrev tRails : Ps := [(0, 1), (2, 3)]
abbrev tHouse : Ps := [(0, 1), (0, 2), (1, 3), (1, 4), (2, 3), (2, 4)]
theorem os_fork : OS 3 tFork := ⟨⟨by unfold Up; decide +kernel, by decide +kernel, by decide +kernel⟩, by decide +kernel⟩
theorem os_rails : OS 4 tRails := ⟨⟨by unfold Up; decide +kernel, by decide +kernel, by decide +kernel⟩, by decide +kernel⟩
theorem os_house : OS 5 tHouse := ⟨⟨by unfold Up; decide +kernel, by decide +kernel, by decide +kernel⟩, by decide +kernel⟩
theorem os_nil : OS 0 [] := ⟨⟨by unfold Up; decide +kernel, by decide +kernel, by decide +kernel⟩, by decide +kernel⟩
theorem m_fork : mirN 3 tFork [0, 2, 1] = true := by decide +kernel
theorem m_rails : mirN 4 tRails [2, 3, 0, 1] = true := by decide +kernel
theorem m_house1 : mirN 5 tHouse [0, 2, 1, 4, 3] = true := by decide +kernel
theorem m_house2 : mirN 5 tHouse [0, 1, 2, 4, 3] = true := by decide +kernel
theorem m_nil : mirN 0 [] [] = true := by decide +kernel
theorem w1 : gw (stay [0, 2, 1]).length (stP 3 tFork [0, 2, 1]) (2 ^ (stay [0, 2, 1]).length - 1) = 1 := by decide +kernel
theorem w2 : gw (stay [2, 3, 0, 1]).length (stP 4 tRails [2, 3, 0, 1]) (2 ^ (stay [2, 3, 0, 1]).length - 1) = 0 := by decide +kernel
theorem w3 : gw (stay [0, 1, 2, 4, 3]).length (stP 5 tHouse [0, 1, 2, 4, 3]) (2 ^ (stay [0, 1, 2, 4, 3]).length - 1) = 1 := by decide +kernel
theorem s1 : stP 5 tHouse [0, 1, 2, 4, 3] = tFork ∧ (stay [0, 1, 2, 4, 3]).length = 3 := by decide +kernel
theorem s2 : stP 4 tRails [2, 3, 0, 1] = [] ∧ (stay [2, 3, 0, 1]).length = 0 := by decide +kernel
theorem s3 : stP 3 tFork [0, 2, 1] = [] ∧ (stay [0, 2, 1]).length = 1 := by decide +kernel
theorem p1 : playd 4 tRails [2, 3, 0, 1] [0, 1, 2, 3] 1 = [0, 2] ∧ playd 3 tFork [0, 2, 1] [0, 1, 2] 0 = [] ∧ playd 3 tFork [0, 2, 1] [0, 1, 2] 2 = [0] ∧ playd 4 tRails [2, 3, 0, 1] [0, 2] 0 = [] := by decide +kernel
end Mk
end

section
set_option Elab.async false
set_option linter.all false
set_option maxRecDepth 100000
set_option maxHeartbeats 4000000
namespace Mk
open PySem PySem.Spec PyProof.Rows L2
open Evl (Ex)
open C8 (Cal pe_c pe_gc)
theorem pe_kwC {X : Cx} {k j n : Nat} {x : Str} {ps ks : List Str} {sp : Sp} {p pos : Pos} {kws : List Keyword} {tk : TA} (h : ∃ fd, FunD X.K x x (defArgs (top n)) (defBody (top n)) (defScope (top n)) [] [] (He.ga X.K x) fd ∧ FnOk X.prog X.w X.K X.mg X.base CX0 k (He.ga X.K x) fd ps sp) (hm : X.mg x = some (.ref (He.ga X.K x))) (hr : Room j X.A) (hk : k ≤ j) (hg : Gl X x)
    (hb : ∀ (kV doc pm : Value) (an : Option Addr) (cdv ct : Value) (ws : List Value), ws.length = ps.length → bindArgs (PySem.W.fnOf x x (defArgs (top n)) (defBody (top n)) (defScope (top n)) .none kV doc pm an cdv ct) ⟨[], ks.zip ws⟩ = pure (ps.zip ws.reverse))
    (hkw : PK X kws tk) (hall : (backToKw pos (keywordEach kws X.env)).all (·.1.isSome) = true := by rfl) (hks : (backToKw pos (keywordEach kws X.env)).filterMap (·.1) = ks := by rfl)
    (hdb : (x == ("__debug__" : Str)) = false := by decide) (hpl : ((backTo pos (starEach [] X.env)).any (·.1) || (backToKw pos (keywordEach kws X.env)).any (·.1.isNone)) = false := by rfl) :
    PE X (.Call (.Name x p) [] kws pos) (tCallP sp C8.E0 tk) := by
  obtain ⟨fd, FF, F⟩ := h
  exact pe_kw (n := 0) FF F (hr.mono hk) hg hm pass0 hb hkw hall hks hdb hpl
theorem pe_mr {X : Cx} {k j : Nat} {x : Str} {sp : Sp} {p pos : Pos} {e : Expr} {es : List Expr} {t : TA} {ps : List Str} (c : CalX X.prog X.w X.K X.mg X.base k x ps sp) (hr : Room j X.A) (hk : k ≤ j) (hg : Gl X x) (ha : PA X (e :: es) t)
    (hdb : (x == ("__debug__" : Str)) = false := by decide) (he : starEach (e :: es) X.env = (false, eval e X.env) :: starEach es X.env := by rfl) (hpl : (backTo pos (starEach es X.env)).any (·.1) = false := by rfl) :
    PE X (.Call (.Name x p) (e :: es) [] pos) (tCall sp [] E0 t) := by
  obtain ⟨f, fd, F, hm, kp, b⟩ := c.ex
  exact pe_call F (hr.mono hk) hg hm kp b .nil passL ha hdb he hpl
theorem pe_mrK {X : Cx} {j : Nat} {p pos : Pos} {kws : List Keyword} {tk : TA} (T : Tx X.K X.mg) (hr : Room j X.A) (hk : 50 ≤ j) (hg : Gl X "mirror_reply")
    (hkw : PK X kws tk) (hall : (backToKw pos (keywordEach kws X.env)).all (·.1.isSome) = true := by rfl) (hks : (backToKw pos (keywordEach kws X.env)).filterMap (·.1) = (["piece", "left", "mirror", "order"] : List Str) := by rfl)
    (hpl : ((backTo pos (starEach [] X.env)).any (·.1) || (backToKw pos (keywordEach kws X.env)).any (·.1.isNone)) = false := by rfl) :
    PE X (.Call (.Name "mirror_reply" p) [] kws pos) (tCallP (spMR (He.ga X.K "CanNot")) E0 tk) := by
  obtain ⟨fd, FF, F⟩ := okF_mirror_reply (P := X.prog) (w := X.w) (base := X.base) T
  exact pe_kw (n := 0) FF F (hr.mono hk) hg (T.gl 45 _ rfl) passL (fun _ _ _ _ _ _ ws hl => match ws, hl with | [_, _, _, _], _ => rfl) hkw hall hks (by decide) hpl
theorem ev_kw {R : List Da → Da → Prop} {E : XK} {tk : TA} {ρ : DE} {ds : List Da} {d : Da} (h : EvA tk ρ ds) (hR : R ds.reverse d) : EvD (tCallP (spD R) E tk) ρ d := fun G H σ x en Q q =>
  h G H σ x en _ fun vs G1 H1 g1 r1 => ⟨G1, ds.reverse, d, g1.gh, r1.reverse, hR, fun v G2 H2 g2 r2 => q v G2 H2 (g1.trans g2) r2⟩
theorem ev_mr {C : Addr} {E : XK} {tr : TA} {ρ : DE} {ds : List Da} {im : List Nat} {p : Nat} (h : EvA tr ρ ds) (r : RIn ds im p) (hne : gN im p ≠ p) : EvD (tCall (spMR C) [] E tr) ρ (nat (gN im p)) := fun G H σ x en Q q =>
  h G H σ x en _ fun vs G1 H1 g1 r1 => ⟨G1, ds, im, p, g1.gh, by rw [List.append_nil]; exact r1, r, fun z => absurd z hne, fun _ v G2 H2 g2 r2 => q v G2 H2 (g1.trans g2) r2⟩
theorem ev_mrK {C : Addr} {E : XK} {tk : TA} {ρ : DE} {ds : List Da} {im : List Nat} {p : Nat} (h : EvA tk ρ ds) (r : RIn ds.reverse im p) (hne : gN im p ≠ p) : EvD (tCallP (spMR C) E tk) ρ (nat (gN im p)) := fun G H σ x en Q q =>
  h G H σ x en _ fun vs G1 H1 g1 r1 => ⟨G1, ds.reverse, im, p, g1.gh, r1.reverse, r, fun z => absurd z hne, fun _ v G2 H2 g2 r2 => q v G2 H2 (g1.trans g2) r2⟩
theorem ev_rep8 {ρ : DE} {b : Bool} : EvD (tOp rRep (tLst (tCons (tC (.bl b)) tNil)) (tC (.int 8))) ρ (.lst (List.replicate 8 (.bl b))) := fun G H σ x en Q q =>
  ⟨by show 1 ≤ sizeLine; decide, fun p hp => ⟨p, 8, [.bl b], rfl, rfl, upd_same, by decide, by decide, by show 1 * 8 ≤ sizeLine; decide, fun p2 h2 =>
    q _ _ _ ((Gr.new x hp).trans (.new (Gr.new x hp).gh h2)) (.lst upd_same (RpA.mono (Ex.new (ex_no (Gr.new x hp).gh h2)) (.cons (.bl b) (.cons (.bl b) (.cons (.bl b) (.cons (.bl b) (.cons (.bl b) (.cons (.bl b) (.cons (.bl b) (.cons (.bl b) .nil))))))))))⟩⟩
abbrev TH : List Da := [.tup (nats [2, 3, 0, 1]), .tup (nats [2, 1, 0, 3]), .lst (nats [2, 3, 0, 1]), .tup (nats [0, 3, 2, 1]), .tup (nats [0, 1, 2, 3]), .tup (nats [1, 0, 3, 2]), .tup (nats [2, 3, 0]), .tup (nats [2, 3, 1, 0]), .non, .tup [], .tup [nat 2, nat 3, nat 0, .bl true], .tup (nats [2, 3, 0, 4]), .str "2301"]
abbrev D1 : List Da := [.lst ([.bl true, .bl false, .bl false, .bl false, .bl true] ++ List.replicate 8 (.bl false)), .lst [.bl true, .bl false, .bl true], .bl true]
theorem th_mir : TH.map (mirI 4 tRails) = [true, false, false, false, true, false, false, false, false, false, false, false, false] := by decide +kernel
theorem h5_mir : [[0, 2, 1, 4, 3], [0, 2, 1, 3, 4], [0, 1, 2, 4, 3]].map (fun l => mirI 5 tHouse (.tup (nats l))) = [true, false, true] := by decide +kernel
theorem n_mir : mirI 0 [] (.tup []) = true := by decide +kernel
theorem d1_eq : Da.lst [.lst (TH.map fun d => .bl (mirI 4 tRails d)), .lst ([[0, 2, 1, 4, 3], [0, 2, 1, 3, 4], [0, 1, 2, 4, 3]].map fun l => .bl (mirI 5 tHouse (.tup (nats l)))), .bl (mirI 0 [] (.tup []))] = .lst D1 := by
  have e1 : (TH.map fun d => Da.bl (mirI 4 tRails d)) = (TH.map (mirI 4 tRails)).map .bl := by rw [List.map_map]; rfl
  have e2 : ([[0, 2, 1, 4, 3], [0, 2, 1, 3, 4], [0, 1, 2, 4, 3]].map fun l => Da.bl (mirI 5 tHouse (.tup (nats l)))) = ([[0, 2, 1, 4, 3], [0, 2, 1, 3, 4], [0, 1, 2, 4, 3]].map fun l => mirI 5 tHouse (.tup (nats l))).map .bl := by rw [List.map_map]; rfl
  rw [e1, e2, th_mir, h5_mir, n_mir]
  rfl
theorem th_sm : ∀ d ∈ TH, d.sm := by
  intro d hd
  simp only [List.mem_cons, List.not_mem_nil, or_false] at hd
  rcases hd with rfl | rfl | rfl | rfl | rfl | rfl | rfl | rfl | rfl | rfl | rfl | rfl | rfl <;> first | exact trivial | exact Nat.le_of_ble_eq_true rfl
theorem h5_sm : ∀ l ∈ [[0, 2, 1, 4, 3], [0, 2, 1, 3, 4], [0, 1, 2, 4, 3]], (Da.tup (nats l)).sm := by
  intro d hd
  simp only [List.mem_cons, List.not_mem_nil, or_false] at hd
  rcases hd with rfl | rfl | rfl <;> exact Nat.le_of_ble_eq_true rfl
abbrev E1 : List Da := [.tup (nats [0]), .tup (prs [(1, 2), (3, 4)]), od 3 tFork, od 0 []]
theorem e1_eq : [Da.tup (nats (stay [0, 2, 1])), .tup (prs (movd [0, 2, 1, 4, 3])), od (stay [0, 1, 2, 4, 3]).length (stP 5 tHouse [0, 1, 2, 4, 3]), od (stay [2, 3, 0, 1]).length (stP 4 tRails [2, 3, 0, 1])] = E1 := by
  rw [s1.1, s1.2, s2.1, s2.2, show stay [0, 2, 1] = [0] by decide +kernel, show movd [0, 2, 1, 4, 3] = [(1, 2), (3, 4)] by decide +kernel]
abbrev E2 : List Da := [nat 1, nat 0, nat 1, nat 0]
theorem w4 : gw (stay []).length (stP 0 [] []) (2 ^ (stay []).length - 1) = 0 := by decide +kernel
theorem e2_eq : [nat (gw (stay [0, 2, 1]).length (stP 3 tFork [0, 2, 1]) (2 ^ (stay [0, 2, 1]).length - 1)), nat (gw (stay [2, 3, 0, 1]).length (stP 4 tRails [2, 3, 0, 1]) (2 ^ (stay [2, 3, 0, 1]).length - 1)), nat (gw (stay [0, 1, 2, 4, 3]).length (stP 5 tHouse [0, 1, 2, 4, 3]) (2 ^ (stay [0, 1, 2, 4, 3]).length - 1)), nat (gw (stay []).length (stP 0 [] []) (2 ^ (stay []).length - 1))] = E2 := by rw [w1, w2, w3, w4]
abbrev LS4 : List (List Nat) := [[0, 2], [0, 1], [], [0, 1, 2, 3]]
theorem lf4 : ∀ l ∈ LS4, Lf 4 tRails l ∧ l.length ≤ 60 := by
  intro d hd
  simp only [List.mem_cons, List.not_mem_nil, or_false] at hd
  rcases hd with rfl | rfl | rfl | rfl <;> exact ⟨⟨by decide, by decide, by decide⟩, by decide⟩
theorem lf3 : Lf 3 tFork [0, 1, 2] := ⟨by decide, by decide, by decide⟩
theorem ls_evn : LS4.map (evn [2, 3, 0, 1]) = [true, false, true, true] := by decide +kernel
theorem ls_e0 : evn [2, 3, 0, 1] [0, 2] = true := by decide +kernel
theorem ls_e1 : evn [2, 3, 0, 1] [0, 1, 2, 3] = true := by decide +kernel
theorem ls_e2 : evn [0, 2, 1] [0, 1, 2] = true := by decide +kernel
theorem ls_g1 : gN [2, 3, 0, 1] 1 = 3 := by decide +kernel
theorem ls_g0 : gN [2, 3, 0, 1] 0 = 2 := by decide +kernel
theorem ls_h0 : gN [0, 2, 1] 0 = 0 := by decide +kernel
abbrev E3 : List Da := [.lst [.bl true, .bl false, .bl true, .bl true], nat 3, .tup (nats [0, 2])]
theorem e3_eq : [Da.lst (LS4.map fun l => .bl (evn [2, 3, 0, 1] l)), nat (gN [2, 3, 0, 1] 1), .tup (nats (playd 4 tRails [2, 3, 0, 1] [0, 1, 2, 3] 1))] = E3 := by
  have e1 : (LS4.map fun l => Da.bl (evn [2, 3, 0, 1] l)) = (LS4.map (evn [2, 3, 0, 1])).map .bl := by rw [List.map_map]; rfl
  rw [e1, ls_evn, p1.1, ls_g1]
  rfl
abbrev E4 : List Da := [.lst [.str "can not", .bl true], .tup [], .tup (nats [0])]
theorem e4_eq : [heardD [0, 2, 1] 0, Da.tup (nats (playd 3 tFork [0, 2, 1] [0, 1, 2] 0)), .tup (nats (playd 3 tFork [0, 2, 1] [0, 1, 2] 2))] = E4 := by
  unfold heardD
  rw [if_pos ls_h0, p1.2.1, p1.2.2.1]
  rfl
abbrev E5 : List Da := [.tup (nats [0]), .tup (prs [(0, 2), (1, 3)]), nat 1]
theorem e5_eq : [Da.tup (nats (stay [0, 2, 1])), .tup (prs (movd [2, 3, 0, 1])), nat (gw (stay [0, 2, 1]).length (stP 3 tFork [0, 2, 1]) (2 ^ (stay [0, 2, 1]).length - 1))] = E5 := by
  rw [w1, show stay [0, 2, 1] = [0] by decide +kernel, show movd [2, 3, 0, 1] = [(0, 2), (1, 3)] by decide +kernel]
abbrev E6 : List Da := [nat 2, .tup []]
theorem e6_eq : [nat (gN [2, 3, 0, 1] 0), Da.tup (nats (playd 4 tRails [2, 3, 0, 1] [0, 2] 0))] = E6 := by
  rw [ls_g0, p1.2.2.2]
  rfl
abbrev E7 : List Da := [.bl true, od 1 [], .bl true]
theorem e7_eq : [Da.bl (evn [2, 3, 0, 1] [0, 2]), od (stay [0, 2, 1]).length (stP 3 tFork [0, 2, 1]), .bl (mirI 4 tRails (.tup (nats [2, 3, 0, 1])))] = E7 := by
  rw [ls_e0, s3.1, s3.2, show mirI 4 tRails (.tup (nats [2, 3, 0, 1])) = true by decide +kernel]
abbrev N__law_by_hand_right : List Str := ["_law_fork", "_law_rails", "_law_swap_so", "_law_house", "_law_things_so", "_law_got", "_law_due", "_law_own"]
theorem sc__law_by_hand_right : FnScope N__law_by_hand_right [] (defScope s__law_by_hand_right) := ⟨rfl, rfl, rfl, by decide +kernel, rfl, by decide +kernel, by decide +kernel⟩
theorem ok__law_by_hand_right {P : Program} {w : World} {K : PySem.W.Frag} {mg : Str → Option Value} {base : Heap} (T : Tx K mg) : Cal P w K mg base 62 "_law_by_hand_right" (spD R__law_by_hand_right) [] := T.ok 75 75 rfl rfl sc__law_by_hand_right (fun _ _ _ _ _ _ us hl => match us, hl with | [], _ => rfl) (by rintro ds r ⟨rfl, rfl⟩; rfl) fun f cdv A outer s H E hr => ⟨_, (pss_cons (ps_asg (pe_tup (pa_cons (pe_tup (pa_cons pe_int (pa_cons (pe_tup (pa_cons (pe_tup (pa_cons pe_int (pa_cons pe_int pa_nil))) (pa_cons (pe_tup (pa_cons pe_int (pa_cons pe_int pa_nil))) pa_nil))) pa_nil))) (pa_cons (pe_tup (pa_cons pe_int (pa_cons (pe_tup (pa_cons (pe_tup (pa_cons pe_int (pa_cons pe_int pa_nil))) (pa_cons (pe_tup (pa_cons pe_int (pa_cons pe_int pa_nil))) pa_nil))) pa_nil))) (pa_cons (pe_tup (pa_cons pe_int (pa_cons pe_int (pa_cons pe_int (pa_cons pe_int pa_nil))))) pa_nil)))) (k_tup K (n := 3) rfl rfl (pgs_cons (pg_name (i := 0) sc__law_by_hand_right.nd rfl (Or.inl rfl)) (pgs_cons (pg_name (i := 1) sc__law_by_hand_right.nd rfl (Or.inr rfl)) (pgs_cons (pg_name (i := 2) sc__law_by_hand_right.nd rfl (Or.inr rfl)) pgs_nil))))) (pss_cons (ps_set (i := 3) sc__law_by_hand_right.nd rfl (Or.inr rfl) (pe_tup (pa_cons pe_int (pa_cons (pe_tup (pa_cons (pe_tup (pa_cons pe_int (pa_cons pe_int pa_nil))) (pa_cons (pe_tup (pa_cons pe_int (pa_cons pe_int pa_nil))) (pa_cons (pe_tup (pa_cons pe_int (pa_cons pe_int pa_nil))) (pa_cons (pe_tup (pa_cons pe_int (pa_cons pe_int pa_nil))) (pa_cons (pe_tup (pa_cons pe_int (pa_cons pe_int pa_nil))) (pa_cons (pe_tup (pa_cons pe_int (pa_cons pe_int pa_nil))) pa_nil))))))) pa_nil)))) (pss_cons (ps_set (i := 4) sc__law_by_hand_right.nd rfl (Or.inl rfl) (pe_lst (pa_cons (pv 2) (pa_cons (pe_tup (pa_cons pe_int (pa_cons pe_int (pa_cons pe_int (pa_cons pe_int pa_nil))))) (pa_cons (pe_lst (pa_cons pe_int (pa_cons pe_int (pa_cons pe_int (pa_cons pe_int pa_nil))))) (pa_cons (pe_tup (pa_cons pe_int (pa_cons pe_int (pa_cons pe_int (pa_cons pe_int pa_nil))))) (pa_cons (pe_tup (pa_cons pe_int (pa_cons pe_int (pa_cons pe_int (pa_cons pe_int pa_nil))))) (pa_cons (pe_tup (pa_cons pe_int (pa_cons pe_int (pa_cons pe_int (pa_cons pe_int pa_nil))))) (pa_cons (pe_tup (pa_cons pe_int (pa_cons pe_int (pa_cons pe_int pa_nil)))) (pa_cons (pe_tup (pa_cons pe_int (pa_cons pe_int (pa_cons pe_int (pa_cons pe_int pa_nil))))) (pa_cons pe_non (pa_cons (pe_tup pa_nil) (pa_cons (pe_tup (pa_cons pe_int (pa_cons pe_int (pa_cons pe_int (pa_cons pe_bl pa_nil))))) (pa_cons (pe_tup (pa_cons pe_int (pa_cons pe_int (pa_cons pe_int (pa_cons pe_int pa_nil))))) (pa_cons pe_str pa_nil))))))))))))))) (pss_cons (ps_set (i := 5) sc__law_by_hand_right.nd rfl (Or.inl rfl) (pe_lst (pa_cons (pe_lc (own := [("_law_own", 7)]) rfl sc__law_by_hand_right.nd (k_seq K rfl (pv 4)) (blkOk_by (own := [("_law_own", 7)]) (N := N__law_by_hand_right) (sc := (defScope s__law_by_hand_right)) (by decide +kernel)) (fun _ _ _ _ _ => (pg_name (i := 7) sc__law_by_hand_right.nd rfl (Or.inl rfl))) (fun _ _ _ _ _ => pts_nil) (fun _ _ _ _ _ => (pe_c (ok_is_mirror T) hr (by decide) (by rfl) (pa_cons (pv 1) (pa_cons (pv 7) pa_nil))))) (pa_cons (pe_lc (own := [("_law_own", 7)]) rfl sc__law_by_hand_right.nd (k_seq K rfl (pe_tup (pa_cons (pe_tup (pa_cons pe_int (pa_cons pe_int (pa_cons pe_int (pa_cons pe_int (pa_cons pe_int pa_nil)))))) (pa_cons (pe_tup (pa_cons pe_int (pa_cons pe_int (pa_cons pe_int (pa_cons pe_int (pa_cons pe_int pa_nil)))))) (pa_cons (pe_tup (pa_cons pe_int (pa_cons pe_int (pa_cons pe_int (pa_cons pe_int (pa_cons pe_int pa_nil)))))) pa_nil))))) (blkOk_by (own := [("_law_own", 7)]) (N := N__law_by_hand_right) (sc := (defScope s__law_by_hand_right)) (by decide +kernel)) (fun _ _ _ _ _ => (pg_name (i := 7) sc__law_by_hand_right.nd rfl (Or.inl rfl))) (fun _ _ _ _ _ => pts_nil) (fun _ _ _ _ _ => (pe_c (ok_is_mirror T) hr (by decide) (by rfl) (pa_cons (pv 3) (pa_cons (pv 7) pa_nil))))) (pa_cons (pe_c (ok_is_mirror T) hr (by decide) (by rfl) (pa_cons (pe_tup (pa_cons pe_int (pa_cons (pe_tup pa_nil) pa_nil))) (pa_cons (pe_tup pa_nil) pa_nil))) pa_nil))))) (pss_cons (ps_set (i := 6) sc__law_by_hand_right.nd rfl (Or.inl rfl) (pe_lst (pa_cons (pe_op (k_add K rfl) (pe_lst (pa_cons pe_bl (pa_cons pe_bl (pa_cons pe_bl (pa_cons pe_bl (pa_cons pe_bl pa_nil)))))) (pe_op op_rep (pe_lst (pa_cons pe_bl pa_nil)) pe_int)) (pa_cons (pe_lst (pa_cons pe_bl (pa_cons pe_bl (pa_cons pe_bl pa_nil)))) (pa_cons pe_bl pa_nil))))) (pss_cons (ps_set (i := 5) sc__law_by_hand_right.nd rfl (Or.inl rfl) (pe_op (k_add K rfl) (pv 5) (pe_lst (pa_cons (pe_c (ok_stays T) hr (by decide) (by rfl) (pa_cons (pv 0) (pa_cons (pe_tup (pa_cons pe_int (pa_cons pe_int (pa_cons pe_int pa_nil)))) pa_nil))) (pa_cons (pe_c (ok_moved_pairs T) hr (by decide) (by rfl) (pa_cons (pv 3) (pa_cons (pe_tup (pa_cons pe_int (pa_cons pe_int (pa_cons pe_int (pa_cons pe_int (pa_cons pe_int pa_nil)))))) pa_nil))) (pa_cons (pe_c (ok_staying_order T) hr (by decide) (by rfl) (pa_cons (pv 3) (pa_cons (pe_tup (pa_cons pe_int (pa_cons pe_int (pa_cons pe_int (pa_cons pe_int (pa_cons pe_int pa_nil)))))) pa_nil))) (pa_cons (pe_c (ok_staying_order T) hr (by decide) (by rfl) (pa_cons (pv 1) (pa_cons (pv 2) pa_nil))) pa_nil))))))) (pss_cons (ps_set (i := 6) sc__law_by_hand_right.nd rfl (Or.inl rfl) (pe_op (k_add K rfl) (pv 6) (pe_lst (pa_cons (pe_tup (pa_cons pe_int pa_nil)) (pa_cons (pe_tup (pa_cons (pe_tup (pa_cons pe_int (pa_cons pe_int pa_nil))) (pa_cons (pe_tup (pa_cons pe_int (pa_cons pe_int pa_nil))) pa_nil))) (pa_cons (pv 0) (pa_cons (pe_tup (pa_cons pe_int (pa_cons (pe_tup pa_nil) pa_nil))) pa_nil))))))) (pss_cons (ps_set (i := 5) sc__law_by_hand_right.nd rfl (Or.inl rfl) (pe_op (k_add K rfl) (pv 5) (pe_lst (pa_cons (pe_c (ok_worth_by_mirror T) hr (by decide) (by rfl) (pa_cons (pv 0) (pa_cons (pe_tup (pa_cons pe_int (pa_cons pe_int (pa_cons pe_int pa_nil)))) pa_nil))) (pa_cons (pe_c (ok_worth_by_mirror T) hr (by decide) (by rfl) (pa_cons (pv 1) (pa_cons (pv 2) pa_nil))) (pa_cons (pe_c (ok_worth_by_mirror T) hr (by decide) (by rfl) (pa_cons (pv 3) (pa_cons (pe_tup (pa_cons pe_int (pa_cons pe_int (pa_cons pe_int (pa_cons pe_int (pa_cons pe_int pa_nil)))))) pa_nil))) (pa_cons (pe_c (ok_worth_by_mirror T) hr (by decide) (by rfl) (pa_cons (pe_tup (pa_cons pe_int (pa_cons (pe_tup pa_nil) pa_nil))) (pa_cons (pe_tup pa_nil) pa_nil))) pa_nil))))))) (pss_cons (ps_set (i := 6) sc__law_by_hand_right.nd rfl (Or.inl rfl) (pe_op (k_add K rfl) (pv 6) (pe_lst (pa_cons pe_int (pa_cons pe_int (pa_cons pe_int (pa_cons pe_int pa_nil))))))) (pss_cons (ps_set (i := 5) sc__law_by_hand_right.nd rfl (Or.inl rfl) (pe_op (k_add K rfl) (pv 5) (pe_lst (pa_cons (pe_lc (own := [("_law_own", 7)]) rfl sc__law_by_hand_right.nd (k_seq K rfl (pe_tup (pa_cons (pe_tup (pa_cons pe_int (pa_cons pe_int pa_nil))) (pa_cons (pe_tup (pa_cons pe_int (pa_cons pe_int pa_nil))) (pa_cons (pe_tup pa_nil) (pa_cons (pe_tup (pa_cons pe_int (pa_cons pe_int (pa_cons pe_int (pa_cons pe_int pa_nil))))) pa_nil)))))) (blkOk_by (own := [("_law_own", 7)]) (N := N__law_by_hand_right) (sc := (defScope s__law_by_hand_right)) (by decide +kernel)) (fun _ _ _ _ _ => (pg_name (i := 7) sc__law_by_hand_right.nd rfl (Or.inl rfl))) (fun _ _ _ _ _ => pts_nil) (fun _ _ _ _ _ => (pe_c (ok_is_even T) hr (by decide) (by rfl) (pa_cons (pv 1) (pa_cons (pv 2) (pa_cons (pv 7) pa_nil)))))) (pa_cons (pe_mr (ok_mirror_reply T) hr (by decide) (by rfl) (pa_cons (pv 1) (pa_cons (pv 2) (pa_cons (pe_tup (pa_cons pe_int (pa_cons pe_int (pa_cons pe_int (pa_cons pe_int pa_nil))))) (pa_cons pe_int pa_nil))))) (pa_cons (pe_c (ok_mirror_left T) hr (by decide) (by rfl) (pa_cons (pv 1) (pa_cons (pv 2) (pa_cons (pe_tup (pa_cons pe_int (pa_cons pe_int (pa_cons pe_int (pa_cons pe_int pa_nil))))) (pa_cons pe_int pa_nil))))) pa_nil)))))) (pss_cons (ps_set (i := 6) sc__law_by_hand_right.nd rfl (Or.inl rfl) (pe_op (k_add K rfl) (pv 6) (pe_lst (pa_cons (pe_lst (pa_cons pe_bl (pa_cons pe_bl (pa_cons pe_bl (pa_cons pe_bl pa_nil))))) (pa_cons pe_int (pa_cons (pe_tup (pa_cons pe_int (pa_cons pe_int pa_nil))) pa_nil)))))) (pss_cons (ps_set (i := 5) sc__law_by_hand_right.nd rfl (Or.inl rfl) (pe_op (k_add K rfl) (pv 5) (pe_lst (pa_cons (pe_c (ok__law_heard T) hr (by decide) (by rfl) (pa_cons (pv 0) (pa_cons (pe_tup (pa_cons pe_int (pa_cons pe_int (pa_cons pe_int pa_nil)))) (pa_cons (pe_tup (pa_cons pe_int (pa_cons pe_int (pa_cons pe_int pa_nil)))) (pa_cons pe_int pa_nil))))) (pa_cons (pe_c (ok_mirror_left T) hr (by decide) (by rfl) (pa_cons (pv 0) (pa_cons (pe_tup (pa_cons pe_int (pa_cons pe_int (pa_cons pe_int pa_nil)))) (pa_cons (pe_tup (pa_cons pe_int (pa_cons pe_int (pa_cons pe_int pa_nil)))) (pa_cons pe_int pa_nil))))) (pa_cons (pe_c (ok_mirror_left T) hr (by decide) (by rfl) (pa_cons (pv 0) (pa_cons (pe_tup (pa_cons pe_int (pa_cons pe_int (pa_cons pe_int pa_nil)))) (pa_cons (pe_tup (pa_cons pe_int (pa_cons pe_int (pa_cons pe_int pa_nil)))) (pa_cons pe_int pa_nil))))) pa_nil)))))) (pss_cons (ps_set (i := 6) sc__law_by_hand_right.nd rfl (Or.inl rfl) (pe_op (k_add K rfl) (pv 6) (pe_lst (pa_cons (pe_lst (pa_cons pe_str (pa_cons pe_bl pa_nil))) (pa_cons (pe_tup pa_nil) (pa_cons (pe_tup (pa_cons pe_int pa_nil)) pa_nil)))))) (pss_cons (ps_set (i := 5) sc__law_by_hand_right.nd rfl (Or.inl rfl) (pe_op (k_add K rfl) (pv 5) (pe_lst (pa_cons (pe_kwC (okF_stays T) (T.gl 38 _ rfl) hr (by decide) (by rfl) (fun _ _ _ _ _ _ ws hl => match ws, hl with | [_, _], _ => rfl) (pk_cons (pe_lst (pa_cons pe_int (pa_cons pe_int (pa_cons pe_int pa_nil)))) (pk_cons (pe_c (ok__law_lists T 40) hr (by decide) (by rfl) (pa_cons (pv 0) pa_nil)) pk_nil))) (pa_cons (pe_kwC (okF_moved_pairs T) (T.gl 39 _ rfl) hr (by decide) (by rfl) (fun _ _ _ _ _ _ ws hl => match ws, hl with | [_, _], _ => rfl) (pk_cons (pe_lst (pa_cons pe_int (pa_cons pe_int (pa_cons pe_int (pa_cons pe_int pa_nil))))) (pk_cons (pv 1) pk_nil))) (pa_cons (pe_kwC (okF_worth_by_mirror T) (T.gl 41 _ rfl) hr (by decide) (by rfl) (fun _ _ _ _ _ _ ws hl => match ws, hl with | [_, _], _ => rfl) (pk_cons (pe_lst (pa_cons pe_int (pa_cons pe_int (pa_cons pe_int pa_nil)))) (pk_cons (pe_c (ok__law_lists T 40) hr (by decide) (by rfl) (pa_cons (pv 0) pa_nil)) pk_nil))) pa_nil)))))) (pss_cons (ps_set (i := 5) sc__law_by_hand_right.nd rfl (Or.inl rfl) (pe_op (k_add K rfl) (pv 5) (pe_lst (pa_cons (pe_mrK T hr (by decide) (by rfl) (pk_cons pe_int (pk_cons (pe_lst (pa_cons pe_int (pa_cons pe_int pa_nil))) (pk_cons (pe_lst (pa_cons pe_int (pa_cons pe_int (pa_cons pe_int (pa_cons pe_int pa_nil))))) (pk_cons (pe_c (ok__law_lists T 40) hr (by decide) (by rfl) (pa_cons (pv 1) pa_nil)) pk_nil))))) (pa_cons (pe_kwC (okF_mirror_left T) (T.gl 46 _ rfl) hr (by decide) (by rfl) (fun _ _ _ _ _ _ ws hl => match ws, hl with | [_, _, _, _], _ => rfl) (pk_cons pe_int (pk_cons (pe_lst (pa_cons pe_int (pa_cons pe_int pa_nil))) (pk_cons (pv 2) (pk_cons (pv 1) pk_nil))))) pa_nil))))) (pss_cons (ps_set (i := 5) sc__law_by_hand_right.nd rfl (Or.inl rfl) (pe_op (k_add K rfl) (pv 5) (pe_lst (pa_cons (pe_kwC (okF_is_even T) (T.gl 43 _ rfl) hr (by decide) (by rfl) (fun _ _ _ _ _ _ ws hl => match ws, hl with | [_, _, _], _ => rfl) (pk_cons (pe_lst (pa_cons pe_int (pa_cons pe_int pa_nil))) (pk_cons (pe_lst (pa_cons pe_int (pa_cons pe_int (pa_cons pe_int (pa_cons pe_int pa_nil))))) (pk_cons (pv 1) pk_nil)))) (pa_cons (pe_kwC (okF_staying_order T) (T.gl 40 _ rfl) hr (by decide) (by rfl) (fun _ _ _ _ _ _ ws hl => match ws, hl with | [_, _], _ => rfl) (pk_cons (pe_tup (pa_cons pe_int (pa_cons pe_int (pa_cons pe_int pa_nil)))) (pk_cons (pv 0) pk_nil))) (pa_cons (pe_kwC (okF_is_mirror T) (T.gl 35 _ rfl) hr (by decide) (by rfl) (fun _ _ _ _ _ _ ws hl => match ws, hl with | [_, _], _ => rfl) (pk_cons (pv 2) (pk_cons (pe_c (ok__law_lists T 40) hr (by decide) (by rfl) (pa_cons (pv 1) pa_nil)) pk_nil))) pa_nil)))))) (pss_one (ps_ret (pe_c (ok__law_same T 40) hr (by decide) (by rfl) (pa_cons (pv 5) (pa_cons (pe_op (k_add K rfl) (pv 6) (pe_lst (pa_cons (pe_tup (pa_cons pe_int pa_nil)) (pa_cons (pe_tup (pa_cons (pe_tup (pa_cons pe_int (pa_cons pe_int pa_nil))) (pa_cons (pe_tup (pa_cons pe_int (pa_cons pe_int pa_nil))) pa_nil))) (pa_cons pe_int (pa_cons pe_int (pa_cons (pe_tup pa_nil) (pa_cons pe_bl (pa_cons (pe_tup (pa_cons pe_int (pa_cons (pe_tup pa_nil) pa_nil))) (pa_cons pe_bl pa_nil)))))))))) pa_nil))))))))))))))))))))), fun ds r hR => by
  obtain ⟨rfl, rfl⟩ := hR
  have iT : ∀ {l : List Nat}, l.length ≤ 60 → IsIm (.tup (nats l)) l := imT_ok
  have iL : ∀ {l : List Nat}, l.length ≤ 60 → IsIm (.lst (nats l)) l := imL_ok
  refine sd_seq (sd_asgT (EvD.to (f := .tup [od 3 tFork, od 4 tRails, .tup (nats [2, 3, 0, 1])]) (ev_tup (ea3 (ev_tup (ea2 ev_int (ev_tup (ea2 (ev_tup (ea2 ev_int ev_int)) (ev_tup (ea2 ev_int ev_int)))))) (ev_tup (ea2 ev_int (ev_tup (ea2 (ev_tup (ea2 ev_int ev_int)) (ev_tup (ea2 ev_int ev_int)))))) (ev_tup (ea_cons ev_int (ea3 ev_int ev_int ev_int))))) rfl) tg_tup3 (fun _ _ z => nomatch z)) ?_
  refine sd_seq (sd_asg (EvD.to (f := od 5 tHouse) (ev_tup (ea2 ev_int (ev_tup (ea_cons (ev_tup (ea2 ev_int ev_int)) (ea_cons (ev_tup (ea2 ev_int ev_int)) (ea_cons (ev_tup (ea2 ev_int ev_int)) (ea3 (ev_tup (ea2 ev_int ev_int)) (ev_tup (ea2 ev_int ev_int)) (ev_tup (ea2 ev_int ev_int))))))))) rfl)) ?_
  refine sd_seq (sd_asg (EvD.to (f := .lst TH) (EvL.toD (el_lst (ea_cons (ev_v 2) (ea_cons (ev_tup (ea_cons ev_int (ea3 ev_int ev_int ev_int))) (ea_cons (EvL.toD (el_lst (ea_cons ev_int (ea3 ev_int ev_int ev_int)))) (ea_cons (ev_tup (ea_cons ev_int (ea3 ev_int ev_int ev_int))) (ea_cons (ev_tup (ea_cons ev_int (ea3 ev_int ev_int ev_int))) (ea_cons (ev_tup (ea_cons ev_int (ea3 ev_int ev_int ev_int))) (ea_cons (ev_tup (ea3 ev_int ev_int ev_int)) (ea_cons (ev_tup (ea_cons ev_int (ea3 ev_int ev_int ev_int))) (ea_cons ev_non (ea_cons (ev_tup ea_nil) (ea_cons (ev_tup (ea_cons ev_int (ea3 ev_int ev_int ev_bl))) (ea2 (ev_tup (ea_cons ev_int (ea3 ev_int ev_int ev_int))) ev_str)))))))))))))) rfl)) ?_
  refine sd_seq (sd_asg (EvD.to (f := .lst D1) (EvL.toD (el_lst (ea3
    (EvL.toD (el_map (as := TH) (en := id) (fn := fun d => .bl (mirI 4 tRails d)) (ρ' := fun d => [some (od 3 tFork), some (od 4 tRails), some (.tup (nats [2, 3, 0, 1])), some (od 5 tHouse), some (.lst TH), none, none, some d]) (EvI.to (ei_seqL (ev_v 4)) (by simp)) (fun _ _ => tg_name) (fun d h => ev_call (ea2 (ev_v 1) (ev_v 7)) ⟨4, tRails, _, d, rfl, od_is os_rails, th_sm d h, rfl⟩) (by decide)))
    (EvL.toD (el_map (as := [[0, 2, 1, 4, 3], [0, 2, 1, 3, 4], [0, 1, 2, 4, 3]]) (en := fun l => .tup (nats l)) (fn := fun l => .bl (mirI 5 tHouse (.tup (nats l)))) (ρ' := fun l => [some (od 3 tFork), some (od 4 tRails), some (.tup (nats [2, 3, 0, 1])), some (od 5 tHouse), some (.lst TH), none, none, some (.tup (nats l))]) (EvI.to (ei_seqT (ev_tup (ea3 (ev_tup (ea_cons ev_int (ea_cons ev_int (ea3 ev_int ev_int ev_int)))) (ev_tup (ea_cons ev_int (ea_cons ev_int (ea3 ev_int ev_int ev_int)))) (ev_tup (ea_cons ev_int (ea_cons ev_int (ea3 ev_int ev_int ev_int))))))) rfl) (fun _ _ => tg_name) (fun l h => ev_call (ea2 (ev_v 3) (ev_v 7)) ⟨5, tHouse, _, .tup (nats l), rfl, od_is os_house, h5_sm l h, rfl⟩) (by decide)))
    (ev_call (ea2 (ev_tup (ea2 ev_int (ev_tup ea_nil))) (ev_tup ea_nil)) ⟨0, [], od 0 [], .tup [], rfl, od_is os_nil, Nat.zero_le _, rfl⟩)))) d1_eq)) ?_
  refine sd_seq (sd_asg (EvD.to (f := .lst D1) (EvL.toD (el_lst (ea3 (EvL.toD (ea_lst (K := K) (EvL.toD (el_lst (ea_cons ev_bl (ea_cons ev_bl (ea3 ev_bl ev_bl ev_bl))))) ev_rep8 (by decide))) (EvL.toD (el_lst (ea3 ev_bl ev_bl ev_bl))) ev_bl))) rfl)) ?_
  have omF : OM (od 3 tFork) (.tup (nats [0, 2, 1])) 3 tFork [0, 2, 1] := ⟨od_is os_fork, iT (by decide), m_fork⟩
  have omFL : OM (odL 3 tFork) (.lst (nats [0, 2, 1])) 3 tFork [0, 2, 1] := ⟨odL_is os_fork, iL (by decide), m_fork⟩
  have omR : OM (od 4 tRails) (.tup (nats [2, 3, 0, 1])) 4 tRails [2, 3, 0, 1] := ⟨od_is os_rails, iT (by decide), m_rails⟩
  have omRl : OM (od 4 tRails) (.lst (nats [2, 3, 0, 1])) 4 tRails [2, 3, 0, 1] := ⟨od_is os_rails, iL (by decide), m_rails⟩
  have omRL : OM (odL 4 tRails) (.lst (nats [2, 3, 0, 1])) 4 tRails [2, 3, 0, 1] := ⟨odL_is os_rails, iL (by decide), m_rails⟩
  have omH1 : OM (od 5 tHouse) (.tup (nats [0, 2, 1, 4, 3])) 5 tHouse [0, 2, 1, 4, 3] := ⟨od_is os_house, iT (by decide), m_house1⟩
  have omH2 : OM (od 5 tHouse) (.tup (nats [0, 1, 2, 4, 3])) 5 tHouse [0, 1, 2, 4, 3] := ⟨od_is os_house, iT (by decide), m_house2⟩
  have omN : OM (od 0 []) (.tup (nats [])) 0 [] [] := ⟨od_is os_nil, iT (by decide), m_nil⟩
  refine sd_seq (sd_asg (EvD.to (f := .lst (D1 ++ E1)) (EvL.toD (ea_lst (K := K) (ev_v 5) (EvL.toD (el_lst (ea_cons (ev_call (ea2 (ev_v 0) (ev_tup (ea3 ev_int ev_int ev_int))) ⟨3, tFork, [0, 2, 1], _, _, rfl, omF, rfl⟩) (ea3 (ev_call (ea2 (ev_v 3) (ev_tup (ea_cons ev_int (ea_cons ev_int (ea3 ev_int ev_int ev_int))))) ⟨5, tHouse, [0, 2, 1, 4, 3], _, _, rfl, omH1, rfl⟩) (ev_call (ea2 (ev_v 3) (ev_tup (ea_cons ev_int (ea_cons ev_int (ea3 ev_int ev_int ev_int))))) ⟨5, tHouse, [0, 1, 2, 4, 3], _, _, rfl, omH2, rfl⟩) (ev_call (ea2 (ev_v 1) (ev_v 2)) ⟨4, tRails, [2, 3, 0, 1], _, _, rfl, omR, rfl⟩))))) (by decide))) (congrArg (fun z => Da.lst (D1 ++ z)) e1_eq))) ?_
  refine sd_seq (sd_asg (EvD.to (f := .lst (D1 ++ E1)) (EvL.toD (ea_lst (K := K) (ev_v 6) (EvL.toD (el_lst (ea_cons (ev_tup (ea1 ev_int)) (ea3 (ev_tup (ea2 (ev_tup (ea2 ev_int ev_int)) (ev_tup (ea2 ev_int ev_int)))) (ev_v 0) (ev_tup (ea2 ev_int (ev_tup ea_nil))))))) (by decide))) rfl)) ?_
  refine sd_seq (sd_asg (EvD.to (f := .lst (D1 ++ E1 ++ E2)) (EvL.toD (ea_lst (K := K) (ev_v 5) (EvL.toD (el_lst (ea_cons (ev_call (ea2 (ev_v 0) (ev_tup (ea3 ev_int ev_int ev_int))) ⟨3, tFork, [0, 2, 1], _, _, rfl, omF, by decide, rfl⟩) (ea3 (ev_call (ea2 (ev_v 1) (ev_v 2)) ⟨4, tRails, [2, 3, 0, 1], _, _, rfl, omR, by decide, rfl⟩) (ev_call (ea2 (ev_v 3) (ev_tup (ea_cons ev_int (ea_cons ev_int (ea3 ev_int ev_int ev_int))))) ⟨5, tHouse, [0, 1, 2, 4, 3], _, _, rfl, omH2, by decide, rfl⟩) (ev_call (ea2 (ev_tup (ea2 ev_int (ev_tup ea_nil))) (ev_tup ea_nil)) ⟨0, [], [], _, _, rfl, omN, by decide, rfl⟩))))) (by decide))) (congrArg (fun z => Da.lst (D1 ++ E1 ++ z)) e2_eq))) ?_
  refine sd_seq (sd_asg (EvD.to (f := .lst (D1 ++ E1 ++ E2)) (EvL.toD (ea_lst (K := K) (ev_v 6) (EvL.toD (el_lst (ea_cons ev_int (ea3 ev_int ev_int ev_int)))) (by decide))) rfl)) ?_
  refine sd_seq (sd_asg (EvD.to (f := .lst (D1 ++ E1 ++ E2 ++ E3)) (EvL.toD (ea_lst (K := K) (ev_v 5) (EvL.toD (el_lst (ea3 (EvL.toD (el_map (as := LS4) (en := fun l => .tup (nats l)) (fn := fun l => .bl (evn [2, 3, 0, 1] l)) (ρ' := fun l => [some (od 3 tFork), some (od 4 tRails), some (.tup (nats [2, 3, 0, 1])), some (od 5 tHouse), some (.lst TH), some (.lst (D1 ++ E1 ++ E2)), some (.lst (D1 ++ E1 ++ E2)), some (.tup (nats l))]) (EvI.to (ei_seqT (ev_tup (ea_cons (ev_tup (ea2 ev_int ev_int)) (ea3 (ev_tup (ea2 ev_int ev_int)) (ev_tup ea_nil) (ev_tup (ea_cons ev_int (ea3 ev_int ev_int ev_int))))))) rfl) (fun _ _ => tg_name) (fun l h => ev_call (ea3 (ev_v 1) (ev_v 2) (ev_v 7)) ⟨4, tRails, [2, 3, 0, 1], l, _, _, _, rfl, omR, ldT_ok (lf4 l h).1 (lf4 l h).2, rfl⟩) (by decide))) (ev_mr (ea_cons (ev_v 1) (ea3 (ev_v 2) (ev_tup (ea_cons ev_int (ea3 ev_int ev_int ev_int))) ev_int)) ⟨⟨4, tRails, [0, 1, 2, 3], _, _, _, rfl, omR, ldT_ok (lf4 [0, 1, 2, 3] (by simp)).1 (by decide), ls_e1, by decide⟩⟩ (by rw [ls_g1]; decide)) (ev_call (ea_cons (ev_v 1) (ea3 (ev_v 2) (ev_tup (ea_cons ev_int (ea3 ev_int ev_int ev_int))) ev_int)) ⟨4, tRails, [2, 3, 0, 1], [0, 1, 2, 3], _, _, _, 1, rfl, omR, ldT_ok (lf4 [0, 1, 2, 3] (by simp)).1 (by decide), ls_e1, by decide, rfl⟩)))) (by decide))) (congrArg (fun z => Da.lst (D1 ++ E1 ++ E2 ++ z)) e3_eq))) ?_
  refine sd_seq (sd_asg (EvD.to (f := .lst (D1 ++ E1 ++ E2 ++ E3)) (EvL.toD (ea_lst (K := K) (ev_v 6) (EvL.toD (el_lst (ea3 (EvL.toD (el_lst (ea_cons ev_bl (ea3 ev_bl ev_bl ev_bl)))) ev_int (ev_tup (ea2 ev_int ev_int))))) (by decide))) rfl)) ?_
  refine sd_seq (sd_asg (EvD.to (f := .lst (D1 ++ E1 ++ E2 ++ E3 ++ E4)) (EvL.toD (ea_lst (K := K) (ev_v 5) (EvL.toD (el_lst (ea3 (ev_call (ea_cons (ev_v 0) (ea3 (ev_tup (ea3 ev_int ev_int ev_int)) (ev_tup (ea3 ev_int ev_int ev_int)) ev_int)) ⟨[0, 2, 1], 0, ⟨⟨3, tFork, [0, 1, 2], _, _, _, rfl, omF, ldT_ok lf3 (by decide), ls_e2, by decide⟩⟩, rfl⟩) (ev_call (ea_cons (ev_v 0) (ea3 (ev_tup (ea3 ev_int ev_int ev_int)) (ev_tup (ea3 ev_int ev_int ev_int)) ev_int)) ⟨3, tFork, [0, 2, 1], [0, 1, 2], _, _, _, 0, rfl, omF, ldT_ok lf3 (by decide), ls_e2, by decide, rfl⟩) (ev_call (ea_cons (ev_v 0) (ea3 (ev_tup (ea3 ev_int ev_int ev_int)) (ev_tup (ea3 ev_int ev_int ev_int)) ev_int)) ⟨3, tFork, [0, 2, 1], [0, 1, 2], _, _, _, 2, rfl, omF, ldT_ok lf3 (by decide), ls_e2, by decide, rfl⟩)))) (by decide))) (congrArg (fun z => Da.lst (D1 ++ E1 ++ E2 ++ E3 ++ z)) e4_eq))) ?_
  refine sd_seq (sd_asg (EvD.to (f := .lst (D1 ++ E1 ++ E2 ++ E3 ++ E4)) (EvL.toD (ea_lst (K := K) (ev_v 6) (EvL.toD (el_lst (ea3 (EvL.toD (el_lst (ea2 ev_str ev_bl))) (ev_tup ea_nil) (ev_tup (ea1 ev_int))))) (by decide))) rfl)) ?_
  refine sd_seq (sd_asg (EvD.to (f := .lst (D1 ++ E1 ++ E2 ++ E3 ++ E4 ++ E5)) (EvL.toD (ea_lst (K := K) (ev_v 5) (EvL.toD (el_lst (ea3 (ev_kw (ea2 (EvL.toD (el_lst (ea3 ev_int ev_int ev_int))) (ev_call (ea1 (ev_v 0)) ⟨od 3 tFork, rfl, od_fit (by decide), od_lsd.symm⟩)) ⟨3, tFork, [0, 2, 1], _, _, rfl, omFL, rfl⟩) (ev_kw (ea2 (EvL.toD (el_lst (ea_cons ev_int (ea3 ev_int ev_int ev_int)))) (ev_v 1)) ⟨4, tRails, [2, 3, 0, 1], _, _, rfl, omRl, rfl⟩) (ev_kw (ea2 (EvL.toD (el_lst (ea3 ev_int ev_int ev_int))) (ev_call (ea1 (ev_v 0)) ⟨od 3 tFork, rfl, od_fit (by decide), od_lsd.symm⟩)) ⟨3, tFork, [0, 2, 1], _, _, rfl, omFL, by decide, rfl⟩)))) (by decide))) (congrArg (fun z => Da.lst (D1 ++ E1 ++ E2 ++ E3 ++ E4 ++ z)) e5_eq))) ?_
  refine sd_seq (sd_asg (EvD.to (f := .lst (D1 ++ E1 ++ E2 ++ E3 ++ E4 ++ E5 ++ E6)) (EvL.toD (ea_lst (K := K) (ev_v 5) (EvL.toD (el_lst (ea2 (ev_mrK (ea_cons ev_int (ea3 (EvL.toD (el_lst (ea2 ev_int ev_int))) (EvL.toD (el_lst (ea_cons ev_int (ea3 ev_int ev_int ev_int)))) (ev_call (ea1 (ev_v 1)) ⟨od 4 tRails, rfl, od_fit (by decide), od_lsd.symm⟩))) ⟨⟨4, tRails, [0, 2], _, _, _, rfl, omRL, ldL_ok (lf4 [0, 2] (by simp)).1 (by decide), ls_e0, by decide⟩⟩ (by rw [ls_g0]; decide)) (ev_kw (ea_cons ev_int (ea3 (EvL.toD (el_lst (ea2 ev_int ev_int))) (ev_v 2) (ev_v 1))) ⟨4, tRails, [2, 3, 0, 1], [0, 2], _, _, _, 0, rfl, omR, ldL_ok (lf4 [0, 2] (by simp)).1 (by decide), ls_e0, by decide, rfl⟩)))) (by decide))) (congrArg (fun z => Da.lst (D1 ++ E1 ++ E2 ++ E3 ++ E4 ++ E5 ++ z)) e6_eq))) ?_
  refine sd_seq (sd_asg (EvD.to (f := .lst (D1 ++ E1 ++ E2 ++ E3 ++ E4 ++ E5 ++ E6 ++ E7)) (EvL.toD (ea_lst (K := K) (ev_v 5) (EvL.toD (el_lst (ea3 (ev_kw (ea3 (EvL.toD (el_lst (ea2 ev_int ev_int))) (EvL.toD (el_lst (ea_cons ev_int (ea3 ev_int ev_int ev_int)))) (ev_v 1)) ⟨4, tRails, [2, 3, 0, 1], [0, 2], _, _, _, rfl, omRl, ldL_ok (lf4 [0, 2] (by simp)).1 (by decide), rfl⟩) (ev_kw (ea2 (ev_tup (ea3 ev_int ev_int ev_int)) (ev_v 0)) ⟨3, tFork, [0, 2, 1], _, _, rfl, omF, rfl⟩) (ev_kw (ea2 (ev_v 2) (ev_call (ea1 (ev_v 1)) ⟨od 4 tRails, rfl, od_fit (by decide), od_lsd.symm⟩)) ⟨4, tRails, _, .tup (nats [2, 3, 0, 1]), rfl, odL_is os_rails, Nat.le_of_ble_eq_true rfl, rfl⟩)))) (by decide))) (congrArg (fun z => Da.lst (D1 ++ E1 ++ E2 ++ E3 ++ E4 ++ E5 ++ E6 ++ z)) e7_eq))) ?_
  exact sd_ret (ev_call (ea2 (ev_v 5) (EvL.toD (ea_lst (K := K) (ev_v 6) (EvL.toD (el_lst (ea_cons (ev_tup (ea1 ev_int)) (ea_cons (ev_tup (ea2 (ev_tup (ea2 ev_int ev_int)) (ev_tup (ea2 ev_int ev_int)))) (ea_cons ev_int (ea_cons ev_int (ea_cons (ev_tup ea_nil) (ea3 ev_bl (ev_tup (ea2 ev_int (ev_tup ea_nil))) ev_bl)))))))) (by decide)))) ⟨.lst (D1 ++ E1 ++ E2 ++ E3 ++ E4 ++ E5 ++ E6 ++ E7), rfl, by decide +kernel, rfl⟩)⟩
end Mk
end

section
set_option Elab.async false
set_option linter.all false
set_option maxRecDepth 100000
set_option maxHeartbeats 0
namespace Mk
open PySem PySem.Spec PyProof.Rows L2
theorem facts {P : Program} {w : World} {K : PySem.W.Frag} {h : Heap} {mg : Str → Option Value} {f : Addr} (X : K.In h) (G : h.Ns mainGlobals mg) (hfa : mg ("law" : Str) = some (.ref f)) (c : SaysX K) :
    ∃ fd : FuncData, (∀ (s : Shared) (v : Value), BindsTo s fd ⟨[v], []⟩ [("_law_script", v)]) ∧ ∀ base : Heap, K.In base → base.Ns mainGlobals mg → FnOk P w K mg base CX0 64 f fd ["_law_script"] (spLaw K) := by
  have T : Tx K mg := tx_of X G c
  obtain ⟨fd, F⟩ := c.d.def_ 77 (show fn[77]? = some (dd "law" _) from rfl)
  have e := hfa.symm.trans (T.gl 77 _ rfl)
  cases e
  have b := FunD.bindsA (ps := ["_law_script"]) F fun _ _ _ _ _ _ us hl => match us, hl with | [_], _ => rfl
  refine ⟨fd, fun s v => b s [v] rfl, fun base _ _ => ?_⟩
  exact ok_law T (ok__law_by_hand_right T) F
end Mk
open PySem PySem.W PySem.Calls PyProof.Rows
theorem PySem.Challenge.cw_eatenorders_k47_whole_mirrors_and_what_s_holds : PySem.Challenge.rw_eatenorders_k47_whole_mirrors_and_what_s.Holds := by
  w_on; o_law
  refine HandSHeadRun.head_any (r := OpenLaw.row PySem.Challenge.rw_eatenorders_k47_whole_mirrors_and_what_s) (q := view (OpenLaw.row PySem.Challenge.rw_eatenorders_k47_whole_mirrors_and_what_s).prog [89]) (H := Mk.hk) (ob := Mk.ob) (M := 6000) (loose := Mk.nm) (d := HandSHeadRun.topDef (OpenLaw.row PySem.Challenge.rw_eatenorders_k47_whole_mirrors_and_what_s).prog 89) (kwd := []) Mk.ob_eq
    (by kernel_rfl) (fun s => by kernel_rfl) Mk.run (by kernel_rfl) (by kernel_rfl) (by kernel_rfl) (by rfl) (by first | assumption | decide +kernel) (by decide +kernel) ⟨rfl, rfl, rfl, rfl, rfl, by decide +kernel⟩ ?hw ?hc
  case hw => w_witness2
  case hc =>
    refine L2.walk_ofE (l := PySem.Challenge.rw_eatenorders_k47_whole_mirrors_and_what_s) (n := 63) (k := 64) (x := "_law_script") (CX := L2.CX0) rfl (by decide) (by kernel_rfl) ⟨rfl, by decide, by decide⟩ ?F (fun _ _ _ _ z => z)
    intro w mg fa h Y G hmg0
    obtain ⟨K, KX, c⟩ := Y
    have hmg : mg ("law" : PySem.Str) = some (.ref fa) := by
      have e : (HandSHeadRun.topDef (OpenLaw.row PySem.Challenge.rw_eatenorders_k47_whole_mirrors_and_what_s).prog 89).name = ("law" : PySem.Str) := by kernel_rfl
      rw [← e]
      exact hmg0
    obtain ⟨fd, hb, hF⟩ := Mk.facts (P := (PySem.Challenge.rw_eatenorders_k47_whole_mirrors_and_what_s).prog) (w := w) KX G hmg c
    exact ⟨K, fd, Mk.spLaw K, KX, hb, fun H a ns hl _ hS => ⟨a, ns, rfl, hS, hl, fun _ => rfl⟩, hF⟩
end
