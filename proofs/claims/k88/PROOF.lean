import PyProof.Rows.All
import Wide.All
import OpenK.AllK
import Wide.FinOn
import KE.KStateDown
import HandS.Head0
import HandS.Head1
import HandS.Head2
import HandS.HeadEnd
import HandS.HeadHook1
import HandS.HeadHook2
import PySem.Challenge.RW_copygraphs_k88_across_sets_that_meet_and
import HandS.ForMost
import HandS.ForExc
import HandS.Property
import HandS.Deep
import HandS.Star
import HandS.TupAny
import HandS.TupMul
import HandS.Style
import HandS.Flow
import HandS.IsInst
import HandS.Conv
import HandS.WideBits
import HandS.Zip
import HandS.TryOnly
import HandS.Defaults
import KE.SortData
import HandS.List
import HandS.Small
import KE.GoesEnum
import KE.GoesMore
import HandS.Iter
import HandS.Codes
section
set_option Elab.async false
set_option linter.all false
set_option maxRecDepth 100000
namespace Z
open PySem PySem.Spec PyProof.Rows L2 He
def tys : List String := ["NoneType", "bool", "int", "str", "tuple", "list", "dict"]
def NotB (K : PySem.W.Frag) (C : Addr) : Prop := ∀ n ∈ tys, PySem.W.kitOne K (.type n) (.ref C) = some false
/-! ### the head: what is looked at -/
def fnA (K : PySem.W.Frag) (a : Addr) : FnW := match K.lookup a with
  | some ⟨_, _, .func fd, _⟩ => some (fd.name, fd.qualname, fd.params, fd.body, fd.scope, fd.globals, fd.closure, fd.builtins)
  | _ => none
/-- a def at an address found in K -/
structure DefA where
  at_ : PySem.W.Frag → Addr
  name : Str
  qual : Str
  params : Arguments
  body : List Stmt
  scope : Scope
def DefA.val (d : DefA) : FnW := some (d.name, d.qual, d.params, .stmts d.body, d.scope, mainGlobals, [], builtinsNs)
def DefA.ok (K : PySem.W.Frag) (d : DefA) : Bool := PySem.W.keepIn K (.ref (d.at_ K)) && (match K.lookup (d.at_ K) with
  | some ⟨_, _, .func fd, _⟩ => PySem.W.codeIn K fd.code d.qual && (dflB K fd.defaults [] && kwdB K fd.kwdefaults [])
  | _ => false)
theorem DefA.funD {K : PySem.W.Frag} {d : DefA} (e : fnA K (d.at_ K) = d.val) (c : d.ok K = true) : ∃ fd, FunD K d.name d.qual d.params d.body d.scope [] [] (d.at_ K) fd := by
  obtain ⟨kp, c2⟩ := ba c
  unfold fnA at e
  cases q : K.lookup (d.at_ K) with
  | none =>
    rw [q] at c2
    cases c2
  | some o =>
    obtain ⟨oc, od, dt, osl⟩ := o
    rw [q] at c2 e
    cases dt with
    | func fd =>
      obtain ⟨n1, n2, n3, n4, n5, n6, n7, n8, n9, n10, n11, n12, n13, n14, n15⟩ := fd
      have e2 : (some (n1, n2, n3, n4, n5, n6, n7, n15) : FnW) = some (d.name, d.qual, d.params, .stmts d.body, d.scope, mainGlobals, [], builtinsNs) := e
      simp only [Option.some.injEq, Prod.mk.injEq] at e2
      obtain ⟨h1, h2, h3, h4, h5, h6, h7, h8⟩ := e2
      subst h1 h2 h3 h4 h5 h6 h7 h8
      have c3 : (PySem.W.codeIn K n13 d.qual && (dflB K n8 [] && kwdB K n9 [])) = true := c2
      obtain ⟨k1, k2⟩ := ba c3
      obtain ⟨k3, k4⟩ := ba k2
      exact ⟨_, ⟨oc, od, n8, n9, n10, n11, n12, n13, n14, osl, rfl, q, k1, dflB_ok k3, kwdB_ok k4⟩, kp⟩
    | _ => cases c2
/-- the property f of the class x: its object, its getter -/
def prA (x f : Str) (K : PySem.W.Frag) : Addr := match PySem.W.findIn K (.ref (ga K x)) f with
  | some (some (.ref a)) => a
  | _ => 0
def gtA (x f : Str) (K : PySem.W.Frag) : Addr := match PySem.W.recIn K (prA x f K) "property" with
  | some (.ref g :: _) => g
  | _ => 0
def propB (K : PySem.W.Frag) (x f : Str) : Bool := eqO (PySem.W.findIn K (.ref (ga K x)) f) (some (some (.ref (prA x f K)))) && (eqO (PySem.W.specialIn K (.ref (prA x f K)) "__get__") (some (some (.builtin "property.__get__"))) && (decide (PySem.W.takesIn K (.ref (prA x f K)) = some true) &&
  (match PySem.W.recIn K (prA x f K) "property" with
  | some (.ref _ :: _) => true
  | _ => false)))
theorem propB_ok {K : PySem.W.Frag} {x f : Str} (h : propB K x f = true) : PropOf K (ga K x) f (prA x f K) (gtA x f K) := by
  obtain ⟨h1, h2⟩ := ba h
  obtain ⟨h3, h4⟩ := ba h2
  obtain ⟨h5, h6⟩ := ba h4
  refine ⟨eqO_ok h1, eqO_ok h3, of_decide_eq_true h5, ?_⟩
  unfold gtA
  cases e : PySem.W.recIn K (prA x f K) "property" with
  | none => rw [e] at h6; cases h6
  | some l =>
    rw [e] at h6
    cases l with
    | nil => cases h6
    | cons u r =>
      cases u with
      | ref a => exact ⟨r, rfl⟩
      | _ => cases h6
def notB (K : PySem.W.Frag) (C : Addr) : Bool := tys.all fun n => decide (PySem.W.kitOne K (.type n) (.ref C) = some false)
theorem notB_ok {K : PySem.W.Frag} {C : Addr} (h : notB K C = true) : NotB K C := fun n hn => of_decide_eq_true (List.all_eq_true.mp h n hn)
def insB (K : PySem.W.Frag) (x : Str) : Bool := notB K (ga K x) && (eqO (PySem.W.findIn K (.ref (ga K x)) "__class__") (some (some (.builtin "object.__class__"))) && (eqO (PySem.W.specialIn K (.builtin "object.__class__") "__get__") (some (some (.builtin "getset_descriptor.__get__"))) &&
  (decide (PySem.W.takesIn K (.builtin "object.__class__") = some true) && decide (PySem.W.mroIn K (ga K x) (.type "object") = some true))))
/-! the Hook -/
abbrev AlZ : Type := AlD × (Bool × List FnW)
def obsZ (fa : List Fa) (fn : List DefD) (ps : List DefA) (ex : PySem.W.Frag → Bool) (K : PySem.W.Frag) : AlZ := (obsD fa fn K, (ex K && ps.all fun d => d.ok K, ps.map fun d => fnA K (d.at_ K)))
def valZ (fn : List DefD) (ps : List DefA) : AlZ := (valD fn, (true, ps.map DefA.val))
def obsZG (n : Nat) (fa : List Fa) (fn : List DefD) (ps : List DefA) (ex : PySem.W.Frag → Bool) (g : Addr → Option Obj) : AlZ := obsZ fa fn ps ex (frG g (asD g n))
def SaysZ (fa : List Fa) (fn : List DefD) (ps : List DefA) (ex : PySem.W.Frag → Bool) (K : PySem.W.Frag) : Prop := obsZ fa fn ps ex K = valZ fn ps
def hookZ (n : Nat) (fa : List Fa) (fn : List DefD) (ps : List DefA) (ex : PySem.W.Frag → Bool) : PySem.W.Hook where
  α := AlZ
  obs := fun s => obsZG n fa fn ps ex s.heap.get?
  val := fun _ => valZ fn ps
  says := fun _ h => ∃ K : PySem.W.Frag, K.In h ∧ SaysZ fa fn ps ex K
  of := fun _ _ e => ⟨_, frG_in, e⟩
  keeps := fun _ _ _ ⟨K, hK, c⟩ k => ⟨K, PySem.W.Frag.In.keeps hK k, c⟩
theorem obsZG_eq {n : Nat} {fa : List Fa} {fn : List DefD} {ps : List DefA} {ex : PySem.W.Frag → Bool} {g : Addr → Option Obj} {s : Shared} (h : ∀ a, g a = s.heap.get? a) : obsZG n fa fn ps ex g = (hookZ n fa fn ps ex).obs s := by
  have e : g = s.heap.get? := funext h
  rw [e] <;> rfl
section
variable {fa : List Fa} {fn : List DefD} {ps : List DefA} {ex : PySem.W.Frag → Bool} {K : PySem.W.Frag}
theorem SaysZ.d (c : SaysZ fa fn ps ex K) : SaysD fa fn K := congrArg (fun z : AlZ => z.1) c
theorem SaysZ.exo (c : SaysZ fa fn ps ex K) : ex K = true := (ba (show (ex K && ps.all fun d => d.ok K) = true from congrArg (fun z : AlZ => z.2.1) c)).1
theorem SaysZ.pr (c : SaysZ fa fn ps ex K) (i : Nat) {d : DefA} (h : ps[i]? = some d := by rfl) : ∃ fd, FunD K d.name d.qual d.params d.body d.scope [] [] (d.at_ K) fd := by
  have c2 := (ba (show (ex K && ps.all fun d => d.ok K) = true from congrArg (fun z : AlZ => z.2.1) c)).2
  have e : ps.map (fun d => fnA K (d.at_ K)) = ps.map DefA.val := congrArg (fun z : AlZ => z.2.2) c
  have e2 : (ps.map fun d => fnA K (d.at_ K))[i]? = (ps.map DefA.val)[i]? := by rw [e]
  rw [List.getElem?_map, List.getElem?_map, h] at e2
  exact DefA.funD (Option.some.inj e2) (List.all_eq_true.mp c2 d (List.mem_of_getElem? h))
end
end Z
end
section
set_option Elab.async false
set_option linter.all false
set_option maxRecDepth 100000
set_option maxHeartbeats 0
namespace LK
open PySem PySem.Spec PyProof.Rows L2 Z He
def top (i : Nat) : Stmt := PySem.Challenge.pw_copygraphs_k88_across_sets_that_meet_and.main.body.getD i (.Pass ⟨0, 0, 0, 0⟩)
def d__law_begun : DefD := ⟨("_law_begun", none), "_law_begun", "_law_begun", defArgs (top 86), defBody (top 86), defScope (top 86), [], []⟩
def d_is_number : DefD := ⟨("is_number", none), "is_number", "is_number", defArgs (top 14), defBody (top 14), defScope (top 14), [], []⟩
def d_is_between : DefD := ⟨("is_between", none), "is_between", "is_between", defArgs (top 15), defBody (top 15), defScope (top 15), [], []⟩
def d_need_places : DefD := ⟨("need_places", none), "need_places", "need_places", defArgs (top 25), defBody (top 25), defScope (top 25), [], []⟩
def d_need_arc_size : DefD := ⟨("need_arc_size", none), "need_arc_size", "need_arc_size", defArgs (top 64), defBody (top 64), defScope (top 64), [], []⟩
def d_is_list : DefD := ⟨("is_list", none), "is_list", "is_list", defArgs (top 16), defBody (top 16), defScope (top 16), [], []⟩
def d_is_rising : DefD := ⟨("is_rising", none), "is_rising", "is_rising", defArgs (top 17), defBody (top 17), defScope (top 17), [], []⟩
def d_is_side : DefD := ⟨("is_side", none), "is_side", "is_side", defArgs (top 21), defBody (top 21), defScope (top 21), [], []⟩
def d_need_sets : DefD := ⟨("need_sets", none), "need_sets", "need_sets", defArgs (top 53), defBody (top 53), defScope (top 53), [], []⟩
def d_need_arcs : DefD := ⟨("need_arcs", none), "need_arcs", "need_arcs", defArgs (top 65), defBody (top 65), defScope (top 65), [], []⟩
def d_rising_keys : DefD := ⟨("rising_keys", none), "rising_keys", "rising_keys", defArgs (top 62), defBody (top 62), defScope (top 62), [], []⟩
def d_common_of : DefD := ⟨("common_of", none), "common_of", "common_of", defArgs (top 22), defBody (top 22), defScope (top 22), [], []⟩
def d_round_with : DefD := ⟨("round_with", none), "round_with", "round_with", defArgs (top 72), defBody (top 72), defScope (top 72), [], []⟩
def d_meeting_paper : DefD := ⟨("meeting_paper", none), "meeting_paper", "meeting_paper", defArgs (top 73), defBody (top 73), defScope (top 73), [], []⟩
def d__law_keys : DefD := ⟨("_law_keys", none), "_law_keys", "_law_keys", defArgs (top 93), defBody (top 93), defScope (top 93), [], []⟩
def d_orders_by : DefD := ⟨("orders_by", none), "orders_by", "orders_by", defArgs (top 59), defBody (top 59), defScope (top 59), [], []⟩
def d_round_orders_by : DefD := ⟨("round_orders_by", none), "round_orders_by", "round_orders_by", defArgs (top 67), defBody (top 67), defScope (top 67), [], []⟩
def d_round_orders : DefD := ⟨("round_orders", none), "round_orders", "round_orders", defArgs (top 68), defBody (top 68), defScope (top 68), [], []⟩
def d__law_blend : DefD := ⟨("_law_blend", none), "_law_blend", "_law_blend", defArgs (top 87), defBody (top 87), defScope (top 87), [], []⟩
def d__law_draw : DefD := ⟨("_law_draw", none), "_law_draw", "_law_draw", defArgs (top 88), defBody (top 88), defScope (top 88), [], []⟩
def d__law_pick : DefD := ⟨("_law_pick", none), "_law_pick", "_law_pick", defArgs (top 89), defBody (top 89), defScope (top 89), [], []⟩
def d_meets : DefD := ⟨("meets", none), "meets", "meets", defArgs (top 23), defBody (top 23), defScope (top 23), [], []⟩
def d_is_pair : DefD := ⟨("is_pair", none), "is_pair", "is_pair", defArgs (top 24), defBody (top 24), defScope (top 24), [], []⟩
def d_need_pairs : DefD := ⟨("need_pairs", none), "need_pairs", "need_pairs", defArgs (top 26), defBody (top 26), defScope (top 26), [], []⟩
def d_Family___init__ : DefD := ⟨("Family", some "__init__"), "__init__", "Family.__init__", defArgs (inClass (top 27) 0), defBody (inClass (top 27) 0), defScope (inClass (top 27) 0), [], []⟩
def d_need_many : DefD := ⟨("need_many", none), "need_many", "need_many", defArgs (top 81), defBody (top 81), defScope (top 81), [], []⟩
def d_picks : DefD := ⟨("picks", none), "picks", "picks", defArgs (top 51), defBody (top 51), defScope (top 51), [], []⟩
def d_greatest_top : DefD := ⟨("greatest_top", none), "greatest_top", "greatest_top", defArgs (top 82), defBody (top 82), defScope (top 82), [], []⟩
def d_cascade_by : DefD := ⟨("cascade_by", none), "cascade_by", "cascade_by", defArgs (top 83), defBody (top 83), defScope (top 83), [], []⟩
def d_least_shadow : DefD := ⟨("least_shadow", none), "least_shadow", "least_shadow", defArgs (top 84), defBody (top 84), defScope (top 84), [], []⟩
def d_is_within_side : DefD := ⟨("is_within_side", none), "is_within_side", "is_within_side", defArgs (top 55), defBody (top 55), defScope (top 55), [], []⟩
def d_unlike_keys : DefD := ⟨("unlike_keys", none), "unlike_keys", "unlike_keys", defArgs (top 56), defBody (top 56), defScope (top 56), [], []⟩
def d_is_antichain : DefD := ⟨("is_antichain", none), "is_antichain", "is_antichain", defArgs (top 57), defBody (top 57), defScope (top 57), [], []⟩
def d_need_family : DefD := ⟨("need_family", none), "need_family", "need_family", defArgs (top 28), defBody (top 28), defScope (top 28), [.non], []⟩
def d_is_kind : DefD := ⟨("is_kind", none), "is_kind", "is_kind", defArgs (top 41), defBody (top 41), defScope (top 41), [], []⟩
def d_need_kind : DefD := ⟨("need_kind", none), "need_kind", "need_kind", defArgs (top 42), defBody (top 42), defScope (top 42), [], []⟩
def d_need_family_kind : DefD := ⟨("need_family_kind", none), "need_family_kind", "need_family_kind", defArgs (top 43), defBody (top 43), defScope (top 43), [], []⟩
def d_keys_of : DefD := ⟨("keys_of", none), "keys_of", "keys_of", defArgs (top 46), defBody (top 46), defScope (top 46), [], []⟩
def d_Family_many : DefD := ⟨("Family", some "many"), "many", "Family.many", defArgs (inClass (top 27) 3), defBody (inClass (top 27) 3), defScope (inClass (top 27) 3), [], []⟩
def d_right_places : DefD := ⟨("right_places", none), "right_places", "right_places", defArgs (top 47), defBody (top 47), defScope (top 47), [], []⟩
def d_first_failing : DefD := ⟨("first_failing", none), "first_failing", "first_failing", defArgs (top 48), defBody (top 48), defScope (top 48), [], []⟩
def d_is_of_kind : DefD := ⟨("is_of_kind", none), "is_of_kind", "is_of_kind", defArgs (top 49), defBody (top 49), defScope (top 49), [], []⟩
def d_need_sized : DefD := ⟨("need_sized", none), "need_sized", "need_sized", defArgs (top 78), defBody (top 78), defScope (top 78), [], []⟩
def d_shadow_by : DefD := ⟨("shadow_by", none), "shadow_by", "shadow_by", defArgs (top 79), defBody (top 79), defScope (top 79), [], []⟩
def d_shadow : DefD := ⟨("shadow", none), "shadow", "shadow", defArgs (top 80), defBody (top 80), defScope (top 80), [], []⟩
def d_is_order : DefD := ⟨("is_order", none), "is_order", "is_order", defArgs (top 31), defBody (top 31), defScope (top 31), [], []⟩
def d_need_order : DefD := ⟨("need_order", none), "need_order", "need_order", defArgs (top 32), defBody (top 32), defScope (top 32), [], []⟩
def d_parts_by : DefD := ⟨("parts_by", none), "parts_by", "parts_by", defArgs (top 60), defBody (top 60), defScope (top 60), [], []⟩
def d_parted_by : DefD := ⟨("parted_by", none), "parted_by", "parted_by", defArgs (top 61), defBody (top 61), defScope (top 61), [], []⟩
def d_need_index : DefD := ⟨("need_index", none), "need_index", "need_index", defArgs (top 29), defBody (top 29), defScope (top 29), [], []⟩
def d_crosses_by : DefD := ⟨("crosses_by", none), "crosses_by", "crosses_by", defArgs (top 44), defBody (top 44), defScope (top 44), [], []⟩
def d_crosses : DefD := ⟨("crosses", none), "crosses", "crosses", defArgs (top 45), defBody (top 45), defScope (top 45), [], []⟩
def d_others_of : DefD := ⟨("others_of", none), "others_of", "others_of", defArgs (top 35), defBody (top 35), defScope (top 35), [], []⟩
def d_sets_family : DefD := ⟨("sets_family", none), "sets_family", "sets_family", defArgs (top 54), defBody (top 54), defScope (top 54), [], []⟩
def d_most_meeting : DefD := ⟨("most_meeting", none), "most_meeting", "most_meeting", defArgs (top 75), defBody (top 75), defScope (top 75), [], []⟩
def d_arcs_by : DefD := ⟨("arcs_by", none), "arcs_by", "arcs_by", defArgs (top 69), defBody (top 69), defScope (top 69), [], []⟩
def d_most_arcs : DefD := ⟨("most_arcs", none), "most_arcs", "most_arcs", defArgs (top 71), defBody (top 71), defScope (top 71), [], []⟩
def d_is_round : DefD := ⟨("is_round", none), "is_round", "is_round", defArgs (top 66), defBody (top 66), defScope (top 66), [], []⟩
def d_arcs_among : DefD := ⟨("arcs_among", none), "arcs_among", "arcs_among", defArgs (top 70), defBody (top 70), defScope (top 70), [], []⟩
def d__law_common : DefD := ⟨("_law_common", none), "_law_common", "_law_common", defArgs (top 92), defBody (top 92), defScope (top 92), [], []⟩
def d_need_place : DefD := ⟨("need_place", none), "need_place", "need_place", defArgs (top 30), defBody (top 30), defScope (top 30), [], []⟩
def d_sides_by : DefD := ⟨("sides_by", none), "sides_by", "sides_by", defArgs (top 33), defBody (top 33), defScope (top 33), [], []⟩
def d_sides_of : DefD := ⟨("sides_of", none), "sides_of", "sides_of", defArgs (top 34), defBody (top 34), defScope (top 34), [], []⟩
def d_star : DefD := ⟨("star", none), "star", "star", defArgs (top 74), defBody (top 74), defScope (top 74), [], []⟩
def d__law_sets_right : DefD := ⟨("_law_sets_right", none), "_law_sets_right", "_law_sets_right", defArgs (top 95), defBody (top 95), defScope (top 95), [], []⟩
def d__law_sets : DefD := ⟨("_law_sets", none), "_law_sets", "_law_sets", defArgs (top 91), defBody (top 91), defScope (top 91), [], []⟩
def d__law_sized : DefD := ⟨("_law_sized", none), "_law_sized", "_law_sized", defArgs (top 94), defBody (top 94), defScope (top 94), [], []⟩
def d__law_shuffled : DefD := ⟨("_law_shuffled", none), "_law_shuffled", "_law_shuffled", defArgs (top 90), defBody (top 90), defScope (top 90), [], []⟩
def d_law : DefD := ⟨("law", none), "law", "law", defArgs (top 96), defBody (top 96), defScope (top 96), [], []⟩
def p_Family_pairs : DefA := ⟨gtA "Family" "pairs", "pairs", "Family.pairs", defArgs (inClass (top 27) 2), defBody (inClass (top 27) 2), defScope (inClass (top 27) 2)⟩
def p_Family_places : DefA := ⟨gtA "Family" "places", "places", "Family.places", defArgs (inClass (top 27) 1), defBody (inClass (top 27) 1), defScope (inClass (top 27) 1)⟩
def fn : List DefD := [d__law_begun, d_is_number, d_is_between, d_need_places, d_need_arc_size, d_is_list, d_is_rising, d_is_side, d_need_sets, d_need_arcs, d_rising_keys, d_common_of, d_round_with, d_meeting_paper, d__law_keys, d_orders_by, d_round_orders_by, d_round_orders, d__law_blend, d__law_draw, d__law_pick, d_meets, d_is_pair, d_need_pairs, d_Family___init__, d_need_many, d_picks, d_greatest_top, d_cascade_by, d_least_shadow, d_is_within_side, d_unlike_keys, d_is_antichain, d_need_family, d_is_kind, d_need_kind, d_need_family_kind, d_keys_of, d_Family_many, d_right_places, d_first_failing, d_is_of_kind, d_need_sized, d_shadow_by, d_shadow, d_is_order, d_need_order, d_parts_by, d_parted_by, d_need_index, d_crosses_by, d_crosses, d_others_of, d_sets_family, d_most_meeting, d_arcs_by, d_most_arcs, d_is_round, d_arcs_among, d__law_common, d_need_place, d_sides_by, d_sides_of, d_star, d__law_sets_right, d__law_sets, d__law_sized, d__law_shuffled, d_law]
def pn : List DefA := [p_Family_pairs, p_Family_places]
def fa : List Fa := [.glo "_law_begun", .glo "is_number", .glo "is_between", .glo "need_places", .glo "need_arc_size", .glo "is_list", .glo "is_rising", .glo "is_side", .glo "need_sets", .glo "need_arcs", .glo "rising_keys", .glo "common_of", .glo "round_with", .glo "meeting_paper", .glo "_law_keys", .glo "orders_by", .glo "round_orders_by", .glo "round_orders", .glo "_law_blend", .glo "_law_draw", .glo "_law_pick", .glo "meets", .glo "is_pair", .glo "need_pairs", .glo "need_many", .glo "picks", .glo "greatest_top", .glo "cascade_by", .glo "least_shadow", .glo "is_within_side", .glo "unlike_keys", .glo "is_antichain", .glo "need_family", .glo "is_kind", .glo "need_kind", .glo "need_family_kind", .glo "keys_of", .glo "right_places", .glo "first_failing", .glo "is_of_kind", .glo "need_sized", .glo "shadow_by", .glo "shadow", .glo "is_order", .glo "need_order", .glo "parts_by", .glo "parted_by", .glo "need_index", .glo "crosses_by", .glo "crosses", .glo "others_of", .glo "sets_family", .glo "most_meeting", .glo "arcs_by", .glo "most_arcs", .glo "is_round", .glo "arcs_among", .glo "_law_common", .glo "need_place", .glo "sides_by", .glo "sides_of", .glo "star", .glo "_law_sets_right", .glo "_law_sets", .glo "_law_sized", .glo "_law_shuffled", .glo "law", .free "abs", .free "isinstance", .free "bool", .free "int", .int "MOST_PLACES" 6, .free "list", .free "tuple", .free "zip", .free "all", .free "len", .int "MOST_PAIRS" 24, .free "enumerate", .free "range", .noat "Family" "own_pairs", .noat "Family" "own_places", .int "MOST_SETS" 1000000000, .free "sum", .free "any", .glo "KINDS", .free "str", .str "BOTH" "both", .str "ONE" "one", .free "sorted", .meth "Family" "many", .mkr "Family", .free "max", .free "min", .glo "PairError", .glo "Family", .cls "Family"]
def exb (K : PySem.W.Frag) : Bool := insB K "Family" && (tupB K "KINDS" [.str "both", .str "line", .str "one"] && (propB K "Family" "pairs" && (propB K "Family" "places" && (notB K (ga K "PairError")))))
abbrev R : PySem.W.OpenRow := PySem.W.OpenLaw.row PySem.Challenge.rw_copygraphs_k88_across_sets_that_meet_and
abbrev hk : PySem.W.Hook := hookZ 6 fa fn pn exb
def ob (s : PySem.W.SharedT) : AlZ := obsZG 6 fa fn pn exb (HandSHeadRun.getT s)
theorem ob_eq (s : PySem.W.SharedT) : ob s = hk.obs s.abs := obsZG_eq (HandSHeadRun.getT_eq s)
def loose : List Str := (["_wall", "PairError", "PartError", "ItemError", "BadNumber", "NoFamily", "BadPairs", "BadSides", "BadPlaces", "BadPlace", "BadOrder", "BadKind", "is_number", "is_between", "is_list", "is_rising", "MOST_PLACES", "MOST_PAIRS", "is_side", "common_of", "meets", "is_pair", "need_places", "need_pairs", "Family", "need_family", "need_index", "need_place", "is_order", "need_order"] : List Str) ++ (["sides_by", "sides_of", "others_of", "BOTH", "LINE", "ONE", "KINDS", "is_kind", "need_kind", "need_family_kind", "crosses_by", "crosses", "keys_of", "right_places", "first_failing", "is_of_kind", "picks", "need_sets", "sets_family", "is_within_side", "unlike_keys", "is_antichain", "orders_by", "parts_by", "parted_by", "rising_keys", "need_arc_size", "need_arcs", "is_round", "round_orders_by"] : List Str) ++ (["round_orders", "arcs_by", "arcs_among", "most_arcs", "round_with", "meeting_paper", "star", "most_meeting", "MOST_SETS", "need_sized", "shadow_by", "shadow", "need_many", "greatest_top", "cascade_by", "least_shadow", "_law_begun", "_law_blend", "_law_draw", "_law_pick", "_law_shuffled", "_law_sets", "_law_common", "_law_keys", "_law_sized", "_law_sets_right"] : List Str)
theorem run (w : World) : HandSHeadRun.RunEq R (PySem.W.view R.prog [96]) hk ob 6000 loose w := by
  intro os
  kernel_rfl
end LK
end
section
set_option Elab.async false
set_option linter.all false
set_option maxRecDepth 100000
namespace Z
open PySem PySem.Spec PyProof.Rows L2

/-- data, without the heap -/
inductive D where
  | non | bl (b : Bool) | int (i : Int) | str (x : Str) | tup (l : List D) | lst (l : List D) | dic (ks vs : List D) | ins (c : Nat) (fs : List D) | fn (i : Nat) | cls (i : Nat) | tape | scr (l : List Int)

structure Tape where
  large : List Int
  rest : Int
  cells : List Int
  turn : Int

/-- what is fixed through a law -/
structure Gc where
  K : PySem.W.Frag
  T : Addr
  L : Addr
  C : Addr
  clsA : Nat → Addr
  fnA : Nat → Addr
  O0 : List Addr

abbrev Dh := Hp
/-- the fields of the program's classes, as __init__ sets them -/
def clsF : Nat → List Str
  | 0 => ["own_places", "own_pairs"]
  | 1 => ["own_points", "own_edges"]
  | _ => []

def hid (H : Hp) (O : List Addr) : Hp := fun a => if a ∈ O then none else H a

def keyD (k : List Key) : D := .tup (k.map fun x => match x with
  | .inl i => .int i
  | .inr x => .str x)
mutual
def Dat (g : Gc) (H : Hp) : D → V → Prop
  | .non, v => v = .non
  | .bl b, v => v = .bl b
  | .int i, v => v = .int i
  | .str x, v => v = .str x
  | .tup ds, v => ∃ a vs, v = .ref a ∧ SqT g.K H a vs ∧ Dats g H ds vs
  | .lst ds, v => ∃ a vs, v = .ref a ∧ H a = some (.lst vs) ∧ Dats g H ds vs
  | .dic ks ds, v => ∃ a kvs, v = .ref a ∧ H a = some (.dT kvs) ∧ ks = kvs.map (fun p => keyD p.1) ∧ Dats g H ds (kvs.map (·.2))
  | .ins c ds, v => ∃ a dx fs, v = .ref a ∧ H a = some (.ins (g.clsA c) dx fs) ∧ fs.map (·.1) = clsF c ∧ Dats g H ds (fs.map (·.2))
  | .fn i, v => v = .ref (g.fnA i)
  | .cls i, v => v = .ref (g.clsA i)
  | .tape, v => v = .ref g.T
  | .scr ns, v => ∃ a, v = .ref a ∧ SqL g.K H a (ns.map V.int)
def Dats (g : Gc) (H : Hp) : List D → List V → Prop
  | [], vs => vs = []
  | d :: ds, vs => ∃ v r, vs = v :: r ∧ Dat g H d v ∧ Dats g H ds r
end

/-- H' has all that H has -/
def Sub (H H' : Hp) : Prop := ∀ a o, H a = some o → H' a = some o
theorem Sub.refl (H : Hp) : Sub H H := fun _ _ h => h
theorem Sub.trans {H H1 H2 : Hp} (a : Sub H H1) (b : Sub H1 H2) : Sub H H2 := fun x o h => b x o (a x o h)
theorem Sub.rd {H H' : Hp} (s : Sub H H') {a : Addr} {u : HO} (h : Rd H a u) : Rd H' a u := by
  rcases h with h | ⟨o, h⟩
  · exact .inl (s a _ h)
  · exact .inr ⟨o, s a _ h⟩
theorem Sub.seqL {K : PySem.W.Frag} {H H' : Hp} (s : Sub H H') {a : Addr} {xs : List V} (h : SqL K H a xs) : SqL K H' a xs := by
  rcases h with h | h
  · exact .inl (s.rd h)
  · exact .inr h
theorem Sub.seqT {K : PySem.W.Frag} {H H' : Hp} (s : Sub H H') {a : Addr} {xs : List V} (h : SqT K H a xs) : SqT K H' a xs := by
  rcases h with h | h
  · exact .inl (s.rd h)
  · exact .inr h

mutual
theorem Dat.mono {g : Gc} {H H' : Hp} (s : Sub H H') : ∀ (d : D) (v : V), Dat g H d v → Dat g H' d v
  | .non, v, h => by simpa only [Dat] using h
  | .bl b, v, h => by simpa only [Dat] using h
  | .int i, v, h => by simpa only [Dat] using h
  | .str x, v, h => by simpa only [Dat] using h
  | .tup ds, v, h => by
    simp only [Dat] at h ⊢
    obtain ⟨a, vs, e, q, r⟩ := h
    exact ⟨a, vs, e, s.seqT q, Dats.mono s ds vs r⟩
  | .lst ds, v, h => by
    simp only [Dat] at h ⊢
    obtain ⟨a, vs, e, q, r⟩ := h
    exact ⟨a, vs, e, s _ _ q, Dats.mono s ds vs r⟩
  | .dic ks ds, v, h => by
    simp only [Dat] at h ⊢
    obtain ⟨a, kvs, e, q, f, r⟩ := h
    exact ⟨a, kvs, e, s _ _ q, f, Dats.mono s ds _ r⟩
  | .ins c ds, v, h => by
    simp only [Dat] at h ⊢
    obtain ⟨a, dx, fs, e, q, f, r⟩ := h
    exact ⟨a, dx, fs, e, s _ _ q, f, Dats.mono s ds _ r⟩
  | .fn i, v, h => by simpa only [Dat] using h
  | .cls i, v, h => by simpa only [Dat] using h
  | .tape, v, h => by simpa only [Dat] using h
  | .scr ns, v, h => by
    simp only [Dat] at h ⊢
    obtain ⟨a, e, q⟩ := h
    exact ⟨a, e, s.seqL q⟩
theorem Dats.mono {g : Gc} {H H' : Hp} (s : Sub H H') : ∀ (ds : List D) (vs : List V), Dats g H ds vs → Dats g H' ds vs
  | [], vs, h => by simpa only [Dats] using h
  | d :: ds, vs, h => by
    simp only [Dats] at h ⊢
    obtain ⟨v, r, e, a, b⟩ := h
    exact ⟨v, r, e, Dat.mono s d v a, Dats.mono s ds r b⟩
end

theorem Dats.nil {g : Gc} {H : Hp} : Dats g H [] [] := by simp only [Dats]
theorem Dats.cons {g : Gc} {H : Hp} {d : D} {v : V} {ds : List D} {vs : List V} (a : Dat g H d v) (b : Dats g H ds vs) : Dats g H (d :: ds) (v :: vs) := by
  simp only [Dats]; exact ⟨v, vs, rfl, a, b⟩
theorem Dats.length {g : Gc} {H : Hp} : ∀ {ds : List D} {vs : List V}, Dats g H ds vs → vs.length = ds.length
  | [], vs, h => by simp only [Dats] at h; subst h; rfl
  | d :: ds, vs, h => by
    simp only [Dats] at h
    obtain ⟨v, r, rfl, _, b⟩ := h
    simp [Dats.length b]
theorem Dats.append {g : Gc} {H : Hp} : ∀ {ds es : List D} {vs us : List V}, Dats g H ds vs → Dats g H es us → Dats g H (ds ++ es) (vs ++ us)
  | [], es, vs, us, h, k => by simp only [Dats] at h; subst h; exact k
  | d :: ds, es, vs, us, h, k => by
    simp only [Dats] at h
    obtain ⟨v, r, rfl, a, b⟩ := h
    exact Dats.cons a (Dats.append b k)
theorem Dats.get {g : Gc} {H : Hp} : ∀ {ds : List D} {vs : List V} {i : Nat} {d : D}, Dats g H ds vs → ds[i]? = some d → ∃ v, vs[i]? = some v ∧ Dat g H d v
  | [], _, _, _, _, e => by simp at e
  | d :: ds, vs, 0, x, h, e => by
    simp only [Dats] at h
    obtain ⟨v, r, rfl, a, b⟩ := h
    simp at e; subst e
    exact ⟨v, rfl, a⟩
  | d :: ds, vs, i + 1, x, h, e => by
    simp only [Dats] at h
    obtain ⟨v, r, rfl, a, b⟩ := h
    obtain ⟨u, h1, h2⟩ := Dats.get (i := i) (d := x) b (by simpa using e)
    exact ⟨u, by simpa using h1, h2⟩
theorem Dats.getV {g : Gc} {H : Hp} {ds : List D} {vs : List V} {i : Nat} {v : V} (h : Dats g H ds vs) (e : vs[i]? = some v) : ∃ d, ds[i]? = some d ∧ Dat g H d v := by
  have hl := h.length
  have hi : i < vs.length := (List.getElem?_eq_some_iff.mp e).1
  have hi' : i < ds.length := by omega
  obtain ⟨u, h1, h2⟩ := h.get (List.getElem?_eq_getElem hi')
  rw [e] at h1; cases h1
  exact ⟨_, List.getElem?_eq_getElem hi', h2⟩

/-! ### the tape -/
def TapeAt (g : Gc) (H : Hp) (τ : Tape) : Prop :=
  H g.T = some (.dK [(.inr "large", .ref g.L), (.inr "rest", .int τ.rest), (.inr "cells", .ref g.C), (.inr "turn", .int τ.turn)]) ∧ H g.L = some (.lst (τ.large.map V.int)) ∧ H g.C = some (.lst (τ.cells.map V.int))

/-- all but the tape stays -/
structure Post (g : Gc) (H H' : Hp) (τ' : Tape) : Prop where
  keep : ∀ a o, a ≠ g.T → a ≠ g.L → H a = some o → H' a = some o
  tp : TapeAt g H' τ'

inductive Slot where
  | val (d : D) | own (d : D)
abbrev Env := List (Option Slot)

inductive R (α : Type) where
  | ok (a : α) (τ : Tape) | exc (c : Nat) (p : Option D) (τ : Tape) | fail
def R.bind {α β : Type} : R α → (α → Tape → R β) → R β
  | .ok a τ, f => f a τ
  | .exc c p τ, _ => .exc c p τ
  | .fail, _ => .fail
abbrev M (α : Type) := Env → Tape → R α
def R.of {α : Type} (o : Option α) (τ : Tape) : R α := match o with
  | some a => .ok a τ
  | none => .fail

/-- an object that one name alone has -/
def OwnAt (g : Gc) (H : Hp) (O : List Addr) (a : Addr) : D → Prop
  | .lst ds => ∃ vs, H a = some (.lst vs) ∧ Dats g (hid H O) ds vs
  | .ins c ds => ∃ dx fs, H a = some (.ins (g.clsA c) dx fs) ∧ fs.map (·.1) = (clsF c).take fs.length ∧ Dats g (hid H O) ds (fs.map (·.2))
  | .dic ks ds => ∃ kvs, H a = some (.dT kvs) ∧ ks = kvs.map (fun p => keyD p.1) ∧ Dats g (hid H O) ds (kvs.map (·.2))
  | _ => False
def NTup (o : HO) : Prop := ∀ xs, o ≠ .tup xs
theorem OwnAt.move {g : Gc} {H H' : Hp} {O O' : List Addr} {a : Addr} {d : D} (h : OwnAt g H O a d) (k : ∀ o, NTup o → H a = some o → H' a = some o) (sb : Sub (hid H O) (hid H' O')) : OwnAt g H' O' a d := by
  cases d with
  | lst ds =>
    obtain ⟨vs, e, r⟩ := h
    exact ⟨vs, k _ (fun _ z => nomatch z) e, Dats.mono sb _ _ r⟩
  | ins c ds =>
    obtain ⟨dx, fs, e, f, r⟩ := h
    exact ⟨dx, fs, k _ (fun _ z => nomatch z) e, f, Dats.mono sb _ _ r⟩
  | dic ks ds =>
    obtain ⟨kvs, e, f, r⟩ := h
    exact ⟨kvs, k _ (fun _ z => nomatch z) e, f, Dats.mono sb _ _ r⟩
  | _ => exact h.elim
theorem OwnAt.at_ {g : Gc} {H : Hp} {O : List Addr} {a : Addr} {d : D} (h : OwnAt g H O a d) : ∃ o, H a = some o ∧ NTup o := by
  cases d with
  | lst ds => obtain ⟨vs, e, r⟩ := h; exact ⟨_, e, fun _ z => nomatch z⟩
  | ins c ds => obtain ⟨dx, fs, e, f, r⟩ := h; exact ⟨_, e, fun _ z => nomatch z⟩
  | dic ks ds => obtain ⟨kvs, e, f, r⟩ := h; exact ⟨_, e, fun _ z => nomatch z⟩
  | _ => exact h.elim

structure StRep (g : Gc) (σ : L2.St) (H : Hp) (O : List Addr) (env : Env) (τ : Tape) : Prop where
  tp : TapeAt g H τ
  tO : g.T ∈ O ∧ g.L ∈ O ∧ g.C ∉ O
  t0 : (g.T ∈ g.O0 ∧ g.L ∈ g.O0 ∧ g.C ∉ g.O0) ∧ ∀ a ∈ g.O0, a ∈ O
  len : env.length = σ.length
  dom2 : ∀ a ∈ O, ∃ o, H a = some o ∧ NTup o
  val : ∀ (i : Nat) (d : D), env[i]? = some (some (.val d)) → ∃ v, σ[i]? = some (some v) ∧ Dat g (hid H O) d v
  own : ∀ (i : Nat) (d : D), env[i]? = some (some (.own d)) → ∃ a, σ[i]? = some (some (.ref a)) ∧ a ∈ O ∧ a ≠ g.T ∧ a ≠ g.L ∧ a ∉ g.O0 ∧ OwnAt g H O a d
  inj : ∀ (i j : Nat) (d e : D) (a : Addr), env[i]? = some (some (.own d)) → env[j]? = some (some (.own e)) → σ[i]? = some (some (.ref a)) → σ[j]? = some (some (.ref a)) → i = j

theorem StRep.dom {g : Gc} {σ : L2.St} {H : Hp} {O : List Addr} {env : Env} {τ : Tape} (S : StRep g σ H O env τ) : ∀ a ∈ O, ∃ o, H a = some o := fun a h => (S.dom2 a h).imp fun _ z => z.1
theorem hid_some {H : Hp} {O : List Addr} {a : Addr} {o : HO} (h : hid H O a = some o) : H a = some o ∧ a ∉ O := by
  unfold hid at h
  by_cases ha : a ∈ O
  · rw [if_pos ha] at h; cases h
  · rw [if_neg ha] at h; exact ⟨h, ha⟩
theorem hid_of {H : Hp} {O : List Addr} {a : Addr} {o : HO} (h : H a = some o) (ha : a ∉ O) : hid H O a = some o := by
  unfold hid; rw [if_neg ha]; exact h
theorem hid_sub {H : Hp} {O : List Addr} : Sub (hid H O) H := fun a o h => (hid_some h).1
theorem Post.sub {g : Gc} {H H' : Hp} {τ' : Tape} {O : List Addr} (p : Post g H H' τ') (h1 : g.T ∈ O) (h2 : g.L ∈ O) : Sub (hid H O) (hid H' O) := fun a o h => by
  obtain ⟨e, n⟩ := hid_some h
  exact hid_of (p.keep a o (fun z => n (z ▸ h1)) (fun z => n (z ▸ h2)) e) n
theorem Post.trans {g : Gc} {H H1 H2 : Hp} {τ1 τ2 : Tape} (a : Post g H H1 τ1) (b : Post g H1 H2 τ2) : Post g H H2 τ2 := ⟨fun x o n1 n2 h => b.keep x o n1 n2 (a.keep x o n1 n2 h), b.tp⟩
theorem StRep.post0 {g : Gc} {σ : L2.St} {H : Hp} {O : List Addr} {env : Env} {τ : Tape} (S : StRep g σ H O env τ) : Post g H H τ := ⟨fun _ _ _ _ h => h, S.tp⟩
theorem OwnAt.post {g : Gc} {H H' : Hp} {τ' : Tape} {O : List Addr} {a : Addr} {d : D} (p : Post g H H' τ') (h1 : g.T ∈ O) (h2 : g.L ∈ O) (n1 : a ≠ g.T) (n2 : a ≠ g.L) (h : OwnAt g H O a d) : OwnAt g H' O a d :=
  h.move (fun o _ e => p.keep a o n1 n2 e) (p.sub h1 h2)
theorem StRep.post {g : Gc} {σ : L2.St} {H H' : Hp} {O : List Addr} {env : Env} {τ τ' : Tape} (S : StRep g σ H O env τ) (p : Post g H H' τ') : StRep g σ H' O env τ' := by
  obtain ⟨t1, t2, t3⟩ := S.tO
  refine ⟨p.tp, S.tO, S.t0, S.len, fun a ha => ?_, fun i d e => ?_, fun i d e => ?_, S.inj⟩
  · obtain ⟨o, h, n⟩ := S.dom2 a ha
    by_cases e1 : a = g.T
    · rw [e1]; exact ⟨_, p.tp.1, fun _ z => nomatch z⟩
    · by_cases e2 : a = g.L
      · rw [e2]; exact ⟨_, p.tp.2.1, fun _ z => nomatch z⟩
      · exact ⟨o, p.keep a o e1 e2 h, n⟩
  · obtain ⟨v, h, r⟩ := S.val i d e
    exact ⟨v, h, Dat.mono (p.sub t1 t2) d v r⟩
  · obtain ⟨a, h, m, n1, n2, n3, r⟩ := S.own i d e
    exact ⟨a, h, m, n1, n2, n3, r.post p t1 t2 n1 n2⟩

/-- an error in the air -/
def ExcAt (g : Gc) (H : Hp) (c : Nat) (p : Option D) (cls : Value) (dd : Option Addr) : Prop :=
  cls = .ref (g.clsA c) ∧ match p with
  | none => dd = none
  | some d => ∃ a v f, dd = some a ∧ H a = some (.xd [(f, v)]) ∧ clsF c = [f] ∧ Dat g H d v

/-- what an outcome asks of what follows -/
def Res {α β : Type} (g : Gc) (E : XK) (ρ : Hp → α → β → Prop) (O : List Addr) (H : Hp) (Q : β → Hp → Prop) : R α → Prop
  | .ok x τ' => ∀ v H', Post g H H' τ' → ρ (hid H' O) x v → Q v H'
  | .exc c p τ' => ∀ cls dd H', Post g H H' τ' → ExcAt g (hid H' O) c p cls dd → E cls dd H'
  | .fail => False
theorem Res.step {α β : Type} {g : Gc} {E : XK} {ρ : Hp → α → β → Prop} {O : List Addr} {H H1 : Hp} {Q : β → Hp → Prop} {τ1 : Tape} {r : R α} (p : Post g H H1 τ1) (h : Res g E ρ O H Q r) : Res g E ρ O H1 Q r := by
  cases r with
  | ok x τ' => exact fun v H' q r => h v H' (p.trans q) r
  | exc c d τ' => exact fun cls dd H' q r => h cls dd H' (p.trans q) r
  | fail => exact h.elim

/-- the reading: it evaluates as m says -/
def tG {α β : Type} (g : Gc) (E : XK) (ρ : Hp → α → β → Prop) (m : M α) : L2.St → Hp → (β → Hp → Prop) → Prop := fun σ H Q =>
  ∃ O env τ, StRep g σ H O env τ ∧ Res g E ρ O H Q (m env τ)
abbrev tE (g : Gc) (E : XK) (m : M D) : TE := tG g E (Dat g) m
abbrev tA (g : Gc) (E : XK) (m : M (List D)) : TA := tG g E (Dats g) m
def eqρ {α : Type} : Hp → α → α → Prop := fun _ a b => a = b
abbrev tT (g : Gc) (E : XK) (m : M Bool) : TT := tG g E eqρ m

theorem go {α β α' β' : Type} {g : Gc} {E : XK} {ρ : Hp → α → β → Prop} {ρ' : Hp → α' → β' → Prop} {O : List Addr} {H : Hp} {σ : L2.St} {env : Env} {τ : Tape} {m : M α} {F : α → Tape → R α'} {Q : β' → Hp → Prop} {Q' : β → Hp → Prop} (S : StRep g σ H O env τ)
    (h : Res g E ρ' O H Q ((m env τ).bind F)) (k : ∀ x τ1 v H1, m env τ = .ok x τ1 → Post g H H1 τ1 → StRep g σ H1 O env τ1 → ρ (hid H1 O) x v → Res g E ρ' O H1 Q (F x τ1) → Q' v H1) : tG g E ρ m σ H Q' := by
  refine ⟨O, env, τ, S, ?_⟩
  cases e : m env τ with
  | ok x τ1 =>
    rw [e] at h
    exact fun v H1 p r => k x τ1 v H1 e p (S.post p) r (h.step p)
  | exc c d τ1 =>
    rw [e] at h
    exact h
  | fail =>
    rw [e] at h
    exact h

theorem weakE {X : Cx} {e : Expr} {t t' : TE} (h : PE X e t) (k : ∀ σ H Q, t' σ H Q → t σ H Q) : PE X e t' := ⟨fun pins s σ H Q I q => h.run pins s σ H Q I (k σ H Q q)⟩
theorem weakT {X : Cx} {e : Expr} {t t' : TT} (h : PT X e t) (k : ∀ σ H Q, t' σ H Q → t σ H Q) : PT X e t' := ⟨fun pins s σ H Q I q => h.run pins s σ H Q I (k σ H Q q)⟩
theorem weakA {X : Cx} {e : List Expr} {t t' : TA} (h : PA X e t) (k : ∀ σ H Q, t' σ H Q → t σ H Q) : PA X e t' := ⟨fun pos pins s σ H Q I q => h.run pos pins s σ H Q I (k σ H Q q)⟩

def mRet {α : Type} (a : α) : M α := fun _ τ => .ok a τ
def mVar (i : Nat) : M D := fun env τ => match env[i]? with
  | some (some (.val d)) => .ok d τ
  | _ => .fail
def m2 (f : D → D → Option D) (a b : M D) : M D := fun env τ => (a env τ).bind fun x τ1 => (b env τ1).bind fun y τ2 => R.of (f x y) τ2

section
variable {X : Cx} {g : Gc} {E : XK}
theorem s_var {i : Nat} {x : Str} {pos : Pos} (hN : X.N[i]? = some x) (hv : Vis X.env.scope x) (hd : (x == ("__debug__" : Str)) = false) (hcd : (x == ("__classdict__" : Str)) = false) : PE X (.Name x pos) (tE g E (mVar i)) := by
  refine weakE (pe_var hN hv hd hcd) fun σ H Q ⟨O, env, τ, S, h⟩ => ?_
  unfold mVar at h
  split at h
  · rename_i d e
    obtain ⟨v, e1, r⟩ := S.val i d e
    exact ⟨v, e1, h v H S.post0 r⟩
  · exact h.elim
theorem Dat.i {H : Hp} {i : Int} : Dat g H (.int i) (.int i) := by simp only [Dat]
theorem Dat.b {H : Hp} {i : Bool} : Dat g H (.bl i) (.bl i) := by simp only [Dat]
theorem Dat.n {H : Hp} : Dat g H .non .non := by simp only [Dat]
theorem Dat.s {H : Hp} {x : Str} : Dat g H (.str x) (.str x) := by simp only [Dat]
theorem s_const {e : Expr} {v : V} {d : D} (h : PE X e (tC v)) (hd : ∀ H, Dat g H d v) : PE X e (tE g E (mRet d)) :=
  weakE h fun σ H Q ⟨O, env, τ, S, h⟩ => h v H S.post0 (hd _)
/-- an operation by values -/
def OpD (g : Gc) (f : D → D → Option D) (r : R2) : Prop := ∀ (O : List Addr) (H : Hp) (x y z : D) (v u : V) (Q : VK), (∀ a ∈ O, ∃ o, H a = some o) → f x y = some z → Dat g (hid H O) x v → Dat g (hid H O) y u → (∀ w H', Sub H H' → Dat g (hid H' O) z w → Q w H') → r v u H Q
theorem Post.of_sub {g : Gc} {H H' : Hp} {τ : Tape} (s : Sub H H') (t : TapeAt g H τ) : Post g H H' τ := ⟨fun a o _ _ h => s a o h, s _ _ t.1, s _ _ t.2.1, s _ _ t.2.2⟩
theorem s_op {a b : Expr} {op : Operator} {pos : Pos} {ma mb : M D} {f : D → D → Option D} {r : R2} (ho : OpR X (binaryOp op) r) (hd : OpD g f r) (ha : PE X a (tE g E ma)) (hb : PE X b (tE g E mb)) : PE X (.BinOp a op b pos) (tE g E (m2 f ma mb)) := by
  refine weakE (pe_op ho ha hb) fun σ H Q ⟨O, env, τ, S, h⟩ => ?_
  refine go S h fun x τ1 v H1 e1 p1 S1 d1 h1 => ?_
  refine go S1 h1 fun y τ2 u H2 e2 p2 S2 d2 h2 => ?_
  cases e : f x y with
  | none => rw [e] at h2; exact h2.elim
  | some z =>
    rw [e] at h2
    exact hd O H2 x y z v u Q S2.dom e (Dat.mono (p2.sub S.tO.1 S.tO.2.1) _ _ d1) d2 fun w H' s r => h2 w H' (.of_sub s S2.tp) r
end
end Z
end
section
set_option Elab.async false
set_option linter.all false
set_option maxRecDepth 100000
namespace Z
open PySem PySem.Spec PyProof.Rows L2

/-! ### data as PyData -/
mutual
def toP : D → PyData
  | .non => .none
  | .bl b => .bool b
  | .int i => .int i
  | .str x => .str x
  | .tup l => .tuple (toPs l)
  | .lst l => .list (toPs l)
  | _ => .dict []
def toPs : List D → List PyData
  | [] => []
  | d :: ds => toP d :: toPs ds
end
mutual
/-- plain data of depth n at most -/
def okD : Nat → D → Bool
  | _, .non => true
  | _, .bl _ => true
  | _, .int _ => true
  | _, .str x => PyData.strOk x
  | n + 1, .tup l => okDs n l
  | n + 1, .lst l => okDs n l
  | _, _ => false
def okDs : Nat → List D → Bool
  | _, [] => true
  | n, d :: ds => okD n d && okDs n ds
end
mutual
/-- == -/
def deq : D → D → Bool
  | .non, .non => true
  | .bl a, .bl b => a == b
  | .bl a, .int j => (if a then 1 else 0) == j
  | .int i, .bl b => i == (if b then 1 else 0)
  | .int i, .int j => i == j
  | .str x, .str y => x == y
  | .lst xs, .lst ys => deqs xs ys
  | .tup xs, .tup ys => deqs xs ys
  | _, _ => false
def deqs : List D → List D → Bool
  | [], [] => true
  | x :: xs, y :: ys => deq x y && deqs xs ys
  | _, _ => false
end
mutual
theorem okD_lay : ∀ (d : D) (n : Nat), okD n d = true → (toP d).canLay0 = true ∧ (toP d).depth ≤ n
  | .non, n, _ => by simp [toP, PyData.canLay0, PyData.depth]
  | .bl b, n, _ => by simp [toP, PyData.canLay0, PyData.depth]
  | .int i, n, _ => by simp [toP, PyData.canLay0, PyData.depth]
  | .str x, n, h => by
    have h' : PyData.strOk x = true := by cases n <;> simpa [okD] using h
    simp [toP, PyData.canLay0, PyData.depth, h']
  | .tup l, 0, h => by simp [okD] at h
  | .tup l, n + 1, h => by
    have q := okDs_lay l n (by simpa [okD] using h)
    simp only [toP, PyData.canLay0, PyData.depth]
    exact ⟨q.1, by omega⟩
  | .lst l, 0, h => by simp [okD] at h
  | .lst l, n + 1, h => by
    have q := okDs_lay l n (by simpa [okD] using h)
    simp only [toP, PyData.canLay0, PyData.depth]
    exact ⟨q.1, by omega⟩
  | .dic _ _, n, h => by cases n <;> simp [okD] at h
  | .ins _ _, n, h => by cases n <;> simp [okD] at h
  | .fn _, n, h => by cases n <;> simp [okD] at h
  | .cls _, n, h => by cases n <;> simp [okD] at h
  | .tape, n, h => by cases n <;> simp [okD] at h
  | .scr _, n, h => by cases n <;> simp [okD] at h
theorem okDs_lay : ∀ (ds : List D) (n : Nat), okDs n ds = true → PyData.canLayAll0 (toPs ds) = true ∧ PyData.depthAll (toPs ds) ≤ n
  | [], n, _ => by simp [toPs, PyData.canLayAll0, PyData.depthAll]
  | d :: ds, n, h => by
    simp only [okDs, Bool.and_eq_true] at h
    have a := okD_lay d n h.1
    have b := okDs_lay ds n h.2
    simp only [toPs, PyData.canLayAll0, PyData.depthAll, a.1, b.1, Bool.and_self, true_and]
    omega
end
theorem okD_shaped {d : D} (h : okD 60 d = true) : SeqAt.shaped (toP d) = true := by
  have q := okD_lay d 60 h
  show ((toP d).canLay0 && decide ((toP d).depth ≤ 64)) = true
  rw [q.1, Bool.true_and]
  exact decide_eq_true (by omega)
mutual
theorem dp_of {g : Gc} {H : Hp} : ∀ (d : D) (n : Nat) (v : V), okD n d = true → Dat g H d v → Dp g.K H v (toP d)
  | .non, n, v, _, h => by simp only [Dat] at h; subst h; exact .non
  | .bl b, n, v, _, h => by simp only [Dat] at h; subst h; exact .bl b
  | .int i, n, v, _, h => by simp only [Dat] at h; subst h; exact .int i
  | .str x, n, v, _, h => by simp only [Dat] at h; subst h; exact .str x
  | .tup l, 0, v, h, _ => by simp [okD] at h
  | .tup l, n + 1, v, h, q => by
    simp only [Dat] at q
    obtain ⟨a, vs, rfl, s, r⟩ := q
    exact .tup s (dps_of l n vs (by simpa [okD] using h) r)
  | .lst l, 0, v, h, _ => by simp [okD] at h
  | .lst l, n + 1, v, h, q => by
    simp only [Dat] at q
    obtain ⟨a, vs, rfl, s, r⟩ := q
    exact .lst (.of s) (dps_of l n vs (by simpa [okD] using h) r)
  | .dic _ _, n, v, h, _ => by cases n <;> simp [okD] at h
  | .ins _ _, n, v, h, _ => by cases n <;> simp [okD] at h
  | .fn _, n, v, h, _ => by cases n <;> simp [okD] at h
  | .cls _, n, v, h, _ => by cases n <;> simp [okD] at h
  | .tape, n, v, h, _ => by cases n <;> simp [okD] at h
  | .scr _, n, v, h, _ => by cases n <;> simp [okD] at h
theorem dps_of {g : Gc} {H : Hp} : ∀ (ds : List D) (n : Nat) (vs : List V), okDs n ds = true → Dats g H ds vs → DpAll g.K H vs (toPs ds)
  | [], n, vs, _, h => by simp only [Dats] at h; subst h; exact .nil
  | d :: ds, n, vs, h, q => by
    simp only [okDs, Bool.and_eq_true] at h
    simp only [Dats] at q
    obtain ⟨v, r, rfl, a, b⟩ := q
    exact .cons (dp_of d n v h.1 a) (dps_of ds n r h.2 b)
end
mutual
theorem eqv_toP : ∀ (x y : D) (n m : Nat), okD n x = true → okD m y = true → PyData.eqv (toP x) (toP y) = deq x y
  | .non, y, n, m, _, h => by cases y <;> simp [toP, PyData.eqv, deq] <;> (cases m <;> simp [okD] at h)
  | .bl a, y, n, m, _, h => by cases y <;> simp [toP, PyData.eqv, deq] <;> (cases m <;> simp [okD] at h)
  | .int a, y, n, m, _, h => by cases y <;> simp [toP, PyData.eqv, deq] <;> (cases m <;> simp [okD] at h)
  | .str a, y, n, m, _, h => by cases y <;> simp [toP, PyData.eqv, deq] <;> (cases m <;> simp [okD] at h)
  | .tup l, y, 0, m, h, _ => by simp [okD] at h
  | .tup l, y, n + 1, m, h1, h => by
    cases y with
    | tup l' =>
      cases m with
      | zero => simp [okD] at h
      | succ m =>
        simp only [toP, PyData.eqv, deq]
        exact eqv_toPs l l' n m (by simpa [okD] using h1) (by simpa [okD] using h)
    | _ => simp [toP, PyData.eqv, deq] <;> (cases m <;> simp [okD] at h)
  | .lst l, y, 0, m, h, _ => by simp [okD] at h
  | .lst l, y, n + 1, m, h1, h => by
    cases y with
    | lst l' =>
      cases m with
      | zero => simp [okD] at h
      | succ m =>
        simp only [toP, PyData.eqv, deq]
        exact eqv_toPs l l' n m (by simpa [okD] using h1) (by simpa [okD] using h)
    | _ => simp [toP, PyData.eqv, deq] <;> (cases m <;> simp [okD] at h)
  | .dic _ _, y, n, m, h, _ => by cases n <;> simp [okD] at h
  | .ins _ _, y, n, m, h, _ => by cases n <;> simp [okD] at h
  | .fn _, y, n, m, h, _ => by cases n <;> simp [okD] at h
  | .cls _, y, n, m, h, _ => by cases n <;> simp [okD] at h
  | .tape, y, n, m, h, _ => by cases n <;> simp [okD] at h
  | .scr _, y, n, m, h, _ => by cases n <;> simp [okD] at h
theorem eqv_toPs : ∀ (xs ys : List D) (n m : Nat), okDs n xs = true → okDs m ys = true → PyData.eqvAll (toPs xs) (toPs ys) = deqs xs ys
  | [], [], _, _, _, _ => by simp [toPs, PyData.eqvAll, deqs]
  | [], _ :: _, _, _, _, _ => by simp [toPs, PyData.eqvAll, deqs]
  | _ :: _, [], _, _, _, _ => by simp [toPs, PyData.eqvAll, deqs]
  | x :: xs, y :: ys, n, m, h1, h2 => by
    simp only [okDs, Bool.and_eq_true] at h1 h2
    simp only [toPs, PyData.eqvAll, deqs, eqv_toP x y n m h1.1 h2.1, eqv_toPs xs ys n m h1.2 h2.2]
end

/-! ### operations -/
def OpR.orr {X : Cx} {f : Value → Value → Sem Value} {r r' : R2} (h : OpR X f r) (h' : OpR X f r') : OpR X f (fun x y H Q => r x y H Q ∨ r' x y H Q) := by
  intro pins s σ H x y v u Q I rx ry q
  rcases q with q | q
  · exact h pins s σ H x y v u Q I rx ry q
  · exact h' pins s σ H x y v u Q I rx ry q

theorem new_sub {H : Hp} {p : Addr} {o : HO} (h : H p = none) : Sub H (upd H p o) := fun a u e => by
  rw [upd_ne (ne_of_none e h)]; exact e
theorem not_in_of_none {H : Hp} {O : List Addr} {p : Addr} (dom : ∀ a ∈ O, ∃ o, H a = some o) (h : H p = none) : p ∉ O := fun z => by
  obtain ⟨o, e⟩ := dom p z
  rw [h] at e; cases e
theorem new_hid {H : Hp} {O : List Addr} {p : Addr} {o : HO} (dom : ∀ a ∈ O, ∃ o, H a = some o) (h : H p = none) : hid (upd H p o) O p = some o := hid_of upd_same (not_in_of_none dom h)
theorem hid_mono {H H' : Hp} {O : List Addr} (s : Sub H H') : Sub (hid H O) (hid H' O) := fun a o h => by
  obtain ⟨e, n⟩ := hid_some h
  exact hid_of (s a o e) n

section
variable {g : Gc}
theorem Dat.intE {H : Hp} {i : Int} {v : V} (h : Dat g H (.int i) v) : v = .int i := by simpa only [Dat] using h
theorem Dat.blE {H : Hp} {i : Bool} {v : V} (h : Dat g H (.bl i) v) : v = .bl i := by simpa only [Dat] using h
theorem Dat.strE {H : Hp} {i : Str} {v : V} (h : Dat g H (.str i) v) : v = .str i := by simpa only [Dat] using h
theorem Dat.nonE {H : Hp} {v : V} (h : Dat g H .non v) : v = .non := by simpa only [Dat] using h
theorem Dat.lstE {H : Hp} {ds : List D} {v : V} (h : Dat g H (.lst ds) v) : ∃ a vs, v = .ref a ∧ H a = some (.lst vs) ∧ Dats g H ds vs := by simpa only [Dat] using h
theorem Dat.tupE {H : Hp} {ds : List D} {v : V} (h : Dat g H (.tup ds) v) : ∃ a vs, v = .ref a ∧ SqT g.K H a vs ∧ Dats g H ds vs := by simpa only [Dat] using h
theorem Dat.lst {H : Hp} {ds : List D} {a : Addr} {vs : List V} (h : H a = some (.lst vs)) (r : Dats g H ds vs) : Dat g H (.lst ds) (.ref a) := by simp only [Dat]; exact ⟨a, vs, rfl, h, r⟩
theorem Dat.tup {H : Hp} {ds : List D} {a : Addr} {vs : List V} (h : SqT g.K H a vs) (r : Dats g H ds vs) : Dat g H (.tup ds) (.ref a) := by simp only [Dat]; exact ⟨a, vs, rfl, h, r⟩

def line : Nat := 1000000
theorem line_le {n : Nat} (h : n ≤ line) : n ≤ sizeLine := Nat.le_trans h (by decide)
theorem line_lt {n : Nat} (h : n ≤ line) : n < sizeLine := Nat.lt_of_le_of_lt h (by decide)

/-- + -/
def dAdd : D → D → Option D
  | .int i, .int j => some (.int (i + j))
  | .lst a, .lst b => if a.length + b.length ≤ line then some (.lst (a ++ b)) else none
  | .tup a, .tup b => if a.length + b.length ≤ line then some (.tup (a ++ b)) else none
  | .str a, .str b => if a.length + b.length ≤ line then some (.str (a ++ b)) else none
  | _, _ => none
def rAddAll (K : PySem.W.Frag) : R2 := fun x y H Q => (∃ i j, x = .int i ∧ y = .int j ∧ Q (.int (i + j)) H) ∨ (rCat x y H Q ∨ (rCatA K x y H Q ∨ (∃ i j, x = .str i ∧ y = .str j ∧ i.length + j.length ≤ sizeLine ∧ Q (.str (i ++ j)) H)))
theorem op_addAll {X : Cx} : OpR X (binaryOp .Add) (rAddAll X.K) := OpR.orr op_add (OpR.orr op_cat (OpR.orr op_catA op_add_str))
theorem opd_add : OpD g dAdd (rAddAll g.K) := by
  intro O H x y z v u Q dom e dx dy k
  unfold dAdd at e
  split at e
  · cases e
    have e1 := dx.intE; have e2 := dy.intE; subst e1; subst e2
    exact .inl ⟨_, _, rfl, rfl, k _ H (Sub.refl H) Dat.i⟩
  · rename_i a b
    split at e
    · rename_i hl
      cases e
      obtain ⟨p, vs, rfl, hp, r1⟩ := dx.lstE
      obtain ⟨q, us, rfl, hq, r2⟩ := dy.lstE
      refine .inr (.inl ⟨p, q, vs, us, rfl, rfl, (hid_some hp).1, (hid_some hq).1, line_le (by rw [r1.length, r2.length]; exact hl), fun n hn => k _ _ (new_sub hn) (Dat.lst (new_hid dom hn) ?_)⟩)
      exact Dats.mono (hid_mono (new_sub hn)) _ _ (r1.append r2)
    · cases e
  · rename_i a b
    split at e
    · rename_i hl
      cases e
      obtain ⟨p, vs, rfl, hp, r1⟩ := dx.tupE
      obtain ⟨q, us, rfl, hq, r2⟩ := dy.tupE
      have l1 := r1.length
      have l2 := r2.length
      refine .inr (.inr (.inl ⟨p, q, vs, us, rfl, rfl, hid_sub.seqT hp, hid_sub.seqT hq, line_le (by rw [l1, l2]; exact hl), fun e0 => ?_, fun n0 e0 => ?_, fun n0 n1 n hn => k _ _ (new_sub hn) (Dat.tup (.of (new_hid dom hn)) ?_)⟩))
      · subst e0
        have : a = [] := List.eq_nil_of_length_eq_zero (by simpa using l1.symm)
        subst this
        exact k _ H (Sub.refl H) (Dat.tup hq r2)
      · subst e0
        have : b = [] := List.eq_nil_of_length_eq_zero (by simpa using l2.symm)
        subst this
        refine k _ H (Sub.refl H) ?_
        rw [List.append_nil]
        exact Dat.tup hp r1
      · exact Dats.mono (hid_mono (new_sub hn)) _ _ (r1.append r2)
    · cases e
  · rename_i a b
    split at e
    · rename_i hl
      cases e
      have e1 := dx.strE; have e2 := dy.strE; subst e1; subst e2
      exact .inr (.inr (.inr ⟨_, _, rfl, rfl, line_le hl, k _ H (Sub.refl H) Dat.s⟩))
    · cases e
  · cases e
/-- ints alone -/
def dInt (c : Int → Int → Bool) (f : Int → Int → Int) : D → D → Option D
  | .int i, .int j => if c i j then some (.int (f i j)) else none
  | _, _ => none
theorem opd_int {c : Int → Int → Bool} {f : Int → Int → Int} {C : Int → Int → Prop} (hC : ∀ i j, c i j = true → C i j) : OpD g (dInt c f) (rI C fun i j => .int (f i j)) := by
  intro O H x y z v u Q dom e dx dy k
  unfold dInt at e
  split at e
  · split at e
    · rename_i hc
      cases e
      have e1 := dx.intE; have e2 := dy.intE; subst e1; subst e2
      exact ⟨_, _, rfl, rfl, hC _ _ hc, k _ H (Sub.refl H) Dat.i⟩
    · cases e
  · cases e
theorem opd_int0 {f : Int → Int → Int} : OpD g (dInt (fun _ _ => true) f) (rI0 fun i j => .int (f i j)) := by
  intro O H x y z v u Q dom e dx dy k
  unfold dInt at e
  split at e
  · cases e
    have e1 := dx.intE; have e2 := dy.intE; subst e1; subst e2
    exact ⟨_, _, rfl, rfl, k _ H (Sub.refl H) Dat.i⟩
  · cases e
def dSub : D → D → Option D := dInt (fun _ _ => true) fun i j => i - j
def dMod : D → D → Option D := dInt (fun _ j => decide (0 < j)) fun i j => i % j
def dFdiv : D → D → Option D := dInt (fun _ j => decide (0 < j) && decide (j < 1073741824)) fun i j => i / j
def dPow : D → D → Option D := dInt (fun i j => decide (0 ≤ j) && (decide (j ≤ 1000000) && decide (i.natAbs < 2 ^ 64))) fun i j => i ^ j.toNat
def dShl : D → D → Option D := dInt (fun i j => decide (0 ≤ j) && (decide (j ≤ 1000000) && decide (i.natAbs < 2 ^ 64))) fun i j => i * 2 ^ j.toNat
def dShr : D → D → Option D := dInt (fun _ j => decide (0 ≤ j)) fun i j => i / 2 ^ j.toNat
def dAnd : D → D → Option D := dInt (fun _ _ => true) Builtin.bitAnd
def dOr : D → D → Option D := dInt (fun _ _ => true) Builtin.bitOr
/-- * -/
def dMul : D → D → Option D
  | .int i, .int j => if i.natAbs.log2 + j.natAbs.log2 < 1000000 then some (.int (i * j)) else none
  | .lst a, .int k => if -1000000 ≤ k ∧ k ≤ 1000000 ∧ a.length * k.toNat ≤ line then some (.lst (List.replicate k.toNat a).flatten) else none
  | .tup a, .int k => if 2 ≤ k ∧ k ≤ 1000 ∧ 0 < a.length ∧ a.length ≤ 1000 then some (.tup (List.replicate k.toNat a).flatten) else none
  | _, _ => none
end
end Z
end
section
set_option Elab.async false
set_option linter.all false
set_option maxRecDepth 100000
namespace Z
open PySem PySem.Spec PyProof.Rows L2
section
variable {g : Gc}
/-! ### * -/
def rMulAll (K : PySem.W.Frag) : R2 := fun x y H Q => rI CMulW (fun i j => .int (i * j)) x y H Q ∨ (rRep x y H Q ∨ rRepT K x y H Q)
theorem op_mulAll {X : Cx} : OpR X (binaryOp .Mult) (rMulAll X.K) := OpR.orr op_mulW (OpR.orr op_rep op_repT)
theorem Dats.rep {H : Hp} {ds : List D} {vs : List V} (h : Dats g H ds vs) : ∀ n : Nat, Dats g H (List.replicate n ds).flatten (List.replicate n vs).flatten
  | 0 => by simp only [List.replicate_zero, List.flatten_nil]; exact Dats.nil
  | n + 1 => by
    simp only [List.replicate_succ, List.flatten_cons]
    exact h.append (Dats.rep h n)
theorem opd_mul : OpD g dMul (rMulAll g.K) := by
  intro O H x y z v u Q dom e dx dy k
  unfold dMul at e
  split at e
  · split at e
    · rename_i hc
      cases e
      have e1 := dx.intE; have e2 := dy.intE; subst e1; subst e2
      exact .inl ⟨_, _, rfl, rfl, hc, k _ H (Sub.refl H) Dat.i⟩
    · cases e
  · rename_i a n
    split at e
    · rename_i hl
      cases e
      obtain ⟨p, vs, rfl, hp, r1⟩ := dx.lstE
      have e2 := dy.intE; subst e2
      refine .inr (.inl ⟨p, n, vs, rfl, rfl, (hid_some hp).1, by omega, by omega, line_le (by rw [r1.length]; exact hl.2.2), fun q hq => k _ _ (new_sub hq) (Dat.lst (new_hid dom hq) ?_)⟩)
      exact Dats.mono (hid_mono (new_sub hq)) _ _ (r1.rep _)
    · cases e
  · rename_i a n
    split at e
    · rename_i hl
      cases e
      obtain ⟨p, vs, rfl, hp, r1⟩ := dx.tupE
      have e2 := dy.intE; subst e2
      have l1 := r1.length
      refine .inr (.inr ⟨p, n, vs, rfl, rfl, hid_sub.seqT hp, fun z => ?_, hl.1, hl.2.1, by omega, fun q hq => k _ _ (new_sub hq) (Dat.tup (.of (new_hid dom hq)) ?_)⟩)
      · subst z; simp at l1; omega
      · exact Dats.mono (hid_mono (new_sub hq)) _ _ (r1.rep _)
    · cases e
  · cases e

/-! ### comparisons -/
def dEq (x y : D) : Option D := if okD 60 x && okD 60 y then some (.bl (deq x y)) else none
def dNe (x y : D) : Option D := if okD 60 x && okD 60 y then some (.bl (!deq x y)) else none
theorem opd_eq : OpD g dEq (rEqD g.K) := by
  intro O H x y z v u Q dom e dx dy k
  unfold dEq at e
  split at e
  · rename_i hc
    rw [Bool.and_eq_true] at hc
    cases e
    refine ⟨toP x, toP y, dp_of x 60 v hc.1 (Dat.mono hid_sub _ _ dx), dp_of y 60 u hc.2 (Dat.mono hid_sub _ _ dy), okD_shaped hc.1, okD_shaped hc.2, ?_⟩
    rw [eqv_toP x y 60 60 hc.1 hc.2]
    exact k _ H (Sub.refl H) Dat.b
  · cases e
theorem opd_ne : OpD g dNe (rNeD g.K) := by
  intro O H x y z v u Q dom e dx dy k
  unfold dNe at e
  split at e
  · rename_i hc
    rw [Bool.and_eq_true] at hc
    cases e
    refine ⟨toP x, toP y, dp_of x 60 v hc.1 (Dat.mono hid_sub _ _ dx), dp_of y 60 u hc.2 (Dat.mono hid_sub _ _ dy), okD_shaped hc.1, okD_shaped hc.2, ?_⟩
    rw [eqv_toP x y 60 60 hc.1 hc.2]
    exact k _ H (Sub.refl H) Dat.b
  · cases e
def dCmp (f : Int → Int → Bool) : D → D → Option D
  | .int i, .int j => some (.bl (f i j))
  | _, _ => none
theorem opd_cmp {f : Int → Int → Bool} : OpD g (dCmp f) (rI0 fun i j => .bl (f i j)) := by
  intro O H x y z v u Q dom e dx dy k
  unfold dCmp at e
  split at e
  · cases e
    have e1 := dx.intE; have e2 := dy.intE; subst e1; subst e2
    exact ⟨_, _, rfl, rfl, k _ H (Sub.refl H) Dat.b⟩
  · cases e
def dLt : D → D → Option D := dCmp fun i j => decide (i < j)
def dLe : D → D → Option D := dCmp fun i j => decide (i ≤ j)
def dGt : D → D → Option D := dCmp fun i j => decide (j < i)
def dGe : D → D → Option D := dCmp fun i j => decide (j ≤ i)
/-- x in y -/
def memD (x : D) : List D → Bool
  | [] => false
  | d :: ds => deq d x || memD x ds
def dIn (neg : Bool) (x y : D) : Option D := match y with
  | .lst ds => if okD 60 x && okDs 59 ds then some (.bl (if neg then !memD x ds else memD x ds)) else none
  | .tup ds => if okD 60 x && okDs 59 ds then some (.bl (if neg then !memD x ds else memD x ds)) else none
  | _ => none
theorem any_toPs (x : D) (hx : okD 60 x = true) : ∀ ds : List D, okDs 59 ds = true → ((toPs ds).any fun z => PyData.eqv z (toP x)) = memD x ds
  | [], _ => by simp [toPs, memD]
  | d :: ds, h => by
    simp only [okDs, Bool.and_eq_true] at h
    simp only [toPs, List.any_cons, memD, eqv_toP d x 59 60 h.1 hx, any_toPs x hx ds h.2]
def rInT (K : PySem.W.Frag) : R2 := fun x y H Q => ∃ d ds, Dp K H x d ∧ Dp K H y (.tuple ds) ∧ SeqAt.shaped d = true ∧ SeqAt.shaped (.tuple ds) = true ∧ Q (.bl (ds.any fun z => PyData.eqv z d)) H
def rNotInT (K : PySem.W.Frag) : R2 := fun x y H Q => ∃ d ds, Dp K H x d ∧ Dp K H y (.tuple ds) ∧ SeqAt.shaped d = true ∧ SeqAt.shaped (.tuple ds) = true ∧ Q (.bl (!ds.any fun z => PyData.eqv z d)) H
theorem op_inT {X : Cx} (hu : X.A.units + 65 < cLine) : OpR X (compareOp .In) (rInT X.K) := by
  intro pins s σ H x y v u Q I rx ry h
  obtain ⟨d, ds, hd, he, sd, se, q⟩ := h
  obtain ⟨as, r1⟩ := Dp.reads I d x v hd rx
  obtain ⟨bs, r2⟩ := Dp.reads I (.tuple ds) y u he ry
  exact SeqAt.in_tuple_reads r2 r1 (SeqAt.canLay_of_shaped se) (SeqAt.canLay_of_shaped sd) (room_in_shaped sd hu) ⟨.bl _, H, I, rfl, q⟩
theorem op_notInT {X : Cx} (hu : X.A.units + 65 < cLine) : OpR X (compareOp .NotIn) (rNotInT X.K) := by
  intro pins s σ H x y v u Q I rx ry h
  obtain ⟨d, ds, hd, he, sd, se, q⟩ := h
  obtain ⟨as, r1⟩ := Dp.reads I d x v hd rx
  obtain ⟨bs, r2⟩ := Dp.reads I (.tuple ds) y u he ry
  exact SeqAt.notIn_tuple_reads r2 r1 (SeqAt.canLay_of_shaped se) (SeqAt.canLay_of_shaped sd) (room_in_shaped sd hu) ⟨.bl _, H, I, rfl, q⟩
def rInAll (K : PySem.W.Frag) : R2 := fun x y H Q => rInD K x y H Q ∨ rInT K x y H Q
def rNotInAll (K : PySem.W.Frag) : R2 := fun x y H Q => rNotInD K x y H Q ∨ rNotInT K x y H Q
theorem okDs_lst {ds : List D} (h : okDs 59 ds = true) : okD 60 (.lst ds) = true := by simpa [okD] using h
theorem okDs_tup {ds : List D} (h : okDs 59 ds = true) : okD 60 (.tup ds) = true := by simpa [okD] using h
theorem opd_in : OpD g (dIn false) (rInAll g.K) := by
  intro O H x y z v u Q dom e dx dy k
  unfold dIn at e
  split at e
  · rename_i ds
    split at e
    · rename_i hc
      rw [Bool.and_eq_true] at hc
      cases e
      refine .inl ⟨toP x, toPs ds, dp_of x 60 v hc.1 (Dat.mono hid_sub _ _ dx), ?_, okD_shaped hc.1, okD_shaped (d := .lst ds) (okDs_lst hc.2), ?_⟩
      · exact dp_of (.lst ds) 60 u (okDs_lst hc.2) (Dat.mono hid_sub _ _ dy)
      · rw [any_toPs x hc.1 ds hc.2]
        exact k _ H (Sub.refl H) Dat.b
    · cases e
  · rename_i ds
    split at e
    · rename_i hc
      rw [Bool.and_eq_true] at hc
      cases e
      refine .inr ⟨toP x, toPs ds, dp_of x 60 v hc.1 (Dat.mono hid_sub _ _ dx), ?_, okD_shaped hc.1, okD_shaped (d := .tup ds) (okDs_tup hc.2), ?_⟩
      · exact dp_of (.tup ds) 60 u (okDs_tup hc.2) (Dat.mono hid_sub _ _ dy)
      · rw [any_toPs x hc.1 ds hc.2]
        exact k _ H (Sub.refl H) Dat.b
    · cases e
  · cases e
theorem opd_notIn : OpD g (dIn true) (rNotInAll g.K) := by
  intro O H x y z v u Q dom e dx dy k
  unfold dIn at e
  split at e
  · rename_i ds
    split at e
    · rename_i hc
      rw [Bool.and_eq_true] at hc
      cases e
      refine .inl ⟨toP x, toPs ds, dp_of x 60 v hc.1 (Dat.mono hid_sub _ _ dx), ?_, okD_shaped hc.1, okD_shaped (d := .lst ds) (okDs_lst hc.2), ?_⟩
      · exact dp_of (.lst ds) 60 u (okDs_lst hc.2) (Dat.mono hid_sub _ _ dy)
      · rw [any_toPs x hc.1 ds hc.2]
        exact k _ H (Sub.refl H) Dat.b
    · cases e
  · rename_i ds
    split at e
    · rename_i hc
      rw [Bool.and_eq_true] at hc
      cases e
      refine .inr ⟨toP x, toPs ds, dp_of x 60 v hc.1 (Dat.mono hid_sub _ _ dx), ?_, okD_shaped hc.1, okD_shaped (d := .tup ds) (okDs_tup hc.2), ?_⟩
      · exact dp_of (.tup ds) 60 u (okDs_tup hc.2) (Dat.mono hid_sub _ _ dy)
      · rw [any_toPs x hc.1 ds hc.2]
        exact k _ H (Sub.refl H) Dat.b
    · cases e
  · cases e
def isNon : D → Bool
  | .non => true
  | _ => false
/-- is, is not -/
def dIs (neg : Bool) (x y : D) : Option D := match y with
  | .non => some (.bl (neg != isNon x))
  | .bl b => (match x with | .bl a => some (.bl (neg != decide (a = b))) | _ => none)
  | _ => none
def rIsAll : R2 := fun x y H Q => (y = .non ∧ Q (.bl (decide (x = .non))) H) ∨ rIsB x y H Q
def rNotAll : R2 := fun x y H Q => (y = .non ∧ Q (.bl (!decide (x = .non))) H) ∨ rNotB x y H Q
theorem op_isAll {X : Cx} : OpR X (compareOp .Is) rIsAll := OpR.orr op_isN op_isBl
theorem op_notAll {X : Cx} : OpR X (compareOp .IsNot) rNotAll := OpR.orr op_notN op_notBl
theorem non_iff {H : Hp} {x : D} {v : V} (h : Dat g H x v) : decide (v = .non) = isNon x := by
  cases x with
  | non => have := h.nonE; subst this; rfl
  | bl b => have := h.blE; subst this; rfl
  | int b => have := h.intE; subst this; rfl
  | str b => have := h.strE; subst this; rfl
  | tup l => obtain ⟨a, vs, rfl, _⟩ := h.tupE; rfl
  | lst l => obtain ⟨a, vs, rfl, _⟩ := h.lstE; rfl
  | dic a b => simp only [Dat] at h; obtain ⟨a, kvs, rfl, _⟩ := h; rfl
  | ins a b => simp only [Dat] at h; obtain ⟨a, dx, fs, rfl, _⟩ := h; rfl
  | fn i => simp only [Dat] at h; subst h; rfl
  | cls i => simp only [Dat] at h; subst h; rfl
  | tape => simp only [Dat] at h; subst h; rfl
  | scr l => simp only [Dat] at h; obtain ⟨a, rfl, _⟩ := h; rfl
theorem opd_is : OpD g (dIs false) rIsAll := by
  intro O H x y z v u Q dom e dx dy k
  unfold dIs at e
  split at e
  · cases e
    have e2 := dy.nonE; subst e2
    refine .inl ⟨rfl, ?_⟩
    rw [non_iff dx]
    have := k _ H (Sub.refl H) Dat.b
    simpa using this
  · split at e
    · cases e
      have e1 := dx.blE; have e2 := dy.blE; subst e1; subst e2
      refine .inr ⟨_, _, rfl, rfl, ?_⟩
      have := k _ H (Sub.refl H) Dat.b
      simpa using this
    · cases e
  · cases e
theorem opd_isnot : OpD g (dIs true) rNotAll := by
  intro O H x y z v u Q dom e dx dy k
  unfold dIs at e
  split at e
  · cases e
    have e2 := dy.nonE; subst e2
    refine .inl ⟨rfl, ?_⟩
    rw [non_iff dx]
    have := k _ H (Sub.refl H) Dat.b
    simpa using this
  · split at e
    · cases e
      have e1 := dx.blE; have e2 := dy.blE; subst e1; subst e2
      refine .inr ⟨_, _, rfl, rfl, ?_⟩
      have := k _ H (Sub.refl H) Dat.b
      simpa using this
    · cases e
  · cases e
/-! ### truth -/
def dTru : D → Option Bool
  | .non => some false
  | .bl b => some b
  | .int i => some (i != 0)
  | .str x => if x.length ≤ line then some ((x.length : Int) != 0) else none
  | .tup l => some (!l.isEmpty)
  | .lst l => some (!l.isEmpty)
  | _ => none
theorem empty_dats {H : Hp} {ds : List D} {vs : List V} (h : Dats g H ds vs) : vs.isEmpty = ds.isEmpty := by
  have := h.length
  cases vs <;> cases ds <;> simp_all
theorem tru_of {H : Hp} {x : D} {v : V} {b : Bool} (e : dTru x = some b) (h : Dat g H x v) : TruV g.K v H b := by
  cases x with
  | non => cases e; have := h.nonE; subst this; rfl
  | bl b => cases e; have := h.blE; subst this; rfl
  | int b => cases e; have := h.intE; subst this; rfl
  | str b =>
    have := h.strE; subst this
    have e' : (if b.length ≤ line then some ((b.length : Int) != 0) else none) = some _ := e
    by_cases hl : b.length ≤ line
    · rw [if_pos hl] at e'
      cases e'
      exact ⟨line_le hl, rfl⟩
    · rw [if_neg hl] at e'
      cases e'
  | tup l =>
    obtain ⟨a, vs, rfl, hs, r⟩ := h.tupE
    cases e
    exact .inr (.inl ⟨vs, hs, by rw [empty_dats r]⟩)
  | lst l =>
    obtain ⟨a, vs, rfl, hs, r⟩ := h.lstE
    cases e
    exact .inl ⟨vs, .of hs, by rw [empty_dats r]⟩
  | _ => cases e
theorem TruV.mono {K : PySem.W.Frag} {H H' : Hp} (s : Sub H H') {v : V} {b : Bool} (h : TruV K v H b) : TruV K v H' b := by
  cases v with
  | ref a =>
    rcases h with ⟨xs, h, e⟩ | ⟨xs, h, e⟩ | ⟨kvs, h, e⟩
    · exact .inl ⟨xs, s.seqL h, e⟩
    · exact .inr (.inl ⟨xs, s.seqT h, e⟩)
    · exact .inr (.inr ⟨kvs, s _ _ h, e⟩)
  | _ => exact h
end

def mCmp (f : D → D → Option D) (a b : M D) : M D := m2 f a b
def mTst (a : M D) : M Bool := fun env τ => (a env τ).bind fun x τ1 => R.of (dTru x) τ1
def mNot (a : M D) : M D := fun env τ => (a env τ).bind fun x τ1 => R.of ((dTru x).map fun b => .bl (!b)) τ1
def mAnd (a b : M D) : M D := fun env τ => (a env τ).bind fun x τ1 => (R.of (dTru x) τ1).bind fun k τ2 => if k then b env τ2 else .ok x τ2
def mOr (a b : M D) : M D := fun env τ => (a env τ).bind fun x τ1 => (R.of (dTru x) τ1).bind fun k τ2 => if k then .ok x τ2 else b env τ2
def mNotT (a : M Bool) : M Bool := fun env τ => (a env τ).bind fun x τ1 => .ok (!x) τ1
def mAndT (a b : M Bool) : M Bool := fun env τ => (a env τ).bind fun x τ1 => if x then b env τ1 else .ok false τ1
def mOrT (a b : M Bool) : M Bool := fun env τ => (a env τ).bind fun x τ1 => if x then .ok true τ1 else b env τ1
def mIf {α : Type} (c : M Bool) (a b : M α) : M α := fun env τ => (c env τ).bind fun x τ1 => if x then a env τ1 else b env τ1
/-- a comparison's answer as a test -/
def dBl : D → Option Bool
  | .bl b => some b
  | _ => none
def mBl (a : M D) : M Bool := fun env τ => (a env τ).bind fun x τ1 => R.of (dBl x) τ1
/-- a op b op' c -/
def mChain (f f' : D → D → Option D) (a b c : M D) : M D := fun env τ => (a env τ).bind fun x τ1 => (b env τ1).bind fun y τ2 => (R.of ((f x y).bind dBl) τ2).bind fun k τ3 =>
  if k then (c env τ3).bind fun w τ4 => R.of (f' y w) τ4 else .ok (.bl false) τ3

section
variable {X : Cx} {g : Gc} {E : XK} {a b c : Expr} {ma mb mc : M D} {pos : Pos} {f f' : D → D → Option D} {r r' : R2}
theorem OpD.use {O : List Addr} {H : Hp} {σ : L2.St} {env : Env} {τ : Tape} {x y : D} {v u : V} {Q : VK} (hd : OpD g f r) (S : StRep g σ H O env τ) (dx : Dat g (hid H O) x v) (dy : Dat g (hid H O) y u) (h : Res g E (Dat g) O H Q (R.of (f x y) τ)) : r v u H Q := by
  cases e : f x y with
  | none => rw [e] at h; exact h.elim
  | some z =>
    rw [e] at h
    exact hd O H x y z v u Q S.dom e dx dy fun w H' s r => h w H' (.of_sub s S.tp) r
theorem s_cmp {op : CmpOp} (ho : OpR X (compareOp op) r) (hd : OpD g f r) (hm : behindInMarks op b = false) (ha : PE X a (tE g E ma)) (hb : PE X b (tE g E mb)) : PE X (.Compare a [op] [b] pos) (tE g E (m2 f ma mb)) := by
  refine weakE (pe_cmpR ho ha hb hm) fun σ H Q ⟨O, env, τ, S, h⟩ => ?_
  refine go S h fun x τ1 v H1 e1 p1 S1 d1 h1 => ?_
  refine go S1 h1 fun y τ2 u H2 e2 p2 S2 d2 h2 => ?_
  exact hd.use S2 (Dat.mono (p2.sub S.tO.1 S.tO.2.1) _ _ d1) d2 h2
theorem Res.bl {O : List Addr} {H : Hp} {Q : Bool → Hp → Prop} {r : R D} (h : Res g E eqρ O H Q (r.bind fun x τ1 => R.of (dBl x) τ1)) : Res g E (Dat g) O H (fun x H' => ∃ k, x = .bl k ∧ Q k H') r := by
  cases r with
  | ok x τ' =>
    intro v H' p d
    cases x with
    | bl k =>
      have e := d.blE; subst e
      exact ⟨k, rfl, h k H' p rfl⟩
    | _ => exact False.elim h
  | exc c d τ => exact h
  | fail => exact h
theorem t_cmp {op : CmpOp} (ho : OpR X (compareOp op) r) (hd : OpD g f r) (hm : behindInMarks op b = false) (ha : PE X a (tE g E ma)) (hb : PE X b (tE g E mb)) : PT X (.Compare a [op] [b] pos) (tT g E (mBl (m2 f ma mb))) := by
  refine weakT (pt_cmpR ho ha hb hm) fun σ H Q ⟨O, env, τ, S, h⟩ => ?_
  have h' := Res.bl h
  refine go S h' fun x τ1 v H1 e1 p1 S1 d1 h1 => ?_
  refine go S1 h1 fun y τ2 u H2 e2 p2 S2 d2 h2 => ?_
  exact hd.use S2 (Dat.mono (p2.sub S.tO.1 S.tO.2.1) _ _ d1) d2 h2
theorem chain_red {σ : L2.St} {H : Hp} {Q : VK} (hd : OpD g f r) (hd' : OpD g f' r') : tE g E (mChain f f' ma mb mc) σ H Q → tChain r r' (tE g E ma) (tE g E mb) (tE g E mc) σ H Q := by
  rintro ⟨O, env, τ, S, h⟩
  refine go S h fun x τ1 v H1 e1 p1 S1 d1 h1 => ?_
  refine go S1 h1 fun y τ2 u H2 e2 p2 S2 d2 h2 => ?_
  have d1' := Dat.mono (p2.sub S.tO.1 S.tO.2.1) _ _ d1
  cases e : f x y with
  | none => rw [e] at h2; exact h2.elim
  | some z =>
    rw [e] at h2
    refine hd O H2 x y z v u _ S2.dom e d1' d2 fun w H3 s3 r3 => ?_
    cases z with
    | bl k =>
      have ew := r3.blE; subst ew
      refine ⟨k, rfl, ?_⟩
      have p3 : Post g H2 H3 τ2 := .of_sub s3 S2.tp
      have S3 := S2.post p3
      have h3 := h2.step p3
      cases k with
      | true =>
        rw [if_pos rfl]
        refine go S3 h3 fun w τ4 t H4 e4 p4 S4 d4 h4 => ?_
        exact hd'.use S4 (Dat.mono (p4.sub S.tO.1 S.tO.2.1) _ _ (Dat.mono (p3.sub S.tO.1 S.tO.2.1) _ _ d2)) d4 h4
      | false =>
        rw [if_neg Bool.false_ne_true]
        exact h3 _ H3 S3.post0 Dat.b
    | _ => exact False.elim h2
theorem s_chain {op op' : CmpOp} (ho : OpR X (compareOp op) r) (ho' : OpR X (compareOp op') r') (hd : OpD g f r) (hd' : OpD g f' r') (hm : lastMarks [op, op'] [b, c] = false) (ha : PE X a (tE g E ma)) (hb : PE X b (tE g E mb)) (hc : PE X c (tE g E mc)) :
    PE X (.Compare a [op, op'] [b, c] pos) (tE g E (mChain f f' ma mb mc)) := weakE (pe_chain ho ho' ha hb hc hm) fun σ H Q h => chain_red hd hd' h
theorem t_chain {op op' : CmpOp} (ho : OpR X (compareOp op) r) (ho' : OpR X (compareOp op') r') (hd : OpD g f r) (hd' : OpD g f' r') (hm : lastMarks [op, op'] [b, c] = false) (ha : PE X a (tE g E ma)) (hb : PE X b (tE g E mb)) (hc : PE X c (tE g E mc)) :
    PT X (.Compare a [op, op'] [b, c] pos) (tT g E (mBl (mChain f f' ma mb mc))) := weakT (pt_chain ho ho' ha hb hc hm) fun σ H Q ⟨O, env, τ, S, h⟩ => chain_red hd hd' ⟨O, env, τ, S, Res.bl h⟩
/-! truth of a value -/
theorem tru_red {σ : L2.St} {H : Hp} {Q : Bool → Hp → Prop} : tT g E (mTst ma) σ H Q → tE g E ma σ H fun x H' => ∃ k, TruV g.K x H' k ∧ Q k H' := by
  rintro ⟨O, env, τ, S, h⟩
  refine go S h fun x τ1 v H1 e1 p1 S1 d1 h1 => ?_
  cases e : dTru x with
  | none => rw [e] at h1; exact h1.elim
  | some k =>
    rw [e] at h1
    exact ⟨k, TruV.mono hid_sub (tru_of e d1), h1 k H1 S1.post0 rfl⟩
theorem t_tru (hK : X.K = g.K) (ha : PE X a (tE g E ma)) (he : ∀ whole, isTrue a X.env whole = (do let v ← whole; standAt a.pos; holding [v] (truthy v))) : PT X a (tT g E (mTst ma)) := by
  refine weakT (pt_truth ha he) fun σ H Q h => ?_
  rw [hK]
  exact tru_red h
theorem s_not (hK : X.K = g.K) (ha : PE X a (tE g E ma)) : PE X (.UnaryOp .Not a pos) (tE g E (mNot ma)) := by
  refine weakE (pe_notT ha) fun σ H Q ⟨O, env, τ, S, h⟩ => ?_
  rw [hK]
  refine go S h fun x τ1 v H1 e1 p1 S1 d1 h1 => ?_
  cases e : dTru x with
  | none => rw [e] at h1; exact h1.elim
  | some k =>
    rw [e] at h1
    exact ⟨k, TruV.mono hid_sub (tru_of e d1), h1 _ H1 S1.post0 Dat.b⟩
theorem t_not {mt : M Bool} (ha : PT X a (tT g E mt)) : PT X (.UnaryOp .Not a pos) (tT g E (mNotT mt)) := by
  refine weakT (pt_not ha) fun σ H Q ⟨O, env, τ, S, h⟩ => ?_
  refine go S h fun x τ1 v H1 e1 p1 S1 d1 h1 => ?_
  cases d1
  exact h1 _ H1 S1.post0 rfl
theorem s_and {rest : List Expr} (hK : X.K = g.K) (ha : PE X a (tE g E ma)) (hb : PE X (.BoolOp .And (b :: rest) pos) (tE g E mb)) : PE X (.BoolOp .And (a :: b :: rest) pos) (tE g E (mAnd ma mb)) := by
  refine weakE (pe_andT ha hb) fun σ H Q ⟨O, env, τ, S, h⟩ => ?_
  rw [hK]
  refine go S h fun x τ1 v H1 e1 p1 S1 d1 h1 => ?_
  cases e : dTru x with
  | none => rw [e] at h1; exact h1.elim
  | some k =>
    rw [e] at h1
    refine ⟨k, TruV.mono hid_sub (tru_of e d1), ?_⟩
    cases k with
    | true => rw [if_pos rfl]; exact ⟨O, env, τ1, S1, h1⟩
    | false => rw [if_neg Bool.false_ne_true]; exact h1 v H1 S1.post0 d1
theorem s_or {rest : List Expr} (hK : X.K = g.K) (ha : PE X a (tE g E ma)) (hb : PE X (.BoolOp .Or (b :: rest) pos) (tE g E mb)) : PE X (.BoolOp .Or (a :: b :: rest) pos) (tE g E (mOr ma mb)) := by
  refine weakE (pe_orT ha hb) fun σ H Q ⟨O, env, τ, S, h⟩ => ?_
  rw [hK]
  refine go S h fun x τ1 v H1 e1 p1 S1 d1 h1 => ?_
  cases e : dTru x with
  | none => rw [e] at h1; exact h1.elim
  | some k =>
    rw [e] at h1
    refine ⟨k, TruV.mono hid_sub (tru_of e d1), ?_⟩
    cases k with
    | false => rw [if_neg Bool.false_ne_true]; exact ⟨O, env, τ1, S1, h1⟩
    | true => rw [if_pos rfl]; exact h1 v H1 S1.post0 d1
theorem w_one {mt : M Bool} (ha : PT X a (tT g E mt)) (op : BoolOp) : PW X (.BoolOp op [a] pos) (tT g E mt) := by
  cases op with
  | And => exact pw_and1 ha
  | Or => exact pw_or1 ha
theorem w_and {rest : List Expr} {mt mu : M Bool} (ha : PT X a (tT g E mt)) (hb : PW X (.BoolOp .And (b :: rest) pos) (tT g E mu)) : PW X (.BoolOp .And (a :: b :: rest) pos) (tT g E (mAndT mt mu)) := by
  refine ⟨fun wh pins s σ H Q I ⟨O, env, τ, S, h⟩ => (pw_and ha hb).run wh pins s σ H Q I ?_⟩
  refine go S h fun x τ1 v H1 e1 p1 S1 d1 h1 => ?_
  cases d1
  cases x with
  | true => rw [if_pos rfl]; exact ⟨O, env, τ1, S1, h1⟩
  | false => rw [if_neg Bool.false_ne_true]; exact h1 _ H1 S1.post0 rfl
theorem w_or {rest : List Expr} {mt mu : M Bool} (ha : PT X a (tT g E mt)) (hb : PW X (.BoolOp .Or (b :: rest) pos) (tT g E mu)) : PW X (.BoolOp .Or (a :: b :: rest) pos) (tT g E (mOrT mt mu)) := by
  refine ⟨fun wh pins s σ H Q I ⟨O, env, τ, S, h⟩ => (pw_or ha hb).run wh pins s σ H Q I ?_⟩
  refine go S h fun x τ1 v H1 e1 p1 S1 d1 h1 => ?_
  cases d1
  cases x with
  | false => rw [if_neg Bool.false_ne_true]; exact ⟨O, env, τ1, S1, h1⟩
  | true => rw [if_pos rfl]; exact h1 _ H1 S1.post0 rfl
theorem s_if {mt : M Bool} (hc : PT X c (tT g E mt)) (ha : PE X a (tE g E ma)) (hb : PE X b (tE g E mb)) : PE X (.IfExp c a b pos) (tE g E (mIf mt ma mb)) := by
  refine weakE (pe_ifExp hc ha hb) fun σ H Q ⟨O, env, τ, S, h⟩ => ?_
  refine go S h fun x τ1 v H1 e1 p1 S1 d1 h1 => ?_
  cases d1
  cases x with
  | true => rw [if_pos rfl]; exact ⟨O, env, τ1, S1, h1⟩
  | false => rw [if_neg Bool.false_ne_true]; exact ⟨O, env, τ1, S1, h1⟩
end
end Z
end
section
set_option Elab.async false
set_option linter.all false
set_option maxRecDepth 100000
namespace Z
open PySem PySem.Spec PyProof.Rows L2

/-! ### argument lists -/
def mNil : M (List D) := fun _ τ => .ok [] τ
def mCons (a : M D) (b : M (List D)) : M (List D) := fun env τ => (a env τ).bind fun x τ1 => (b env τ1).bind fun xs τ2 => .ok (x :: xs) τ2
def itemsOf : D → Option (List D)
  | .lst l => some l
  | .tup l => some l
  | _ => none
def mStar (a : M D) (b : M (List D)) : M (List D) := fun env τ => (a env τ).bind fun x τ1 => (R.of (itemsOf x) τ1).bind fun ys τ2 => (b env τ2).bind fun xs τ3 => .ok (ys ++ xs) τ3
section
variable {X : Cx} {g : Gc} {E : XK} {e : Expr} {es : List Expr} {ma : M D} {ms : M (List D)} {pos p : Pos}
theorem a_nil : PA X [] (tA g E mNil) := weakA pa_nil fun σ H Q ⟨O, env, τ, S, h⟩ => h [] H S.post0 Dats.nil
theorem a_cons (ha : PE X e (tE g E ma)) (hr : PA X es (tA g E ms)) (hs : starEach (e :: es) X.env = (false, eval e X.env) :: starEach es X.env) : PA X (e :: es) (tA g E (mCons ma ms)) := by
  refine weakA (pa_cons ha hr hs) fun σ H Q ⟨O, env, τ, S, h⟩ => ?_
  refine go S h fun x τ1 v H1 e1 p1 S1 d1 h1 => ?_
  refine go S1 h1 fun xs τ2 vs H2 e2 p2 S2 d2 h2 => ?_
  exact h2 _ H2 S2.post0 (Dats.cons (Dat.mono (p2.sub S.tO.1 S.tO.2.1) _ _ d1) d2)
theorem items_dat {H : Hp} {x : D} {v : V} {ys : List D} (e : itemsOf x = some ys) (h : Dat g H x v) : ∃ a vs, v = .ref a ∧ (SqT g.K H a vs ∨ SqL g.K H a vs) ∧ Dats g H ys vs := by
  cases x with
  | lst l => cases e; obtain ⟨a, vs, rfl, hs, r⟩ := h.lstE; exact ⟨a, vs, rfl, .inr (.of hs), r⟩
  | tup l => cases e; obtain ⟨a, vs, rfl, hs, r⟩ := h.tupE; exact ⟨a, vs, rfl, .inl hs, r⟩
  | _ => cases e
theorem a_star (hK : X.K = g.K) (ha : PE X e (tE g E ma)) (hr : PA X es (tA g E ms)) (hs : starEach (.Starred e p :: es) X.env = (true, eval e X.env) :: starEach es X.env) : PA X (.Starred e p :: es) (tA g E (mStar ma ms)) := by
  refine weakA (StX.pa_star ha hr hs) fun σ H Q ⟨O, env, τ, S, h⟩ => ?_
  rw [hK]
  refine go S h fun x τ1 v H1 e1 p1 S1 d1 h1 => ?_
  cases ei : itemsOf x with
  | none => rw [ei] at h1; exact h1.elim
  | some ys =>
    rw [ei] at h1
    obtain ⟨a, vs, rfl, hs, r⟩ := items_dat ei d1
    refine ⟨a, vs, rfl, hs.imp hid_sub.seqT hid_sub.seqL, ?_⟩
    refine go S1 h1 fun xs τ2 us H2 e2 p2 S2 d2 h2 => ?_
    exact h2 _ H2 S2.post0 ((Dats.mono (p2.sub S.tO.1 S.tO.2.1) _ _ r).append d2)

/-! ### displays -/
def mTup (ms : M (List D)) : M D := fun env τ => (ms env τ).bind fun xs τ1 => if xs.length ≤ line then .ok (.tup xs) τ1 else .fail
theorem s_tup {k : Nat} (h : PA X es (tA g E ms)) : PE X (.Tuple es k pos) (tE g E (mTup ms)) := by
  refine weakE (pe_tup h) fun σ H Q ⟨O, env, τ, S, h⟩ => ?_
  refine go S h fun xs τ1 vs H1 e1 p1 S1 d1 h1 => ?_
  by_cases hl : xs.length ≤ line
  · rw [if_pos hl] at h1
    refine ⟨line_le (by rw [d1.length]; exact hl), fun p hp => h1 _ _ (.of_sub (new_sub hp) S1.tp) (Dat.tup (.of (new_hid S1.dom hp)) (Dats.mono (hid_mono (new_sub hp)) _ _ d1))⟩
  · rw [if_neg hl] at h1; exact h1.elim

/-- a new list's outcome -/
def ResF (g : Gc) (E : XK) (O : List Addr) (H : Hp) (Q : VK) : R (List D) → Prop
  | .ok ds τ' => ∀ p vs H', H p = none → Post g H H' τ' → H' p = some (.lst vs) → Dats g (hid H' (p :: O)) ds vs → Q (.ref p) H'
  | .exc c p τ' => ∀ cls dd H', Post g H H' τ' → ExcAt g (hid H' O) c p cls dd → E cls dd H'
  | .fail => False
def tF (g : Gc) (E : XK) (m : M (List D)) : TE := fun σ H Q => ∃ O env τ, StRep g σ H O env τ ∧ ResF g E O H Q (m env τ)
theorem Post.free {H H' : Hp} {τ' : Tape} {O : List Addr} {p : Addr} (q : Post g H H' τ') (dom : ∀ a ∈ O, ∃ o, H a = some o) (h1 : g.T ∈ O) (h2 : g.L ∈ O) (h : H' p = none) : H p = none := by
  cases e : H p with
  | none => rfl
  | some o =>
    by_cases e1 : p = g.T
    · subst e1; rw [q.tp.1] at h; cases h
    · by_cases e2 : p = g.L
      · subst e2; rw [q.tp.2.1] at h; cases h
      · rw [q.keep p o e1 e2 e] at h; cases h
theorem ResF.step {O : List Addr} {H H1 : Hp} {Q : VK} {τ1 : Tape} {r : R (List D)} (p : Post g H H1 τ1) (dom : ∀ a ∈ O, ∃ o, H a = some o) (t1 : g.T ∈ O) (t2 : g.L ∈ O) (h : ResF g E O H Q r) : ResF g E O H1 Q r := by
  cases r with
  | ok x τ' => exact fun q vs H' n r => h q vs H' (p.free dom t1 t2 n) (p.trans r)
  | exc c d τ' => exact fun cls dd H' q r => h cls dd H' (p.trans q) r
  | fail => exact h.elim
theorem goF {α β : Type} {ρ : Hp → α → β → Prop} {O : List Addr} {H : Hp} {σ : L2.St} {env : Env} {τ : Tape} {m : M α} {F : α → Tape → R (List D)} {Q : VK} {Q' : β → Hp → Prop} (S : StRep g σ H O env τ)
    (h : ResF g E O H Q ((m env τ).bind F)) (k : ∀ x τ1 v H1, m env τ = .ok x τ1 → Post g H H1 τ1 → StRep g σ H1 O env τ1 → ρ (hid H1 O) x v → ResF g E O H1 Q (F x τ1) → Q' v H1) : tG g E ρ m σ H Q' := by
  refine ⟨O, env, τ, S, ?_⟩
  cases e : m env τ with
  | ok x τ1 =>
    rw [e] at h
    exact fun v H1 p r => k x τ1 v H1 e p (S.post p) r (h.step p S.dom S.tO.1 S.tO.2.1)
  | exc c d τ1 => rw [e] at h; exact h
  | fail => rw [e] at h; exact h
/-- a new list as a value -/
def mLst (m : M (List D)) : M D := fun env τ => (m env τ).bind fun ds τ1 => .ok (.lst ds) τ1
theorem hid_more {H : Hp} {O : List Addr} {p : Addr} : Sub (hid H (p :: O)) (hid H O) := fun a o h => by
  obtain ⟨e, n⟩ := hid_some h
  exact hid_of e fun z => n (List.mem_cons_of_mem _ z)
theorem ResF.val {O : List Addr} {H : Hp} {Q : VK} {r : R (List D)} (dom : ∀ a ∈ O, ∃ o, H a = some o) (h : Res g E (Dat g) O H Q (r.bind fun ds τ1 => .ok (.lst ds) τ1)) : ResF g E O H Q r := by
  cases r with
  | ok ds τ' =>
    intro p vs H' n q e r
    exact h (.ref p) H' q (Dat.lst (hid_of e (not_in_of_none dom n)) (Dats.mono hid_more _ _ r))
  | exc c d τ' => exact h
  | fail => exact h
theorem s_new (h : PE X e (tF g E ms)) : PE X e (tE g E (mLst ms)) := weakE h fun σ H Q ⟨O, env, τ, S, q⟩ => ⟨O, env, τ, S, ResF.val S.dom q⟩
def mDisp (ms : M (List D)) : M (List D) := fun env τ => (ms env τ).bind fun xs τ1 => if xs.length ≤ line then .ok xs τ1 else .fail
theorem hid_new {H : Hp} {O : List Addr} {p : Addr} {o : HO} (h : H p = none) : Sub (hid H O) (hid (upd H p o) (p :: O)) := fun a u e => by
  obtain ⟨e1, n⟩ := hid_some e
  have ne : a ≠ p := ne_of_none e1 h
  refine hid_of (by rw [upd_ne ne]; exact e1) fun z => ?_
  rcases List.mem_cons.mp z with z | z
  · exact ne z
  · exact n z
theorem f_lst (h : PA X es (tA g E ms)) : PE X (.List es pos) (tF g E (mDisp ms)) := by
  refine weakE (pe_lst h) fun σ H Q ⟨O, env, τ, S, h⟩ => ?_
  refine goF S h fun xs τ1 vs H1 e1 p1 S1 d1 h1 => ?_
  by_cases hl : xs.length ≤ line
  · rw [if_pos hl] at h1
    exact ⟨line_le (by rw [d1.length]; exact hl), fun p hp => h1 p vs _ hp (.of_sub (new_sub hp) S1.tp) upd_same (Dats.mono (hid_new hp) _ _ d1)⟩
  · rw [if_neg hl] at h1; exact h1.elim

/-! ### subscripts -/
def dIx : D → D → Option D
  | .lst l, .int i => atI l i
  | .tup l, .int i => atI l i
  | _, _ => none
theorem Dats.atI {H : Hp} {ds : List D} {vs : List V} {i : Int} {d : D} (h : Dats g H ds vs) (e : L2.atI ds i = some d) : ∃ v, L2.atI vs i = some v ∧ Dat g H d v := by
  unfold L2.atI at e ⊢
  rw [h.length]
  cases q : ixN ds.length i with
  | none => rw [q] at e; cases e
  | some j =>
    rw [q] at e
    obtain ⟨v, e1, r⟩ := h.get (i := j) (d := d) e
    exact ⟨v, e1, r⟩
theorem opd_ix : OpD g dIx (rIx g.K) := by
  intro O H x y z v u Q dom e dx dy k
  unfold dIx at e
  split at e
  · obtain ⟨p, vs, rfl, hp, r1⟩ := dx.lstE
    have e2 := dy.intE; subst e2
    obtain ⟨w, e3, r3⟩ := r1.atI e
    exact .inl ⟨p, vs, _, w, rfl, rfl, .of (hid_some hp).1, e3, k w H (Sub.refl H) r3⟩
  · obtain ⟨p, vs, rfl, hp, r1⟩ := dx.tupE
    have e2 := dy.intE; subst e2
    obtain ⟨w, e3, r3⟩ := r1.atI e
    exact .inr (.inl ⟨p, vs, _, w, rfl, rfl, hid_sub.seqT hp, e3, k w H (Sub.refl H) r3⟩)
  · cases e
theorem s_ix {a b : Expr} {mb : M D} (hK : X.K = g.K) (ha : PE X a (tE g E ma)) (hb : PE X b (tE g E mb)) (hs : PlainIx b) : PE X (.Subscript a b pos) (tE g E (m2 dIx ma mb)) := by
  refine weakE (pe_ix ix_seq ha hb hs) fun σ H Q ⟨O, env, τ, S, h⟩ => ?_
  rw [hK]
  refine go S h fun x τ1 v H1 e1 p1 S1 d1 h1 => ?_
  refine go S1 h1 fun y τ2 u H2 e2 p2 S2 d2 h2 => ?_
  exact opd_ix.use S2 (Dat.mono (p2.sub S.tO.1 S.tO.2.1) _ _ d1) d2 h2
/-! slices -/
def optρ : Hp → Option Int → Option Int → Prop := fun _ a b => a = b
abbrev tO (g : Gc) (E : XK) (m : M (Option Int)) : TO := tG g E optρ m
def mNoP : M (Option Int) := fun _ τ => .ok none τ
def dI : D → Option Int
  | .int i => some i
  | _ => none
def mPart (a : M D) : M (Option Int) := fun env τ => (a env τ).bind fun x τ1 => (R.of (dI x) τ1).bind fun i τ2 => .ok (some i) τ2
theorem weakO {e : Option Expr} {t t' : TO} (h : PO X e t) (k : ∀ σ H Q, t' σ H Q → t σ H Q) : PO X e t' := ⟨fun pins s σ H Q I q => h.run pins s σ H Q I (k σ H Q q)⟩
theorem o_none : PO X none (tO g E mNoP) := weakO po_none fun σ H Q ⟨O, env, τ, S, h⟩ => h none H S.post0 rfl
theorem o_some (h : PE X e (tE g E ma)) : PO X (some e) (tO g E (mPart ma)) := weakO (po_some h) fun σ H Q ⟨O, env, τ, S, h⟩ => by
  refine go S h fun x τ1 v H1 e1 p1 S1 d1 h1 => ?_
  cases x with
  | int i =>
    have e2 := d1.intE; subst e2
    exact ⟨i, rfl, h1 (some i) H1 S1.post0 rfl⟩
  | _ => exact False.elim h1
def cutD (xs : List D) (lo hi : Option Int) : List D := (xs.drop (HT.sIx xs.length 0 lo)).take (HT.sIx xs.length xs.length hi - HT.sIx xs.length 0 lo)
theorem Dats.take {H : Hp} : ∀ {ds : List D} {vs : List V} (n : Nat), Dats g H ds vs → Dats g H (ds.take n) (vs.take n)
  | [], vs, n, h => by simp only [Dats] at h; subst h; simp only [List.take_nil]; exact Dats.nil
  | d :: ds, vs, 0, h => by simp only [List.take_zero]; exact Dats.nil
  | d :: ds, vs, n + 1, h => by
    simp only [Dats] at h
    obtain ⟨v, r, rfl, a, b⟩ := h
    simp only [List.take_succ_cons]
    exact Dats.cons a (Dats.take n b)
theorem Dats.drop {H : Hp} : ∀ {ds : List D} {vs : List V} (n : Nat), Dats g H ds vs → Dats g H (ds.drop n) (vs.drop n)
  | [], vs, n, h => by simp only [Dats] at h; subst h; simp only [List.drop_nil]; exact Dats.nil
  | d :: ds, vs, 0, h => h
  | d :: ds, vs, n + 1, h => by
    simp only [Dats] at h
    obtain ⟨v, r, rfl, a, b⟩ := h
    simp only [List.drop_succ_cons]
    exact Dats.drop n b
theorem Dats.cut {H : Hp} {ds : List D} {vs : List V} (lo hi : Option Int) (h : Dats g H ds vs) : Dats g H (cutD ds lo hi) (cutV vs lo hi) := by
  unfold cutD cutV
  rw [h.length]
  exact (h.drop _).take _
def dSl (x : D) (lo hi : Option Int) : Option D := match x with
  | .lst l => some (.lst (cutD l lo hi))
  | .tup l => some (.tup (cutD l lo hi))
  | _ => none
def mSl (a : M D) (lo hi : M (Option Int)) : M D := fun env τ => (a env τ).bind fun x τ1 => (lo env τ1).bind fun l τ2 => (hi env τ2).bind fun h τ3 => R.of (dSl x l h) τ3
def rSlAll (K : PySem.W.Frag) : V → Option Int → Option Int → Hp → VK → Prop := fun x lo hi H Q => rSlL K x lo hi H Q ∨ rSlA K x lo hi H Q
theorem sl_all : SlR X (rSlAll X.K) := SlR.or sl_list sl_tupA
theorem s_slice {lo hi : Option Expr} {ml mh : M (Option Int)} {p2 : Pos} (hK : X.K = g.K) (ha : PE X e (tE g E ma)) (hl : PO X lo (tO g E ml)) (hh : PO X hi (tO g E mh)) : PE X (.Subscript e (.Slice lo hi none p2) pos) (tE g E (mSl ma ml mh)) := by
  refine weakE (pe_slice sl_all ha hl hh) fun σ H Q ⟨O, env, τ, S, h⟩ => ?_
  rw [hK]
  refine go S h fun x τ1 v H1 e1 p1 S1 d1 h1 => ?_
  refine go S1 h1 fun l τ2 l' H2 e2 p2 S2 d2 h2 => ?_
  refine go S2 h2 fun u τ3 u' H3 e3 p3 S3 d3 h3 => ?_
  cases d2
  cases d3
  have d1' := Dat.mono ((p2.trans p3).sub S.tO.1 S.tO.2.1) _ _ d1
  cases x with
  | lst ds =>
    obtain ⟨a, vs, rfl, hp, r⟩ := d1'.lstE
    exact .inl ⟨a, vs, rfl, .of (hid_some hp).1, fun p hp' => h3 _ _ (.of_sub (new_sub hp') S3.tp) (Dat.lst (new_hid S3.dom hp') (Dats.mono (hid_mono (new_sub hp')) _ _ (r.cut l u)))⟩
  | tup ds =>
    obtain ⟨a, vs, rfl, hp, r⟩ := d1'.tupE
    refine .inr ⟨a, vs, rfl, hid_sub.seqT hp, fun ⟨z1, z2⟩ => ?_, fun _ p hp' => h3 _ _ (.of_sub (new_sub hp') S3.tp) (Dat.tup (.of (new_hid S3.dom hp')) (Dats.mono (hid_mono (new_sub hp')) _ _ (r.cut l u)))⟩
    have ec : cutD ds l u = ds := by
      unfold cutD
      rw [← r.length, z1, z2, List.drop_zero, Nat.sub_zero, r.length, List.take_length]
    refine h3 _ H3 S3.post0 ?_
    rw [ec]
    exact Dat.tup hp r
  | _ => exact False.elim h3
/-- xs[::-1] -/
def mRev (a : M D) : M D := fun env τ => (a env τ).bind fun x τ1 => match x with
  | .lst l => .ok (.lst l.reverse) τ1
  | _ => .fail
theorem Dats.rev {H : Hp} : ∀ {ds : List D} {vs : List V}, Dats g H ds vs → Dats g H ds.reverse vs.reverse
  | [], vs, h => by simp only [Dats] at h; subst h; exact Dats.nil
  | d :: ds, vs, h => by
    simp only [Dats] at h
    obtain ⟨v, r, rfl, a, b⟩ := h
    simp only [List.reverse_cons]
    exact (Dats.rev b).append (Dats.cons a Dats.nil)
theorem s_rev {k : Nat} {p1 p2 p3 : Pos} (hK : X.K = g.K) (ha : PE X e (tE g E ma)) : PE X (.Subscript e (.Slice none none (some (.UnaryOp .USub (.Constant (.int 1) k p1) p2)) p3) pos) (tE g E (mRev ma)) := by
  refine weakE (pe_revL ha) fun σ H Q ⟨O, env, τ, S, h⟩ => ?_
  rw [hK]
  refine go S h fun x τ1 v H1 e1 p1 S1 d1 h1 => ?_
  cases x with
  | lst ds =>
    obtain ⟨a, vs, rfl, hp, r⟩ := d1.lstE
    exact ⟨a, vs, rfl, .of (hid_some hp).1, fun p hp' => h1 _ _ (.of_sub (new_sub hp') S1.tp) (Dat.lst (new_hid S1.dom hp') (Dats.mono (hid_mono (new_sub hp')) _ _ r.rev))⟩
  | _ => exact False.elim h1
/-! unary -/
def mUn (f : D → Option D) (a : M D) : M D := fun env τ => (a env τ).bind fun x τ1 => R.of (f x) τ1
def dNeg : D → Option D
  | .int i => some (.int (-i))
  | _ => none
def dInv : D → Option D
  | .int i => some (.int (Builtin.bitNot i))
  | _ => none
theorem s_neg (ha : PE X e (tE g E ma)) : PE X (.UnaryOp .USub e pos) (tE g E (mUn dNeg ma)) := by
  refine weakE (pe_un un_neg ha) fun σ H Q ⟨O, env, τ, S, h⟩ => ?_
  refine go S h fun x τ1 v H1 e1 p1 S1 d1 h1 => ?_
  cases x with
  | int i => have e2 := d1.intE; subst e2; exact ⟨i, rfl, h1 _ H1 S1.post0 Dat.i⟩
  | _ => exact False.elim h1
theorem s_inv (ha : PE X e (tE g E ma)) : PE X (.UnaryOp .Invert e pos) (tE g E (mUn dInv ma)) := by
  refine weakE (pe_un un_inv ha) fun σ H Q ⟨O, env, τ, S, h⟩ => ?_
  refine go S h fun x τ1 v H1 e1 p1 S1 d1 h1 => ?_
  cases x with
  | int i => have e2 := d1.intE; subst e2; exact ⟨i, rfl, h1 _ H1 S1.post0 Dat.i⟩
  | _ => exact False.elim h1

/-! ### calls of built-in functions -/
def CallD (g : Gc) (f : List D → Option D) (r : List V → Hp → VK → Prop) : Prop := ∀ (O : List Addr) (H : Hp) (xs : List D) (z : D) (vs : List V) (Q : VK), (∀ a ∈ O, ∃ o, H a = some o) → f xs = some z → Dats g (hid H O) xs vs → (∀ w H', Sub H H' → Dat g (hid H' O) z w → Q w H') → r vs H Q
def mCall (f : List D → Option D) (ms : M (List D)) : M D := fun env τ => (ms env τ).bind fun xs τ1 => R.of (f xs) τ1
theorem s_callB {x : Str} {id : String} {f : List D → Option D} {r : List V → Hp → VK → Prop} (hc : CallR X (.builtin id) r) (hd : CallD g f r) (hg : Gl X x) (hm : X.mg x = none) (hv : bootBuiltins x = some (.builtin id)) (ha : PA X (e :: es) (tA g E ms))
    (hn : x ≠ "__name__") (hdb : (x == ("__debug__" : Str)) = false) (he : starEach (e :: es) X.env = (false, eval e X.env) :: starEach es X.env) (hpl : (backTo pos (starEach es X.env)).any (·.1) = false) : PE X (.Call (.Name x p) (e :: es) [] pos) (tE g E (mCall f ms)) := by
  refine weakE (pe_callB hc hg hm hv ha hn hdb he hpl) fun σ H Q ⟨O, env, τ, S, h⟩ => ?_
  refine go S h fun xs τ1 vs H1 e1 p1 S1 d1 h1 => ?_
  cases ef : f xs with
  | none => rw [ef] at h1; exact h1.elim
  | some z => rw [ef] at h1; exact hd O H1 xs z vs Q S1.dom ef d1 fun w H' s r => h1 w H' (.of_sub s S1.tp) r
theorem s_callTy {x : Str} {T : String} {f : List D → Option D} {r : List V → Hp → VK → Prop} (hc : CallR X (.type T) r) (hd : CallD g f r) (hg : Gl X x) (hm : X.mg x = none) (hv : bootBuiltins x = some (.type T)) (ha : PA X (e :: es) (tA g E ms))
    (hn : x ≠ "__name__") (hdb : (x == ("__debug__" : Str)) = false) (he : starEach (e :: es) X.env = (false, eval e X.env) :: starEach es X.env) (hpl : (backTo pos (starEach es X.env)).any (·.1) = false) : PE X (.Call (.Name x p) (e :: es) [] pos) (tE g E (mCall f ms)) := by
  refine weakE (pe_callTy hc hg hm hv ha hn hdb he hpl) fun σ H Q ⟨O, env, τ, S, h⟩ => ?_
  refine go S h fun xs τ1 vs H1 e1 p1 S1 d1 h1 => ?_
  cases ef : f xs with
  | none => rw [ef] at h1; exact h1.elim
  | some z => rw [ef] at h1; exact hd O H1 xs z vs Q S1.dom ef d1 fun w H' s r => h1 w H' (.of_sub s S1.tp) r
theorem Dats.one {H : Hp} {d : D} {vs : List V} (h : Dats g H [d] vs) : ∃ v, vs = [v] ∧ Dat g H d v := by
  simp only [Dats] at h
  obtain ⟨v, r, rfl, a, rfl⟩ := h
  exact ⟨v, rfl, a⟩
theorem Dats.two {H : Hp} {d e : D} {vs : List V} (h : Dats g H [d, e] vs) : ∃ v u, vs = [v, u] ∧ Dat g H d v ∧ Dat g H e u := by
  simp only [Dats] at h
  obtain ⟨v, r, rfl, a, u, r', rfl, b, rfl⟩ := h
  exact ⟨v, u, rfl, a, b⟩
def fLen : List D → Option D
  | [.lst l] => some (.int l.length)
  | [.tup l] => some (.int l.length)
  | [.scr l] => some (.int l.length)
  | _ => none
def rLenS (K : PySem.W.Frag) : List V → Hp → VK → Prop := fun xs H Q => ∃ p ys, xs = [.ref p] ∧ (SqL K H p ys ∨ SqT K H p ys) ∧ Q (.int ys.length) H
theorem cd_len : CallD g fLen (rLenS g.K) := by
  intro O H xs z vs Q dom e d k
  unfold fLen at e
  split at e
  · cases e
    obtain ⟨v, rfl, d1⟩ := d.one
    obtain ⟨a, us, rfl, hp, r⟩ := d1.lstE
    refine ⟨a, us, rfl, .inl (.of (hid_some hp).1), ?_⟩
    rw [r.length]
    exact k _ H (Sub.refl H) Dat.i
  · cases e
    obtain ⟨v, rfl, d1⟩ := d.one
    obtain ⟨a, us, rfl, hp, r⟩ := d1.tupE
    refine ⟨a, us, rfl, .inr (hid_sub.seqT hp), ?_⟩
    rw [r.length]
    exact k _ H (Sub.refl H) Dat.i
  · cases e
    obtain ⟨v, rfl, d1⟩ := d.one
    simp only [Dat] at d1
    obtain ⟨a, rfl, hp⟩ := d1
    rename_i l
    refine ⟨a, _, rfl, .inl (hid_sub.seqL hp), ?_⟩
    rw [List.length_map]
    exact k _ H (Sub.refl H) Dat.i
  · cases e
def fList : List D → Option (List D)
  | [.lst l] => some l
  | [.tup l] => some l
  | _ => none
def rListS (K : PySem.W.Frag) : List V → Hp → VK → Prop := fun xs H Q => ∃ p ys, xs = [.ref p] ∧ (SqL K H p ys ∨ SqT K H p ys) ∧ ∀ l, H l = none → Q (.ref l) (upd H l (.lst ys))
def mCallF (f : List D → Option (List D)) (ms : M (List D)) : M (List D) := fun env τ => (ms env τ).bind fun xs τ1 => R.of (f xs) τ1
/-- a call that makes a list -/
def CallF (g : Gc) (f : List D → Option (List D)) (r : List V → Hp → VK → Prop) : Prop := ∀ (O : List Addr) (H : Hp) (xs : List D) (zs : List D) (vs : List V) (Q : VK), (∀ a ∈ O, ∃ o, H a = some o) → f xs = some zs → Dats g (hid H O) xs vs →
  (∀ p ws H', H p = none → Sub H H' → H' p = some (.lst ws) → Dats g (hid H' (p :: O)) zs ws → Q (.ref p) H') → r vs H Q
theorem f_callTy {x : Str} {T : String} {f : List D → Option (List D)} {r : List V → Hp → VK → Prop} (hc : CallR X (.type T) r) (hd : CallF g f r) (hg : Gl X x) (hm : X.mg x = none) (hv : bootBuiltins x = some (.type T)) (ha : PA X (e :: es) (tA g E ms))
    (hn : x ≠ "__name__") (hdb : (x == ("__debug__" : Str)) = false) (he : starEach (e :: es) X.env = (false, eval e X.env) :: starEach es X.env) (hpl : (backTo pos (starEach es X.env)).any (·.1) = false) : PE X (.Call (.Name x p) (e :: es) [] pos) (tF g E (mCallF f ms)) := by
  refine weakE (pe_callTy hc hg hm hv ha hn hdb he hpl) fun σ H Q ⟨O, env, τ, S, h⟩ => ?_
  refine goF S h fun xs τ1 vs H1 e1 p1 S1 d1 h1 => ?_
  cases ef : f xs with
  | none => rw [ef] at h1; exact h1.elim
  | some z => rw [ef] at h1; exact hd O H1 xs z vs Q S1.dom ef d1 fun p ws H' n s e r => h1 p ws H' n (.of_sub s S1.tp) e r
theorem f_callB {x : Str} {id : String} {f : List D → Option (List D)} {r : List V → Hp → VK → Prop} (hc : CallR X (.builtin id) r) (hd : CallF g f r) (hg : Gl X x) (hm : X.mg x = none) (hv : bootBuiltins x = some (.builtin id)) (ha : PA X (e :: es) (tA g E ms))
    (hn : x ≠ "__name__") (hdb : (x == ("__debug__" : Str)) = false) (he : starEach (e :: es) X.env = (false, eval e X.env) :: starEach es X.env) (hpl : (backTo pos (starEach es X.env)).any (·.1) = false) : PE X (.Call (.Name x p) (e :: es) [] pos) (tF g E (mCallF f ms)) := by
  refine weakE (pe_callB hc hg hm hv ha hn hdb he hpl) fun σ H Q ⟨O, env, τ, S, h⟩ => ?_
  refine goF S h fun xs τ1 vs H1 e1 p1 S1 d1 h1 => ?_
  cases ef : f xs with
  | none => rw [ef] at h1; exact h1.elim
  | some z => rw [ef] at h1; exact hd O H1 xs z vs Q S1.dom ef d1 fun p ws H' n s e r => h1 p ws H' n (.of_sub s S1.tp) e r
theorem cf_list : CallF g fList (rListS g.K) := by
  intro O H xs z vs Q dom e d k
  unfold fList at e
  split at e
  · cases e
    obtain ⟨v, rfl, d1⟩ := d.one
    obtain ⟨a, us, rfl, hp, r⟩ := d1.lstE
    exact ⟨a, us, rfl, .inl (.of (hid_some hp).1), fun l hl => k l us _ hl (new_sub hl) upd_same (Dats.mono (hid_new hl) _ _ r)⟩
  · cases e
    obtain ⟨v, rfl, d1⟩ := d.one
    obtain ⟨a, us, rfl, hp, r⟩ := d1.tupE
    exact ⟨a, us, rfl, .inr (hid_sub.seqT hp), fun l hl => k l us _ hl (new_sub hl) upd_same (Dats.mono (hid_new hl) _ _ r)⟩
  · cases e
def fTuple : List D → Option D
  | [.lst l] => some (.tup l)
  | [.tup l] => some (.tup l)
  | _ => none
def rTupleS (K : PySem.W.Frag) : List V → Hp → VK → Prop := fun xs H Q => ∃ p ys, xs = [.ref p] ∧ ((SqL K H p ys ∧ ∀ l, H l = none → Q (.ref l) (upd H l (.tup ys))) ∨ (SqT K H p ys ∧ Q (.ref p) H))
theorem cd_tuple : CallD g fTuple (rTupleS g.K) := by
  intro O H xs z vs Q dom e d k
  unfold fTuple at e
  split at e
  · cases e
    obtain ⟨v, rfl, d1⟩ := d.one
    obtain ⟨a, us, rfl, hp, r⟩ := d1.lstE
    exact ⟨a, us, rfl, .inl ⟨.of (hid_some hp).1, fun l hl => k _ _ (new_sub hl) (Dat.tup (.of (new_hid dom hl)) (Dats.mono (hid_mono (new_sub hl)) _ _ r))⟩⟩
  · cases e
    obtain ⟨v, rfl, d1⟩ := d.one
    obtain ⟨a, us, rfl, hp, r⟩ := d1.tupE
    exact ⟨a, us, rfl, .inr ⟨hid_sub.seqT hp, k _ H (Sub.refl H) (Dat.tup hp r)⟩⟩
  · cases e
def fAbs : List D → Option D
  | [.int i] => some (.int (if i < 0 then -i else i))
  | _ => none
def rAbs : List V → Hp → VK → Prop := fun xs H Q => ∃ i, xs = [.int i] ∧ Q (.int (if i < 0 then -i else i)) H
theorem cd_abs : CallD g fAbs rAbs := by
  intro O H xs z vs Q dom e d k
  unfold fAbs at e
  split at e
  · cases e
    obtain ⟨v, rfl, d1⟩ := d.one
    have e2 := d1.intE; subst e2
    exact ⟨_, rfl, k _ H (Sub.refl H) Dat.i⟩
  · cases e
def fInt : List D → Option D
  | [.int i] => some (.int i)
  | [.bl b] => some (.int (if b then 1 else 0))
  | _ => none
def rInt1 : List V → Hp → VK → Prop := fun xs H Q => (∃ i, xs = [.int i] ∧ Q (.int i) H) ∨ ∃ k, xs = [.bl k] ∧ Q (.int (if k then 1 else 0)) H
theorem cd_int : CallD g fInt rInt1 := by
  intro O H xs z vs Q dom e d k
  unfold fInt at e
  split at e
  · cases e
    obtain ⟨v, rfl, d1⟩ := d.one
    have e2 := d1.intE; subst e2
    exact .inl ⟨_, rfl, k _ H (Sub.refl H) Dat.i⟩
  · cases e
    obtain ⟨v, rfl, d1⟩ := d.one
    have e2 := d1.blE; subst e2
    exact .inr ⟨_, rfl, k _ H (Sub.refl H) Dat.i⟩
  · cases e
def fMax2 : List D → Option D
  | [.int i, .int j] => some (.int (if j > i then j else i))
  | _ => none
def fMin2 : List D → Option D
  | [.int i, .int j] => some (.int (if j < i then j else i))
  | _ => none
def rMax2 : List V → Hp → VK → Prop := fun xs H Q => ∃ i j, xs = [.int i, .int j] ∧ Q (.int (if j > i then j else i)) H
def rMin2 : List V → Hp → VK → Prop := fun xs H Q => ∃ i j, xs = [.int i, .int j] ∧ Q (.int (if j < i then j else i)) H
theorem cd_max2 : CallD g fMax2 rMax2 := by
  intro O H xs z vs Q dom e d k
  unfold fMax2 at e
  split at e
  · cases e
    obtain ⟨v, u, rfl, d1, d2⟩ := d.two
    have e2 := d1.intE; subst e2
    have e2 := d2.intE; subst e2
    exact ⟨_, _, rfl, k _ H (Sub.refl H) Dat.i⟩
  · cases e
theorem cd_min2 : CallD g fMin2 rMin2 := by
  intro O H xs z vs Q dom e d k
  unfold fMin2 at e
  split at e
  · cases e
    obtain ⟨v, u, rfl, d1, d2⟩ := d.two
    have e2 := d1.intE; subst e2
    have e2 := d2.intE; subst e2
    exact ⟨_, _, rfl, k _ H (Sub.refl H) Dat.i⟩
  · cases e
/-- the ints of a list of ints -/
def intsOf : List D → Option (List Int)
  | [] => some []
  | .int i :: ds => (intsOf ds).map (i :: ·)
  | _ => none
def boolsOf : List D → Option (List Bool)
  | [] => some []
  | .bl i :: ds => (boolsOf ds).map (i :: ·)
  | _ => none
theorem ints_dats {H : Hp} : ∀ {ds : List D} {ns : List Int} {vs : List V}, intsOf ds = some ns → Dats g H ds vs → vs = ns.map V.int
  | [], ns, vs, e, h => by simp only [Dats] at h; subst h; cases e; rfl
  | d :: ds, ns, vs, e, h => by
    simp only [Dats] at h
    obtain ⟨v, r, rfl, a, b⟩ := h
    cases d with
    | int i =>
      unfold intsOf at e
      cases q : intsOf ds with
      | none => rw [q] at e; cases e
      | some ms =>
        rw [q] at e; cases e
        have e1 := a.intE; subst e1
        rw [ints_dats q b]; rfl
    | _ => cases e
theorem bools_dats {H : Hp} : ∀ {ds : List D} {ns : List Bool} {vs : List V}, boolsOf ds = some ns → Dats g H ds vs → vs = ns.map V.bl
  | [], ns, vs, e, h => by simp only [Dats] at h; subst h; cases e; rfl
  | d :: ds, ns, vs, e, h => by
    simp only [Dats] at h
    obtain ⟨v, r, rfl, a, b⟩ := h
    cases d with
    | bl i =>
      unfold boolsOf at e
      cases q : boolsOf ds with
      | none => rw [q] at e; cases e
      | some ms =>
        rw [q] at e; cases e
        have e1 := a.blE; subst e1
        rw [bools_dats q b]; rfl
    | _ => cases e
def fSum : List D → Option D
  | [.lst l] => (intsOf l).map fun ns => .int ns.sum
  | _ => none
theorem cd_sum : CallD g fSum (rSum g.K) := by
  intro O H xs z vs Q dom e d k
  unfold fSum at e
  split at e
  · rename_i l
    cases q : intsOf l with
    | none => rw [q] at e; cases e
    | some ns =>
      rw [q] at e; cases e
      obtain ⟨v, rfl, d1⟩ := d.one
      obtain ⟨a, us, rfl, hp, r⟩ := d1.lstE
      have eu := ints_dats q r; subst eu
      exact ⟨a, ns, rfl, .of (hid_some hp).1, k _ H (Sub.refl H) Dat.i⟩
  · cases e
def fAny : List D → Option D
  | [.lst l] => (boolsOf l).map fun ns => .bl (ns.any id)
  | _ => none
def fAll : List D → Option D
  | [.lst l] => (boolsOf l).map fun ns => .bl (ns.all id)
  | _ => none
theorem cd_any : CallD g fAny (rAny g.K) := by
  intro O H xs z vs Q dom e d k
  unfold fAny at e
  split at e
  · rename_i l
    cases q : boolsOf l with
    | none => rw [q] at e; cases e
    | some ns =>
      rw [q] at e; cases e
      obtain ⟨v, rfl, d1⟩ := d.one
      obtain ⟨a, us, rfl, hp, r⟩ := d1.lstE
      have eu := bools_dats q r; subst eu
      exact ⟨a, ns, rfl, .of (hid_some hp).1, k _ H (Sub.refl H) Dat.b⟩
  · cases e
theorem cd_all : CallD g fAll (rAll g.K) := by
  intro O H xs z vs Q dom e d k
  unfold fAll at e
  split at e
  · rename_i l
    cases q : boolsOf l with
    | none => rw [q] at e; cases e
    | some ns =>
      rw [q] at e; cases e
      obtain ⟨v, rfl, d1⟩ := d.one
      obtain ⟨a, us, rfl, hp, r⟩ := d1.lstE
      have eu := bools_dats q r; subst eu
      exact ⟨a, ns, rfl, .of (hid_some hp).1, k _ H (Sub.refl H) Dat.b⟩
  · cases e
def maxI : Int → List Int → Int
  | m, [] => m
  | m, x :: xs => maxI (if m < x then x else m) xs
def minI : Int → List Int → Int
  | m, [] => m
  | m, x :: xs => minI (if x < m then x else m) xs
theorem maxI_ok : ∀ (xs : List Int) (m : Int), maxI m xs ∈ m :: xs ∧ ∀ y ∈ m :: xs, y ≤ maxI m xs
  | [], m => by simp [maxI]
  | x :: xs, m => by
    have h := maxI_ok xs (if m < x then x else m)
    unfold maxI
    refine ⟨?_, fun y hy => ?_⟩
    · rcases List.mem_cons.mp h.1 with e | e
      · rw [e]; split <;> simp
      · simp [e]
    · have hm := h.2 (if m < x then x else m) List.mem_cons_self
      rcases List.mem_cons.mp hy with e | hy
      · subst e; split at hm <;> split <;> first | omega | (rename_i h1 h2; first | omega | (simp_all <;> omega))
      · rcases List.mem_cons.mp hy with e | hy
        · subst e; split at hm <;> split <;> first | omega | (rename_i h1 h2; first | omega | (simp_all <;> omega))
        · exact h.2 y (List.mem_cons_of_mem _ hy)
theorem minI_ok : ∀ (xs : List Int) (m : Int), minI m xs ∈ m :: xs ∧ ∀ y ∈ m :: xs, minI m xs ≤ y
  | [], m => by simp [minI]
  | x :: xs, m => by
    have h := minI_ok xs (if x < m then x else m)
    unfold minI
    refine ⟨?_, fun y hy => ?_⟩
    · rcases List.mem_cons.mp h.1 with e | e
      · rw [e]; split <;> simp
      · simp [e]
    · have hm := h.2 (if x < m then x else m) List.mem_cons_self
      rcases List.mem_cons.mp hy with e | hy
      · subst e; split at hm <;> split <;> first | omega | (rename_i h1 h2; first | omega | (simp_all <;> omega))
      · rcases List.mem_cons.mp hy with e | hy
        · subst e; split at hm <;> split <;> first | omega | (rename_i h1 h2; first | omega | (simp_all <;> omega))
        · exact h.2 y (List.mem_cons_of_mem _ hy)
def fMax : List D → Option D
  | [.lst l] => match intsOf l with
    | some (m :: ns) => some (.int (maxI m ns))
    | _ => none
  | _ => none
def fMin : List D → Option D
  | [.lst l] => match intsOf l with
    | some (m :: ns) => some (.int (minI m ns))
    | _ => none
  | _ => none
theorem cd_max : CallD g fMax (rMax g.K) := by
  intro O H xs z vs Q dom e d k
  unfold fMax at e
  split at e
  · split at e
    · rename_i l m ns q
      cases e
      obtain ⟨v, rfl, d1⟩ := d.one
      obtain ⟨a, us, rfl, hp, r⟩ := d1.lstE
      have eu := ints_dats q r; subst eu
      refine ⟨a, _, rfl, .of (hid_some hp).1, by simp, fun m' hm hle => ?_⟩
      have h := maxI_ok ns m
      have e1 : m' = maxI m ns := Int.le_antisymm (h.2 m' hm) (hle _ h.1)
      rw [e1]
      exact k _ H (Sub.refl H) Dat.i
    · cases e
  · cases e
theorem cd_min : CallD g fMin (rMin g.K) := by
  intro O H xs z vs Q dom e d k
  unfold fMin at e
  split at e
  · split at e
    · rename_i l m ns q
      cases e
      obtain ⟨v, rfl, d1⟩ := d.one
      obtain ⟨a, us, rfl, hp, r⟩ := d1.lstE
      have eu := ints_dats q r; subst eu
      refine ⟨a, _, rfl, .of (hid_some hp).1, by simp, fun m' hm hle => ?_⟩
      have h := minI_ok ns m
      have e1 : m' = minI m ns := Int.le_antisymm (hle _ h.1) (h.2 m' hm)
      rw [e1]
      exact k _ H (Sub.refl H) Dat.i
    · cases e
  · cases e
end
end Z
end
section
set_option Elab.async false
set_option linter.all false
set_option maxRecDepth 100000
namespace Z
open PySem PySem.Spec PyProof.Rows L2

/-- the iterator J walks the data ds while all of Fz stands -/
structure ItD (g : Gc) (J : It) (Fz : Hp) (ds : List D) : Prop where
  go : ∀ (i : Nat) (H : Hp), Sub Fz H → i < ds.length → J.go i H
  stop : ∀ (i : Nat) (H : Hp), Sub Fz H → ds.length ≤ i → i ≤ ds.length → J.stop i H
  yld : ∀ (i : Nat) (H : Hp) (O : List Addr) (x : V) (H' : Hp) (d : D), Sub Fz (hid H O) → (∀ a ∈ O, ∃ o, H a = some o) → J.yld i H x H' → ds[i]? = some d → Sub H H' ∧ Dat g (hid H' O) d x

def tI (g : Gc) (E : XK) (m : M (List D)) : TI := fun σ H R => ∃ O env τ, StRep g σ H O env τ ∧ match m env τ with
  | .ok ds τ' => ∀ J H', Post g H H' τ' → ItD g J (hid H' O) ds → R J H'
  | .exc c p τ' => ∀ cls dd H', Post g H H' τ' → ExcAt g (hid H' O) c p cls dd → E cls dd H'
  | .fail => False
theorem weakI {X : Cx} {tg e : Expr} {t t' : TI} (h : PI X tg e t) (k : ∀ σ H Q, t' σ H Q → t σ H Q) : PI X tg e t' := ⟨fun pins s σ H Q I q => h.run pins s σ H Q I (k σ H Q q)⟩
section
variable {X : Cx} {g : Gc} {E : XK} {tg e : Expr} {ma : M D} {ms : M (List D)} {pos p : Pos}
def ResI (g : Gc) (E : XK) (O : List Addr) (H : Hp) (R' : It → Hp → Prop) : R (List D) → Prop
  | .ok ds τ' => ∀ J H', Post g H H' τ' → ItD g J (hid H' O) ds → R' J H'
  | .exc c p τ' => ∀ cls dd H', Post g H H' τ' → ExcAt g (hid H' O) c p cls dd → E cls dd H'
  | .fail => False
theorem tI_res {σ : L2.St} {H : Hp} {R' : It → Hp → Prop} : tI g E ms σ H R' ↔ ∃ O env τ, StRep g σ H O env τ ∧ ResI g E O H R' (ms env τ) := Iff.rfl
theorem ResI.step {O : List Addr} {H H1 : Hp} {R' : It → Hp → Prop} {τ1 : Tape} {r : R (List D)} (p : Post g H H1 τ1) (h : ResI g E O H R' r) : ResI g E O H1 R' r := by
  cases r with
  | ok x τ' => exact fun J H' r => h J H' (p.trans r)
  | exc c d τ' => exact fun cls dd H' q r => h cls dd H' (p.trans q) r
  | fail => exact h.elim
theorem goI {α β : Type} {ρ : Hp → α → β → Prop} {O : List Addr} {H : Hp} {σ : L2.St} {env : Env} {τ : Tape} {m : M α} {F : α → Tape → R (List D)} {R' : It → Hp → Prop} {Q' : β → Hp → Prop} (S : StRep g σ H O env τ)
    (h : ResI g E O H R' ((m env τ).bind F)) (k : ∀ x τ1 v H1, m env τ = .ok x τ1 → Post g H H1 τ1 → StRep g σ H1 O env τ1 → ρ (hid H1 O) x v → ResI g E O H1 R' (F x τ1) → Q' v H1) : tG g E ρ m σ H Q' := by
  refine ⟨O, env, τ, S, ?_⟩
  cases e : m env τ with
  | ok x τ1 => rw [e] at h; exact fun v H1 p r => k x τ1 v H1 e p (S.post p) r (h.step p)
  | exc c d τ1 => rw [e] at h; exact h
  | fail => rw [e] at h; exact h

/-! the iterators -/
theorem SqL.inj {K : PySem.W.Frag} {H : Hp} {a : Addr} {xs ys : List V} (h : H a = some (.lst xs)) (q : SqL K H a ys) (hk : H a ≠ none → K.lookup a = none) : ys = xs := by
  rcases q with q | ⟨o, its, n, k, _⟩
  · rcases q with q | ⟨o, q⟩
    · rw [h] at q; cases q; rfl
    · rw [h] at q; cases q
  · have := hk (by rw [h]; exact fun z => nomatch z)
    rw [this] at k; cases k
theorem itd_list {Fz : Hp} {a : Addr} {vs : List V} {ds : List D} (h : Fz a = some (.lst vs)) (r : Dats g Fz ds vs) : ItD g (Itl g.K a) Fz ds where
  go := fun i H s hi => by
    have hl := r.length
    exact ⟨vs, vs[i]'(by omega), .of (s a _ h), List.getElem?_eq_getElem _⟩
  stop := fun i H s hi _ => ⟨vs, .of (s a _ h), by rw [r.length]; exact hi⟩
  yld := fun i H O x H' d s dom y e => by
    obtain ⟨rfl, y⟩ := y
    have hH : H' a = some (.lst vs) := hid_sub a _ (s a _ h)
    obtain ⟨v, e1, r1⟩ := r.get e
    have := y vs (.of hH)
    rw [e1] at this; cases this
    exact ⟨Sub.refl H', Dat.mono s _ _ r1⟩
theorem itd_tup {Fz : Hp} {a : Addr} {vs : List V} {ds : List D} (h : SqT g.K Fz a vs) (r : Dats g Fz ds vs) : ItD g (Itt g.K a) Fz ds where
  go := fun i H s hi => by
    have hl := r.length
    exact ⟨vs, vs[i]'(by omega), s.seqT h, List.getElem?_eq_getElem _⟩
  stop := fun i H s hi _ => ⟨vs, s.seqT h, by rw [r.length]; exact hi⟩
  yld := fun i H O x H' d s dom y e => by
    obtain ⟨rfl, y⟩ := y
    have hH : SqT g.K H' a vs := (s.trans hid_sub).seqT h
    obtain ⟨v, e1, r1⟩ := r.get e
    have := y vs hH
    rw [e1] at this; cases this
    exact ⟨Sub.refl H', Dat.mono s _ _ r1⟩
/-- lo, lo + 1, .. n of them -/
def rangeD (lo : Int) : Nat → List D
  | 0 => []
  | n + 1 => .int lo :: rangeD (lo + 1) n
theorem rangeD_length : ∀ (n : Nat) (lo : Int), (rangeD lo n).length = n
  | 0, _ => rfl
  | n + 1, lo => by unfold rangeD; rw [List.length_cons, rangeD_length n]
theorem rangeD_get : ∀ (n : Nat) (lo : Int) (i : Nat), i < n → (rangeD lo n)[i]? = some (.int (lo + i))
  | 0, _, _, h => absurd h (Nat.not_lt_zero _)
  | n + 1, lo, 0, _ => by simp [rangeD]
  | n + 1, lo, i + 1, h => by
    unfold rangeD
    rw [List.getElem?_cons_succ, rangeD_get n (lo + 1) i (by omega)]
    congr 2
    omega
theorem itd_range {Fz : Hp} {lo : Int} {n : Nat} : ItD g (Itr lo n) Fz (rangeD lo n) where
  go := fun i H s hi => by rw [rangeD_length] at hi; exact hi
  stop := fun i H s hi _ => by rw [rangeD_length] at hi; exact hi
  yld := fun i H O x H' d s dom y e => by
    obtain ⟨rfl, rfl⟩ := y
    have hi : i < n := by
      have := (List.getElem?_eq_some_iff.mp e).1
      rwa [rangeD_length] at this
    rw [rangeD_get n lo i hi] at e
    cases e
    exact ⟨Sub.refl H', Dat.i⟩
/-- the data with their numbers -/
def enumD : Nat → List D → List D
  | _, [] => []
  | i, d :: ds => .tup [.int i, d] :: enumD (i + 1) ds
theorem enumD_length : ∀ (ds : List D) (i : Nat), (enumD i ds).length = ds.length
  | [], _ => rfl
  | d :: ds, i => by unfold enumD; rw [List.length_cons, List.length_cons, enumD_length ds]
theorem enumD_get : ∀ (ds : List D) (k i : Nat) (d : D), ds[i]? = some d → (enumD k ds)[i]? = some (.tup [.int ((k + i : Nat) : Int), d])
  | [], _, _, _, h => by simp at h
  | d :: ds, k, 0, x, h => by simp at h; subst h; simp [enumD]
  | d :: ds, k, i + 1, x, h => by
    unfold enumD
    rw [List.getElem?_cons_succ, enumD_get ds (k + 1) i x (by simpa using h)]
    have : k + 1 + i = k + (i + 1) := by omega
    rw [this]
theorem enumD_inv {ds : List D} {i : Nat} {d : D} (h : (enumD 0 ds)[i]? = some d) : ∃ x, ds[i]? = some x ∧ d = .tup [.int (i : Int), x] := by
  have hi := (List.getElem?_eq_some_iff.mp h).1
  rw [enumD_length] at hi
  have e := enumD_get ds 0 i _ (List.getElem?_eq_getElem hi)
  rw [e] at h
  cases h
  exact ⟨_, List.getElem?_eq_getElem hi, by simp⟩
theorem itd_enum {Fz : Hp} {a : Addr} {vs : List V} {ds : List D} (h : Fz a = some (.lst vs)) (r : Dats g Fz ds vs) : ItD g (Ite g.K a) Fz (enumD 0 ds) where
  go := fun i H s hi => by
    rw [enumD_length] at hi
    have hl := r.length
    exact ⟨vs, vs[i]'(by omega), .of (s a _ h), List.getElem?_eq_getElem _⟩
  stop := fun i H s hi _ => ⟨vs, .of (s a _ h), by rw [r.length]; rwa [enumD_length] at hi⟩
  yld := fun i H O x H' d s dom y e => by
    obtain ⟨T, u, rfl, hT, rfl, y⟩ := y
    have hH : H a = some (.lst vs) := hid_sub a _ (s a _ h)
    obtain ⟨d', e0, rfl⟩ := enumD_inv e
    obtain ⟨v, e1, r1⟩ := r.get e0
    have := y vs (.of hH)
    rw [e1] at this; cases this
    exact ⟨new_sub hT, Dat.tup (.of (new_hid dom hT)) (Dats.cons Dat.i (Dats.cons (Dat.mono (s.trans (hid_mono (new_sub hT))) _ _ r1) Dats.nil))⟩
def zipD : List D → List D → List D
  | x :: xs, y :: ys => .tup [x, y] :: zipD xs ys
  | _, _ => []
theorem zipD_length : ∀ (xs ys : List D), (zipD xs ys).length = min xs.length ys.length
  | [], ys => by simp [zipD]
  | _ :: _, [] => by simp [zipD]
  | x :: xs, y :: ys => by unfold zipD; rw [List.length_cons, zipD_length xs ys]; simp only [List.length_cons]; omega
theorem zipD_inv : ∀ {xs ys : List D} {i : Nat} {d : D}, (zipD xs ys)[i]? = some d → ∃ x y, xs[i]? = some x ∧ ys[i]? = some y ∧ d = .tup [x, y]
  | [], _, _, _, h => by simp [zipD] at h
  | _ :: _, [], _, _, h => by simp [zipD] at h
  | x :: xs, y :: ys, 0, d, h => by simp [zipD] at h; subst h; exact ⟨x, y, rfl, rfl, rfl⟩
  | x :: xs, y :: ys, i + 1, d, h => by
    unfold zipD at h
    rw [List.getElem?_cons_succ] at h
    obtain ⟨u, v, h1, h2, h3⟩ := zipD_inv h
    exact ⟨u, v, by simpa using h1, by simpa using h2, h3⟩
theorem itd_zip {Fz : Hp} {a b : Addr} {vs us : List V} {ds es : List D} (h : Fz a = some (.lst vs)) (r : Dats g Fz ds vs) (h' : Fz b = some (.lst us)) (r' : Dats g Fz es us) : ItD g (Itz g.K a b) Fz (zipD ds es) where
  go := fun i H s hi => by
    rw [zipD_length] at hi
    have hl := r.length
    have hl' := r'.length
    exact ⟨vs, us, vs[i]'(by omega), us[i]'(by omega), .of (s a _ h), .of (s b _ h'), List.getElem?_eq_getElem _, List.getElem?_eq_getElem _⟩
  stop := fun i H s hi _ => ⟨vs, us, .of (s a _ h), .of (s b _ h'), by rw [r.length, r'.length]; rw [zipD_length] at hi; omega⟩
  yld := fun i H O x H' d s dom y e => by
    obtain ⟨T, u1, u2, rfl, hT, rfl, y1, y2⟩ := y
    have hH : H a = some (.lst vs) := hid_sub a _ (s a _ h)
    have hH' : H b = some (.lst us) := hid_sub b _ (s b _ h')
    obtain ⟨d1, d2, e1, e2, rfl⟩ := zipD_inv e
    obtain ⟨v1, f1, r1⟩ := r.get e1
    obtain ⟨v2, f2, r2⟩ := r'.get e2
    have := y1 vs (.of hH)
    rw [f1] at this; cases this
    have := y2 us (.of hH')
    rw [f2] at this; cases this
    have mo := s.trans (hid_mono (O := O) (new_sub (o := HO.tup [u1, u2]) hT))
    exact ⟨new_sub hT, Dat.tup (.of (new_hid dom hT)) (Dats.cons (Dat.mono mo _ _ r1) (Dats.cons (Dat.mono mo _ _ r2) Dats.nil))⟩
theorem itd_zipT {Fz : Hp} {a b : Addr} {vs us : List V} {ds es : List D} (h : SqT g.K Fz a vs) (r : Dats g Fz ds vs) (h' : SqT g.K Fz b us) (r' : Dats g Fz es us) : ItD g (RZ.ItzT g.K a b) Fz (zipD ds es) where
  go := fun i H s hi => by
    rw [zipD_length] at hi
    have hl := r.length
    have hl' := r'.length
    exact ⟨vs, us, vs[i]'(by omega), us[i]'(by omega), s.seqT h, s.seqT h', List.getElem?_eq_getElem _, List.getElem?_eq_getElem _⟩
  stop := fun i H s hi _ => ⟨vs, us, s.seqT h, s.seqT h', by rw [r.length, r'.length]; rw [zipD_length] at hi; omega⟩
  yld := fun i H O x H' d s dom y e => by
    obtain ⟨T, u1, u2, rfl, hT, rfl, y1, y2⟩ := y
    have hH : SqT g.K H a vs := (s.trans hid_sub).seqT h
    have hH' : SqT g.K H b us := (s.trans hid_sub).seqT h'
    obtain ⟨d1, d2, e1, e2, rfl⟩ := zipD_inv e
    obtain ⟨v1, f1, r1⟩ := r.get e1
    obtain ⟨v2, f2, r2⟩ := r'.get e2
    have := y1 vs hH
    rw [f1] at this; cases this
    have := y2 us hH'
    rw [f2] at this; cases this
    have mo := s.trans (hid_mono (O := O) (new_sub (o := HO.tup [u1, u2]) hT))
    exact ⟨new_sub hT, Dat.tup (.of (new_hid dom hT)) (Dats.cons (Dat.mono mo _ _ r1) (Dats.cons (Dat.mono mo _ _ r2) Dats.nil))⟩

/-! what a for walks -/
/-- a list or a tuple -/
def mItems (a : M D) : M (List D) := fun env τ => (a env τ).bind fun x τ1 => R.of (itemsOf x) τ1
def iSeq (K : PySem.W.Frag) (tl : TE) : TI := fun σ H R' => tl σ H fun x H1 => ∃ a, x = .ref a ∧ ((∃ xs, SqL K H1 a xs) ∧ R' (Itl K a) H1 ∨ (∃ xs, SqT K H1 a xs) ∧ R' (Itt K a) H1)
theorem pi_seq {l : Expr} {tl : TE} (hl : PE X l tl) : PI X tg l (iSeq X.K tl) := by
  refine ⟨fun pins s σ H R' I h => ?_⟩
  have hl2 : PE X l fun σ2 H2 Q => σ2 = σ ∧ H2 = H ∧ (tl σ H fun x H1 => Q x H1) := ⟨fun pins s σ2 H2 Q I q => hl.run pins s σ2 H2 Q I (by obtain ⟨rfl, rfl, q⟩ := q; exact q)⟩
  refine thn (hl.run pins s σ H _ I h) fun v s1 ⟨x, H1, I1, r1, a, e1, q⟩ => ?_
  subst e1
  cases r1
  rcases q with ⟨⟨xs, hq⟩, q⟩ | ⟨⟨xs, hq⟩, q⟩
  · obtain ⟨its, rv, p, hz⟩ := I1.list hq
    refine wpAny_pyIter_list p.isList ?_
    refine ⟨s1.heap.objs.size, [s1.heap.objs.size], _, _, H1, rfl, I1.kept (t' := s1.toks) fun b o e => Heap.get?_push_of_some _ e, turn_list a _, ⟨_, Heap.get?_push_size _ rfl, rfl, rfl⟩, fun b hb => ?_, q⟩
    have e : b = s1.heap.objs.size := by simpa using hb
    rw [e]
    exact I1.fpOk (Nat.le_refl _) (I1.hok.fresh (Nat.le_refl _))
  · obtain ⟨its, rv, p, hz⟩ := I1.tuple hq
    refine wpAny_pyIter_tuple (show s1.heap.IsTuple a its.toArray from p) ?_
    refine ⟨s1.heap.objs.size, [s1.heap.objs.size], _, _, H1, rfl, I1.kept (t' := s1.toks) fun b o e => Heap.get?_push_of_some _ e, turn_tuple a _, ⟨_, Heap.get?_push_size _ rfl, rfl, rfl⟩, fun b hb => ?_, q⟩
    have e : b = s1.heap.objs.size := by simpa using hb
    rw [e]
    exact I1.fpOk (Nat.le_refl _) (I1.hok.fresh (Nat.le_refl _))
theorem i_seq (hK : X.K = g.K) (ha : PE X e (tE g E ma)) : PI X tg e (tI g E (mItems ma)) := by
  refine weakI (pi_seq ha) fun σ H R' ⟨O, env, τ, S, h⟩ => ?_
  rw [hK]
  refine goI S h fun x τ1 v H1 e1 p1 S1 d1 h1 => ?_
  cases x with
  | lst ds =>
    obtain ⟨a, vs, rfl, hp, r⟩ := d1.lstE
    exact ⟨a, rfl, .inl ⟨⟨vs, .of (hid_some hp).1⟩, h1 _ H1 S1.post0 (itd_list hp r)⟩⟩
  | tup ds =>
    obtain ⟨a, vs, rfl, hp, r⟩ := d1.tupE
    exact ⟨a, rfl, .inr ⟨⟨vs, hid_sub.seqT hp⟩, h1 _ H1 S1.post0 (itd_tup hp r)⟩⟩
  | _ => exact False.elim h1
def fRange1 : List D → Option (List D)
  | [.int j] => if -1000000 ≤ j ∧ j ≤ 1000000 then some (rangeD 0 j.toNat) else none
  | _ => none
def fRange2 : List D → Option (List D)
  | [.int i, .int j] => if -1000000 ≤ i ∧ i ≤ 1000000 ∧ -1000000 ≤ j ∧ j ≤ 1000000 then some (rangeD i (j - i).toNat) else none
  | _ => none
def mOfL (f : List D → Option (List D)) (ms : M (List D)) : M (List D) := fun env τ => (ms env τ).bind fun xs τ1 => R.of (f xs) τ1
theorem i_range1 {a : Expr} (hg : Gl X "range") (hm : X.mg "range" = none) (ha : PA X [a] (tA g E ms)) (hs : starEach [a] X.env = [(false, eval a X.env)]) : PI X tg (.Call (.Name "range" p) [a] [] pos) (tI g E (mOfL fRange1 ms)) := by
  refine weakI (pi_range1 hg hm ha hs) fun σ H R' ⟨O, env, τ, S, h⟩ => ?_
  refine goI S h fun x τ1 v H1 e1 p1 S1 d1 h1 => ?_
  unfold fRange1 at h1
  split at h1
  · rename_i j
    obtain ⟨u, rfl, d2⟩ := d1.one
    have e2 := d2.intE; subst e2
    split at h1
    · rename_i hj
      exact ⟨j, rfl, by omega, by omega, h1 _ H1 S1.post0 itd_range⟩
    · exact h1.elim
  · exact h1.elim
theorem i_range2 {a b : Expr} (hg : Gl X "range") (hm : X.mg "range" = none) (ha : PA X [a, b] (tA g E ms)) (hs : starEach [a, b] X.env = [(false, eval a X.env), (false, eval b X.env)]) (hs2 : starEach [b] X.env = [(false, eval b X.env)]) : PI X tg (.Call (.Name "range" p) [a, b] [] pos) (tI g E (mOfL fRange2 ms)) := by
  refine weakI (pi_range2 hg hm ha hs hs2) fun σ H R' ⟨O, env, τ, S, h⟩ => ?_
  refine goI S h fun x τ1 v H1 e1 p1 S1 d1 h1 => ?_
  unfold fRange2 at h1
  split at h1
  · rename_i i j
    obtain ⟨u, w, rfl, d2, d3⟩ := d1.two
    have e2 := d2.intE; subst e2
    have e2 := d3.intE; subst e2
    split at h1
    · rename_i hj
      exact ⟨i, j, rfl, ⟨by omega, by omega, by omega, by omega⟩, h1 _ H1 S1.post0 itd_range⟩
    · exact h1.elim
  · exact h1.elim
def fEnum : List D → Option (List D)
  | [.lst l] => some (enumD 0 l)
  | [.tup l] => some (enumD 0 l)
  | _ => none
def fZip : List D → Option (List D)
  | [.lst l, .lst k] => some (zipD l k)
  | [.tup l, .tup k] => some (zipD l k)
  | _ => none
theorem i_zip {a b : Expr} {elts : List Expr} {kk : Nat} {tpos : Pos} (hK : X.K = g.K) (hg : Gl X "zip") (hm : X.mg "zip" = none) (ha : PA X [a, b] (tA g E ms)) (hs : starEach [a, b] X.env = (false, eval a X.env) :: starEach [b] X.env) (hpl : (backTo pos (starEach [b] X.env)).any (·.1) = false) :
    PI X (.Tuple elts kk tpos) (.Call (.Name "zip" p) [a, b] [] pos) (tI g E (mOfL fZip ms)) := by
  refine weakI (RZ.pi_zipA hg hm ha hs hpl) fun σ H R' ⟨O, env, τ, S, h⟩ => ?_
  rw [hK]
  refine goI S h fun x τ1 v H1 e1 p1 S1 d1 h1 => ?_
  unfold fZip at h1
  split at h1
  · obtain ⟨u, w, rfl, d2, d3⟩ := d1.two
    obtain ⟨a1, vs, rfl, hp, r⟩ := d2.lstE
    obtain ⟨b1, us, rfl, hq, r'⟩ := d3.lstE
    exact ⟨a1, b1, vs, us, rfl, .inl ⟨.of (hid_some hp).1, .of (hid_some hq).1, h1 _ H1 S1.post0 (itd_zip hp r hq r')⟩⟩
  · obtain ⟨u, w, rfl, d2, d3⟩ := d1.two
    obtain ⟨a1, vs, rfl, hp, r⟩ := d2.tupE
    obtain ⟨b1, us, rfl, hq, r'⟩ := d3.tupE
    exact ⟨a1, b1, vs, us, rfl, .inr ⟨hid_sub.seqT hp, hid_sub.seqT hq, h1 _ H1 S1.post0 (itd_zipT hp r hq r')⟩⟩
  · exact h1.elim
end

/-! ### targets -/
inductive Tgt where
  | nm (i : Nat) | tp (l : List Tgt) | lp (l : List Tgt)
mutual
def bindT : Tgt → D → Env → Option Env
  | .nm i, d, env => some (env.set i (some (.val d)))
  | .tp l, .tup ds, env => if l.length = ds.length then bindTs l ds env else none
  | .tp _, _, _ => none
  | .lp l, .lst ds, env => if l.length = ds.length then bindTs l ds env else none
  | .lp _, _, _ => none
def bindTs : List Tgt → List D → Env → Option Env
  | t :: ts, d :: ds, env => (bindT t d env).bind fun env1 => bindTs ts ds env1
  | [], [], env => some env
  | _, _, _ => none
end
mutual
/-- the names of a target -/
def Tgt.ns : Tgt → List Nat
  | .nm i => [i]
  | .tp l => nsL l
  | .lp l => nsL l
def nsL : List Tgt → List Nat
  | [] => []
  | t :: ts => t.ns ++ nsL ts
end
/-- σ' is σ but at the places ns -/
def But (ns : List Nat) (σ σ' : L2.St) : Prop := σ'.length = σ.length ∧ ∀ j, j ∉ ns → σ'[j]? = σ[j]?
theorem But.refl {ns : List Nat} (σ : L2.St) : But ns σ σ := ⟨rfl, fun _ _ => rfl⟩
theorem But.trans {ns ms : List Nat} {σ σ1 σ2 : L2.St} (a : But ns σ σ1) (b : But ms σ1 σ2) : But (ns ++ ms) σ σ2 :=
  ⟨b.1.trans a.1, fun j h => (b.2 j fun z => h (List.mem_append_right _ z)).trans (a.2 j fun z => h (List.mem_append_left _ z))⟩
mutual
def gTgt (K : PySem.W.Frag) : Tgt → TG
  | .nm i => gName i
  | .tp l => gTup K l.length (gTgts K l)
  | .lp l => gLst K l.length (gTgts K l)
def gTgts (K : PySem.W.Frag) : List Tgt → TGs
  | [] => gNil
  | t :: ts => gCons (gTgt K t) (gTgts K ts)
end
section
variable {g : Gc} {E : XK} {σ : L2.St} {H : Hp} {O : List Addr} {env : Env} {τ : Tape}
theorem StRep.set {i : Nat} {d : D} {v : V} (S : StRep g σ H O env τ) (h : Dat g (hid H O) d v) : StRep g (σ.set i (some v)) H O (env.set i (some (.val d))) τ := by
  refine ⟨S.tp, S.tO, S.t0, by simp [S.len], S.dom2, fun j e ej => ?_, fun j e ej => ?_, fun j k d1 d2 a h1 h2 h3 h4 => ?_⟩
  · by_cases hj : i = j
    · subst hj
      by_cases hi : i < env.length
      · rw [List.getElem?_set_self hi] at ej
        cases ej
        exact ⟨v, by rw [List.getElem?_set_self (by rw [← S.len]; exact hi)], h⟩
      · rw [List.getElem?_eq_none (by simpa using hi)] at ej; cases ej
    · rw [List.getElem?_set_ne hj] at ej ⊢
      exact S.val j e ej
  · by_cases hj : i = j
    · subst hj
      by_cases hi : i < env.length
      · rw [List.getElem?_set_self hi] at ej; cases ej
      · rw [List.getElem?_eq_none (by simpa using hi)] at ej; cases ej
    · rw [List.getElem?_set_ne hj] at ej ⊢
      exact S.own j e ej
  · have n1 : i ≠ j := fun z => by
      subst z
      by_cases hi : i < env.length
      · rw [List.getElem?_set_self hi] at h1; cases h1
      · rw [List.getElem?_eq_none (by simpa using hi)] at h1; cases h1
    have n2 : i ≠ k := fun z => by
      subst z
      by_cases hi : i < env.length
      · rw [List.getElem?_set_self hi] at h2; cases h2
      · rw [List.getElem?_eq_none (by simpa using hi)] at h2; cases h2
    rw [List.getElem?_set_ne n1] at h1 h3
    rw [List.getElem?_set_ne n2] at h2 h4
    exact S.inj j k d1 d2 a h1 h2 h3 h4
mutual
theorem bind_ok : ∀ (t : Tgt) (d : D) (σ : L2.St) (env env' : Env) (v : V) (Q : L2.St → Hp → Prop), StRep g σ H O env τ → Dat g (hid H O) d v → bindT t d env = some env' → (∀ σ', StRep g σ' H O env' τ → But t.ns σ σ' → Q σ' H) → gTgt g.K t v σ H Q
  | .nm i, d, σ, env, env', v, Q, S, h, e, k => by
    simp only [bindT] at e
    cases e
    simp only [gTgt]
    refine k _ (S.set h) ⟨by simp, fun j hj => ?_⟩
    have hj' : i ≠ j := fun z => hj (by simp [Tgt.ns, z])
    rw [List.getElem?_set_ne hj']
  | .tp l, d, σ, env, env', v, Q, S, h, e, k => by
    cases d with
    | tup ds =>
      simp only [bindT] at e
      split at e
      · rename_i hl
        obtain ⟨a, vs, rfl, hs, r⟩ := h.tupE
        simp only [gTgt]
        exact ⟨a, vs, rfl, hid_sub.seqT hs, by rw [r.length, hl], binds_ok l ds σ env env' vs Q S r e fun σ' S' b => k σ' S' (by simpa [Tgt.ns] using b)⟩
      · cases e
    | _ => simp [bindT] at e
  | .lp l, d, σ, env, env', v, Q, S, h, e, k => by
    cases d with
    | lst ds =>
      simp only [bindT] at e
      split at e
      · rename_i hl
        obtain ⟨a, vs, rfl, hs, r⟩ := h.lstE
        simp only [gTgt]
        exact ⟨a, vs, rfl, .of (hid_some hs).1, by rw [r.length, hl], binds_ok l ds σ env env' vs Q S r e fun σ' S' b => k σ' S' (by simpa [Tgt.ns] using b)⟩
      · cases e
    | _ => simp [bindT] at e
theorem binds_ok : ∀ (l : List Tgt) (ds : List D) (σ : L2.St) (env env' : Env) (vs : List V) (Q : L2.St → Hp → Prop), StRep g σ H O env τ → Dats g (hid H O) ds vs → bindTs l ds env = some env' → (∀ σ', StRep g σ' H O env' τ → But (nsL l) σ σ' → Q σ' H) → gTgts g.K l vs σ H Q
  | [], [], σ, env, env', vs, Q, S, h, e, k => by
    simp only [bindTs] at e
    cases e
    simp only [Dats] at h
    subst h
    simp only [gTgts]
    exact ⟨rfl, k σ S (But.refl σ)⟩
  | t :: ts, d :: ds, σ, env, env', vs, Q, S, h, e, k => by
    simp only [bindTs] at e
    cases e1 : bindT t d env with
    | none => rw [e1] at e; cases e
    | some env1 =>
      rw [e1] at e
      simp only [Dats] at h
      obtain ⟨v, r, rfl, a, b⟩ := h
      simp only [gTgts]
      exact ⟨v, r, rfl, bind_ok t d σ env env1 v _ S a e1 fun σ' S' b1 => binds_ok ts ds σ' env1 env' r Q S' b e fun σ2 S2 b2 => k σ2 S2 (by simpa [nsL] using b1.trans b2)⟩
  | [], _ :: _, _, _, _, _, _, _, _, e, _ => by simp [bindTs] at e
  | _ :: _, [], _, _, _, _, _, _, _, e, _ => by simp [bindTs] at e
end
mutual
/-- own names are no target's -/
theorem bindT_own : ∀ (t : Tgt) (d : D) (env env' : Env) (j : Nat) (e : D), bindT t d env = some env' → env'[j]? = some (some (.own e)) → env[j]? = some (some (.own e)) ∧ j ∉ t.ns
  | .nm i, d, env, env', j, e, h, q => by
    simp only [bindT] at h
    cases h
    by_cases hj : i = j
    · subst hj
      by_cases hi : i < env.length
      · rw [List.getElem?_set_self hi] at q; cases q
      · rw [List.getElem?_eq_none (by simpa using hi)] at q; cases q
    · rw [List.getElem?_set_ne hj] at q
      exact ⟨q, by simp [Tgt.ns]; exact fun z => hj z.symm⟩
  | .tp l, d, env, env', j, e, h, q => by
    cases d with
    | tup ds =>
      simp only [bindT] at h
      split at h
      · obtain ⟨a, b⟩ := bindTs_own l ds env env' j e h q
        exact ⟨a, by simpa [Tgt.ns] using b⟩
      · cases h
    | _ => simp [bindT] at h
  | .lp l, d, env, env', j, e, h, q => by
    cases d with
    | lst ds =>
      simp only [bindT] at h
      split at h
      · obtain ⟨a, b⟩ := bindTs_own l ds env env' j e h q
        exact ⟨a, by simpa [Tgt.ns] using b⟩
      · cases h
    | _ => simp [bindT] at h
theorem bindTs_own : ∀ (l : List Tgt) (ds : List D) (env env' : Env) (j : Nat) (e : D), bindTs l ds env = some env' → env'[j]? = some (some (.own e)) → env[j]? = some (some (.own e)) ∧ j ∉ nsL l
  | [], [], env, env', j, e, h, q => by
    simp only [bindTs] at h
    cases h
    exact ⟨q, by simp [nsL]⟩
  | t :: ts, d :: ds, env, env', j, e, h, q => by
    simp only [bindTs] at h
    cases e1 : bindT t d env with
    | none => rw [e1] at h; cases h
    | some env1 =>
      rw [e1] at h
      obtain ⟨a, b⟩ := bindTs_own ts ds env1 env' j e h q
      obtain ⟨a2, b2⟩ := bindT_own t d env env1 j e e1 a
      exact ⟨a2, by simp [nsL]; exact ⟨b2, b⟩⟩
  | [], _ :: _, _, _, _, _, h, _ => by simp [bindTs] at h
  | _ :: _, [], _, _, _, _, h, _ => by simp [bindTs] at h
end
end
end Z
end
section
set_option Elab.async false
set_option linter.all false
set_option maxRecDepth 100000
namespace Z
open PySem PySem.Spec PyProof.Rows L2

def wipeE (env : Env) : List Nat → Env
  | [] => env
  | v :: vs => (wipeE env vs).set v none
theorem wipeE_length (env : Env) : ∀ vs : List Nat, (wipeE env vs).length = env.length
  | [] => rfl
  | v :: vs => by unfold wipeE; rw [List.length_set, wipeE_length env vs]
theorem wipeE_some {env : Env} {i : Nat} {x : Slot} : ∀ {vs : List Nat}, (wipeE env vs)[i]? = some (some x) → env[i]? = some (some x) ∧ i ∉ vs
  | [], h => ⟨h, by simp⟩
  | v :: vs, h => by
    unfold wipeE at h
    by_cases hi : v = i
    · subst hi
      by_cases hv : v < (wipeE env vs).length
      · rw [List.getElem?_set_self hv] at h; cases h
      · rw [List.getElem?_eq_none (by simpa using hv)] at h; cases h
    · rw [List.getElem?_set_ne hi] at h
      obtain ⟨h1, h2⟩ := wipeE_some h
      exact ⟨h1, by simp only [List.mem_cons, not_or]; exact ⟨fun e => hi e.symm, h2⟩⟩
theorem wipe_in {σ : L2.St} {i : Nat} : ∀ {vs : List Nat}, i ∈ vs → i < σ.length → (wipe σ vs)[i]? = some none
  | [], h, _ => nomatch h
  | v :: vs, h, hi => by
    unfold wipe
    by_cases e : v = i
    · subst e
      rw [List.getElem?_set_self (by rw [wipe_length]; exact hi)]
    · rw [List.getElem?_set_ne e]
      exact wipe_in (by rcases List.mem_cons.mp h with z | z; exact absurd z.symm e; exact z) hi
theorem wipe_ext {σ σ' : L2.St} {ns vs : List Nat} (b : But ns σ σ') (h : ∀ i ∈ ns, i ∈ vs) : wipe σ' vs = wipe σ vs := by
  refine List.ext_getElem? fun i => ?_
  by_cases hv : i ∈ vs
  · by_cases hi : i < σ.length
    · rw [wipe_in hv hi, wipe_in hv (by rw [b.1]; exact hi)]
    · rw [List.getElem?_eq_none (by rw [wipe_length, b.1]; omega), List.getElem?_eq_none (by rw [wipe_length]; omega)]
  · rw [wipe_out hv, wipe_out hv]
    exact b.2 i fun z => hv (h i z)
theorem wipe_wipe (σ : L2.St) (vs : List Nat) : wipe (wipe σ vs) vs = wipe σ vs := by
  refine List.ext_getElem? fun i => ?_
  by_cases hv : i ∈ vs
  · by_cases hi : i < σ.length
    · rw [wipe_in hv hi, wipe_in hv (by rw [wipe_length]; exact hi)]
    · rw [List.getElem?_eq_none (by rw [wipe_length, wipe_length]; omega), List.getElem?_eq_none (by rw [wipe_length]; omega)]
  · rw [wipe_out hv]
theorem StRep.wiped {g : Gc} {σ : L2.St} {H : Hp} {O : List Addr} {env : Env} {τ : Tape} (S : StRep g σ H O env τ) (vs : List Nat) : StRep g (wipe σ vs) H O (wipeE env vs) τ := by
  refine ⟨S.tp, S.tO, S.t0, by rw [wipe_length, wipeE_length, S.len], S.dom2, fun i d e => ?_, fun i d e => ?_, fun i j d1 d2 a h1 h2 h3 h4 => ?_⟩
  · obtain ⟨e1, n⟩ := wipeE_some e
    rw [wipe_out n]
    exact S.val i d e1
  · obtain ⟨e1, n⟩ := wipeE_some e
    rw [wipe_out n]
    exact S.own i d e1
  · obtain ⟨e1, n1⟩ := wipeE_some h1
    obtain ⟨e2, n2⟩ := wipeE_some h2
    rw [wipe_out n1] at h3
    rw [wipe_out n2] at h4
    exact S.inj i j d1 d2 a e1 e2 h3 h4
/-- an own object is added to those that are hidden -/
theorem StRep.add {g : Gc} {σ : L2.St} {H : Hp} {O : List Addr} {env : Env} {τ : Tape} {p : Addr} {o : HO} (S : StRep g σ H O env τ) (no : NTup o) (n : H p = none) : StRep g σ (upd H p o) (p :: O) env τ := by
  have nT : ∀ a u, H a = some u → a ≠ p := fun a u e => ne_of_none e n
  have sb : Sub (hid H O) (hid (upd H p o) (p :: O)) := hid_new n
  refine ⟨⟨?_, ?_, ?_⟩, ⟨List.mem_cons_of_mem _ S.tO.1, List.mem_cons_of_mem _ S.tO.2.1, fun z => (List.mem_cons.mp z).elim (nT _ _ S.tp.2.2) S.tO.2.2⟩, ⟨S.t0.1, fun a ha => List.mem_cons_of_mem _ (S.t0.2 a ha)⟩, S.len, fun a ha => ?_, fun i d e => ?_, fun i d e => ?_, S.inj⟩
  · rw [upd_ne (nT _ _ S.tp.1)]; exact S.tp.1
  · rw [upd_ne (nT _ _ S.tp.2.1)]; exact S.tp.2.1
  · rw [upd_ne (nT _ _ S.tp.2.2)]; exact S.tp.2.2
  · rcases List.mem_cons.mp ha with rfl | ha
    · exact ⟨o, upd_same, no⟩
    · obtain ⟨u, e, z⟩ := S.dom2 a ha
      exact ⟨u, by rw [upd_ne (nT _ _ e)]; exact e, z⟩
  · obtain ⟨v, h, r⟩ := S.val i d e
    exact ⟨v, h, Dat.mono sb _ _ r⟩
  · obtain ⟨a, h, m, n1, n2, n3, r⟩ := S.own i d e
    exact ⟨a, h, List.mem_cons_of_mem _ m, n1, n2, n3, r.move (fun o _ e1 => by rw [upd_ne (nT _ _ e1)]; exact e1) sb⟩

abbrev E0x : XK := fun _ _ _ => False
/-- nothing may be raised there -/
def R.nx {α : Type} : R α → R α
  | .ok a τ => .ok a τ
  | _ => .fail
def lcGo (t : Tgt) (mt : M Bool) (me : M D) (env : Env) : List D → Tape → R (List D)
  | [], τ => .ok [] τ
  | d :: ds, τ => match bindT t d env with
    | none => .fail
    | some env1 => (mt env1 τ).nx.bind fun b τ1 => if b then (me env1 τ1).nx.bind fun y τ2 => (lcGo t mt me env ds τ2).bind fun ys τ3 => .ok (y :: ys) τ3 else lcGo t mt me env ds τ1
def mLc (vs : List Nat) (mi : M (List D)) (t : Tgt) (mt : M Bool) (me : M D) : M (List D) := fun env τ => (mi env τ).bind fun ds τ1 => if ds.length ≤ line then lcGo t mt me (wipeE env vs) ds τ1 else .fail
theorem R.bind_assoc {α β γ : Type} (r : R α) (f : α → Tape → R β) (k : β → Tape → R γ) : (r.bind f).bind k = r.bind fun a τ => (f a τ).bind k := by
  cases r <;> rfl
section
variable {X : Cx} {g : Gc} {E : XK} {mi : M (List D)} {t : Tgt} {mt : M Bool} {me : M D} {pos : Pos}
/-- the state in a comprehension's loop -/
structure LcW (g : Gc) (σ : L2.St) (O : List Addr) (env : Env) (H1 : Hp) (Dl : Addr) (i : Nat) (H : Hp) (accV : List V) (accD : List D) (τ : Tape) : Prop where
  st : StRep g σ H (Dl :: O) env τ
  at_ : H Dl = some (.lst accV)
  dat : Dats g (hid H (Dl :: O)) accD accV
  len : accD.length ≤ i
  keep : ∀ a o, a ≠ g.T → a ≠ g.L → H1 a = some o → H a = some o
  apart : ∀ (j : Nat) (d : D) (a : Addr), env[j]? = some (some (.own d)) → σ[j]? = some (some (.ref a)) → a ≠ Dl
theorem LcW.step {σ : L2.St} {O : List Addr} {env : Env} {H1 H H' : Hp} {Dl : Addr} {i : Nat} {accV : List V} {accD : List D} {τ τ' : Tape} (w : LcW g σ O env H1 Dl i H accV accD τ) (n : Dl ≠ g.T ∧ Dl ≠ g.L) (p : Post g H H' τ') : LcW g σ O env H1 Dl i H' accV accD τ' :=
  ⟨w.st.post p, p.keep _ _ n.1 n.2 w.at_, Dats.mono (p.sub w.st.tO.1 w.st.tO.2.1) _ _ w.dat, w.len, fun a o n1 n2 h => p.keep a o n1 n2 (w.keep a o n1 n2 h), w.apart⟩
theorem LcW.app {σ : L2.St} {O : List Addr} {env : Env} {H1 H : Hp} {Dl : Addr} {i : Nat} {accV : List V} {accD : List D} {τ : Tape} {y : D} {v : V} (w : LcW g σ O env H1 Dl i H accV accD τ) (n : Dl ≠ g.T ∧ Dl ≠ g.L ∧ Dl ≠ g.C) (nO : Dl ∉ O) (nH : H1 Dl = none) (h : Dat g (hid H (Dl :: O)) y v) :
    LcW g σ O env H1 Dl (i + 1) (upd H Dl (.lst (accV ++ [v]))) (accV ++ [v]) (accD ++ [y]) τ := by
  have sb : Sub (hid H (Dl :: O)) (hid (upd H Dl (.lst (accV ++ [v]))) (Dl :: O)) := fun a o e => by
    obtain ⟨e1, m⟩ := hid_some e
    have ne : a ≠ Dl := fun z => m (by rw [z]; exact List.mem_cons_self)
    exact hid_of (by rw [upd_ne ne]; exact e1) m
  have S := w.st
  refine ⟨⟨⟨?_, ?_, ?_⟩, S.tO, S.t0, S.len, fun a ha => ?_, fun i d e => ?_, fun i d e => ?_, S.inj⟩, upd_same, (Dats.mono sb _ _ w.dat).append (Dats.cons (Dat.mono sb _ _ h) Dats.nil), ?_, fun a o n1 n2 e => ?_, w.apart⟩
  · rw [upd_ne (Ne.symm n.1)]; exact S.tp.1
  · rw [upd_ne (Ne.symm n.2.1)]; exact S.tp.2.1
  · rw [upd_ne (Ne.symm n.2.2)]; exact S.tp.2.2
  · by_cases e : a = Dl
    · rw [e]; exact ⟨_, upd_same, fun _ z => nomatch z⟩
    · obtain ⟨u, q, z⟩ := S.dom2 a ha
      exact ⟨u, by rw [upd_ne e]; exact q, z⟩
  · obtain ⟨u, q, r⟩ := S.val i d e
    exact ⟨u, q, Dat.mono sb _ _ r⟩
  · obtain ⟨a, q, m, n1, n2, n3, r⟩ := S.own i d e
    exact ⟨a, q, m, n1, n2, n3, r.move (fun o _ e1 => by rw [upd_ne (w.apart i _ a e q)]; exact e1) sb⟩
  · rw [List.length_append]; exact Nat.succ_le_succ w.len
  · rw [upd_ne (ne_of_none e nH)]; exact w.keep a o n1 n2 e
theorem drop_some {ds : List D} {i : Nat} (h : i < ds.length) : ds.drop i = ds[i] :: ds.drop (i + 1) := by
  rw [List.drop_eq_getElem_cons h]
theorem lc_red {σ : L2.St} {H : Hp} {Q : VK} {vs : List Nat} (hns : ∀ i ∈ t.ns, i ∈ vs) (h0 : tF g E (mLc vs mi t mt me) σ H Q) : tLc (tI g E mi) (gTgt g.K t) (tT g E0x mt) (tE g E0x me) vs σ H Q := by
  obtain ⟨O, env, τ, S, h⟩ := h0
  refine ⟨O, env, τ, S, ?_⟩
  unfold mLc at h
  cases ei : mi env τ with
  | exc c d τ1 => rw [ei] at h; exact h
  | fail => rw [ei] at h; exact h
  | ok ds τ1 =>
    rw [ei] at h
    replace h : ResF g E O H Q (if ds.length ≤ line then lcGo t mt me (wipeE env vs) ds τ1 else .fail) := h
    intro J H1 p1 hJ Dl nD
    by_cases hl : ds.length ≤ line
    · rw [if_pos hl] at h
      have S1 := S.post p1
      have h1 := h.step p1 S.dom S.tO.1 S.tO.2.1
      have nO : Dl ∉ O := not_in_of_none S1.dom nD
      have nTL : Dl ≠ g.T ∧ Dl ≠ g.L ∧ Dl ≠ g.C := ⟨fun z => nO (z ▸ S.tO.1), fun z => nO (z ▸ S.tO.2.1), fun z => by have q := S1.tp.2.2; rw [← z, nD] at q; cases q⟩
      have w0 : LcW g (wipe σ vs) O (wipeE env vs) H1 Dl 0 (upd H1 Dl (.lst [])) [] [] τ1 := by
        refine ⟨(S1.wiped vs).add (fun _ z => nomatch z) nD, upd_same, Dats.nil, Nat.le_refl _, fun a o _ _ e => by rw [upd_ne (ne_of_none e nD)]; exact e, fun j d a e1 e2 z => ?_⟩
        obtain ⟨a', e3, m, _⟩ := (S1.wiped vs).own j d e1
        rw [e2] at e3; cases e3
        exact nO (z ▸ m)
      refine ⟨fun i m H' => m = ds.length - i ∧ i ≤ ds.length ∧ ∃ accV accD τi, LcW g (wipe σ vs) O (wipeE env vs) H1 Dl i H' accV accD τi ∧ ResF g E O H1 Q ((lcGo t mt me (wipeE env vs) (ds.drop i) τi).bind fun ys τ2 => .ok (accD ++ ys) τ2), ⟨ds.length, by simp, Nat.zero_le _, [], [], τ1, w0, ?_⟩, ?_⟩
      · rw [List.drop_zero]
        revert h1
        cases lcGo t mt me (wipeE env vs) ds τ1 <;> exact fun h1 => h1
      rintro i m H' ⟨rfl, hi, accV, accD, τi, w, hr⟩
      have fz : ∀ {H2 : Hp}, (∀ a o, a ≠ g.T → a ≠ g.L → H1 a = some o → H2 a = some o) → Sub (hid H1 O) (hid H2 (Dl :: O)) := fun k a o e => by
        obtain ⟨e1, n⟩ := hid_some e
        refine hid_of (k a o (fun z => n (z ▸ S.tO.1)) (fun z => n (z ▸ S.tO.2.1)) e1) fun z => ?_
        rcases List.mem_cons.mp z with z | z
        · rw [z] at e1; rw [nD] at e1; cases e1
        · exact n z
      have sb := fz w.keep
      by_cases hlt : i < ds.length
      · refine .inr ⟨hJ.go i H' (sb.trans hid_sub) hlt, ?_⟩
        rw [drop_some hlt] at hr
        unfold lcGo at hr
        cases eb : bindT t ds[i] (wipeE env vs) with
        | none => rw [eb] at hr; exact hr.elim
        | some env1 =>
          rw [eb] at hr
          dsimp only at hr
          refine ⟨fun H3 => i + 1 ≤ ds.length ∧ ∃ accV accD τi, LcW g (wipe σ vs) O (wipeE env vs) H1 Dl (i + 1) H3 accV accD τi ∧ ResF g E O H1 Q ((lcGo t mt me (wipeE env vs) (ds.drop (i + 1)) τi).bind fun ys τ2 => .ok (accD ++ ys) τ2), fun H3 ⟨q1, q2⟩ => ⟨ds.length - (i + 1), by omega, rfl, q1, q2⟩, fun x H2 y => ?_⟩
          obtain ⟨s2, dx⟩ := hJ.yld i H' (Dl :: O) x H2 ds[i] sb w.st.dom y (List.getElem?_eq_getElem hlt)
          have w2 := w.step ⟨nTL.1, nTL.2.1⟩ (.of_sub s2 w.st.tp)
          refine bind_ok t ds[i] _ _ env1 x _ w2.st dx eb fun σ2 S2 b2 => ⟨?_, ?_⟩
          · rw [wipe_ext b2 hns, wipe_wipe]
          · refine ⟨Dl :: O, env1, τi, S2, ?_⟩
            cases et : mt env1 τi with
            | exc c d τ2 => rw [et] at hr; exact hr.elim
            | fail => rw [et] at hr; exact hr.elim
            | ok b τ2 =>
              rw [et] at hr
              rintro v H3 p3 rfl
              have w3 := w2.step ⟨nTL.1, nTL.2.1⟩ p3
              have S3 := S2.post p3
              cases b with
              | false =>
                rw [if_neg Bool.false_ne_true]
                refine ⟨by omega, accV, accD, τ2, ⟨w3.st, w3.at_, w3.dat, Nat.le_succ_of_le w3.len, w3.keep, w3.apart⟩, hr⟩
              | true =>
                rw [if_pos rfl]
                refine ⟨Dl :: O, env1, τ2, S3, ?_⟩
                replace hr : ResF g E O H1 Q ((((me env1 τ2).nx.bind fun y τ2 => (lcGo t mt me (wipeE env vs) (ds.drop (i + 1)) τ2).bind fun ys τ3 => .ok (y :: ys) τ3)).bind fun ys τ2 => .ok (accD ++ ys) τ2) := hr
                cases ee : me env1 τ2 with
                | exc c d τ3 => rw [ee] at hr; exact hr.elim
                | fail => rw [ee] at hr; exact hr.elim
                | ok y τ3 =>
                  rw [ee] at hr
                  intro v H4 p4 dy
                  have w4 := w3.step ⟨nTL.1, nTL.2.1⟩ p4
                  refine ⟨accV, w4.at_, ?_, by omega, _, _, τ3, w4.app nTL nO nD dy, ?_⟩
                  · have l1 := w4.dat.length
                    have l2 := w4.len
                    exact line_lt (by omega)
                  · replace hr : ResF g E O H1 Q (((lcGo t mt me (wipeE env vs) (ds.drop (i + 1)) τ3).bind fun ys τ3 => .ok (y :: ys) τ3).bind fun ys τ2 => .ok (accD ++ ys) τ2) := hr
                    rw [R.bind_assoc] at hr
                    cases hq : lcGo t mt me (wipeE env vs) (ds.drop (i + 1)) τ3 with
                    | ok ys τ4 =>
                      rw [hq] at hr
                      show ResF g E O H1 Q (.ok ((accD ++ [y]) ++ ys) τ4)
                      rw [List.append_assoc]
                      exact hr
                    | exc c d τ4 => rw [hq] at hr; exact hr
                    | fail => rw [hq] at hr; exact hr
      · refine .inl ⟨hJ.stop i H' (sb.trans hid_sub) (by omega) hi, ?_⟩
        rw [List.drop_eq_nil_of_le (by omega)] at hr
        replace hr : ResF g E O H1 Q (.ok (accD ++ []) τi) := hr
        rw [List.append_nil] at hr
        exact hr Dl accV H' nD ⟨w.keep, w.st.tp⟩ w.at_ w.dat
    · rw [if_neg hl] at h; exact h.elim

theorem f_lc {elt tg iter : Expr} {ifs : List Expr} {scope : Scope} {own : List (Str × Nat)} {pos : Pos} (hK : X.K = g.K) (hc : X.calm = true) (hN : X.N.Nodup) (hi : PI X tg iter (tI g E mi)) (ok : BlkOk X.N X.env.scope scope own)
    (hg : ∀ (s : Shared) (H : Hp) (C : Addr) (cl : List (Str × Addr)) (fp : List Addr), PG (X.blk s H scope (compEnvC scope cl C X.env) fp) tg (gTgt g.K t))
    (ht : ∀ (s : Shared) (H : Hp) (C : Addr) (cl : List (Str × Addr)) (fp : List Addr), PTs (X.blk s H scope (compEnvC scope cl C X.env) fp) ifs (tT g E0x mt))
    (he : ∀ (s : Shared) (H : Hp) (C : Addr) (cl : List (Str × Addr)) (fp : List Addr), PE (X.blk s H scope (compEnvC scope cl C X.env) fp) elt (tE g E0x me))
    (hf : ∀ x, foldedSetIterable iter X.env x = pure x) (hns : ∀ i ∈ t.ns, i ∈ own.map (·.2)) :
    PE X (.ListComp elt [⟨tg, iter, ifs, 0⟩] scope pos) (tF g E (mLc (own.map (·.2)) mi t mt me)) :=
  weakE (pe_lc hc hN hi ok hg ht he hf) fun σ H Q h => lc_red hns h
theorem ts_nil : PTs X [] (tT g E (mRet true)) := ⟨fun pins s σ H Q I ⟨O, env, τ, S, h⟩ => pts_nil.run pins s σ H Q I (h true H S.post0 rfl)⟩
theorem ts_one {c : Expr} (h : PT X c (tT g E mt)) : PTs X [c] (tT g E mt) := pts_one h
/-! targets -/
theorem g_nm {i : Nat} {x : Str} (hN : X.N.Nodup) (hi : X.N[i]? = some x) (hx : Loc X.env.scope x) (hf : X.fn x = true ∨ X.env.scope.names.lookup x = some .local) : PG X (.Name x pos) (gTgt g.K (.nm i)) := by
  simp only [gTgt]
  exact pg_name hN hi hx hf
theorem gs_nil : PGs X [] (gTgts g.K []) := by simp only [gTgts]; exact pgs_nil
theorem gs_cons {e : Expr} {es : List Expr} {t : Tgt} {ts : List Tgt} (h1 : PG X e (gTgt g.K t)) (h2 : PGs X es (gTgts g.K ts)) (hs : (assignEach (e :: es) X.env).map (·.2) = assign e X.env :: (assignEach es X.env).map (·.2)) : PGs X (e :: es) (gTgts g.K (t :: ts)) := by
  simp only [gTgts]
  exact pgs_cons h1 h2 hs
theorem g_tup {es : List Expr} {k : Nat} {ts : List Tgt} (hK : X.K = g.K) (hc : X.calm = true) (h : PGs X es (gTgts g.K ts)) (hn : (assignEach es X.env).length = ts.length) (hst : (assignEach es X.env).findIdx? (·.1) = none) : PG X (.Tuple es k pos) (gTgt g.K (.tp ts)) := by
  simp only [gTgt]
  rw [← hK] at h ⊢
  exact pg_tup hc h hn hst
end
end Z
end
section
set_option Elab.async false
set_option linter.all false
set_option maxRecDepth 100000
namespace Z
open PySem PySem.Spec PyProof.Rows L2

inductive Out where
  | nx (env : Env) | ret (d : D) | bk (env : Env) | ct (env : Env)
abbrev SM := Env → Tape → R Out
def tapeO (g : Gc) : List Addr := g.O0

/-- the def's entry heap stands, but the tape; what is own is new -/
structure BaseOk (g : Gc) (Hb H : Hp) (O : List Addr) : Prop where
  keep : ∀ a o, a ≠ g.T → a ≠ g.L → Hb a = some o → H a = some o
  new : ∀ a ∈ O, a ∈ g.O0 ∨ Hb a = none

def ResS (g : Gc) (E : XK) (Hb : Hp) (O : List Addr) (H : Hp) (Dn : Ends) : R Out → Prop
  | .ok (.nx e) τ' => ∀ σ' H' O', Sub (hid H O) (hid H' O') → BaseOk g Hb H' O' → StRep g σ' H' O' e τ' → Dn.nx σ' H'
  | .ok (.bk e) τ' => ∀ σ' H' O', Sub (hid H O) (hid H' O') → BaseOk g Hb H' O' → StRep g σ' H' O' e τ' → Dn.bk σ' H'
  | .ok (.ct e) τ' => ∀ σ' H' O', Sub (hid H O) (hid H' O') → BaseOk g Hb H' O' → StRep g σ' H' O' e τ' → Dn.ct σ' H'
  | .ok (.ret d) τ' => ∀ v H', Post g Hb H' τ' → Dat g (hid H' (tapeO g)) d v → Dn.rt v H'
  | .exc c p τ' => ∀ cls dd H', Post g Hb H' τ' → ExcAt g (hid H' (tapeO g)) c p cls dd → E cls dd H'
  | .fail => False
def tS (g : Gc) (E : XK) (Hb : Hp) (m : SM) : TS := fun Dn σ H => ∃ O env τ, StRep g σ H O env τ ∧ BaseOk g Hb H O ∧ ResS g E Hb O H Dn (m env τ)
section
variable {g : Gc} {E : XK} {Hb H H1 H' : Hp} {O O1 O' : List Addr} {σ : L2.St} {env : Env} {τ τ1 : Tape} {Dn : Ends}
theorem BaseOk.post (b : BaseOk g Hb H O) (p : Post g H H' τ1) : BaseOk g Hb H' O := ⟨fun a o n1 n2 h => p.keep a o n1 n2 (b.keep a o n1 n2 h), b.new⟩
theorem BaseOk.to (b : BaseOk g Hb H O) (p : Post g H H' τ1) : Post g Hb H' τ1 := ⟨fun a o n1 n2 h => p.keep a o n1 n2 (b.keep a o n1 n2 h), p.tp⟩
theorem tape_sub (S : StRep g σ H O env τ) : Sub (hid H O) (hid H (tapeO g)) := fun a o h => by
  obtain ⟨e, n⟩ := hid_some h
  exact hid_of e fun z => n (S.t0.2 a z)
theorem ExcAt.mono {c : Nat} {p : Option D} {cls : Value} {dd : Option Addr} (s : Sub H H') (h : ExcAt g H c p cls dd) : ExcAt g H' c p cls dd := by
  obtain ⟨e, q⟩ := h
  refine ⟨e, ?_⟩
  cases p with
  | none => exact q
  | some d =>
    obtain ⟨a, v, f, e1, e2, e3, e4⟩ := q
    exact ⟨a, v, f, e1, s _ _ e2, e3, Dat.mono s _ _ e4⟩
theorem ResS.step {r : R Out} (s : Sub (hid H O) (hid H1 O1)) (h : ResS g E Hb O H Dn r) : ResS g E Hb O1 H1 Dn r := by
  cases r with
  | ok o τ' =>
    cases o with
    | nx e => exact fun σ' H' O' q b S => h σ' H' O' (s.trans q) b S
    | bk e => exact fun σ' H' O' q b S => h σ' H' O' (s.trans q) b S
    | ct e => exact fun σ' H' O' q b S => h σ' H' O' (s.trans q) b S
    | ret d => exact h
  | exc c p τ' => exact h
  | fail => exact h.elim
/-- an expression in a statement -/
theorem goS {α β : Type} {ρ : Hp → α → β → Prop} {m : M α} {F : α → Tape → R Out} {Q' : β → Hp → Prop} (S : StRep g σ H O env τ) (b : BaseOk g Hb H O)
    (h : ResS g E Hb O H Dn ((m env τ).bind F)) (k : ∀ x τ1 v H1, m env τ = .ok x τ1 → Post g H H1 τ1 → StRep g σ H1 O env τ1 → BaseOk g Hb H1 O → ρ (hid H1 O) x v → ResS g E Hb O H1 Dn (F x τ1) → Q' v H1) : tG g E ρ m σ H Q' := by
  refine ⟨O, env, τ, S, ?_⟩
  cases e : m env τ with
  | ok x τ1 => rw [e] at h; exact fun v H1 p r => k x τ1 v H1 e p (S.post p) (b.post p) r (h.step (p.sub S.tO.1 S.tO.2.1))
  | exc c d τ1 => rw [e] at h; exact fun cls dd H' p x => h cls dd H' (b.to p) (x.mono (tape_sub (S.post p)))
  | fail => rw [e] at h; exact h
theorem new_subO {p : Addr} {τ' : Tape} (n : H p = none) (q : Post g H H' τ') (h1 : g.T ∈ O) (h2 : g.L ∈ O) : Sub (hid H O) (hid H' (p :: O)) := fun b o h => by
  obtain ⟨e1, m⟩ := hid_some h
  refine hid_of (q.keep b o (fun z => m (z ▸ h1)) (fun z => m (z ▸ h2)) e1) fun z => ?_
  rcases List.mem_cons.mp z with z | z
  · rw [z, n] at e1; cases e1
  · exact m z
theorem BaseOk.more {p : Addr} {τ' : Tape} (t : g.T ∈ g.O0 ∧ g.L ∈ g.O0 ∧ g.C ∉ g.O0) (b : BaseOk g Hb H O) (q : Post g H H' τ') (n : H p = none) : BaseOk g Hb H' (p :: O) := by
  have b1 := b.post q
  refine ⟨b1.keep, fun x hx => ?_⟩
  rcases List.mem_cons.mp hx with z | z
  · rw [z]
    cases e : Hb p with
    | none => exact .inr rfl
    | some o =>
      by_cases z1 : p = g.T
      · exact .inl (z1 ▸ t.1)
      · by_cases z2 : p = g.L
        · exact .inl (z2 ▸ t.2.1)
        · have := b.keep p o z1 z2 e
          rw [n] at this; cases this
  · exact b.new x z
/-- a new list in a statement -/
theorem goSF {m : M (List D)} {F : List D → Tape → R Out} {Q' : VK} (S : StRep g σ H O env τ) (b : BaseOk g Hb H O)
    (h : ResS g E Hb O H Dn ((m env τ).bind F)) (k : ∀ ds τ1 p vs H1, m env τ = .ok ds τ1 → H p = none → Post g H H1 τ1 → H1 p = some (.lst vs) → Dats g (hid H1 (p :: O)) ds vs → BaseOk g Hb H1 (p :: O) → ResS g E Hb (p :: O) H1 Dn (F ds τ1) → Q' (.ref p) H1) : tF g E m σ H Q' := by
  refine ⟨O, env, τ, S, ?_⟩
  cases e : m env τ with
  | ok x τ1 => rw [e] at h; exact fun p vs H1 n q a r => k x τ1 p vs H1 e n q a r (b.more S.t0.1 q n) (h.step (new_subO n q S.tO.1 S.tO.2.1))
  | exc c d τ1 => rw [e] at h; exact fun cls dd H' p x => h cls dd H' (b.to p) (x.mono (tape_sub (S.post p)))
  | fail => rw [e] at h; exact h

/-! ### what is own -/
def Slot.free : Slot → Slot
  | .own d => .val d
  | s => s
def unown (env : Env) : Env := env.map fun s => s.map Slot.free
theorem unown_get {env : Env} {i : Nat} {s : Slot} (h : (unown env)[i]? = some (some s)) : ∃ d, s = .val d ∧ (env[i]? = some (some (.val d)) ∨ env[i]? = some (some (.own d))) := by
  unfold unown at h
  rw [List.getElem?_map] at h
  cases e : env[i]? with
  | none => rw [e] at h; cases h
  | some o =>
    rw [e] at h
    cases o with
    | none => cases h
    | some t =>
      cases t with
      | val d => cases h; exact ⟨d, rfl, .inl rfl⟩
      | own d => cases h; exact ⟨d, rfl, .inr rfl⟩
theorem own_dat {a : Addr} {d : D} (S : StRep g σ H O env τ) (n3 : a ∉ g.O0) (h : OwnAt g H O a d) (hc : ∀ c ds, d = .ins c ds → ds.length = (clsF c).length) : Dat g (hid H (tapeO g)) d (.ref a) := by
  have na : a ∉ tapeO g := n3
  cases d with
  | lst ds =>
    obtain ⟨vs, e, r⟩ := h
    exact Dat.lst (hid_of e na) (Dats.mono (tape_sub S) _ _ r)
  | ins c ds =>
    obtain ⟨dx, fs, e, f, r⟩ := h
    have l1 := r.length
    have l2 := hc c ds rfl
    simp only [Dat]
    refine ⟨a, dx, fs, rfl, hid_of e na, ?_, Dats.mono (tape_sub S) _ _ r⟩
    rw [f, List.take_of_length_le]
    rw [List.length_map] at l1
    omega
  | dic ks ds =>
    obtain ⟨kvs, e, f, r⟩ := h
    simp only [Dat]
    exact ⟨a, kvs, rfl, hid_of e na, f, Dats.mono (tape_sub S) _ _ r⟩
  | _ => exact h.elim
/-- an instance is whole -/
def wholeD : D → Bool
  | .ins c ds => ds.length == (clsF c).length
  | _ => true
def wholeE (env : Env) : Bool := env.all fun s => match s with
  | some (.own d) => wholeD d
  | _ => true
theorem StRep.unown (S : StRep g σ H O env τ) (hw : wholeE env = true) : StRep g σ H (tapeO g) (Z.unown env) τ := by
  refine ⟨S.tp, S.t0.1, ⟨S.t0.1, fun a ha => ha⟩, by rw [← S.len]; simp [Z.unown], fun a ha => S.dom2 a (S.t0.2 a ha), fun i d e => ?_, fun i d e => ?_, fun i j d1 d2 a h1 _ _ _ => ?_⟩
  · obtain ⟨d', e1, h⟩ := unown_get e
    cases e1
    rcases h with h | h
    · obtain ⟨v, h1, r⟩ := S.val i d h
      exact ⟨v, h1, Dat.mono (tape_sub S) _ _ r⟩
    · obtain ⟨a, h1, m, n1, n2, n3, r⟩ := S.own i d h
      refine ⟨.ref a, h1, own_dat S n3 r fun c ds e => ?_⟩
      subst e
      have hm : some (Slot.own (.ins c ds)) ∈ env := List.mem_of_getElem? h
      have := List.all_eq_true.mp hw _ hm
      simpa [wholeD] using this
  · obtain ⟨d', e1, _⟩ := unown_get e
    cases e1
  · obtain ⟨d', e1, _⟩ := unown_get h1
    cases e1
def atom : D → Bool
  | .non => true
  | .bl _ => true
  | .int _ => true
  | .str _ => true
  | _ => false
theorem atom_dat {d : D} {v : V} {Ha Hc : Hp} (h : atom d = true) (r : Dat g Ha d v) : Dat g Hc d v := by
  cases d with
  | non => simpa only [Dat] using r
  | bl _ => simpa only [Dat] using r
  | int _ => simpa only [Dat] using r
  | str _ => simpa only [Dat] using r
  | _ => cases h
/-- names that are own are read, as nothing of them comes out -/
def mLend (a : M D) : M D := fun env τ => if wholeE env then (a (unown env) τ).nx.bind fun d τ1 => if atom d then .ok d τ1 else .fail else .fail
def mLendT (a : M Bool) : M Bool := fun env τ => if wholeE env then (a (unown env) τ).nx else .fail
def mLendO (a : M (Option Int)) : M (Option Int) := fun env τ => if wholeE env then (a (unown env) τ).nx else .fail
theorem lend_red {Q : VK} {a : M D} : tE g E (mLend a) σ H Q → tE g E a σ H Q := by
  rintro ⟨O, env, τ, S, h⟩
  unfold mLend at h
  split at h
  · rename_i hw
    refine ⟨tapeO g, unown env, τ, S.unown hw, ?_⟩
    cases e : a (unown env) τ with
    | exc c p τ1 => rw [e] at h; exact h.elim
    | fail => rw [e] at h; exact h.elim
    | ok d τ1 =>
      rw [e] at h
      replace h : Res g E (Dat g) O H Q (if atom d then .ok d τ1 else .fail) := h
      split at h
      · rename_i ha
        exact fun v H' p r => h v H' p (atom_dat ha r)
      · exact h.elim
  · exact h.elim
theorem lendT_red {Q : Bool → Hp → Prop} {a : M Bool} : tT g E (mLendT a) σ H Q → tT g E a σ H Q := by
  rintro ⟨O, env, τ, S, h⟩
  unfold mLendT at h
  split at h
  · rename_i hw
    refine ⟨tapeO g, unown env, τ, S.unown hw, ?_⟩
    cases e : a (unown env) τ with
    | exc c p τ1 => rw [e] at h; exact h.elim
    | fail => rw [e] at h; exact h.elim
    | ok d τ1 => rw [e] at h; exact fun v H' p r => h v H' p r
  · exact h.elim
theorem s_lend {X : Cx} {e : Expr} {a : M D} (h : PE X e (tE g E a)) : PE X e (tE g E (mLend a)) := weakE h fun _ _ _ q => lend_red q
theorem t_lend {X : Cx} {e : Expr} {a : M Bool} (h : PT X e (tT g E a)) : PT X e (tT g E (mLendT a)) := weakT h fun _ _ _ q => lendT_red q
/-! storing -/
theorem StRep.setNone {i : Nat} {v : Option V} (S : StRep g σ H O env τ) : StRep g (σ.set i v) H O (env.set i none) τ := by
  refine ⟨S.tp, S.tO, S.t0, by simp [S.len], S.dom2, fun j e ej => ?_, fun j e ej => ?_, fun j k d1 d2 a h1 h2 h3 h4 => ?_⟩
  · by_cases hj : i = j
    · subst hj
      by_cases hi : i < env.length
      · rw [List.getElem?_set_self hi] at ej; cases ej
      · rw [List.getElem?_eq_none (by simpa using hi)] at ej; cases ej
    · rw [List.getElem?_set_ne hj] at ej ⊢
      exact S.val j e ej
  · by_cases hj : i = j
    · subst hj
      by_cases hi : i < env.length
      · rw [List.getElem?_set_self hi] at ej; cases ej
      · rw [List.getElem?_eq_none (by simpa using hi)] at ej; cases ej
    · rw [List.getElem?_set_ne hj] at ej ⊢
      exact S.own j e ej
  · have n1 : i ≠ j := fun z => by
      subst z
      by_cases hi : i < env.length
      · rw [List.getElem?_set_self hi] at h1; cases h1
      · rw [List.getElem?_eq_none (by simpa using hi)] at h1; cases h1
    have n2 : i ≠ k := fun z => by
      subst z
      by_cases hi : i < env.length
      · rw [List.getElem?_set_self hi] at h2; cases h2
      · rw [List.getElem?_eq_none (by simpa using hi)] at h2; cases h2
    rw [List.getElem?_set_ne n1] at h1 h3
    rw [List.getElem?_set_ne n2] at h2 h4
    exact S.inj j k d1 d2 a h1 h2 h3 h4
/-- a new own object at slot i: p in O, no one else's -/
theorem StRep.setOwn {i : Nat} {p : Addr} {d : D} (S : StRep g σ H O env τ) (m : p ∈ O) (n1 : p ≠ g.T) (n2 : p ≠ g.L) (n3 : p ∉ g.O0) (r : OwnAt g H O p d) (ap : ∀ j e, j ≠ i → env[j]? = some (some (.own e)) → σ[j]? ≠ some (some (.ref p))) :
    StRep g (σ.set i (some (.ref p))) H O (env.set i (some (.own d))) τ := by
  have get : ∀ {j : Nat} {e : Slot}, (env.set i (some (.own d)))[j]? = some (some e) → (j = i ∧ i < env.length ∧ e = .own d) ∨ (j ≠ i ∧ env[j]? = some (some e)) := fun {j e} h => by
    by_cases hj : i = j
    · subst hj
      by_cases hi : i < env.length
      · rw [List.getElem?_set_self hi] at h; cases h; exact .inl ⟨rfl, hi, rfl⟩
      · rw [List.getElem?_eq_none (by simpa using hi)] at h; cases h
    · rw [List.getElem?_set_ne hj] at h; exact .inr ⟨fun z => hj z.symm, h⟩
  refine ⟨S.tp, S.tO, S.t0, by simp [S.len], S.dom2, fun j e ej => ?_, fun j e ej => ?_, fun j k d1 d2 a h1 h2 h3 h4 => ?_⟩
  · rcases get ej with ⟨rfl, hi, z⟩ | ⟨hj, h⟩
    · cases z
    · rw [List.getElem?_set_ne (Ne.symm hj)]
      exact S.val j e h
  · rcases get ej with ⟨rfl, hi, z⟩ | ⟨hj, h⟩
    · cases z
      exact ⟨p, by rw [List.getElem?_set_self (by rw [← S.len]; exact hi)], m, n1, n2, n3, r⟩
    · rw [List.getElem?_set_ne (Ne.symm hj)]
      exact S.own j e h
  · rcases get h1 with ⟨rfl, hi, z⟩ | ⟨hj, g1⟩
    · rcases get h2 with ⟨rfl, _, _⟩ | ⟨hk, g2⟩
      · rfl
      · rw [List.getElem?_set_self (by rw [← S.len]; exact hi)] at h3
        cases h3
        rw [List.getElem?_set_ne (Ne.symm hk)] at h4
        exact absurd h4 (ap k d2 hk g2)
    · rcases get h2 with ⟨rfl, hi, z⟩ | ⟨hk, g2⟩
      · rw [List.getElem?_set_self (by rw [← S.len]; exact hi)] at h4
        cases h4
        rw [List.getElem?_set_ne (Ne.symm hj)] at h3
        exact absurd h3 (ap j d1 hj g1)
      · rw [List.getElem?_set_ne (Ne.symm hj)] at h3
        rw [List.getElem?_set_ne (Ne.symm hk)] at h4
        exact S.inj j k d1 d2 a g1 g2 h3 h4
/-- an own object is written -/
theorem StRep.writeG {i : Nat} {p : Addr} {o : HO} {d0 d' : D} (S : StRep g σ H O env τ) (e : env[i]? = some (some (.own d0))) (es : σ[i]? = some (some (.ref p))) (no : NTup o) (m : p ∈ O) (n1 : p ≠ g.T) (n2 : p ≠ g.L) (n3 : p ∉ g.O0) (ro : OwnAt g (upd H p o) O p d') :
    StRep g σ (upd H p o) O (env.set i (some (.own d'))) τ := by
  have sb : Sub (hid H O) (hid (upd H p o) O) := fun a o h => by
    obtain ⟨e1, nm⟩ := hid_some h
    have ne : a ≠ p := fun z => nm (by rw [z]; exact m)
    exact hid_of (by rw [upd_ne ne]; exact e1) nm
  have S' : StRep g σ (upd H p o) O (env.set i none) τ := by
    have S0 := S.setNone (i := i) (v := σ[i]?.getD none)
    have hσ : σ.set i (σ[i]?.getD none) = σ := by
      rw [es]
      refine List.ext_getElem? fun j => ?_
      by_cases hj : i = j
      · subst hj
        rw [List.getElem?_set_self (List.getElem?_eq_some_iff.mp es).1, es]; rfl
      · rw [List.getElem?_set_ne hj]
    rw [hσ] at S0
    refine ⟨⟨?_, ?_, ?_⟩, S.tO, S.t0, S0.len, fun a ha => ?_, fun j d ej => ?_, fun j d ej => ?_, S0.inj⟩
    · rw [upd_ne (Ne.symm n1)]; exact S.tp.1
    · rw [upd_ne (Ne.symm n2)]; exact S.tp.2.1
    · rw [upd_ne (fun z : g.C = p => S.tO.2.2 (z ▸ m))]; exact S.tp.2.2
    · by_cases z : a = p
      · rw [z]; exact ⟨_, upd_same, no⟩
      · obtain ⟨u, q, y⟩ := S.dom2 a ha
        exact ⟨u, by rw [upd_ne z]; exact q, y⟩
    · obtain ⟨v, h, r⟩ := S0.val j d ej
      exact ⟨v, h, Dat.mono sb _ _ r⟩
    · obtain ⟨a, h, ma, k1, k2, k3, r⟩ := S0.own j d ej
      have hj : j ≠ i := fun z => by
        subst z
        rw [List.getElem?_set_self (List.getElem?_eq_some_iff.mp e).1] at ej; cases ej
      have ne : a ≠ p := fun z => by
        subst z
        rw [List.getElem?_set_ne (Ne.symm hj)] at ej
        exact hj (S.inj j i _ _ a ej e h es)
      exact ⟨a, h, ma, k1, k2, k3, r.move (fun o _ e1 => by rw [upd_ne ne]; exact e1) sb⟩
  have S2 := S'.setOwn (i := i) (p := p) (d := d') m n1 n2 n3 ro fun j e2 hj ej z => by
    rw [List.getElem?_set_ne (Ne.symm hj)] at ej
    exact hj (S.inj j i _ _ p ej e z es)
  have hσ : σ.set i (some (.ref p)) = σ := by
    refine List.ext_getElem? fun j => ?_
    by_cases hj : i = j
    · subst hj
      rw [List.getElem?_set_self (List.getElem?_eq_some_iff.mp es).1, es]
    · rw [List.getElem?_set_ne hj]
  have hE : (env.set i none).set i (some (.own d')) = env.set i (some (.own d')) := by rw [List.set_set]
  rw [hσ, hE] at S2
  exact S2
/-- an own list is written -/
theorem StRep.write {i : Nat} {p : Addr} {ds : List D} {vs vs' : List V} {ds' : List D} (S : StRep g σ H O env τ) (e : env[i]? = some (some (.own (.lst ds)))) (es : σ[i]? = some (some (.ref p))) (hp : H p = some (.lst vs)) (r' : Dats g (hid H O) ds' vs') (m : p ∈ O) (n1 : p ≠ g.T) (n2 : p ≠ g.L) (n3 : p ∉ g.O0) :
    StRep g σ (upd H p (.lst vs')) O (env.set i (some (.own (.lst ds')))) τ := by
  have sb : Sub (hid H O) (hid (upd H p (.lst vs')) O) := fun a o h => by
    obtain ⟨e1, nm⟩ := hid_some h
    have ne : a ≠ p := fun z => nm (by rw [z]; exact m)
    exact hid_of (by rw [upd_ne ne]; exact e1) nm
  exact S.writeG e es (fun _ z => nomatch z) m n1 n2 n3 ⟨vs', upd_same, Dats.mono sb _ _ r'⟩
end
end Z
end
section
set_option Elab.async false
set_option linter.all false
set_option maxRecDepth 100000
namespace Z
open PySem PySem.Spec PyProof.Rows L2

theorem weakS {X : Cx} {st : Stmt} {t t' : TS} (h : PS X st t) (k : ∀ Dn σ H, t' Dn σ H → t Dn σ H) : PS X st t' := ⟨fun pins s σ H Dn I q => h.run pins s σ H Dn I (k Dn σ H q)⟩
theorem weakSs {X : Cx} {st : List Stmt} {t t' : TS} (h : PSs X st t) (k : ∀ Dn σ H, t' Dn σ H → t Dn σ H) : PSs X st t' := ⟨fun pins s σ H Dn I q => h.run pins s σ H Dn I (k Dn σ H q)⟩

def mSet (t : Tgt) (a : M D) : SM := fun env τ => (a env τ).bind fun d τ1 => (R.of (bindT t d env) τ1).bind fun e τ2 => .ok (.nx e) τ2
def mSetF (i : Nat) (a : M (List D)) : SM := fun env τ => (a env τ).bind fun ds τ1 => .ok (.nx (env.set i (some (.own (.lst ds))))) τ1
def mDrop (a : M D) : SM := fun env τ => (a env τ).bind fun _ τ1 => .ok (.nx env) τ1
def mRetS (a : M D) : SM := fun env τ => if wholeE env then (a (unown env) τ).bind fun d τ1 => .ok (.ret d) τ1 else .fail
def mRetN : SM := fun _ τ => .ok (.ret .non) τ
def mIfS (c : M Bool) (a b : SM) : SM := fun env τ => (mLendT c env τ).bind fun k τ1 => if k then a env τ1 else b env τ1
def mSeq (a b : SM) : SM := fun env τ => (a env τ).bind fun o τ1 => match o with
  | .nx e => b e τ1
  | o => .ok o τ1
def mNext : SM := fun env τ => .ok (.nx env) τ
def mBreak : SM := fun env τ => .ok (.bk env) τ
def mCont : SM := fun env τ => .ok (.ct env) τ
def forGo (t : Tgt) (b : SM) : List D → Env → Tape → R Out
  | [], env, τ => .ok (.nx env) τ
  | d :: ds, env, τ => (R.of (bindT t d env) τ).bind fun e τ1 => (b e τ1).bind fun o τ2 => match o with
    | .nx e2 => forGo t b ds e2 τ2
    | .ct e2 => forGo t b ds e2 τ2
    | .bk e2 => .ok (.nx e2) τ2
    | .ret d => .ok (.ret d) τ2
def mFor (mi : M (List D)) (t : Tgt) (b : SM) : SM := fun env τ => (mi env τ).bind fun ds τ1 => forGo t b ds env τ1
def whileGo (c : M Bool) (b : SM) : Nat → Env → Tape → R Out
  | 0, _, _ => .fail
  | n + 1, env, τ => (mLendT c env τ).bind fun k τ1 => if k then (b env τ1).bind fun o τ2 => match o with
    | .nx e2 => whileGo c b n e2 τ2
    | .ct e2 => whileGo c b n e2 τ2
    | .bk e2 => .ok (.nx e2) τ2
    | .ret d => .ok (.ret d) τ2
    else .ok (.nx env) τ1
def mWhile (n : Nat) (c : M Bool) (b : SM) : SM := whileGo c b n
/-- x.append(e), x own -/
def mApp (i : Nat) (a : M D) : SM := fun env τ => match env[i]? with
  | some (some (.own (.lst ds))) => (a env τ).bind fun d τ1 => if ds.length ≤ line then .ok (.nx (env.set i (some (.own (.lst (ds ++ [d])))))) τ1 else .fail
  | _ => .fail
/-- x.extend(e), x own -/
def mExt (i : Nat) (a : M D) : SM := fun env τ => match env[i]? with
  | some (some (.own (.lst ds))) => (a env τ).bind fun d τ1 => match d with
    | .lst es => if ds.length + es.length ≤ line then .ok (.nx (env.set i (some (.own (.lst (ds ++ es)))))) τ1 else .fail
    | _ => .fail
  | _ => .fail
/-- x.append(y.pop(k)), both own -/
def mAppPop (i j : Nat) (a : M D) : SM := fun env τ => match env[i]?, env[j]? with
  | some (some (.own (.lst ds))), some (some (.own (.lst es))) => if i = j then .fail else (mLend a env τ).bind fun k τ1 => match k with
    | .int k => if ds.length ≤ line ∧ 0 ≤ k ∧ k ≤ 1000000 then (match es[k.toNat]? with
      | some d => .ok (.nx ((env.set j (some (.own (.lst (es.eraseIdx k.toNat))))).set i (some (.own (.lst (ds ++ [d])))))) τ1
      | none => .fail) else .fail
    | _ => .fail
  | _, _ => .fail
/-- x[k] = e, x an own list -/
def mSetIx (i : Nat) (k : M D) (a : M D) : SM := fun env τ => match env[i]? with
  | some (some (.own (.lst _))) => (a env τ).bind fun d τ1 => (k env τ1).bind fun x τ2 => match x, env[i]? with
    | .int k, some (some (.own (.lst ds))) => (match ixN ds.length k with
      | some j => .ok (.nx (env.set i (some (.own (.lst (ds.set j d)))))) τ2
      | none => .fail)
    | _, _ => .fail
  | _ => .fail
section
variable {X : Cx} {g : Gc} {E : XK} {Hb : Hp} {ma : M D} {mt : M Bool} {pos : Pos} {e : Expr} {t : Tgt}
theorem c_set {tg : Expr} {te : TE} {gr : TG} (h : PS X (.Assign [tg] e pos) (tAsg te gr)) (ht : te = tE g E ma) (hg : gr = gTgt g.K t) : PS X (.Assign [tg] e pos) (tS g E Hb (mSet t ma)) := by
  subst ht; subst hg
  refine weakS h fun Dn σ H ⟨O, env, τ, S, b, h⟩ => ?_
  refine goS S b h fun d τ1 v H1 e1 p1 S1 b1 d1 h1 => ?_
  cases eb : bindT t d env with
  | none => rw [eb] at h1; exact h1.elim
  | some e2 =>
    rw [eb] at h1
    exact bind_ok t d σ env e2 v _ S1 d1 eb fun σ' S' _ => h1 σ' H1 O (Sub.refl _) b1 S'
/-- a new own object: it is hidden from now on -/
theorem StRep.newO {σ : L2.St} {H H' : Hp} {O : List Addr} {env : Env} {τ τ' : Tape} {p : Addr} {o : HO} (S : StRep g σ H O env τ) (n : H p = none) (q : Post g H H' τ') (a : H' p = some o) (no : NTup o) : StRep g σ H' (p :: O) env τ' := by
  have nO : p ∉ O := not_in_of_none S.dom n
  have S1 := S.post q
  have sb := new_subO (O := O) n q S.tO.1 S.tO.2.1
  refine ⟨S1.tp, ⟨List.mem_cons_of_mem _ S.tO.1, List.mem_cons_of_mem _ S.tO.2.1, fun z => (List.mem_cons.mp z).elim (ne_of_none S.tp.2.2 n) S.tO.2.2⟩, ⟨S.t0.1, fun a ha => List.mem_cons_of_mem _ (S.t0.2 a ha)⟩, S.len, fun b hb => ?_, fun j d e => ?_, fun j d e => ?_, S.inj⟩
  · rcases List.mem_cons.mp hb with rfl | hb
    · exact ⟨_, a, no⟩
    · exact S1.dom2 b hb
  · obtain ⟨v, h, r⟩ := S.val j d e
    exact ⟨v, h, Dat.mono sb _ _ r⟩
  · obtain ⟨b, h, m, n1, n2, n3, r⟩ := S.own j d e
    exact ⟨b, h, List.mem_cons_of_mem _ m, n1, n2, n3, r.move (fun o _ e1 => q.keep b o n1 n2 e1) sb⟩
theorem StRep.newOwnG {σ : L2.St} {H H' : Hp} {O : List Addr} {env : Env} {τ τ' : Tape} {i : Nat} {p : Addr} {o : HO} {d : D} (S : StRep g σ H O env τ) (n : H p = none) (q : Post g H H' τ') (a : H' p = some o) (no : NTup o) (ro : OwnAt g H' (p :: O) p d) :
    StRep g (σ.set i (some (.ref p))) H' (p :: O) (env.set i (some (.own d))) τ' := by
  have nO : p ∉ O := not_in_of_none S.dom n
  refine (S.newO n q a no).setOwn List.mem_cons_self (fun z => nO (z ▸ S.tO.1)) (fun z => nO (z ▸ S.tO.2.1)) (fun z => nO (S.t0.2 _ z)) ro fun j e _ ej z => ?_
  obtain ⟨b, h, m, _⟩ := S.own j e ej
  rw [z] at h; cases h
  exact nO m
theorem StRep.newOwn {σ : L2.St} {H H' : Hp} {O : List Addr} {env : Env} {τ τ' : Tape} {i : Nat} {p : Addr} {ds : List D} {vs : List V} (S : StRep g σ H O env τ) (n : H p = none) (q : Post g H H' τ') (a : H' p = some (.lst vs)) (r : Dats g (hid H' (p :: O)) ds vs) :
    StRep g (σ.set i (some (.ref p))) H' (p :: O) (env.set i (some (.own (.lst ds)))) τ' := S.newOwnG n q a (fun _ z => nomatch z) ⟨vs, a, r⟩
theorem c_setF {m : M (List D)} {tg : Expr} {te : TE} {i : Nat} (h : PS X (.Assign [tg] e pos) (tAsg te (gName i))) (ht : ∀ σ H Q, tF g E m σ H Q → te σ H Q) : PS X (.Assign [tg] e pos) (tS g E Hb (mSetF i m)) := by
  refine weakS h fun Dn σ H ⟨O, env, τ, S, b, h⟩ => ht _ _ _ ?_
  exact goSF S b h fun ds τ1 p vs H1 e1 n q a r b1 h1 => h1 _ H1 (p :: O) (Sub.refl _) b1 (S.newOwn (i := i) n q a r)
theorem c_drop (h : PE X e (tE g E ma)) (hs : swapsWith e none pos.line X.env = pure false) : PS X (.Expr e pos) (tS g E Hb (mDrop ma)) := by
  refine weakS (ps_expr h hs) fun Dn σ H ⟨O, env, τ, S, b, h⟩ => ?_
  refine goS S b h fun d τ1 v H1 e1 p1 S1 b1 d1 h1 => ?_
  exact h1 σ H1 O (Sub.refl _) b1 S1
theorem c_ret (h : PE X e (tE g E ma)) : PS X (.Return (some e) pos) (tS g E Hb (mRetS ma)) := by
  refine weakS (ps_ret h) fun Dn σ H ⟨O, env, τ, S, b, h⟩ => ?_
  unfold mRetS at h
  split at h
  · rename_i hw
    refine ⟨tapeO g, unown env, τ, S.unown hw, ?_⟩
    cases e1 : ma (unown env) τ with
    | ok d τ1 => rw [e1] at h; exact fun v H' p r => h v H' (b.to p) r
    | exc c d τ1 => rw [e1] at h; exact fun cls dd H' p x => h cls dd H' (b.to p) x
    | fail => rw [e1] at h; exact h
  · exact h.elim
theorem c_retN : PS X (.Return none pos) (tS g E Hb mRetN) := weakS ps_retN fun Dn σ H ⟨O, env, τ, S, b, h⟩ => h .non H (b.to S.post0) Dat.n
theorem c_pass : PS X (.Pass pos) (tS g E Hb mNext) := weakS ps_pass fun Dn σ H ⟨O, env, τ, S, b, h⟩ => h σ H O (Sub.refl _) b S
theorem c_break : PS X (.Break pos) (tS g E Hb mBreak) := weakS ps_break fun Dn σ H ⟨O, env, τ, S, b, h⟩ => h σ H O (Sub.refl _) b S
theorem c_cont : PS X (.Continue pos) (tS g E Hb mCont) := weakS ps_continue fun Dn σ H ⟨O, env, τ, S, b, h⟩ => h σ H O (Sub.refl _) b S
theorem cs_nil : PSs X [] (tS g E Hb mNext) := weakSs pss_nil fun Dn σ H ⟨O, env, τ, S, b, h⟩ => h σ H O (Sub.refl _) b S
/-- a statement's ends, those of another one in their place -/
theorem seq_red {ma mb : SM} {Dn : Ends} {σ : L2.St} {H : Hp} : tS g E Hb (mSeq ma mb) Dn σ H → tS g E Hb ma { Dn with nx := tS g E Hb mb Dn } σ H := by
  rintro ⟨O, env, τ, S, b, h⟩
  refine ⟨O, env, τ, S, b, ?_⟩
  unfold mSeq at h
  cases e : ma env τ with
  | exc c p τ1 => rw [e] at h; exact h
  | fail => rw [e] at h; exact h
  | ok o τ1 =>
    rw [e] at h
    cases o with
    | nx e1 => exact fun σ' H' O' s b' S' => ⟨O', e1, τ1, S', b', ResS.step s h⟩
    | bk e1 => exact h
    | ct e1 => exact h
    | ret d => exact h
theorem cs_cons {st : Stmt} {rest : List Stmt} {ma mb : SM} (h1 : PS X st (tS g E Hb ma)) (h2 : PSs X rest (tS g E Hb mb)) : PSs X (st :: rest) (tS g E Hb (mSeq ma mb)) :=
  weakSs (pss_cons h1 h2) fun Dn σ H h => seq_red h
theorem c_if {c : Expr} {xs ys : List Stmt} {ma mb : SM} (hc : PT X c (tT g E mt)) (h1 : PSs X xs (tS g E Hb ma)) (h2 : PSs X ys (tS g E Hb mb)) : PS X (.If c xs ys pos) (tS g E Hb (mIfS mt ma mb)) := by
  refine weakS (ps_if (t_lend hc) h1 h2) fun Dn σ H ⟨O, env, τ, S, b, h⟩ => ?_
  refine goS S b h fun k τ1 v H1 e1 p1 S1 b1 d1 h1 => ?_
  cases d1
  cases k with
  | true => rw [if_pos rfl]; exact ⟨O, env, τ1, S1, b1, h1⟩
  | false => rw [if_neg Bool.false_ne_true]; exact ⟨O, env, τ1, S1, b1, h1⟩
theorem ResS.mono {Dn Dn' : Ends} {O : List Addr} {H : Hp} {r : R Out} (hn : ∀ σ H, Dn.nx σ H → Dn'.nx σ H) (hb : ∀ σ H, Dn.bk σ H → Dn'.bk σ H) (hc : ∀ σ H, Dn.ct σ H → Dn'.ct σ H) (hr : ∀ v H, Dn.rt v H → Dn'.rt v H) (h : ResS g E Hb O H Dn r) : ResS g E Hb O H Dn' r := by
  cases r with
  | ok o τ' =>
    cases o with
    | nx e => exact fun σ' H' O' q b S => hn _ _ (h σ' H' O' q b S)
    | bk e => exact fun σ' H' O' q b S => hb _ _ (h σ' H' O' q b S)
    | ct e => exact fun σ' H' O' q b S => hc _ _ (h σ' H' O' q b S)
    | ret d => exact fun v H' p q => hr _ _ (h v H' p q)
  | exc c p τ' => exact h
  | fail => exact h.elim
theorem c_while {c : Expr} {body : List Stmt} {mb : SM} {n : Nat} (hp : PassesOwn (model X.prog X.w) X.A X.env X.xe) (hc : PT X c (tT g E mt)) (h1 : PSs X body (tS g E Hb mb)) : PS X (.While c body [] pos) (tS g E Hb (mWhile n mt mb)) := by
  refine weakS (ps_while hp (t_lend hc) h1) fun Dn σ H ⟨O, env, τ, S, b, h⟩ => ?_
  refine ⟨fun m σ' H' => ∃ O' env' τ', StRep g σ' H' O' env' τ' ∧ BaseOk g Hb H' O' ∧ ResS g E Hb O' H' Dn (whileGo mt mb m env' τ'), ⟨n, O, env, τ, S, b, h⟩, ?_⟩
  rintro m σ' H' ⟨O', env', τ', S', b', h'⟩
  cases m with
  | zero => exact h'.elim
  | succ m =>
    unfold whileGo at h'
    refine goS S' b' h' fun k τ1 v H1 e1 p1 S1 b1 d1 h1 => ?_
    cases d1
    cases k with
    | false =>
      rw [if_neg Bool.false_ne_true] at h1 ⊢
      exact h1 _ H1 O' (Sub.refl _) b1 S1
    | true =>
      rw [if_pos rfl] at h1 ⊢
      refine ⟨fun σ2 H2 => ∃ O2 env2 τ2, StRep g σ2 H2 O2 env2 τ2 ∧ BaseOk g Hb H2 O2 ∧ ResS g E Hb O2 H2 Dn (whileGo mt mb m env2 τ2), fun σ2 H2 q => ⟨m, Nat.lt_succ_self m, q⟩, O', env', τ1, S1, b1, ?_⟩
      cases eb : mb env' τ1 with
      | exc c p τ2 => rw [eb] at h1; exact h1
      | fail => rw [eb] at h1; exact h1
      | ok o τ2 =>
        rw [eb] at h1
        cases o with
        | nx e2 => exact fun σ2 H2 O2 s b2 S2 => ⟨O2, e2, τ2, S2, b2, ResS.step s h1⟩
        | ct e2 => exact fun σ2 H2 O2 s b2 S2 => ⟨O2, e2, τ2, S2, b2, ResS.step s h1⟩
        | bk e2 => exact h1
        | ret d => exact h1
theorem c_for {tg iter : Expr} {body : List Stmt} {mi : M (List D)} {mb : SM} (hp : PassesOwn (model X.prog X.w) X.A X.env X.xe) (hc : X.calm = true) (hi : PI X tg iter (tI g E mi)) (hg : PG X tg (gTgt g.K t)) (h1 : PSs X body (tS g E Hb mb)) (hs : ∀ x, foldedSetIterable iter X.env x = pure x) :
    PS X (.For tg iter body [] pos) (tS g E Hb (mFor mi t mb)) := by
  refine weakS (ps_for hp hc hi hg h1 hs) fun Dn σ H ⟨O, env, τ, S, b, h⟩ => ?_
  refine ⟨O, env, τ, S, ?_⟩
  unfold mFor at h
  cases ei : mi env τ with
  | exc c d τ1 => rw [ei] at h; exact fun cls dd H' p x => h cls dd H' (b.to p) (x.mono (tape_sub (S.post p)))
  | fail => rw [ei] at h; exact h
  | ok ds τ1 =>
    rw [ei] at h
    intro J H1 p1 hJ
    refine ⟨fun i m σ' H' => m = ds.length - i ∧ i ≤ ds.length ∧ ∃ O' env' τ', StRep g σ' H' O' env' τ' ∧ BaseOk g Hb H' O' ∧ Sub (hid H1 O) (hid H' O') ∧ ResS g E Hb O' H' Dn (forGo t mb (ds.drop i) env' τ'), ⟨ds.length, by simp, Nat.zero_le _, O, env, τ1, S.post p1, b.post p1, Sub.refl _, ?_⟩, ?_⟩
    · rw [List.drop_zero]
      exact ResS.step (p1.sub S.tO.1 S.tO.2.1) h
    rintro i m σ' H' ⟨rfl, hi, O', env', τ', S', b', sb, h'⟩
    by_cases hlt : i < ds.length
    · refine .inr ⟨hJ.go i H' (sb.trans hid_sub) hlt, fun σ2 H2 => i + 1 ≤ ds.length ∧ ∃ O2 env2 τ2, StRep g σ2 H2 O2 env2 τ2 ∧ BaseOk g Hb H2 O2 ∧ Sub (hid H1 O) (hid H2 O2) ∧ ResS g E Hb O2 H2 Dn (forGo t mb (ds.drop (i + 1)) env2 τ2), fun σ2 H2 q => ⟨ds.length - (i + 1), by omega, rfl, q⟩, fun x H2 y => ?_⟩
      rw [drop_some hlt] at h'
      unfold forGo at h'
      obtain ⟨s2, dx⟩ := hJ.yld i H' O' x H2 ds[i] sb S'.dom y (List.getElem?_eq_getElem hlt)
      have p2 : Post g H' H2 τ' := .of_sub s2 S'.tp
      cases eb : bindT t ds[i] env' with
      | none => rw [eb] at h'; exact h'.elim
      | some env1 =>
        rw [eb] at h'
        replace h' : ResS g E Hb O' H' Dn ((mb env1 τ').bind fun o τ2 => match o with
          | .nx e2 => forGo t mb (ds.drop (i + 1)) e2 τ2
          | .ct e2 => forGo t mb (ds.drop (i + 1)) e2 τ2
          | .bk e2 => .ok (.nx e2) τ2
          | .ret d => .ok (.ret d) τ2) := h'
        have sb2 : Sub (hid H' O') (hid H2 O') := p2.sub S'.tO.1 S'.tO.2.1
        refine bind_ok t ds[i] σ' env' env1 x _ (S'.post p2) dx eb fun σ2 S2 _ => ⟨O', env1, τ', S2, b'.post p2, ?_⟩
        cases em : mb env1 τ' with
        | exc c p τ2 => rw [em] at h'; exact h'
        | fail => rw [em] at h'; exact h'
        | ok o τ2 =>
          rw [em] at h'
          cases o with
          | nx e2 => exact fun σ3 H3 O3 s b3 S3 => ⟨by omega, O3, e2, τ2, S3, b3, (sb.trans sb2).trans s, ResS.step (sb2.trans s) h'⟩
          | ct e2 => exact fun σ3 H3 O3 s b3 S3 => ⟨by omega, O3, e2, τ2, S3, b3, (sb.trans sb2).trans s, ResS.step (sb2.trans s) h'⟩
          | bk e2 => exact ResS.step sb2 h'
          | ret d => exact h'
    · refine .inl ⟨hJ.stop i H' (sb.trans hid_sub) (by omega) hi, ?_⟩
      rw [List.drop_eq_nil_of_le (by omega)] at h'
      exact h' σ' H' O' (Sub.refl _) b' S'
end
end Z
end
section
set_option Elab.async false
set_option linter.all false
set_option maxRecDepth 100000
namespace Z
open PySem PySem.Spec PyProof.Rows L2
section
variable {X : Cx} {g : Gc} {E : XK} {Hb : Hp} {ma mb : M D} {mt : M Bool} {pos : Pos} {e : Expr} {t : Tgt}
theorem StRep.ownL {σ : L2.St} {H : Hp} {O : List Addr} {env : Env} {τ : Tape} {i : Nat} {ds : List D} (S : StRep g σ H O env τ) (h : env[i]? = some (some (.own (.lst ds)))) :
    ∃ p vs, σ[i]? = some (some (.ref p)) ∧ H p = some (.lst vs) ∧ Dats g (hid H O) ds vs ∧ p ∈ O ∧ p ≠ g.T ∧ p ≠ g.L ∧ p ∉ g.O0 := by
  obtain ⟨p, e1, m, n1, n2, n3, vs, e2, r⟩ := S.own i _ h
  exact ⟨p, vs, e1, e2, r, m, n1, n2, n3⟩
theorem Res.drop {O : List Addr} {H : Hp} {Dn : Ends} {σ : L2.St} {env : Env} {τ : Tape} {F : D → Tape → R Out} {Q : VK} (S : StRep g σ H O env τ) (b : BaseOk g Hb H O) (h : ResS g E Hb O H Dn ((ma env τ).bind F))
    (k : ∀ x τ1 v H1, ma env τ = .ok x τ1 → Post g H H1 τ1 → StRep g σ H1 O env τ1 → BaseOk g Hb H1 O → Dat g (hid H1 O) x v → ResS g E Hb O H1 Dn (F x τ1) → Q v H1) : tE g E ma σ H Q := goS S b h k
theorem BaseOk.write {H : Hp} {O : List Addr} {p : Addr} {o : HO} (b : BaseOk g Hb H O) (m : p ∈ O) (n1 : p ≠ g.T) (n2 : p ≠ g.L) (n3 : p ∉ g.O0) : BaseOk g Hb (upd H p o) O := by
  refine ⟨fun a u k1 k2 h => ?_, b.new⟩
  have ne : a ≠ p := fun z => by
    subst z
    rcases b.new a m with z | z
    · exact n3 z
    · rw [h] at z; cases z
  rw [upd_ne ne]
  exact b.keep a u k1 k2 h
theorem sub_write {H : Hp} {O : List Addr} {p : Addr} {o : HO} (m : p ∈ O) : Sub (hid H O) (hid (upd H p o) O) := fun a u h => by
  obtain ⟨e1, n⟩ := hid_some h
  have ne : a ≠ p := fun z => n (by rw [z]; exact m)
  exact hid_of (by rw [upd_ne ne]; exact e1) n
theorem c_app {i : Nat} {te : TE} (h : PS X (.Expr e pos) (tDrop (tBM X.K "list" rAppend (tVar i) (tCons te tNil)))) (ht : te = tE g E ma) : PS X (.Expr e pos) (tS g E Hb (mApp i ma)) := by
  subst ht
  refine weakS h fun Dn σ H ⟨O, env, τ, S, b, h⟩ => ?_
  unfold mApp at h
  split at h
  · rename_i ds eo
    obtain ⟨p, vs, es, hp, r, m, n1, n2, n3⟩ := S.ownL eo
    refine ⟨.ref p, es, .inl ⟨rfl, vs, .of hp⟩, ?_⟩
    refine goS S b h fun d τ1 v H1 e1 p1 S1 b1 d1 h1 => ?_
    have hp1 : H1 p = some (.lst vs) := p1.keep _ _ n1 n2 hp
    have r1 := Dats.mono (p1.sub S.tO.1 S.tO.2.1) _ _ r
    by_cases hl : ds.length ≤ line
    · rw [if_pos hl] at h1
      refine ⟨p, vs, v, rfl, rfl, hp1, line_lt (by rw [r1.length]; exact hl), ?_⟩
      exact h1 σ _ O (sub_write m) (b1.write m n1 n2 n3) (S1.write eo es hp1 (r1.append (Dats.cons d1 Dats.nil)) m n1 n2 n3)
    · rw [if_neg hl] at h1; exact h1.elim
  · exact h.elim
theorem c_ext {i : Nat} {te : TE} (h : PS X (.Expr e pos) (tDrop (tBM X.K "list" rExtend (tVar i) (tCons te tNil)))) (ht : te = tE g E ma) : PS X (.Expr e pos) (tS g E Hb (mExt i ma)) := by
  subst ht
  refine weakS h fun Dn σ H ⟨O, env, τ, S, b, h⟩ => ?_
  unfold mExt at h
  split at h
  · rename_i ds eo
    obtain ⟨p, vs, es, hp, r, m, n1, n2, n3⟩ := S.ownL eo
    refine ⟨.ref p, es, .inl ⟨rfl, vs, .of hp⟩, ?_⟩
    refine goS S b h fun d τ1 v H1 e1 p1 S1 b1 d1 h1 => ?_
    have hp1 : H1 p = some (.lst vs) := p1.keep _ _ n1 n2 hp
    have r1 := Dats.mono (p1.sub S.tO.1 S.tO.2.1) _ _ r
    cases d with
    | lst xs =>
      obtain ⟨q, ws, rfl, hq, r2⟩ := d1.lstE
      replace h1 : ResS g E Hb O H1 Dn (if ds.length + xs.length ≤ line then .ok (.nx (env.set i (some (.own (.lst (ds ++ xs)))))) τ1 else .fail) := h1
      by_cases hl : ds.length + xs.length ≤ line
      · rw [if_pos hl] at h1
        refine ⟨p, q, vs, ws, rfl, rfl, hp1, (hid_some hq).1, line_le (by rw [r1.length, r2.length]; exact hl), ?_⟩
        exact h1 σ _ O (sub_write m) (b1.write m n1 n2 n3) (S1.write eo es hp1 (r1.append r2) m n1 n2 n3)
      · rw [if_neg hl] at h1; exact h1.elim
    | _ => exact False.elim h1
  · exact h.elim
theorem Dats.erase {H : Hp} : ∀ {ds : List D} {vs : List V} (n : Nat), Dats g H ds vs → Dats g H (ds.eraseIdx n) (vs.eraseIdx n)
  | [], vs, n, h => by simp only [Dats] at h; subst h; simp only [List.eraseIdx_nil]; exact Dats.nil
  | d :: ds, vs, 0, h => by
    simp only [Dats] at h
    obtain ⟨v, r, rfl, a, b⟩ := h
    simpa only [List.eraseIdx_cons_zero] using b
  | d :: ds, vs, n + 1, h => by
    simp only [Dats] at h
    obtain ⟨v, r, rfl, a, b⟩ := h
    simp only [List.eraseIdx_cons_succ]
    exact Dats.cons a (Dats.erase n b)
theorem Dats.set {H : Hp} {d : D} {v : V} (q : Dat g H d v) : ∀ {ds : List D} {vs : List V} (n : Nat), Dats g H ds vs → Dats g H (ds.set n d) (vs.set n v)
  | [], vs, n, h => by simp only [Dats] at h; subst h; simp only [List.set_nil]; exact Dats.nil
  | x :: ds, vs, 0, h => by
    simp only [Dats] at h
    obtain ⟨u, r, rfl, a, b⟩ := h
    simp only [List.set_cons_zero]
    exact Dats.cons q b
  | x :: ds, vs, n + 1, h => by
    simp only [Dats] at h
    obtain ⟨u, r, rfl, a, b⟩ := h
    simp only [List.set_cons_succ]
    exact Dats.cons a (Dats.set q n b)
theorem set_same {α : Type} {l : List α} {i : Nat} {x : α} (h : l[i]? = some x) : l.set i x = l := by
  refine List.ext_getElem? fun j => ?_
  by_cases hj : i = j
  · subst hj
    rw [List.getElem?_set_self (List.getElem?_eq_some_iff.mp h).1, h]
  · rw [List.getElem?_set_ne hj]
theorem c_appPop {i j : Nat} {te : TE} (h : PS X (.Expr e pos) (tDrop (tBM X.K "list" rAppend (tVar i) (tCons (tBM X.K "list" rPopAt (tVar j) (tCons te tNil)) tNil)))) (ht : te = tE g E ma) : PS X (.Expr e pos) (tS g E Hb (mAppPop i j ma)) := by
  subst ht
  refine weakS h fun Dn σ H ⟨O, env, τ, S, b, h⟩ => ?_
  unfold mAppPop at h
  split at h
  · rename_i ds es eo eq
    split at h
    · exact h.elim
    · rename_i hij
      obtain ⟨p, vs, ep, hp, r, m, n1, n2, n3⟩ := S.ownL eo
      obtain ⟨q, us, eq', hq, r', m', n1', n2', n3'⟩ := S.ownL eq
      have npq : p ≠ q := fun z => hij (by subst z; exact S.inj i j _ _ p eo eq ep eq')
      refine ⟨.ref p, ep, .inl ⟨rfl, vs, .of hp⟩, .ref q, eq', .inl ⟨rfl, us, .of hq⟩, lend_red ?_⟩
      refine goS S b h fun d τ1 v H1 e1 p1 S1 b1 d1 h1 => ?_
      cases d with
      | int k =>
        have ev := d1.intE; subst ev
        have hp1 : H1 p = some (.lst vs) := p1.keep _ _ n1 n2 hp
        have hq1 : H1 q = some (.lst us) := p1.keep _ _ n1' n2' hq
        have r1 := Dats.mono (p1.sub S.tO.1 S.tO.2.1) _ _ r
        have r1' := Dats.mono (p1.sub S.tO.1 S.tO.2.1) _ _ r'
        dsimp only at h1
        split at h1
        · rename_i hk
          split at h1
          · rename_i d ed
            obtain ⟨u, eu, ru⟩ := r1'.get ed
            have hlt := (List.getElem?_eq_some_iff.mp eu).1
            have hsi : seqIndex? k us.length = some k.toNat := seqIndex_of (by omega) (by omega)
            refine ⟨q, us, k, k.toNat, u, rfl, rfl, hq1, by omega, by omega, hsi, eu, ?_⟩
            refine ⟨p, vs, u, rfl, rfl, by rw [upd_ne npq]; exact hp1, line_lt (by rw [r1.length]; exact hk.1), ?_⟩
            have S2 := S1.write eq eq' hq1 (r1'.erase k.toNat) m' n1' n2' n3'
            have eo2 : (env.set j (some (.own (.lst (es.eraseIdx k.toNat)))))[i]? = some (some (.own (.lst ds))) := by rw [List.getElem?_set_ne (Ne.symm hij)]; exact eo
            have sb : Sub (hid H1 O) (hid (upd H1 q (.lst (us.eraseIdx k.toNat))) O) := sub_write m'
            have S3 := S2.write eo2 ep (show (upd H1 q (.lst (us.eraseIdx k.toNat))) p = some (.lst vs) by rw [upd_ne npq]; exact hp1) ((Dats.mono sb _ _ r1).append (Dats.cons (Dat.mono sb _ _ ru) Dats.nil)) m n1 n2 n3
            exact h1 σ _ O (sb.trans (sub_write m)) ((b1.write m' n1' n2' n3').write m n1 n2 n3) S3
          · exact h1.elim
        · exact h1.elim
      | _ => exact False.elim h1
  · exact h.elim
theorem c_setIx {i : Nat} {te tk : TE} {tg : Expr} (h : PS X (.Assign [tg] e pos) (tAsg te (gSub (tVar i) tk rSetL))) (ht : te = tE g E ma) (hk : tk = tE g E mb) : PS X (.Assign [tg] e pos) (tS g E Hb (mSetIx i mb ma)) := by
  subst ht; subst hk
  refine weakS h fun Dn σ H ⟨O, env, τ, S, b, h⟩ => ?_
  unfold mSetIx at h
  split at h
  · rename_i ds0 eo0
    refine goS S b h fun d τ1 v H1 e1 p1 S1 b1 d1 h1 => ?_
    obtain ⟨p, vs, es, hp, r, m, n1, n2, n3⟩ := S1.ownL eo0
    refine ⟨.ref p, es, ?_⟩
    refine goS S1 b1 h1 fun x τ2 w H2 e2 p2 S2 b2 d2 h2 => ?_
    cases x with
    | int k =>
      have ew := d2.intE; subst ew
      rw [eo0] at h2
      dsimp only at h2
      have hp2 : H2 p = some (.lst vs) := p2.keep _ _ n1 n2 hp
      have r2 := Dats.mono (p2.sub S.tO.1 S.tO.2.1) _ _ r
      have d1' := Dat.mono (p2.sub S.tO.1 S.tO.2.1) _ _ d1
      split at h2
      · rename_i j ej
        refine ⟨p, vs, k, j, rfl, rfl, hp2, by rw [r2.length]; exact ej, ?_⟩
        exact h2 σ _ O (sub_write m) (b2.write m n1 n2 n3) (S2.write eo0 es hp2 (r2.set d1' j) m n1 n2 n3)
      · exact h2.elim
    | _ => exact False.elim h2
  · exact h.elim
/-! a, b = x, y -/
inductive Rhs where
  | v (a : M D) | f (a : M (List D))
def mRhs : Rhs → Env → Tape → R Slot
  | .v a => fun env τ => (a env τ).bind fun d τ1 => .ok (.val d) τ1
  | .f a => fun env τ => (a env τ).bind fun ds τ1 => .ok (.own (.lst ds)) τ1
def tRhs (g : Gc) (E : XK) : Rhs → TE
  | .v a => tE g E a
  | .f a => tF g E a
/-- a pair of stores: the first value is made ahead of the second one -/
def mPar (i j : Nat) (a b : Rhs) : SM := fun env τ => (mRhs a env τ).bind fun x τ1 => (mRhs b env τ1).bind fun y τ2 => .ok (.nx ((env.set i (some x)).set j (some y))) τ2
/-- a value that is to be stored: an own one is new since H0 -/
inductive SlotAt (g : Gc) (H0 H : Hp) (O : List Addr) : Slot → V → Prop
  | val {d : D} {v : V} : Dat g (hid H O) d v → SlotAt g H0 H O (.val d) v
  | own {ds : List D} {p : Addr} {vs : List V} : H0 p = none → p ∈ O → p ≠ g.T → p ≠ g.L → p ∉ g.O0 → H p = some (.lst vs) → Dats g (hid H O) ds vs → SlotAt g H0 H O (.own (.lst ds)) (.ref p)
theorem R.bind_ok {α β γ : Type} (r : R α) (f : α → β) (F : β → Tape → R γ) : ((r.bind fun d τ1 => .ok (f d) τ1).bind F) = r.bind fun d τ1 => F (f d) τ1 := by
  cases r <;> rfl
theorem rhs_go {a : Rhs} {σ : L2.St} {H : Hp} {O : List Addr} {env : Env} {τ : Tape} {Dn : Ends} {F : Slot → Tape → R Out} {Q' : VK} (S : StRep g σ H O env τ) (b : BaseOk g Hb H O) (h : ResS g E Hb O H Dn ((mRhs a env τ).bind F))
    (k : ∀ x τ1 v H1 O1, Post g H H1 τ1 → Sub (hid H O) (hid H1 O1) → (∀ p ∈ O, p ∈ O1) → StRep g σ H1 O1 env τ1 → BaseOk g Hb H1 O1 → SlotAt g H H1 O1 x v → ResS g E Hb O1 H1 Dn (F x τ1) → Q' v H1) : tRhs g E a σ H Q' := by
  cases a with
  | v m =>
    have h' : ResS g E Hb O H Dn ((m env τ).bind fun d τ1 => F (.val d) τ1) := by
      rw [← R.bind_ok]; exact h
    refine goS S b h' fun d τ1 v H1 e1 p1 S1 b1 d1 h1 => ?_
    exact k (.val d) τ1 v H1 O p1 (p1.sub S.tO.1 S.tO.2.1) (fun _ z => z) S1 b1 (.val d1) h1
  | f m =>
    have h' : ResS g E Hb O H Dn ((m env τ).bind fun d τ1 => F (.own (.lst d)) τ1) := by
      rw [← R.bind_ok (f := fun d => Slot.own (.lst d))]; exact h
    refine goSF S b h' fun ds τ1 p vs H1 e1 n q a r b1 h1 => ?_
    have nO : p ∉ O := not_in_of_none S.dom n
    have sb := new_subO (O := O) n q S.tO.1 S.tO.2.1
    have S2 : StRep g σ H1 (p :: O) env τ1 := by
      have S3 := (S.newOwn (i := env.length) n q a r)
      have e1 : σ.set env.length (some (.ref p)) = σ := List.set_eq_of_length_le (by rw [S.len]; exact Nat.le_refl _)
      have e2 : env.set env.length (some (.own (.lst ds))) = env := List.set_eq_of_length_le (Nat.le_refl _)
      rw [e1, e2] at S3
      exact S3
    exact k (.own (.lst ds)) τ1 (.ref p) H1 (p :: O) q sb (fun x z => List.mem_cons_of_mem _ z) S2 b1 (.own n List.mem_cons_self (fun z => nO (z ▸ S.tO.1)) (fun z => nO (z ▸ S.tO.2.1)) (fun z => nO (S.t0.2 _ z)) a r) h1
theorem SlotAt.store {σ : L2.St} {H0 H : Hp} {O : List Addr} {env : Env} {τ : Tape} {x : Slot} {v : V} {i : Nat} (S : StRep g σ H O env τ) (h : SlotAt g H0 H O x v) (ap : ∀ (p : Addr), v = V.ref p → H0 p = none → ∀ (j : Nat) (e : D), env[j]? = some (some (.own e)) → σ[j]? ≠ some (some (V.ref p))) : StRep g (σ.set i (some v)) H O (env.set i (some x)) τ := by
  cases h with
  | val r => exact S.set r
  | own n m n1 n2 n3 a r => exact S.setOwn m n1 n2 n3 ⟨_, a, r⟩ fun j e _ ej => ap _ rfl n j e ej
theorem c_par {i j : Nat} {a b : Rhs} {tg : Expr} {ta : TA} (h : PS X (.Assign [tg] e pos) (tPar i j ta)) (ht : ta = tCons (tRhs g E a) (tCons (tRhs g E b) tNil)) : PS X (.Assign [tg] e pos) (tS g E Hb (mPar i j a b)) := by
  subst ht
  refine weakS h fun Dn σ H ⟨O, env, τ, S, b0, h⟩ => ?_
  refine rhs_go S b0 h fun x τ1 v H1 O1 p1 s1 k1 S1 b1 x1 h1 => ?_
  refine rhs_go S1 b1 h1 fun y τ2 w H2 O2 p2 s2 k2 S2 b2 y2 h2 => ?_
  refine ⟨v, w, rfl, ?_⟩
  have x2 : SlotAt g H H2 O2 x v := by
    cases x1 with
    | val r => exact .val (Dat.mono s2 _ _ r)
    | own n m n1 n2 n3 a r => exact .own n (k2 _ m) n1 n2 n3 (p2.keep _ _ n1 n2 a) (Dats.mono s2 _ _ r)
  have S3 := x2.store (i := i) S2 fun p _ n l e el z => by
    obtain ⟨b0, h0, m0, _⟩ := S.own l e el
    rw [z] at h0; cases h0
    obtain ⟨o, q⟩ := S.dom _ m0
    rw [n] at q; cases q
  have S4 := y2.store (i := j) S3 fun p _ n l e el z => by
    by_cases hl : i = l
    · subst hl
      by_cases hi : i < env.length
      · rw [List.getElem?_set_self hi] at el
        rw [List.getElem?_set_self (by rw [← S.len]; exact hi)] at z
        cases el
        cases z
        cases x1 with
        | own _ _ _ _ _ a _ => rw [n] at a; cases a
      · rw [List.getElem?_eq_none (by simpa using hi)] at el; cases el
    · rw [List.getElem?_set_ne hl] at el z
      obtain ⟨b0, h0, m0, _⟩ := S1.own l e el
      rw [z] at h0; cases h0
      obtain ⟨o, q⟩ := S1.dom _ m0
      rw [n] at q; cases q
  exact h2 _ H2 O2 (Sub.refl _) b2 S4
end
end Z
end
section
set_option Elab.async false
set_option linter.all false
set_option maxRecDepth 100000
namespace Z
open PySem PySem.Spec PyProof.Rows L2

/-- the same, with O hidden at the entry -/
abbrev Gc.at (g : Gc) (O : List Addr) : Gc := { g with O0 := O }
mutual
theorem dat_at {g : Gc} {O : List Addr} {H : Hp} : ∀ (d : D) (v : V), Dat (g.at O) H d v ↔ Dat g H d v
  | .non, v => by simp only [Dat]
  | .bl b, v => by simp only [Dat]
  | .int i, v => by simp only [Dat]
  | .str x, v => by simp only [Dat]
  | .tup ds, v => by
    simp only [Dat]
    exact ⟨fun ⟨a, vs, e, q, r⟩ => ⟨a, vs, e, q, (dats_at ds vs).1 r⟩, fun ⟨a, vs, e, q, r⟩ => ⟨a, vs, e, q, (dats_at ds vs).2 r⟩⟩
  | .lst ds, v => by
    simp only [Dat]
    exact ⟨fun ⟨a, vs, e, q, r⟩ => ⟨a, vs, e, q, (dats_at ds vs).1 r⟩, fun ⟨a, vs, e, q, r⟩ => ⟨a, vs, e, q, (dats_at ds vs).2 r⟩⟩
  | .dic ks ds, v => by
    simp only [Dat]
    exact ⟨fun ⟨a, kvs, e, q, f, r⟩ => ⟨a, kvs, e, q, f, (dats_at ds _).1 r⟩, fun ⟨a, kvs, e, q, f, r⟩ => ⟨a, kvs, e, q, f, (dats_at ds _).2 r⟩⟩
  | .ins c ds, v => by
    simp only [Dat]
    exact ⟨fun ⟨a, dx, fs, e, q, f, r⟩ => ⟨a, dx, fs, e, q, f, (dats_at ds _).1 r⟩, fun ⟨a, dx, fs, e, q, f, r⟩ => ⟨a, dx, fs, e, q, f, (dats_at ds _).2 r⟩⟩
  | .fn i, v => by simp only [Dat]
  | .cls i, v => by simp only [Dat]
  | .tape, v => by simp only [Dat]
  | .scr ns, v => by simp only [Dat]
theorem dats_at {g : Gc} {O : List Addr} {H : Hp} : ∀ (ds : List D) (vs : List V), Dats (g.at O) H ds vs ↔ Dats g H ds vs
  | [], vs => by simp only [Dats]
  | d :: ds, vs => by
    simp only [Dats]
    exact ⟨fun ⟨v, r, e, a, b⟩ => ⟨v, r, e, (dat_at d v).1 a, (dats_at ds r).1 b⟩, fun ⟨v, r, e, a, b⟩ => ⟨v, r, e, (dat_at d v).2 a, (dats_at ds r).2 b⟩⟩
end
theorem Post.re {g : Gc} {O : List Addr} {H H' : Hp} {τ : Tape} (p : Post (g.at O) H H' τ) : Post g H H' τ := ⟨p.keep, p.tp⟩
theorem Post.at {g : Gc} {O : List Addr} {H H' : Hp} {τ : Tape} (p : Post g H H' τ) : Post (g.at O) H H' τ := ⟨p.keep, p.tp⟩
theorem excAt_at {g : Gc} {O : List Addr} {H : Hp} {c : Nat} {p : Option D} {cls : Value} {dd : Option Addr} : ExcAt (g.at O) H c p cls dd ↔ ExcAt g H c p cls dd := by
  unfold ExcAt
  cases p with
  | none => exact Iff.rfl
  | some d =>
    constructor
    · rintro ⟨e, a, v, f, e1, e2, e3, e4⟩
      exact ⟨e, a, v, f, e1, e2, e3, (dat_at d v).1 e4⟩
    · rintro ⟨e, a, v, f, e1, e2, e3, e4⟩
      exact ⟨e, a, v, f, e1, e2, e3, (dat_at d v).2 e4⟩
theorem Res.at {g : Gc} {E : XK} {O0 O : List Addr} {H : Hp} {Q : VK} {r : R D} (h : Res g E (Dat g) O H Q r) : Res (g.at O0) E (Dat (g.at O0)) O H Q r := by
  cases r with
  | ok d τ => exact fun v H' p q => h v H' p.re ((dat_at d v).1 q)
  | exc c p τ => exact fun cls dd H' q x => h cls dd H' q.re (excAt_at.1 x)
  | fail => exact h.elim
/-- what a def does: data and the tape in, a datum and the tape out -/
abbrev Fn := List D → Tape → R D
/-- the promise of such a def with n parameters -/
def spM (g : Gc) (n : Nat) (φ : Fn) : Sp := fun vs H Q E => ∃ O ds τ, ds.length = n ∧ TapeAt g H τ ∧ (g.T ∈ O ∧ g.L ∈ O ∧ g.C ∉ O) ∧ (∀ a ∈ O, ∃ o, H a = some o ∧ NTup o) ∧ Dats (g.at []) (hid H O) ds vs ∧ Res (g.at []) E (Dat (g.at [])) O H Q (φ ds τ)
theorem spM_at {g : Gc} {O : List Addr} {n : Nat} {φ : Fn} : spM (g.at O) n φ = spM g n φ := rfl
theorem spM_len {g : Gc} {n : Nat} {φ : Fn} (vs : List V) (H : Hp) (Q : VK) (E : XK) (h : spM g n φ vs H Q E) : vs.length = n := by
  obtain ⟨O, ds, τ, l, _, _, _, r, _⟩ := h
  rw [r.length]; exact l
/-- a call: the written arguments, then the defaults -/
def mFn (n : Nat) (φ : Fn) (ds0 : List D) (ms : M (List D)) : M D := fun env τ => (ms env τ).bind fun ds τ1 => if (ds ++ ds0).length = n then φ (ds ++ ds0) τ1 else .fail
theorem call_red {X : Cx} {g : Gc} {E : XK} {n : Nat} {φ : Fn} {ds0 : List D} {dvs : List V} {ms : M (List D)} {σ : L2.St} {H : Hp} {Q : VK} (h0 : ∀ H, Dats g H ds0 dvs) (h : tE g E (mFn n φ ds0 ms) σ H Q) : tCall (spM g n φ) dvs E (tA g E ms) σ H Q := by
  obtain ⟨O, env, τ, S, h⟩ := h
  refine go S h fun ds τ1 vs H1 e1 p1 S1 d1 h1 => ?_
  by_cases hl : (ds ++ ds0).length = n
  · rw [if_pos hl] at h1
    exact ⟨O, ds ++ ds0, τ1, hl, S1.tp, S1.tO, S1.dom2, (dats_at _ _).2 (d1.append (h0 _)), h1.at⟩
  · rw [if_neg hl] at h1; exact h1.elim
section
variable {X : Cx} {CX : CXT} {k n : Nat} {f : Addr} {fd : FuncData} {ps : List Str} {dvs : List V} {ds : List Value} {E : XK} {x : Str} {p pos : Pos} {e : Expr} {es : List Expr} {g : Gc} {φ : Fn} {ms : M (List D)} {ds0 : List D}
theorem s_call (F : FnOk X.prog X.w X.K X.mg X.base CX k f fd ps (spM g n φ)) (hr : Room k X.A) (hg : Gl X x) (hm : X.mg x = some (.ref f)) (hk : PySem.W.keepIn X.K (.ref f) = true) (hb : Binds X.K fd ps ds) (hd : Vals dvs ds) (h0 : ∀ H, Dats g H ds0 dvs) (hx : Passes CX X E)
    (ha : PA X (e :: es) (tA g E ms)) (hdb : (x == ("__debug__" : Str)) = false := by decide) (he : starEach (e :: es) X.env = (false, eval e X.env) :: starEach es X.env := by rfl) (hpl : (backTo pos (starEach es X.env)).any (·.1) = false := by rfl) :
    PE X (.Call (.Name x p) (e :: es) [] pos) (tE g E (mFn n φ ds0 ms)) :=
  weakE (pe_call F hr hg hm hk hb hd hx ha hdb he hpl) fun σ H Q h => call_red (X := X) h0 h
/-- the entry -/
def env0 (N : Nat) (ds : List D) : Env := ds.map (fun d => some (.val d)) ++ List.replicate (N - ds.length) none
def runB (N : Nat) (m : SM) : Fn := fun ds τ => (m (env0 N ds) τ).bind fun o τ1 => match o with
  | .nx _ => .ok .non τ1
  | .ret d => .ok d τ1
  | _ => .fail
theorem env0_val {N : Nat} {ds : List D} {i : Nat} {s : Slot} (h : (env0 N ds)[i]? = some (some s)) : ∃ d, s = .val d ∧ ds[i]? = some d := by
  unfold env0 at h
  by_cases hi : i < ds.length
  · rw [List.getElem?_append_left (by simpa using hi), List.getElem?_map] at h
    cases e : ds[i]? with
    | none => rw [e] at h; cases h
    | some d => rw [e] at h; cases h; exact ⟨d, rfl, rfl⟩
  · rw [List.getElem?_append_right (by simpa using hi), List.getElem?_replicate] at h
    split at h <;> cases h
theorem start_val {N : List Str} {vs : List V} {i : Nat} {v : V} (h : vs[i]? = some v) : (L2.start N vs)[i]? = some (some v) := by
  have hi := (List.getElem?_eq_some_iff.mp h).1
  unfold L2.start
  rw [List.getElem?_append_left (by simpa using hi), List.getElem?_map, h]; rfl
theorem stRep_start {N : List Str} {vs : List V} {ds : List D} {H : Hp} {O : List Addr} {τ : Tape} (hl : ds.length ≤ N.length) (tp : TapeAt g H τ) (tO : g.T ∈ O ∧ g.L ∈ O ∧ g.C ∉ O) (dom : ∀ a ∈ O, ∃ o, H a = some o ∧ NTup o) (r : Dats g (hid H O) ds vs) :
    StRep (g.at O) (L2.start N vs) H O (env0 N.length ds) τ := by
  refine ⟨tp, tO, ⟨tO, fun a h => h⟩, ?_, dom, fun i d e => ?_, fun i d e => ?_, fun i j d e a h _ _ _ => ?_⟩
  · have l := r.length
    unfold env0 L2.start
    simp only [List.length_append, List.length_map, List.length_replicate]
    omega
  · obtain ⟨d', e1, e2⟩ := env0_val e
    cases e1
    obtain ⟨v, e3, r3⟩ := r.get e2
    exact ⟨v, start_val e3, (dat_at d v).2 r3⟩
  · obtain ⟨d', e1, _⟩ := env0_val e
    cases e1
  · obtain ⟨d', e1, _⟩ := env0_val h
    cases e1
theorem body_red {N : List Str} {m : SM} {vs : List V} {H : Hp} {Q : VK} {n : Nat} (hn : n ≤ N.length) (h : spM g n (runB N.length m) vs H Q E) : ∃ O, tS (g.at O) E H m { nx := fun _ H' => Q .non H', rt := Q } (L2.start N vs) H := by
  obtain ⟨O, ds, τ, l, tp, tO, dom, r, h⟩ := h
  refine ⟨O, O, env0 N.length ds, τ, stRep_start (by omega) tp tO dom ((dats_at _ _).1 r), ⟨fun _ _ _ _ h => h, fun a h => .inl h⟩, ?_⟩
  unfold runB at h
  cases e : m (env0 N.length ds) τ with
  | exc c p τ1 => rw [e] at h; exact fun cls dd H' p x => h cls dd H' (Post.at p.re) (excAt_at.2 (excAt_at.1 x))
  | fail => rw [e] at h; exact h
  | ok o τ1 =>
    rw [e] at h
    cases o with
    | nx e1 => exact fun σ' H' O' s b S => h .non H' ⟨b.keep, S.tp⟩ Dat.n
    | ret d => exact fun v H' p q => h v H' (Post.at p.re) ((dat_at d v).2 ((dat_at d v).1 q))
    | bk e1 => exact h.elim
    | ct e1 => exact h.elim
end
/-- a def keeps its promise -/
theorem ok_def {P : Program} {w : World} {K : PySem.W.Frag} {mg : Str → Option Value} {base : Heap} {x qual : Str} {params : Arguments} {body : List Stmt} {scope : Scope} {dvs : List V} {kws : List (Str × V)} {f : Addr} {fd : FuncData} {CX : CXT} {N ps : List Str} {k : Nat} {g : Gc} {m : SM}
    (F : FunD K x qual params body scope dvs kws f fd) (S : FnScope N ps scope) (hn : ps.length ≤ N.length)
    (hb : ∀ (O : List Addr) (cdv : Value) (A : Around) (outer : List PySem.Env) (s : Shared) (H : Hp) (E : XK), Room k (A.deeper (envOfC qual scope s.heap.objs.size f cdv)) → PSs (cxOf CX P w K mg base N qual scope f cdv A outer s H E) body (tS (g.at O) E H m)) :
    FnOk P w K mg base CX (k + 1) f fd ps (spM g ps.length (runB N.length m)) := by
  refine F.ok S (fun vs H Q E h => spM_len vs H Q E h) fun cdv A outer s H vs Q E hr h => ?_
  obtain ⟨O, h⟩ := body_red hn h
  exact ⟨_, hb O cdv A outer s H E hr, h⟩
end Z
end
section
set_option Elab.async false
set_option linter.all false
set_option maxRecDepth 100000
namespace Z
open PySem PySem.Spec PyProof.Rows L2 PySem.W

/-! ### sorting, as lists -/
section
variable {α : Type} {le : α → α → Bool}
def ins (le : α → α → Bool) (x : α) : List α → List α
  | [] => [x]
  | y :: ys => if le x y then x :: y :: ys else y :: ins le x ys
def isort (le : α → α → Bool) : List α → List α
  | [] => []
  | x :: xs => ins le x (isort le xs)
theorem ins_mem {x z : α} : ∀ {l : List α}, z ∈ ins le x l → z = x ∨ z ∈ l
  | [], h => by simp [ins] at h; exact .inl h
  | y :: ys, h => by
    unfold ins at h
    split at h
    · rcases List.mem_cons.mp h with e | e
      · exact .inl e
      · exact .inr e
    · rcases List.mem_cons.mp h with e | e
      · exact .inr (by rw [e]; exact List.mem_cons_self)
      · rcases ins_mem e with e | e
        · exact .inl e
        · exact .inr (List.mem_cons_of_mem _ e)
theorem ins_pw (t : TotalLe le) {x : α} : ∀ {l : List α}, l.Pairwise (fun a b => le a b = true) → (ins le x l).Pairwise (fun a b => le a b = true)
  | [], _ => by simp [ins]
  | y :: ys, h => by
    unfold ins
    obtain ⟨h1, h2⟩ := List.pairwise_cons.mp h
    split
    · rename_i e
      refine List.pairwise_cons.mpr ⟨fun z hz => ?_, h⟩
      rcases List.mem_cons.mp hz with q | q
      · rw [q]; exact e
      · exact t.trans _ _ _ e (h1 z q)
    · rename_i e
      refine List.pairwise_cons.mpr ⟨fun z hz => ?_, ins_pw t h2⟩
      rcases ins_mem hz with q | q
      · rw [q]
        rcases t.total x y with q | q
        · exact absurd q e
        · exact q
      · exact h1 z q
theorem isort_pw (t : TotalLe le) : ∀ l : List α, (isort le l).Pairwise (fun a b => le a b = true)
  | [] => by simp [isort]
  | x :: xs => ins_pw t (isort_pw t xs)
theorem ins_filter (t : TotalLe le) {x c : α} : ∀ l : List α, (ins le x l).filter (sameRank le c) = (x :: l).filter (sameRank le c)
  | [] => rfl
  | y :: ys => by
    unfold ins
    split
    · rfl
    · rename_i e
      have ih := ins_filter t (x := x) (c := c) ys
      by_cases h1 : sameRank le c x = true
      · have h2 : sameRank le c y = false := by
          cases q : sameRank le c y with
          | false => rfl
          | true =>
            simp only [sameRank, Bool.and_eq_true] at h1 q
            exact absurd (t.trans _ _ _ h1.2 q.1) e
        rw [List.filter_cons, h2, ih]
        simp only [Bool.false_eq_true, if_false]
        rw [List.filter_cons, List.filter_cons, List.filter_cons, h1, h2]
        simp
      · have h1' : sameRank le c x = false := by simpa using h1
        rw [List.filter_cons, ih, List.filter_cons, List.filter_cons, List.filter_cons, h1']
        simp
theorem isort_filter (t : TotalLe le) (c : α) : ∀ l : List α, (isort le l).filter (sameRank le c) = l.filter (sameRank le c)
  | [] => rfl
  | x :: xs => by
    show (ins le x (isort le xs)).filter _ = _
    rw [ins_filter t, List.filter_cons, List.filter_cons, isort_filter t c xs]
theorem isort_eq (t : TotalLe le) (l : List α) : isort le l = l.mergeSort le := sort_unique t (isort_pw t l) fun c => isort_filter t c l
theorem isort_map {β : Type} {r : α → α → Bool} {s : β → β → Bool} (f : α → β) (h : ∀ a b, r a b = s (f a) (f b)) : ∀ l : List α, (isort r l).map f = isort s (l.map f)
  | [] => rfl
  | x :: xs => by
    show (ins r x (isort r xs)).map f = ins s (f x) (isort s (xs.map f))
    rw [← isort_map f h xs]
    have : ∀ m : List α, (ins r x m).map f = ins s (f x) (m.map f) := fun m => by
      induction m with
      | nil => rfl
      | cons y ys ih =>
        rw [List.map_cons]
        unfold ins
        rw [← h x y]
        split
        · rfl
        · rw [List.map_cons, ih]
    exact this _
theorem ins_perm {x : α} : ∀ {l : List α}, (ins le x l).Perm (x :: l)
  | [] => .refl _
  | y :: ys => by
    unfold ins
    split
    · exact .refl _
    · exact ((ins_perm (l := ys)).cons y).trans (List.Perm.swap x y ys)
theorem isort_perm : ∀ l : List α, (isort le l).Perm l
  | [] => .refl _
  | x :: xs => ins_perm.trans ((isort_perm xs).cons x)
end
/-- not greater -/
def dle : D → D → Bool := dataLe false toP
theorem dle_total : TotalLe dle := by
  unfold dle dataLe
  exact sortLe_total _ _ _
def tup0 : D → Bool
  | .tup _ => true
  | _ => false
def tup1 : D → Bool
  | .tup (_ :: _) => true
  | _ => false
def sortOk (l : List D) : Bool := okDs 58 l && decide (l.length ≤ line) && (l.all fun d => l.all fun e => alike (toP d) (toP e)) && (l.all tup1 || (l.all fun d => !isNon d && !tup0 d) || (decide (l.length ≤ 1) && l.all fun d => !isNon d))
/-- sorted(l) -/
def fSort : List D → Option (List D)
  | [.lst l] => if sortOk l then some (isort dle l) else none
  | [.tup l] => if sortOk l then some (isort dle l) else none
  | _ => none
section
variable {prog : Program} {w : World} {A : Around} {E : Value → Shared → Prop} {s : Shared} {β : Type} {vs : List Value} {bs : List β} {enc : β → PyData} {R : Value → β → Prop}
/-- one item, not None: nothing is compared with another -/
theorem sortsAt_one {vs : List Value} {ds : List PyData} (e : EachIs (fun v d => ∃ as, Reads s.heap v d as) vs ds) (hal : AllAlike ds) (hl : vs.length ≤ 1) (hn : ∀ d ∈ ds, d ≠ .none) (hu : ∀ d, d ∈ ds → A.units + d.depth < cLine) : SortsAt prog w A s (dataKind s.heap ds) vs := by
  refine ⟨fun v hv => ?_, general', fun E x y a b Q ha hb hq => ?_, fun h2 => absurd h2 (by omega)⟩
  · obtain ⟨d, hd, as, r⟩ := e.left v hv
    exact ⟨_, dataKind_some hal hd r⟩
  · obtain ⟨d, as, hd, ra, rfl⟩ := dataKind_inv ha
    obtain ⟨d', as', hd', rb, rfl⟩ := dataKind_inv hb
    show wpAny (model prog w) A (oneLt' false x y) Q E s
    exact oneLt_alike (fun z => nomatch z) ra rb (hal d hd d' hd') (hn d hd) (Nat.lt_of_le_of_lt (Nat.add_le_add_left (Nat.min_le_left _ _) _) (hu d hd)) hq
theorem lsort {a : Addr} {n : Nat} {Q : Value → Shared → Prop} (ho : s.heap.get? a = some (seqObj "list" vs.toArray n)) (e : EachIs R vs bs) (er' : EachIs (fun v b => ∃ as, Reads (sortingHeap s.heap a vs) v (enc b) as) vs bs) (hal : AllAlike (bs.map enc)) (hk : Sortable (bs.map enc) ∨ (bs.length ≤ 1 ∧ ∀ d ∈ bs.map enc, d ≠ .none)) (hL : bs.length ≤ sizeLine)
    (hu : ∀ b, b ∈ bs → A.units + 1 + (enc b).depth < cLine) (h : ∀ out, out.length = bs.length → EachIs R out (bs.mergeSort (dataLe false enc)) → Q .none { s with heap := sortedHeap s.heap a vs (List.toArray out) }) :
    wpAny (model prog w) A (call (.builtin "list.sort") [.ref a]) Q E s := by
  have em := each_map (R := fun v d => ∃ as, Reads (sortingHeap s.heap a vs) v d as) enc er'
  have S : SortsAt prog w A.in1 { s with heap := sortingHeap s.heap a vs } (dataKind (sortingHeap s.heap a vs) (bs.map enc)) vs := by
    rcases hk with hk | ⟨hk, hn⟩
    · exact SortsAt.data (s := { s with heap := sortingHeap s.heap a vs }) em hal hk (bound_map hu)
    · exact sortsAt_one (s := { s with heap := sortingHeap s.heap a vs }) em hal (by rw [e.length]; exact hk) hn (bound_map hu)
  refine wpAny_call_entry slot_list_sort ⟨_, ho, rfl⟩ entry_list_sort (list_sort_vals (κ := dataKind (sortingHeap s.heap a vs) (bs.map enc)) ho S (by rw [e.length]; exact hL) ⟨.none, rfl, ?_⟩) (args_list_sort _)
  exact h _ (by rw [sortVals_length false rfl]; exact e.length) (sortVals_data false e er' hal)
theorem collect_tup {l : Addr} {Q : List Value → Shared → Prop} (hl : s.heap.IsTuple l vs.toArray)
    (h : Q vs { s with heap := (s.heap.push (seqObj "list" #[] 0)).update s.heap.objs.size (Obj.mapSeq (· ++ vs.toArray)) }) (hsz : vs.length ≤ sizeLine) :
    wpAny (model prog w) A (collect (.ref l)) Q E s := by
  obtain ⟨o, ho, hc, n, hd⟩ := id hl
  unfold collect
  refine wpAny_bind (wpAny_runValue (codeAny_builtin entry_proto_collect' ?_))
  show wpAny _ _ (do again (.builtin "list.__iadd__" ⟨[← newList [], .ref l], []⟩)) _ _ s
  refine wpAny_bind (wpAny_newList (wpAny_pure ⟨Code.quiet_builtin _ (by decide +kernel), codeAny_builtin entry_list_iadd' ?_⟩))
  show wpAny _ _ (Builtin.List.listExtendWith (.ref s.heap.objs.size) (.ref l) (.ref s.heap.objs.size)) _ _ { s with heap := s.heap.push (seqObj "list" #[] 0) }
  unfold Builtin.List.listExtendWith
  have ho' : (s.heap.push (seqObj "list" #[] 0)).get? l = some o := Heap.get?_push_of_some _ ho
  refine wpAny_bind (wpAny_typeOf (T := "tuple") ⟨o, ho', hc⟩ ?_)
  have ht : (Value.type "tuple" == Value.type "tuple") = true := by rfl
  rw [if_pos (by rw [ht]; simp)]
  refine wpAny_bind (listItems_at ho' hd ?_)
  refine wpAny_bind (listItems_at (xs := #[]) (n := 0) (Heap.get?_push_size _ rfl) rfl ?_)
  rw [if_neg (by simp)]
  refine wpAny_bind (listUpdate_at (xs := #[]) (n := 0) (Heap.get?_push_size _ rfl) rfl ?_ (Nat.zero_le _) (by show (#[] ++ vs.toArray).size ≤ sizeLine + 1; simp only [Array.size_append, List.size_toArray, List.length_nil]; omega))
  refine wpAny_pure ?_
  show wpAny (model prog w) A (do
      let o ← load s.heap.objs.size
      match o.data with
      | .seq xs _ => pure xs.toList
      | _ => unsupported "internal:collect") Q E { s with heap := (s.heap.push (seqObj "list" #[] 0)).update s.heap.objs.size (Obj.mapSeq (· ++ vs.toArray)) }
  refine wpAny_bind (wpAny_load (get?_update_seq (Heap.get?_push_size _ rfl) _) ?_)
  show wpAny _ _ (pure ((#[] : Array Value) ++ vs.toArray).toList) Q E _
  rw [show ((#[] : Array Value) ++ vs.toArray).toList = vs by simp]
  exact wpAny_pure h
/-- sorted(u), u any iterable whose items are vs -/
theorem sorted_gen {u : Value} {Q : Value → Shared → Prop}
    (hcol : ∀ (R : List Value → Shared → Prop), (∀ h' tk, (∀ b o, s.heap.get? b = some o → h'.get? b = some o) → R vs { s with heap := h', toks := tk }) → wpAny (model prog w) A.in1 (collect u) R E s)
    (e : EachIs R vs bs) (er : EachIs (fun v b => ∃ as, Reads s.heap v (enc b) as) vs bs) (hal : AllAlike (bs.map enc)) (hk : Sortable (bs.map enc) ∨ (bs.length ≤ 1 ∧ ∀ d ∈ bs.map enc, d ≠ .none)) (hL : bs.length ≤ sizeLine) (hu : ∀ b, b ∈ bs → A.units + 2 + (enc b).depth < cLine)
    (h : ∀ (h2 h' : Heap) (tk : Nat) (out : List Value) (n : Nat), (∀ b o, s.heap.get? b = some o → h2.get? b = some o) → (∀ b o, h2.get? b = some o → h'.get? b = some o) → h'.get? h2.objs.size = some (seqObj "list" (List.toArray out) n) → out.length = bs.length → EachIs R out (bs.mergeSort (dataLe false enc)) → Q (.ref h2.objs.size) { s with heap := h', toks := tk }) :
    wpAny (model prog w) A (call (.builtin "sorted") [u]) Q E s := by
  refine Calls.call_function_entry PyProof.Rows.kind_sorted PyProof.Rows.plain_sorted PyProof.Rows.entry_sorted (PyProof.Rows.args_sorted1 _) ?_
  unfold Builtin.«sorted»
  refine wpAny_bind (m := checkCount "sorted" 1 1 _) (wpAny_pure ?_)
  refine wpAny_bind (hcol _ fun h' tk kp => ?_)
  refine wpAny_bind (wpAny_newList ?_ (by rw [e.length]; exact hL))
  have hoL : (h'.push (seqObj "list" vs.toArray 0)).get? h'.objs.size = some (seqObj "list" vs.toArray 0) := Heap.get?_push_size _ rfl
  have ks : ∀ b o, s.heap.get? b = some o → (sortingHeap (h'.push (seqObj "list" vs.toArray 0)) h'.objs.size vs).get? b = some o := fun b o q =>
    sortingHeap_old (Nat.ne_of_lt (Heap.lt_size (kp _ _ q))) (Heap.get?_push_of_some _ (kp _ _ q))
  show wpAny _ _ _ _ _ { s with heap := h'.push (seqObj "list" vs.toArray 0), toks := tk }
  refine wpAny_bind (wpAny_holding (lsort (s := { s with heap := h'.push (seqObj "list" vs.toArray 0), toks := tk }) hoL e (er.mono fun _ _ ⟨as, r⟩ => ⟨as, PyProof.Rows.Reads.keeps ks r⟩) hal hk hL hu fun out hl ho => ?_))
  obtain ⟨n, hn⟩ := PyProof.Rows.sortedHeap_at (vs := vs) (out := List.toArray out) hoL
  refine wpAny_pure ⟨_, rfl, ?_⟩
  refine h h' _ tk out n kp (fun b o q => ?_) hn hl ho
  have hb : b < h'.objs.size := Heap.lt_size q
  rw [PyProof.Rows.sortedHeap_old (Nat.ne_of_lt hb) (by rw [size_push']; exact Nat.lt_succ_of_lt hb)]
  exact Heap.get?_push_of_some _ q
/-! ### as a rule -/
def rSrt (g : Gc) : List V → Hp → VK → Prop := fun xs H Q => ∃ (a : Addr) (ps : List (D × V)), xs = [.ref a] ∧ (SqL g.K H a (ps.map (·.2)) ∨ SqT g.K H a (ps.map (·.2))) ∧ (∀ p ∈ ps, Dp g.K H p.2 (toP p.1)) ∧ sortOk (ps.map (·.1)) = true ∧
  ∀ q, H q = none → Q (.ref q) (upd H q (.lst ((isort (fun a b => dle a.1 b.1) ps).map (·.2))))
theorem okDs_mem : ∀ {ds : List D} {n : Nat} {d : D}, okDs n ds = true → d ∈ ds → okD n d = true
  | [], _, _, _, h => nomatch h
  | x :: xs, n, d, h, m => by
    simp only [okDs, Bool.and_eq_true] at h
    rcases List.mem_cons.mp m with e | e
    · rw [e]; exact h.1
    · exact okDs_mem h.2 e
theorem vals_each {R : Value → D × V → Prop} (hR : ∀ u p, R u p → RelV p.2 u) : ∀ {us : List Value} {ps : List (D × V)}, EachIs R us ps → Vals (ps.map (·.2)) us
  | _, _, .nil => .nil
  | _, _, .cons a b => .cons (hR _ _ a) (vals_each hR b)
theorem each_vals : ∀ {us : List Value} {ps : List (D × V)}, Vals (ps.map (·.2)) us → EachIs (fun u p => RelV p.2 u ∧ p ∈ ps) us ps
  | _, [], .nil => .nil
  | _, p :: ps, .cons a b => .cons ⟨a, List.mem_cons_self⟩ ((each_vals b).mono fun _ _ h => ⟨h.1, List.mem_cons_of_mem _ h.2⟩)
theorem sortOk_use {l : List D} (h : sortOk l = true) : okDs 58 l = true ∧ l.length ≤ line ∧ AllAlike (l.map toP) ∧ (Sortable (l.map toP) ∨ (l.length ≤ 1 ∧ ∀ d ∈ l.map toP, d ≠ .none)) := by
  unfold sortOk at h
  simp only [Bool.and_eq_true, Bool.or_eq_true, decide_eq_true_eq] at h
  obtain ⟨⟨⟨h1, h2⟩, h3⟩, h4⟩ := h
  have nn : ∀ d : D, okD 58 d = true → isNon d = false → toP d ≠ .none := fun d ho hd z => by
    cases d <;> simp [toP, isNon] at hd z
  refine ⟨h1, h2, fun x hx y hy => ?_, ?_⟩
  · obtain ⟨d, hd, rfl⟩ := List.mem_map.mp hx
    obtain ⟨e, he, rfl⟩ := List.mem_map.mp hy
    exact List.all_eq_true.mp (List.all_eq_true.mp h3 d hd) e he
  · rcases h4 with (h4 | h4) | ⟨h4, h5⟩
    · refine .inl (.inl fun x hx => ?_)
      obtain ⟨d, hd, rfl⟩ := List.mem_map.mp hx
      have := List.all_eq_true.mp h4 d hd
      cases d with
      | tup l' =>
        cases l' with
        | nil => simp [tup1] at this
        | cons y ys => exact ⟨toP y, toPs ys, by simp [toP, toPs]⟩
      | _ => simp [tup1] at this
    · refine .inl (.inr fun x hx => ?_)
      obtain ⟨d, hd, rfl⟩ := List.mem_map.mp hx
      have q := List.all_eq_true.mp h4 d hd
      simp only [Bool.and_eq_true, Bool.not_eq_true'] at q
      refine ⟨nn d (okDs_mem h1 hd) q.1, fun xs z => ?_⟩
      cases d <;> simp [toP, tup0] at q z
    · refine .inr ⟨h4, fun x hx => ?_⟩
      obtain ⟨d, hd, rfl⟩ := List.mem_map.mp hx
      have q := List.all_eq_true.mp h5 d hd
      simp only [Bool.not_eq_true'] at q
      exact nn d (okDs_mem h1 hd) q
section
variable {X : Cx} {g : Gc}
theorem cr_srt (hK : X.K = g.K) (hu : X.A.units + 64 < cLine) : CallR X (.builtin "sorted") (rSrt g) := by
  intro pins s σ H xs us Q I r h
  obtain ⟨a, ps, rfl, hs, hd, hok, q⟩ := h
  obtain ⟨u, rfl, rx⟩ := vals1 r
  cases rx
  obtain ⟨k1, k2, k3, k4⟩ := sortOk_use hok
  rw [List.map_map] at k3 k4
  rw [List.length_map] at k2 k4
  have main : ∀ its : List Value, Vals (ps.map (·.2)) its → its.length ≤ sizeLine →
      (∀ (A : Around) (E : Value → Shared → Prop) (R : List Value → Shared → Prop), (∀ h' tk, (∀ b o, s.heap.get? b = some o → h'.get? b = some o) → R its { s with heap := h', toks := tk }) → wpAny (model X.prog X.w) A (collect (.ref a)) R E s) →
      wpAny (model X.prog X.w) X.A (call (.builtin "sorted") [.ref a]) (EP X pins σ Q) X.xe s := fun its rv hl hc => by
    have e := each_vals rv
    refine sorted_gen (R := fun u p => RelV p.2 u ∧ p ∈ ps) (enc := fun p : D × V => toP p.1) (hc _ _) e (e.mono fun u p hp => ?_) k3 k4 (line_le k2) (fun p hp => ?_) fun h2 h' tk out n kp1 kp2 hq hlen ho => ?_
    · exact Dp.reads I (toP p.1) p.2 u (by rw [hK]; exact hd p hp.2) hp.1
    · have := (okD_lay p.1 58 (okDs_mem k1 (List.mem_map_of_mem hp))).2
      show X.A.units + 2 + (toP p.1).depth < cLine
      omega
    · have I1 : Inv X pins σ H { s with heap := h2, toks := tk } := I.kept kp1
      have hn : H h2.objs.size = none := I1.hok.fresh (Nat.le_refl _)
      have er : isort (fun a b : D × V => dle a.1 b.1) ps = ps.mergeSort (dataLe false fun p : D × V => toP p.1) := isort_eq (le := dataLe false fun p : D × V => toP p.1) (by unfold dataLe; exact sortLe_total _ _ _) ps
      have hv : Vals ((isort (fun a b : D × V => dle a.1 b.1) ps).map (·.2)) out := by
        rw [er]; exact vals_each (fun _ _ z => z.1) ho
      refine ⟨.ref h2.objs.size, upd H h2.objs.size (.lst ((isort (fun a b : D × V => dle a.1 b.1) ps).map (·.2))), I1.laid (t' := tk) kp2 (Nat.le_refl _) ⟨?_, out, n, hv, hq⟩, rfl, q _ hn⟩
      rw [hv.length, hlen]; exact line_le k2
  rcases hs with hs | hs
  · obtain ⟨its, rv, p, hz⟩ := I.list (hK ▸ hs)
    refine main its rv (by rw [← rv.length]; exact hz) fun A E R hR => ?_
    refine collect_list p.isList (hR _ _ fun b o e => ?_) (by rw [← rv.length]; exact hz)
    rw [Heap.get?_update_ne _ _ _ _ (Nat.ne_of_lt (Heap.lt_size e))]
    exact Heap.get?_push_of_some _ e
  · obtain ⟨its, rv, p, hz⟩ := I.tuple (hK ▸ hs)
    refine main its rv (by rw [← rv.length]; exact hz) fun A E R hR => ?_
    refine collect_tup (show s.heap.IsTuple a its.toArray from p) (hR _ _ fun b o e => ?_) (by rw [← rv.length]; exact hz)
    rw [Heap.get?_update_ne _ _ _ _ (Nat.ne_of_lt (Heap.lt_size e))]
    exact Heap.get?_push_of_some _ e
theorem dats_zip {H : Hp} : ∀ {ds : List D} {vs : List V}, Dats g H ds vs → (ds.zip vs).map (·.1) = ds ∧ (ds.zip vs).map (·.2) = vs ∧ ∀ p ∈ ds.zip vs, Dat g H p.1 p.2
  | [], vs, h => by simp only [Dats] at h; subst h; exact ⟨rfl, rfl, fun p h => by simp at h⟩
  | d :: ds, vs, h => by
    simp only [Dats] at h
    obtain ⟨v, r, rfl, a, b⟩ := h
    obtain ⟨e1, e2, e3⟩ := dats_zip b
    refine ⟨by simp [e1], by simp [e2], fun p hp => ?_⟩
    rw [List.zip_cons_cons] at hp
    rcases List.mem_cons.mp hp with e | e
    · rw [e]; exact a
    · exact e3 p e
theorem dats_of {H : Hp} : ∀ {ps : List (D × V)}, (∀ p ∈ ps, Dat g H p.1 p.2) → Dats g H (ps.map (·.1)) (ps.map (·.2))
  | [], _ => Dats.nil
  | p :: ps, h => Dats.cons (h p List.mem_cons_self) (dats_of fun q hq => h q (List.mem_cons_of_mem _ hq))
theorem cf_srt : CallF g fSort (rSrt g) := by
  intro O H xs zs vs Q dom e d k
  have main : ∀ (l : List D) (a : Addr) (ws : List V), (if sortOk l = true then some (isort dle l) else none) = some zs → (SqL g.K H a ws ∨ SqT g.K H a ws) → Dats g (hid H O) l ws → rSrt g [.ref a] H Q := fun l a ws e hs r => by
    split at e
    · rename_i ho
      cases e
      obtain ⟨e1, e2, e3⟩ := dats_zip r
      refine ⟨a, l.zip ws, rfl, by rw [e2]; exact hs, fun p hp => ?_, by rw [e1]; exact ho, fun q hq => ?_⟩
      · refine dp_of p.1 58 p.2 (okDs_mem (sortOk_use ho).1 (List.of_mem_zip (a := p.1) (b := p.2) hp).1) (Dat.mono hid_sub _ _ (e3 p hp))
      · have em := isort_map (r := fun a b : D × V => dle a.1 b.1) (s := dle) (·.1) (fun _ _ => rfl) (l.zip ws)
        rw [e1] at em
        refine k q _ _ hq (new_sub hq) upd_same ?_
        rw [← em]
        exact dats_of fun p hp => Dat.mono (hid_new hq) _ _ (e3 p ((isort_perm _).mem_iff.mp hp))
    · cases e
  unfold fSort at e
  split at e
  · obtain ⟨v, rfl, d1⟩ := d.one
    obtain ⟨a, us, rfl, hp, r⟩ := d1.lstE
    exact main _ a us e (.inl (.of (hid_some hp).1)) r
  · obtain ⟨v, rfl, d1⟩ := d.one
    obtain ⟨a, us, rfl, hp, r⟩ := d1.tupE
    exact main _ a us e (.inr (hid_sub.seqT hp)) r
  · cases e
end
end
end Z
end
section
set_option Elab.async false
set_option linter.all false
set_option maxRecDepth 100000
namespace Z
open PySem PySem.Spec PyProof.Rows L2

/-! ### fields, properties, methods -/
def ixOf (f : Str) : List Str → Option Nat
  | [] => none
  | x :: xs => if f = x then some 0 else (ixOf f xs).map (· + 1)
def fFld (f : Str) : D → Option D
  | .ins c ds => match ixOf f (clsF c) with
    | some i => ds[i]?
    | none => none
  | _ => none
def m1 (f : D → Option D) (a : M D) : M D := fun env τ => (a env τ).bind fun x τ1 => R.of (f x) τ1
theorem lookup_ix {f : Str} : ∀ {fs : List (Str × V)} {i : Nat} {v : V}, ixOf f (fs.map (·.1)) = some i → (fs.map (·.2))[i]? = some v → fs.lookup f = some v
  | [], i, v, h, _ => by simp [ixOf] at h
  | (x, u) :: fs, i, v, h, e => by
    rw [List.map_cons] at h e
    unfold ixOf at h
    by_cases q : f = x
    · rw [if_pos q] at h
      cases h
      have e2 : u = v := by simpa using e
      subst e2
      have hb : (f == x) = true := beq_iff_eq.mpr q
      simp only [List.lookup, hb]
    · rw [if_neg q] at h
      cases hi : ixOf f (fs.map (·.1)) with
      | none => rw [hi] at h; cases h
      | some j =>
        rw [hi] at h
        cases h
        have hb : (f == x) = false := beq_eq_false_iff_ne.mpr q
        simp only [List.lookup, hb]
        exact lookup_ix hi (by simpa using e)
theorem lookup_no {f : Str} : ∀ {fs : List (Str × V)}, ixOf f (fs.map (·.1)) = none → fs.lookup f = none
  | [], _ => rfl
  | (x, u) :: fs, h => by
    rw [List.map_cons] at h
    unfold ixOf at h
    by_cases q : f = x
    · rw [if_pos q] at h; cases h
    · rw [if_neg q] at h
      have hb : (f == x) = false := beq_eq_false_iff_ne.mpr q
      simp only [List.lookup, hb]
      refine lookup_no ?_
      cases hi : ixOf f (fs.map (·.1)) with
      | none => rfl
      | some j => rw [hi] at h; cases h
section
variable {X : Cx} {g : Gc} {E : XK} {ma : M D} {e : Expr} {f : Str} {pos apos : Pos} {CX : CXT} {k n : Nat} {fa : Addr} {fd : FuncData} {ps : List Str} {φ : Fn} {c : Nat} {ms : M (List D)} {es : List Expr}
theorem Dat.insE {H : Hp} {c : Nat} {ds : List D} {v : V} (h : Dat g H (.ins c ds) v) : ∃ a dx fs, v = .ref a ∧ H a = some (.ins (g.clsA c) dx fs) ∧ fs.map (·.1) = clsF c ∧ Dats g H ds (fs.map (·.2)) := by
  simpa only [Dat] using h
/-- e.f, a field of the class c -/
def fFldC (c : Nat) (f : Str) : D → Option D
  | .ins c' ds => if c' = c then fFld f (.ins c' ds) else none
  | _ => none
theorem s_fld (hK : X.K = g.K) (hc : Cls X.K (g.clsA c)) (hn : NoAttr X.K (g.clsA c) f) (ha : PE X e (tE g E ma)) (hb : attributeBase e f X.env (eval e X.env) = eval e X.env) : PE X (.Attribute e f pos) (tE g E (m1 (fFldC c f) ma)) := by
  refine weakE (pe_fld ha hb) fun σ H Q ⟨O, env, τ, S, h⟩ => ?_
  refine go S h fun x τ1 v H1 e1 p1 S1 d1 h1 => ?_
  cases x with
  | ins c' ds =>
    obtain ⟨a, dx, fs, rfl, q, fn, r⟩ := d1.insE
    unfold fFldC fFld at h1
    dsimp only at h1
    by_cases hcc : c' = c
    · subst hcc
      rw [if_pos rfl] at h1
      cases hi : ixOf f (clsF c') with
      | none => rw [hi] at h1; exact h1.elim
      | some i =>
        rw [hi] at h1
        dsimp only at h1
        cases hd : ds[i]? with
        | none => rw [hd] at h1; exact h1.elim
        | some d =>
          rw [hd] at h1
          obtain ⟨u, eu, ru⟩ := r.get hd
          exact ⟨a, _, dx, fs, u, rfl, (hid_some q).1, hc, hn, lookup_ix (by rw [fn]; exact hi) eu, h1 u H1 S1.post0 ru⟩
    · rw [if_neg hcc] at h1; exact h1.elim
  | _ => exact False.elim h1
/-- e.f, a property: the getter's promise -/
def fnOf1 (c : Nat) (φ : Fn) (ma : M D) : M D := fun env τ => (ma env τ).bind fun d τ1 => match d with
  | .ins c' ds => if c' = c then φ [.ins c' ds] τ1 else .fail
  | _ => .fail
theorem s_prop {p : Addr} (hc : Cls X.K (g.clsA c)) (hp : PropOf X.K (g.clsA c) f p fa) (F : FnOk X.prog X.w X.K X.mg X.base CX k fa fd ps (spM g 1 φ)) (hr : Room (k + 1) X.A) (hb : Binds X.K fd ps []) (hx : Passes CX X.nox E)
    (ha : PE X e (tE g E ma)) (hab : attributeBase e f X.env (eval e X.env) = eval e X.env) : PE X (.Attribute e f pos) (tE g E (fnOf1 c φ ma)) := by
  refine weakE (pe_prop (dvs := []) ha hc hp F hr hb .nil hx hab) fun σ H Q ⟨O, env, τ, S, h⟩ => ?_
  refine go S h fun x τ1 v H1 e1 p1 S1 d1 h1 => ?_
  cases x with
  | ins c' ds =>
    obtain ⟨a, dx, fs, rfl, q, fn, r⟩ := d1.insE
    dsimp only at h1
    by_cases hcc : c' = c
    · subst hcc
      rw [if_pos rfl] at h1
      exact ⟨a, dx, fs, rfl, (hid_some q).1, O, _, τ1, rfl, S1.tp, S1.tO, S1.dom2, (dats_at _ _).2 (Dats.cons d1 Dats.nil), h1.at⟩
    · rw [if_neg hcc] at h1; exact h1.elim
  | _ => exact False.elim h1
/-- o.m(), o.m(e, ..) of an instance of the class c -/
def mMeth (c n : Nat) (φ : Fn) (ma : M D) (ms : M (List D)) : M D := fun env τ => (ma env τ).bind fun d τ1 => match d with
  | .ins c' ds => if c' = c then (ms env τ1).bind fun xs τ2 => if xs.length + 1 = n then φ (.ins c' ds :: xs) τ2 else .fail else .fail
  | _ => .fail
theorem meth_red {m : Str} {σ : L2.St} {H : Hp} {Q : VK} (hm : ixOf m (clsF c) = none) (h : tE g E (mMeth c n φ ma ms) σ H Q) : tMeth (g.clsA c) m (spM g n φ) [] E (tE g E ma) (tA g E ms) σ H Q := by
  obtain ⟨O, env, τ, S, h⟩ := h
  refine go S h fun x τ1 v H1 e1 p1 S1 d1 h1 => ?_
  cases x with
  | ins c' ds =>
    obtain ⟨a, dx, fs, rfl, q, fn, r⟩ := d1.insE
    dsimp only at h1
    by_cases hcc : c' = c
    · subst hcc
      rw [if_pos rfl] at h1
      refine ⟨a, dx, fs, rfl, (hid_some q).1, lookup_no (by rw [fn]; exact hm), ?_⟩
      refine go S1 h1 fun xs τ2 vs H2 e2 p2 S2 d2 h2 => ?_
      by_cases hl : xs.length + 1 = n
      · rw [if_pos hl] at h2
        refine ⟨O, .ins c' ds :: xs, τ2, hl, S2.tp, S2.tO, S2.dom2, (dats_at _ _).2 (Dats.cons (Dat.mono (p2.sub S1.tO.1 S1.tO.2.1) _ _ d1) (by rw [List.append_nil]; exact d2)), h2.at⟩
      · rw [if_neg hl] at h2; exact h2.elim
    · rw [if_neg hcc] at h1; exact h1.elim
  | _ => exact False.elim h1
theorem s_meth {m : Str} {o : Expr} {pl : Sem Bool} (ho : PE X o (tE g E ma)) (hc : Cls X.K (g.clsA c)) (hm : Meth X.K (g.clsA c) m fa) (hf : ixOf m (clsF c) = none) (F : FnOk X.prog X.w X.K X.mg X.base CX k fa fd ps (spM g n φ)) (hr : Room k X.A) (hb : Binds X.K fd ps []) (hx : Passes CX X E)
    (ha : PA X (e :: es) (tA g E ms)) (hst : starEach (e :: es) X.env = (false, eval e X.env) :: starEach es X.env) (hpl : (backTo pos (starEach es X.env)).any (·.1) = false)
    (ht : eval (.Call (.Attribute o m apos) (e :: es) [] pos) X.env = (do
      let ov ← eval o X.env
      standAt apos.atName
      let (f, first) ← holding [ov] (getMethod ov m pl)
      callWith pos f first (backTo pos (starEach (e :: es) X.env)) (backToKw pos (keywordEach [] X.env)))) : PE X (.Call (.Attribute o m apos) (e :: es) [] pos) (tE g E (mMeth c n φ ma ms)) :=
  weakE (pe_meth (pl := pl) (dvs := []) ho hc hm F hr hb .nil hx ha hst hpl ht) fun σ H Q h => meth_red hf h
theorem s_meth0 {m : Str} {o : Expr} {pl : Sem Bool} (ho : PE X o (tE g E ma)) (hc : Cls X.K (g.clsA c)) (hm : Meth X.K (g.clsA c) m fa) (hf : ixOf m (clsF c) = none) (F : FnOk X.prog X.w X.K X.mg X.base CX k fa fd ps (spM g n φ)) (hr : Room k X.A) (hb : Binds X.K fd ps []) (hx : Passes CX X E)
    (ht : eval (.Call (.Attribute o m apos) [] [] pos) X.env = (do
      let ov ← eval o X.env
      standAt apos.atName
      let (f, first) ← holding [ov] (getMethod ov m pl)
      callWith pos f first (backTo pos (starEach [] X.env)) (backToKw pos (keywordEach [] X.env)))) : PE X (.Call (.Attribute o m apos) [] [] pos) (tE g E (mMeth c n φ ma (mRet []))) := by
  refine weakE (pe_meth0 (pl := pl) (dvs := []) ho hc hm F hr hb .nil hx ht) fun σ H Q h => ?_
  obtain ⟨O, env, τ, S, h⟩ := h
  refine go S h fun x τ1 v H1 e1 p1 S1 d1 h1 => ?_
  cases x with
  | ins c' ds =>
    obtain ⟨a, dx, fs, rfl, q, fn, r⟩ := d1.insE
    dsimp only at h1
    by_cases hcc : c' = c
    · subst hcc
      rw [if_pos rfl] at h1
      refine ⟨a, dx, fs, rfl, (hid_some q).1, lookup_no (by rw [fn]; exact hf), ?_⟩
      replace h1 : Res g E (Dat g) O H1 Q (if ([] : List D).length + 1 = n then φ [.ins c' ds] τ1 else .fail) := h1
      by_cases hl : ([] : List D).length + 1 = n
      · rw [if_pos hl] at h1
        exact ⟨O, [.ins c' ds], τ1, hl, S1.tp, S1.tO, S1.dom2, (dats_at _ _).2 (Dats.cons d1 Dats.nil), h1.at⟩
      · rw [if_neg hl] at h1; exact h1.elim
    · rw [if_neg hcc] at h1; exact h1.elim
  | _ => exact False.elim h1
end
end Z
end
section
set_option Elab.async false
set_option linter.all false
set_option maxRecDepth 100000
namespace Z
open PySem PySem.Spec PyProof.Rows L2

/-! ### isinstance -/
def bTy : D → Option String
  | .non => some "NoneType"
  | .bl _ => some "bool"
  | .int _ => some "int"
  | .str _ => some "str"
  | .tup _ => some "tuple"
  | .lst _ => some "list"
  | .dic _ _ => some "dict"
  | .tape => some "dict"
  | .scr _ => some "list"
  | _ => none
def fIsTy (n : String) (d : D) : Option D := match bTy d with
  | some t => (match kitB t n with
    | some b => some (.bl b)
    | none => none)
  | none => none
/-- isinstance(x, (A, B)) -/
def fIsTy2 (n m : String) (d : D) : Option D := match bTy d with
  | some t => (match kitB t n, kitB t m with
    | some true, _ => some (.bl true)
    | some false, some b => some (.bl b)
    | _, _ => none)
  | none => none
/-- isinstance(x, C), C the program's own class c -/
def fIsCl (c : Nat) (d : D) : Option D := match d with
  | .ins c' _ => if c' = c then some (.bl true) else none
  | d => (match bTy d with
    | some _ => some (.bl false)
    | none => none)
/-- no built-in is of the class -/
theorem bTy_tys {d : D} {t : String} (h : bTy d = some t) : t ∈ tys := by
  cases d <;> simp [bTy] at h <;> subst h <;> simp [tys]
section
variable {X : Cx} {g : Gc} {E : XK} {ma : M D} {e : Expr} {pos p p2 p3 : Pos}
theorem tyx_of {σ : L2.St} {H : Hp} {O : List Addr} {env : Env} {τ : Tape} {d : D} {v : V} {t : String} (S : StRep g σ H O env τ) (h : bTy d = some t) (r : Dat g (hid H O) d v) : TyX g.K H v (.type t) := by
  cases d with
  | non => cases h; have := r.nonE; subst this; exact .base .non
  | bl b => cases h; have := r.blE; subst this; exact .base (.bl _)
  | int i => cases h; have := r.intE; subst this; exact .base (.int _)
  | str x => cases h; have := r.strE; subst this; exact .base (.str _)
  | tup l =>
    cases h
    obtain ⟨a, vs, rfl, q, _⟩ := r.tupE
    have q := hid_sub.seqT q
    rcases q with (q | ⟨o, q⟩) | ⟨o, its, n, k, c, _⟩
    · exact .base (.tup q)
    · exact .fTuple q
    · exact .kTuple k c
  | lst l =>
    cases h
    obtain ⟨a, vs, rfl, q, _⟩ := r.lstE
    exact .base (.lst (hid_some q).1)
  | dic ks l =>
    cases h
    simp only [Dat] at r
    obtain ⟨a, kvs, rfl, q, _⟩ := r
    exact .base (.dT (hid_some q).1)
  | tape =>
    cases h
    simp only [Dat] at r
    subst r
    exact .base (.dK S.tp.1)
  | scr l =>
    cases h
    simp only [Dat] at r
    obtain ⟨a, rfl, q⟩ := r
    have q := hid_sub.seqL q
    rcases q with (q | ⟨o, q⟩) | ⟨o, its, n, k, c, _⟩
    · exact .base (.lst q)
    · exact .base (.frz q)
    · exact .kList k c
  | _ => cases h
theorem s_isTy {x : Str} {n : String} (hK : X.K = g.K) (hg : Gl X "isinstance") (hm : X.mg "isinstance" = none) (hg2 : Gl X x) (hm2 : X.mg x = none) (hv : bootBuiltins x = some (.type n)) (hn : x ≠ "__name__") (hd : (x == ("__debug__" : Str)) = false) (ha : PE X e (tE g E ma))
    (he : starEach [e, .Name x p2] X.env = (false, eval e X.env) :: starEach [.Name x p2] X.env) (he2 : starEach [.Name x p2] X.env = (false, eval (.Name x p2) X.env) :: starEach [] X.env) (hpl : (backTo pos (starEach [.Name x p2] X.env)).any (·.1) = false) :
    PE X (.Call (.Name "isinstance" p) [e, .Name x p2] [] pos) (tE g E (m1 (fIsTy n) ma)) := by
  refine weakE (pe_callB call_isi hg hm PyProof.Rows.boot_isinstance (pa_cons ha (pa_cons (pe_bltn (v := .ty n) hg2 hm2 hv rfl hn hd) pa_nil he2) he) (by decide) (by decide) he hpl) fun σ H Q ⟨O, env, τ, S, h⟩ => ?_
  refine go S h fun d τ1 v H1 e1 p1 S1 d1 h1 => ?_
  unfold fIsTy at h1
  cases ht : bTy d with
  | none => rw [ht] at h1; exact h1.elim
  | some t =>
    rw [ht] at h1
    dsimp only at h1
    cases hb : kitB t n with
    | none => rw [hb] at h1; exact h1.elim
    | some b =>
      rw [hb] at h1
      exact ⟨v, .ty n, .type t, .type n, b, rfl, .ty n, by rw [hK]; exact tyx_of S1 ht d1, kit_ty hb, h1 _ H1 S1.post0 Dat.b⟩
theorem s_isCl {x : Str} {c : Nat} (hK : X.K = g.K) (hg : Gl X "isinstance") (hm : X.mg "isinstance" = none) (hg2 : Gl X x) (hm2 : X.mg x = some (.ref (g.clsA c))) (hd : (x == ("__debug__" : Str)) = false) (nb : NotB X.K (g.clsA c)) (cl : Cls X.K (g.clsA c)) (h1 : PySem.W.findIn X.K (.ref (g.clsA c)) "__class__" = some (some (.builtin "object.__class__")))
    (h2 : PySem.W.specialIn X.K (.builtin "object.__class__") "__get__" = some (some (.builtin "getset_descriptor.__get__"))) (h3 : PySem.W.takesIn X.K (.builtin "object.__class__") = some true) (h4 : PySem.W.mroIn X.K (g.clsA c) (.type "object") = some true) (ha : PE X e (tE g E ma))
    (he : starEach [e, .Name x p2] X.env = (false, eval e X.env) :: starEach [.Name x p2] X.env) (he2 : starEach [.Name x p2] X.env = (false, eval (.Name x p2) X.env) :: starEach [] X.env) (hpl : (backTo pos (starEach [.Name x p2] X.env)).any (·.1) = false) :
    PE X (.Call (.Name "isinstance" p) [e, .Name x p2] [] pos) (tE g E (m1 (fIsCl c) ma)) := by
  refine weakE (pe_callB call_isi hg hm PyProof.Rows.boot_isinstance (pa_cons ha (pa_cons (pe_glob (v := .ref (g.clsA c)) hg2 hm2 rfl hd) pa_nil he2) he) (by decide) (by decide) he hpl) fun σ H Q ⟨O, env, τ, S, h⟩ => ?_
  refine go S h fun d τ1 v H1 e1 p1 S1 d1 q1 => ?_
  have bi : ∀ t, bTy d = some t → Q (.bl false) H1 → rIsi X.K [v, .ref (g.clsA c)] H1 Q := fun t ht q => ⟨v, .ref (g.clsA c), .type t, .ref (g.clsA c), false, rfl, .own _, by rw [hK]; exact tyx_of S1 ht d1, nb t (bTy_tys ht), q⟩
  have gen : ∀ t, bTy d = some t → fIsCl c d = some (.bl false) → rIsi X.K [v, .ref (g.clsA c)] H1 Q := fun t ht hf => by
    rw [hf] at q1
    exact bi t ht (q1 _ H1 S1.post0 Dat.b)
  cases d with
  | ins c' ds =>
    unfold fIsCl at q1
    dsimp only at q1
    by_cases hc : c' = c
    · subst hc
      rw [if_pos rfl] at q1
      obtain ⟨a, dx, fs, rfl, q, _⟩ := d1.insE
      refine ⟨.ref a, .ref (g.clsA c'), .ref (g.clsA c'), .ref (g.clsA c'), true, rfl, .own _, .base (.ins (hid_some q).1 cl h1 h2 h3 h4), ?_, q1 _ H1 S1.post0 Dat.b⟩
      unfold PySem.W.kitOne
      rw [if_pos (beq_self_eq_true _)]
    · rw [if_neg hc] at q1; exact q1.elim
  | fn i => exact False.elim q1
  | cls i => exact False.elim q1
  | non => exact gen _ rfl rfl
  | bl b => exact gen _ rfl rfl
  | int b => exact gen _ rfl rfl
  | str b => exact gen _ rfl rfl
  | tup b => exact gen _ rfl rfl
  | lst b => exact gen _ rfl rfl
  | dic b _ => exact gen _ rfl rfl
  | tape => exact gen _ rfl rfl
  | scr _ => exact gen _ rfl rfl
theorem s_isTy2 {x y : Str} {n m : String} {k : Nat} {tpos : Pos} (hK : X.K = g.K) (hg : Gl X "isinstance") (hm : X.mg "isinstance" = none) (hg2 : Gl X x) (hm2 : X.mg x = none) (hv : bootBuiltins x = some (.type n)) (hn : x ≠ "__name__") (hd : (x == ("__debug__" : Str)) = false)
    (hg3 : Gl X y) (hm3 : X.mg y = none) (hv3 : bootBuiltins y = some (.type m)) (hn3 : y ≠ "__name__") (hd3 : (y == ("__debug__" : Str)) = false) (ha : PE X e (tE g E ma))
    (he : starEach [e, .Tuple [.Name x p2, .Name y p3] k tpos] X.env = (false, eval e X.env) :: starEach [.Tuple [.Name x p2, .Name y p3] k tpos] X.env) (he1 : starEach [.Tuple [.Name x p2, .Name y p3] k tpos] X.env = (false, eval (.Tuple [.Name x p2, .Name y p3] k tpos) X.env) :: starEach [] X.env)
    (he2 : starEach [.Name x p2, .Name y p3] X.env = (false, eval (.Name x p2) X.env) :: starEach [.Name y p3] X.env) (he3 : starEach [.Name y p3] X.env = (false, eval (.Name y p3) X.env) :: starEach [] X.env) (hpl : (backTo pos (starEach [.Tuple [.Name x p2, .Name y p3] k tpos] X.env)).any (·.1) = false) :
    PE X (.Call (.Name "isinstance" p) [e, .Tuple [.Name x p2, .Name y p3] k tpos] [] pos) (tE g E (m1 (fIsTy2 n m) ma)) := by
  refine weakE (pe_callB call_isiT hg hm PyProof.Rows.boot_isinstance (pa_cons ha (pa_cons (pe_tup (pa_cons (pe_bltn (v := .ty n) hg2 hm2 hv rfl hn hd) (pa_cons (pe_bltn (v := .ty m) hg3 hm3 hv3 rfl hn3 hd3) pa_nil he3) he2)) pa_nil he1) he) (by decide) (by decide) he hpl) fun σ H Q ⟨O, env, τ, S, h⟩ => ?_
  refine go S h fun d τ1 v H1 e1 p1 S1 d1 h1 => ?_
  refine ⟨line_le (show 2 ≤ line by decide), fun q hq => ?_⟩
  unfold fIsTy2 at h1
  cases ht : bTy d with
  | none => rw [ht] at h1; exact h1.elim
  | some t =>
    rw [ht] at h1
    dsimp only at h1
    have sb : Sub H1 (upd H1 q (.tup [.ty n, .ty m])) := new_sub hq
    have S2 := S1.post (.of_sub sb S1.tp)
    have d2 := Dat.mono (hid_mono (O := O) sb) _ _ d1
    have ty := tyx_of S2 ht d2
    have ps : Paired ClsV [V.ty n, V.ty m] [Value.type n, Value.type m] := .cons (.ty n) (.cons (.ty m) .nil)
    cases hb : kitB t n with
    | none => rw [hb] at h1; exact h1.elim
    | some b =>
      rw [hb] at h1
      cases b with
      | true => exact ⟨v, q, _, .type t, _, true, rfl, upd_same, ps, by rw [hK]; exact ty, kitAny_cons (kit_ty hb) (fun z => nomatch z) (fun _ => rfl), h1 _ _ (.of_sub sb S1.tp) Dat.b⟩
      | false =>
        cases hb2 : kitB t m with
        | none => rw [hb2] at h1; exact h1.elim
        | some b2 =>
          rw [hb2] at h1
          exact ⟨v, q, _, .type t, _, b2, rfl, upd_same, ps, by rw [hK]; exact ty, kitAny_cons (kit_ty hb) (fun _ => kitAny_cons (kit_ty hb2) (fun z => by rw [z]; exact kitAny_nil) (fun z => z)) (fun z => nomatch z), h1 _ _ (.of_sub sb S1.tp) Dat.b⟩
end
end Z
end
section
set_option Elab.async false
set_option linter.all false
set_option maxRecDepth 100000
namespace Z
open PySem PySem.Spec PyProof.Rows L2

/-! ### __init__, where self is own -/
abbrev IM := Env → Tape → R Env
def ResX (g : Gc) (E : XK) (Hb : Hp) (x : Addr) (N : L2.St → Hp → Prop) : R Env → Prop
  | .ok e τ' => ∀ σ' H' O', σ'[0]? = some (some (.ref x)) → BaseOk g Hb H' O' → StRep g σ' H' O' e τ' → N σ' H'
  | .exc c p τ' => ∀ cls dd H', Post g Hb H' τ' → ExcAt g (hid H' (tapeO g)) c p cls dd → E cls dd H'
  | .fail => False
def tSx (g : Gc) (E : XK) (Hb : Hp) (x : Addr) (m : IM) : TS := fun Dn σ H => σ[0]? = some (some (.ref x)) ∧ ∃ O env τ, StRep g σ H O env τ ∧ BaseOk g Hb H O ∧ ResX g E Hb x Dn.nx (m env τ)
def iDo (a : M D) : IM := fun env τ => (a env τ).bind fun _ τ1 => .ok env τ1
def iFld (c : Nat) (f : Str) (a : M D) : IM := fun env τ => (a env τ).bind fun d τ1 => match env[(0 : Nat)]? with
  | some (some (.own (.ins c' ds))) => if c' = c ∧ (clsF c)[ds.length]? = some f then .ok (env.set 0 (some (.own (.ins c (ds ++ [d]))))) τ1 else .fail
  | _ => .fail
def iNil : IM := fun env τ => .ok env τ
def iSeq2 (a b : IM) : IM := fun env τ => (a env τ).bind fun e τ1 => b e τ1
section
variable {X : Cx} {g : Gc} {E : XK} {Hb : Hp} {x : Addr} {ma : M D} {e : Expr} {pos : Pos}
theorem goX {α β : Type} {ρ : Hp → α → β → Prop} {m : M α} {F : α → Tape → R Env} {Q' : β → Hp → Prop} {σ : L2.St} {H : Hp} {O : List Addr} {env : Env} {τ : Tape} {N : L2.St → Hp → Prop} (S : StRep g σ H O env τ) (b : BaseOk g Hb H O)
    (h : ResX g E Hb x N ((m env τ).bind F)) (k : ∀ y τ1 v H1, Post g H H1 τ1 → StRep g σ H1 O env τ1 → BaseOk g Hb H1 O → ρ (hid H1 O) y v → ResX g E Hb x N (F y τ1) → Q' v H1) : tG g E ρ m σ H Q' := by
  refine ⟨O, env, τ, S, ?_⟩
  cases e : m env τ with
  | ok y τ1 => rw [e] at h; exact fun v H1 p r => k y τ1 v H1 p (S.post p) (b.post p) r h
  | exc c d τ1 => rw [e] at h; exact fun cls dd H' p y => h cls dd H' (b.to p) (y.mono (tape_sub (S.post p)))
  | fail => rw [e] at h; exact h
theorem x_do (h : PE X e (tE g E ma)) (hs : swapsWith e none pos.line X.env = pure false) : PS X (.Expr e pos) (tSx g E Hb x (iDo ma)) := by
  refine weakS (ps_expr h hs) fun Dn σ H ⟨h0, O, env, τ, S, b, h⟩ => ?_
  refine goX S b h fun d τ1 v H1 p1 S1 b1 d1 h1 => ?_
  exact h1 σ H1 O h0 b1 S1
theorem x_fld {c : Nat} {f y : Str} {pos' p2 : Pos} (hc : Cls X.K (g.clsA c)) (hn : NoAttr X.K (g.clsA c) f) (h0 : PE X (.Name y p2) (tVar 0)) (hv : PE X e (tE g E ma)) (hs : swapsWith e (some (.Attribute (.Name y p2) f pos')) pos.line X.env = pure false) (hcl : (clsF c).Nodup) :
    PS X (.Assign [.Attribute (.Name y p2) f pos'] e pos) (tSx g E Hb x (iFld c f ma)) := by
  refine weakS (ps_fld h0 hv hs) fun Dn σ H ⟨hx, O, env, τ, S, b, h⟩ => ?_
  refine goX S b h fun d τ1 v H1 p1 S1 b1 d1 h1 => ?_
  refine ⟨.ref x, hx, ?_⟩
  split at h1
  · rename_i c' ds eo
    split at h1
    · rename_i hq
      obtain ⟨rfl, hq⟩ := hq
      obtain ⟨a, ea, m, n1, n2, n3, dx, fs, eH, ef, r⟩ := S1.own 0 _ eo
      rw [hx] at ea
      cases ea
      have hl : fs.length = ds.length := by have := r.length; simpa using this
      have hnf : ∀ k ∈ fs.map (·.1), k ≠ f := fun k hk z => by
        rw [ef] at hk
        subst z
        rw [hl] at hk
        obtain ⟨j, hj, e2⟩ := List.getElem_of_mem hk
        have hj1 : j < ds.length := by simp at hj; omega
        rw [List.getElem_take] at e2
        have hlt := (List.getElem?_eq_some_iff.mp hq).1
        have e3 := (List.getElem?_eq_some_iff.mp hq).2
        have hj2 : j < (clsF c').length := by omega
        have := (List.getElem_inj (h₀ := hj2) (h₁ := hlt) hcl).mp (by rw [e2, e3])
        omega
      have hput : ∀ fs' : List (Str × V), (∀ k ∈ fs'.map (·.1), k ≠ f) → putF f v fs' = fs' ++ [(f, v)] := fun fs' => by
        induction fs' with
        | nil => intro _; rfl
        | cons q r ih =>
          intro hk
          obtain ⟨k, y⟩ := q
          show (if k = f then (k, v) :: r else (k, y) :: putF f v r) = _
          rw [if_neg (hk k (by simp)), ih fun z hz => hk z (by simp at hz ⊢; exact .inr hz)]
          rfl
      have small : fs.length < 1000 := by
        have hlt := (List.getElem?_eq_some_iff.mp hq).1
        have : ∀ c, (clsF c).length ≤ 10 := fun c => by unfold clsF; split <;> simp
        have := this c'
        omega
      refine ⟨x, _, dx, fs, rfl, eH, hc, hn, small, ?_⟩
      rw [hput fs hnf]
      have sb : Sub (hid H1 O) (hid (upd H1 x (.ins (g.clsA c') dx (fs ++ [(f, v)]))) O) := sub_write m
      refine h1 σ _ O hx (b1.write m n1 n2 n3) (S1.writeG eo hx (fun _ z => nomatch z) m n1 n2 n3 ⟨dx, _, upd_same, ?_, ?_⟩)
      · rw [List.map_append, ef, List.length_append, List.map_cons, List.map_nil, List.length_singleton, hl]
        have hlt := (List.getElem?_eq_some_iff.mp hq).1
        rw [List.take_succ, hq]
        rfl
      · rw [List.map_append]
        exact (Dats.mono sb _ _ r).append (Dats.cons (Dat.mono sb _ _ d1) Dats.nil)
    · exact h1.elim
  · exact h1.elim
theorem x_nil : PSs X [] (tSx g E Hb x iNil) := weakSs pss_nil fun Dn σ H ⟨h0, O, env, τ, S, b, h⟩ => h σ H O h0 b S
theorem x_cons {st : Stmt} {rest : List Stmt} {m1 m2 : IM} (h1 : PS X st (tSx g E Hb x m1)) (h2 : PSs X rest (tSx g E Hb x m2)) : PSs X (st :: rest) (tSx g E Hb x (iSeq2 m1 m2)) := by
  refine weakSs (pss_cons h1 h2) fun Dn σ H ⟨h0, O, env, τ, S, b, h⟩ => ?_
  refine ⟨h0, O, env, τ, S, b, ?_⟩
  unfold iSeq2 at h
  cases e : m1 env τ with
  | ok e1 τ1 => rw [e] at h; exact fun σ' H' O' q b' S' => ⟨q, O', e1, τ1, S', b', h⟩
  | exc c p τ1 => rw [e] at h; exact h
  | fail => rw [e] at h; exact h
end
/-- the entry of an __init__ -/
def envI (N c : Nat) (ds : List D) : Env := some (.own (.ins c [])) :: env0 (N - 1) ds
def runI (N c : Nat) (m : IM) : Fn := fun ds τ => (m (envI N c ds) τ).bind fun e τ1 => match e[(0 : Nat)]? with
  | some (some (.own d)) => if wholeD d then .ok d τ1 else .fail
  | _ => .fail
/-- the promise of an __init__ with n parameters but self -/
def spI (g : Gc) (c n : Nat) (φ : Fn) : Sp := fun vs H Q E => ∃ O ds τ x dx Hb us, vs = V.ref x :: us ∧ ds.length = n ∧ H = upd (upd Hb dx (.own x)) x (.ins (g.clsA c) dx []) ∧ Hb x = none ∧ Hb dx = none ∧ dx ≠ x ∧ TapeAt g Hb τ ∧ (g.T ∈ O ∧ g.L ∈ O ∧ g.C ∉ O) ∧ (∀ a ∈ O, ∃ o, Hb a = some o ∧ NTup o) ∧
  Dats (g.at []) (hid Hb O) ds us ∧ Res (g.at []) E (Dat (g.at [])) O Hb (fun v H' => v = V.ref x → Q .non H') (φ ds τ)
theorem spI_len {g : Gc} {c n : Nat} {φ : Fn} (vs : List V) (H : Hp) (Q : VK) (E : XK) (h : spI g c n φ vs H Q E) : vs.length = n + 1 := by
  obtain ⟨O, ds, τ, x, dx, Hb, us, rfl, l, _, _, _, _, _, _, _, r, _⟩ := h
  rw [List.length_cons, r.length, l]
theorem init_red {g : Gc} {E : XK} {N : List Str} {c n : Nat} {m : IM} {vs : List V} {H : Hp} {Q : VK} (hn : n + 1 ≤ N.length) (h : spI g c n (runI N.length c m) vs H Q E) : ∃ O Hb x, tSx (g.at O) E Hb x m { nx := fun _ H' => Q .non H', rt := Q } (L2.start N vs) H := by
  obtain ⟨O, ds, τ, x, dx, Hb, us, rfl, l, rfl, nx, ndx, nd, tp, tO, dom, r, h⟩ := h
  have r := (dats_at ds us).1 r
  have lu := r.length
  have neO : ∀ a o, Hb a = some o → a ≠ x ∧ a ≠ dx := fun a o e => ⟨ne_of_none e nx, ne_of_none e ndx⟩
  have keep : ∀ a o, Hb a = some o → upd (upd Hb dx (.own x)) x (.ins (g.clsA c) dx []) a = some o := fun a o e => by
    rw [upd_ne (neO a o e).1, upd_ne (neO a o e).2]; exact e
  have nO : x ∉ O := fun z => by
    obtain ⟨o, e, _⟩ := dom x z
    rw [nx] at e; cases e
  have sb : Sub (hid Hb O) (hid (upd (upd Hb dx (.own x)) x (.ins (g.clsA c) dx [])) (x :: O)) := fun a o e => by
    obtain ⟨e1, m⟩ := hid_some e
    refine hid_of (keep a o e1) fun z => ?_
    rcases List.mem_cons.mp z with z | z
    · exact (neO a o e1).1 z
    · exact m z
  have hs : L2.start N (.ref x :: us) = some (.ref x) :: (us.map some ++ List.replicate (N.length - (us.length + 1)) none) := rfl
  have S : StRep (g.at O) (L2.start N (.ref x :: us)) (upd (upd Hb dx (.own x)) x (.ins (g.clsA c) dx [])) (x :: O) (envI N.length c ds) τ := by
    refine ⟨⟨keep _ _ tp.1, keep _ _ tp.2.1, keep _ _ tp.2.2⟩, ⟨List.mem_cons_of_mem _ tO.1, List.mem_cons_of_mem _ tO.2.1, fun z => (List.mem_cons.mp z).elim (ne_of_none tp.2.2 nx) tO.2.2⟩, ⟨tO, fun a h => List.mem_cons_of_mem _ h⟩, ?_, fun a ha => ?_, fun i d e => ?_, fun i d e => ?_, fun i j d e a hi hj _ _ => ?_⟩
    · unfold envI env0
      rw [hs]
      simp only [List.length_cons, List.length_append, List.length_map, List.length_replicate]
      omega
    · rcases List.mem_cons.mp ha with z | z
      · rw [z]; exact ⟨_, upd_same, fun _ z => nomatch z⟩
      · obtain ⟨o, e, y⟩ := dom a z
        exact ⟨o, keep a o e, y⟩
    · cases i with
      | zero => simp [envI] at e
      | succ i =>
        have e' : (env0 (N.length - 1) ds)[i]? = some (some (.val d)) := by simpa [envI] using e
        obtain ⟨d', e1, e2⟩ := env0_val e'
        cases e1
        obtain ⟨v, e3, r3⟩ := r.get e2
        refine ⟨v, ?_, (dat_at d v).2 (Dat.mono sb _ _ r3)⟩
        rw [hs, List.getElem?_cons_succ]
        have hi := (List.getElem?_eq_some_iff.mp e3).1
        rw [List.getElem?_append_left (by simpa using hi), List.getElem?_map, e3]; rfl
    · cases i with
      | zero =>
        have : d = .ins c [] := by simpa [envI] using e.symm
        subst this
        exact ⟨x, by rw [hs]; rfl, List.mem_cons_self, fun z => nO (z ▸ tO.1), fun z => nO (z ▸ tO.2.1), nO, dx, [], upd_same, rfl, Dats.nil⟩
      | succ i =>
        have e' : (env0 (N.length - 1) ds)[i]? = some (some (.own d)) := by simpa [envI] using e
        obtain ⟨d', e1, _⟩ := env0_val e'
        cases e1
    · have z : ∀ {i : Nat} {d : D}, (envI N.length c ds)[i]? = some (some (.own d)) → i = 0 := fun {i d} e => by
        cases i with
        | zero => rfl
        | succ i =>
          have e' : (env0 (N.length - 1) ds)[i]? = some (some (.own d)) := by simpa [envI] using e
          obtain ⟨d', e1, _⟩ := env0_val e'
          cases e1
      rw [z hi, z hj]
  refine ⟨O, Hb, x, by rw [hs]; rfl, x :: O, envI N.length c ds, τ, S, ⟨fun a o _ _ e => keep a o e, fun a ha => ?_⟩, ?_⟩
  · rcases List.mem_cons.mp ha with z | z
    · rw [z]; exact .inr nx
    · exact .inl z
  · unfold runI at h
    cases e : m (envI N.length c ds) τ with
    | exc c p τ1 => rw [e] at h; exact fun cls dd H' p x => h cls dd H' (Post.at p.re) (excAt_at.2 (excAt_at.1 x))
    | fail => rw [e] at h; exact h
    | ok e1 τ1 =>
      rw [e] at h
      intro σ' H' O' h0 b' S'
      replace h : Res (g.at []) E (Dat (g.at [])) O Hb (fun v H' => v = V.ref x → Q .non H') (match e1[(0 : Nat)]? with
        | some (some (.own d)) => if wholeD d then .ok d τ1 else .fail
        | _ => .fail) := h
      split at h
      · rename_i d eo
        split at h
        · rename_i hw
          obtain ⟨a, ea, ma, n1, n2, n3, ro⟩ := S'.own 0 _ eo
          rw [h0] at ea; cases ea
          refine h (.ref x) H' ⟨b'.keep, S'.tp⟩ ((dat_at d _).2 ((dat_at (O := O) d _).1 ?_)) rfl
          refine own_dat S' n3 ro fun c' ds' z => ?_
          subst z
          simpa [wholeD] using hw
        · exact h.elim
      · exact h.elim
theorem ok_init {P : Program} {w : World} {K : PySem.W.Frag} {mg : Str → Option Value} {base : Heap} {x qual : Str} {params : Arguments} {body : List Stmt} {scope : Scope} {dvs : List V} {kws : List (Str × V)} {f : Addr} {fd : FuncData} {CX : CXT} {N ps : List Str} {k n c : Nat} {g : Gc} {m : IM}
    (F : FunD K x qual params body scope dvs kws f fd) (S : FnScope N ps scope) (hp : ps.length = n + 1) (hn : n + 1 ≤ N.length)
    (hb : ∀ (O : List Addr) (Hb : Hp) (y : Addr) (cdv : Value) (A : Around) (outer : List PySem.Env) (s : Shared) (H : Hp) (E : XK), Room k (A.deeper (envOfC qual scope s.heap.objs.size f cdv)) → PSs (cxOf CX P w K mg base N qual scope f cdv A outer s H E) body (tSx (g.at O) E Hb y m)) :
    FnOk P w K mg base CX (k + 1) f fd ps (spI g c n (runI N.length c m)) := by
  refine F.ok S (fun vs H Q E h => by rw [spI_len vs H Q E h, hp]) fun cdv A outer s H vs Q E hr h => ?_
  obtain ⟨O, Hb, y, h⟩ := init_red hn h
  exact ⟨_, hb O Hb y cdv A outer s H E hr, h⟩
section
variable {X : Cx} {CX : CXT} {k n c : Nat} {f : Addr} {fd : FuncData} {ps : List Str} {dvs : List V} {ds : List Value} {E : XK} {x : Str} {p pos : Pos} {e : Expr} {es : List Expr} {g : Gc} {φ : Fn} {ms : M (List D)} {ds0 : List D}
/-- C(..) -/
theorem s_make (M : Mk X.K (g.clsA c) f) (F : FnOk X.prog X.w X.K X.mg X.base CX k f fd ps (spI g c n φ)) (hr : Room (k + 1) X.A) (hg : Gl X x) (hm : X.mg x = some (.ref (g.clsA c))) (hb : Binds X.K fd ps ds) (hd : Vals dvs ds) (h0 : ∀ H, Dats g H ds0 dvs) (hx : Passes CX X E)
    (ha : PA X (e :: es) (tA g E ms)) (hdb : (x == ("__debug__" : Str)) = false := by decide) (he : starEach (e :: es) X.env = (false, eval e X.env) :: starEach es X.env := by rfl) (hpl : (backTo pos (starEach es X.env)).any (·.1) = false := by rfl) :
    PE X (.Call (.Name x p) (e :: es) [] pos) (tE g E (mFn n φ ds0 ms)) := by
  refine weakE (pe_make M F hr hg hm hb hd hx ha hdb he hpl) fun σ H Q ⟨O, env, τ, S, h⟩ => ?_
  refine go S h fun xs τ1 vs H1 e1 p1 S1 d1 h1 => ?_
  by_cases hl : (xs ++ ds0).length = n
  · rw [if_pos hl] at h1
    intro y dx ny ndx nd
    refine ⟨O, xs ++ ds0, τ1, y, dx, H1, vs ++ dvs, rfl, hl, rfl, ny, ndx, nd, S1.tp, S1.tO, S1.dom2, (dats_at _ _).2 (d1.append (h0 _)), ?_⟩
    have h2 := Res.at (O0 := []) h1
    cases eφ : φ (xs ++ ds0) τ1 with
    | ok d τ2 =>
      rw [eφ] at h2
      exact fun v H' q r z => ⟨rfl, by subst z; exact h2 _ H' q r⟩
    | exc c p τ2 => rw [eφ] at h2; exact h2
    | fail => rw [eφ] at h2; exact h2
  · rw [if_neg hl] at h1; exact h1.elim
end
end Z
end
section
set_option Elab.async false
set_option linter.all false
set_option maxRecDepth 100000
namespace Z
open PySem PySem.Spec PyProof.Rows L2

/-! ### what is own may be let go -/
def mFrz (i : Nat) (m : SM) : SM := fun env τ => match env[i]? with
  | some (some (.own d)) => if wholeD d then m (env.set i (some (.val d))) τ else .fail
  | _ => m env τ
section
variable {X : Cx} {g : Gc} {E : XK} {Hb : Hp} {e : Expr} {pos p : Pos}
theorem frz_red {i : Nat} {m : SM} {Dn : Ends} {σ : L2.St} {H : Hp} (h : tS g E Hb (mFrz i m) Dn σ H) : tS g E Hb m Dn σ H := by
  obtain ⟨O, env, τ, S, b, h⟩ := h
  unfold mFrz at h
  split at h
  · rename_i d eo
    split at h
    · rename_i hw
      obtain ⟨a, ea, m1, n1, n2, n3, ro⟩ := S.own i d eo
      have mem : ∀ x, x ∈ O.filter (fun y => decide (y ≠ a)) ↔ x ∈ O ∧ x ≠ a := fun x => by simp [List.mem_filter]
      have sb : Sub (hid H O) (hid H (O.filter fun y => decide (y ≠ a))) := fun x o q => by
        obtain ⟨q1, q2⟩ := hid_some q
        exact hid_of q1 fun z => q2 ((mem x).1 z).1
      have da : Dat g (hid H (O.filter fun y => decide (y ≠ a))) d (.ref a) := by
        have na : a ∉ O.filter fun y => decide (y ≠ a) := fun z => ((mem a).1 z).2 rfl
        cases d with
        | lst ds =>
          obtain ⟨vs, q, r⟩ := ro
          exact Dat.lst (hid_of q na) (Dats.mono sb _ _ r)
        | ins c ds =>
          obtain ⟨dx, fs, q, f, r⟩ := ro
          simp only [Dat]
          refine ⟨a, dx, fs, rfl, hid_of q na, ?_, Dats.mono sb _ _ r⟩
          have l1 := r.length
          have l2 : ds.length = (clsF c).length := by simpa [wholeD] using hw
          rw [f, List.take_of_length_le]
          rw [List.length_map] at l1
          omega
        | dic ks ds =>
          obtain ⟨kvs, q, f, r⟩ := ro
          simp only [Dat]
          exact ⟨a, kvs, rfl, hid_of q na, f, Dats.mono sb _ _ r⟩
        | _ => exact ro.elim
      have get : ∀ {j : Nat} {s : Slot}, (env.set i (some (.val d)))[j]? = some (some s) → (j = i ∧ s = .val d) ∨ (j ≠ i ∧ env[j]? = some (some s)) := fun {j s} q => by
        by_cases hj : i = j
        · subst hj
          rw [List.getElem?_set_self (List.getElem?_eq_some_iff.mp eo).1] at q
          cases q; exact .inl ⟨rfl, rfl⟩
        · rw [List.getElem?_set_ne hj] at q
          exact .inr ⟨fun z => hj z.symm, q⟩
      have S2 : StRep g σ H (O.filter fun y => decide (y ≠ a)) (env.set i (some (.val d))) τ := by
        refine ⟨S.tp, ⟨(mem _).2 ⟨S.tO.1, Ne.symm n1⟩, (mem _).2 ⟨S.tO.2.1, Ne.symm n2⟩, fun z => S.tO.2.2 ((mem _).1 z).1⟩, ⟨S.t0.1, fun x hx => (mem x).2 ⟨S.t0.2 x hx, fun z => n3 (z ▸ hx)⟩⟩, by simp [S.len], fun x hx => S.dom2 x ((mem x).1 hx).1, fun j d2 q => ?_, fun j d2 q => ?_, fun j k d1 d2 x h1 h2 h3 h4 => ?_⟩
        · rcases get q with ⟨rfl, z⟩ | ⟨hj, q⟩
          · cases z; exact ⟨_, ea, da⟩
          · obtain ⟨v, q1, r⟩ := S.val j d2 q
            exact ⟨v, q1, Dat.mono sb _ _ r⟩
        · rcases get q with ⟨rfl, z⟩ | ⟨hj, q⟩
          · cases z
          · obtain ⟨x, q1, q2, k1, k2, k3, r⟩ := S.own j d2 q
            refine ⟨x, q1, (mem x).2 ⟨q2, fun z => ?_⟩, k1, k2, k3, r.move (fun _ _ z => z) sb⟩
            subst z
            exact hj (S.inj j i _ _ x q eo q1 ea)
        · rcases get h1 with ⟨_, z⟩ | ⟨hj, q1⟩
          · cases z
          · rcases get h2 with ⟨_, z⟩ | ⟨hk, q2⟩
            · cases z
            · exact S.inj j k d1 d2 x q1 q2 h3 h4
      refine ⟨_, _, τ, S2, ⟨b.keep, fun x hx => b.new x ((mem x).1 hx).1⟩, ResS.step sb h⟩
    · exact h.elim
  · exact ⟨O, env, τ, S, b, h⟩
theorem c_frz {st : Stmt} {i : Nat} {m : SM} (h : PS X st (tS g E Hb m)) : PS X st (tS g E Hb (mFrz i m)) := weakS h fun _ _ _ q => frz_red q

/-! ### a new tuple -/
def ResFT (g : Gc) (E : XK) (O : List Addr) (H : Hp) (Q : VK) : R (List D) → Prop
  | .ok ds τ' => ∀ p vs H', H p = none → Post g H H' τ' → H' p = some (.tup vs) → Dats g (hid H' O) ds vs → Q (.ref p) H'
  | .exc c p τ' => ∀ cls dd H', Post g H H' τ' → ExcAt g (hid H' O) c p cls dd → E cls dd H'
  | .fail => False
def tFT (g : Gc) (E : XK) (m : M (List D)) : TE := fun σ H Q => ∃ O env τ, StRep g σ H O env τ ∧ ResFT g E O H Q (m env τ)
def mTupN (ms : M (List D)) : M (List D) := fun env τ => (ms env τ).bind fun xs τ1 => if xs.length ≤ line then .ok xs τ1 else .fail
variable {ms : M (List D)} {es : List Expr}
theorem goFT {α β : Type} {ρ : Hp → α → β → Prop} {O : List Addr} {H : Hp} {σ : L2.St} {env : Env} {τ : Tape} {m : M α} {F : α → Tape → R (List D)} {Q : VK} {Q' : β → Hp → Prop} (S : StRep g σ H O env τ)
    (h : ResFT g E O H Q ((m env τ).bind F)) (k : ∀ x τ1 v H1, m env τ = .ok x τ1 → Post g H H1 τ1 → StRep g σ H1 O env τ1 → ρ (hid H1 O) x v → (∀ p, H1 p = none → H p = none) → ResFT g E O H Q (F x τ1) → Q' v H1) : tG g E ρ m σ H Q' := by
  refine ⟨O, env, τ, S, ?_⟩
  cases e : m env τ with
  | ok x τ1 =>
    rw [e] at h
    refine fun v H1 p r => k x τ1 v H1 e p (S.post p) r (fun q hq => ?_) h
    cases ho : H q with
    | none => rfl
    | some o =>
      by_cases z1 : q = g.T
      · have := p.tp.1; rw [← z1, hq] at this; cases this
      · by_cases z2 : q = g.L
        · have := p.tp.2.1; rw [← z2, hq] at this; cases this
        · have := p.keep q o z1 z2 ho
          rw [hq] at this; cases this
  | exc c d τ1 => rw [e] at h; exact h
  | fail => rw [e] at h; exact h
theorem k_tup {k : Nat} (h : PA X es (tA g E ms)) : PE X (.Tuple es k pos) (tFT g E (mTupN ms)) := by
  refine weakE (pe_tup h) fun σ H Q ⟨O, env, τ, S, h⟩ => ?_
  refine goFT S h fun xs τ1 vs H1 e1 p1 S1 d1 nn h1 => ?_
  by_cases hl : xs.length ≤ line
  · rw [if_pos hl] at h1
    exact ⟨line_le (by rw [d1.length]; exact hl), fun p hp => h1 p vs _ (nn p hp) (p1.trans (.of_sub (new_sub hp) S1.tp)) upd_same (Dats.mono (hid_mono (new_sub hp)) _ _ d1)⟩
  · rw [if_neg hl] at h1; exact h1.elim

/-! ### an own dict, its keys tuples -/
def toKey : List D → Option (List Key)
  | [] => some []
  | .int i :: r => (toKey r).map (.inl i :: ·)
  | .str x :: r => (toKey r).map (.inr x :: ·)
  | _ => none
def kD : Key → D
  | .inl i => .int i
  | .inr x => .str x
theorem keyD_eq (k : List Key) : keyD k = .tup (k.map kD) := by
  unfold keyD
  exact congrArg D.tup (List.map_congr_left fun x _ => by cases x <;> rfl)
theorem toKey_map : ∀ {ds : List D} {k : List Key}, toKey ds = some k → ds = k.map kD
  | [], k, h => by simp [toKey] at h; subst h; rfl
  | .int i :: r, k, h => by
    simp only [toKey, Option.map_eq_some_iff] at h
    obtain ⟨k', h1, rfl⟩ := h
    rw [toKey_map h1]; rfl
  | .str i :: r, k, h => by
    simp only [toKey, Option.map_eq_some_iff] at h
    obtain ⟨k', h1, rfl⟩ := h
    rw [toKey_map h1]; rfl
  | .non :: r, k, h => by simp [toKey] at h
  | .bl _ :: r, k, h => by simp [toKey] at h
  | .tup _ :: r, k, h => by simp [toKey] at h
  | .lst _ :: r, k, h => by simp [toKey] at h
  | .dic _ _ :: r, k, h => by simp [toKey] at h
  | .ins _ _ :: r, k, h => by simp [toKey] at h
  | .fn _ :: r, k, h => by simp [toKey] at h
  | .cls _ :: r, k, h => by simp [toKey] at h
  | .tape :: r, k, h => by simp [toKey] at h
  | .scr _ :: r, k, h => by simp [toKey] at h
theorem kD_dats {H : Hp} : ∀ {k : List Key} {vs : List V}, Dats g H (k.map kD) vs → vs = k.map kV
  | [], vs, h => by simp only [List.map_nil, Dats] at h; subst h; rfl
  | x :: k, vs, h => by
    rw [List.map_cons] at h
    simp only [Dats] at h
    obtain ⟨v, r, rfl, a, b⟩ := h
    rw [kD_dats b, List.map_cons]
    cases x with
    | inl i => have := a.intE; subst this; rfl
    | inr i => have := a.strE; subst this; rfl
theorem dats_kD {H : Hp} : ∀ (k : List Key), Dats g H (k.map kD) (k.map kV)
  | [] => Dats.nil
  | .inl i :: k => Dats.cons Dat.i (dats_kD k)
  | .inr i :: k => Dats.cons Dat.s (dats_kD k)
theorem beq_dec {α : Type} [BEq α] [LawfulBEq α] [DecidableEq α] (x y : α) : (x == y) = decide (x = y) := by
  rw [Bool.eq_iff_iff]; simp
theorem deq_kD : ∀ (a b : List Key), deqs (a.map kD) (b.map kD) = decide (a = b)
  | [], [] => rfl
  | [], _ :: _ => by simp [deqs]
  | _ :: _, [] => by simp [deqs]
  | x :: a, y :: b => by
    have ih := deq_kD a b
    rw [List.map_cons, List.map_cons]
    simp only [deqs]
    rw [ih]
    cases x <;> cases y <;> simp [kD, deq, Bool.decide_and, beq_dec]
theorem deq_key (a b : List Key) : deq (keyD a) (keyD b) = decide (a = b) := by
  rw [keyD_eq, keyD_eq]
  simp only [deq]
  exact deq_kD a b
def putDv (kd v : D) : List D → List D → List D
  | k :: ks, x :: xs => (if deq k kd then v else x) :: putDv kd v ks xs
  | _, _ => []
def putD (ks vs : List D) (kd v : D) : D := if ks.any (fun k => deq k kd) then .dic ks (putDv kd v ks vs) else .dic (ks ++ [kd]) (vs ++ [v])
theorem put_rep {H : Hp} {kvs : List (List Key × V)} {vs : List D} {k : List Key} {v : D} {u : V} (r : Dats g H vs (kvs.map (·.2))) (rv : Dat g H v u) :
    ∃ ks' vs', putD (kvs.map fun p => keyD p.1) vs (keyD k) v = .dic ks' vs' ∧ ks' = (putK kvs k u).map (fun p => keyD p.1) ∧ Dats g H vs' ((putK kvs k u).map (·.2)) := by
  unfold putD putK
  have ea : ((kvs.map fun p => keyD p.1).any fun x => deq x (keyD k)) = kvs.any fun kv => decide (kv.1 = k) := by
    rw [List.any_map]
    congr 1
    funext p
    exact deq_key p.1 k
  rw [ea]
  by_cases hc : (kvs.any fun kv => decide (kv.1 = k)) = true
  · rw [if_pos hc, if_pos hc]
    refine ⟨_, _, rfl, ?_, ?_⟩
    · rw [List.map_map]
      refine List.map_congr_left fun p _ => ?_
      show keyD p.1 = keyD (if p.1 = k then (p.1, u) else p).1
      split <;> rfl
    · clear hc ea
      induction kvs generalizing vs with
      | nil => simp only [List.map_nil] at r ⊢; cases vs with
        | nil => simpa [putDv] using r
        | cons => simp only [Dats] at r; obtain ⟨_, _, z, _⟩ := r; cases z
      | cons p kvs ih =>
        rw [List.map_cons] at r
        cases vs with
        | nil => simp only [Dats] at r; cases r
        | cons x xs =>
          simp only [Dats] at r
          obtain ⟨v1, r1, e1, a, b⟩ := r
          cases e1
          rw [List.map_cons, List.map_cons, List.map_cons]
          unfold putDv
          rw [deq_key]
          by_cases hk : p.1 = k
          · rw [decide_eq_true hk, if_pos rfl, if_pos hk]
            exact Dats.cons rv (ih b)
          · rw [decide_eq_false hk, if_neg Bool.false_ne_true, if_neg hk]
            exact Dats.cons a (ih b)
  · rw [if_neg hc, if_neg hc]
    refine ⟨_, _, rfl, ?_, ?_⟩
    · rw [List.map_append]; rfl
    · rw [List.map_append]
      exact r.append (Dats.cons rv Dats.nil)
def mDNew (i : Nat) : SM := fun env τ => .ok (.nx (env.set i (some (.own (.dic [] []))))) τ
theorem c_dnew {i : Nat} {tg : Expr} (h : PS X (.Assign [tg] e pos) (tAsg tDNewT (gName i))) : PS X (.Assign [tg] e pos) (tS g E Hb (mDNew i)) := by
  refine weakS h fun Dn σ H ⟨O, env, τ, S, b, h⟩ => fun p hp => ?_
  have q : Post g H (upd H p (.dT [])) τ := .of_sub (new_sub hp) S.tp
  exact h _ _ (p :: O) (new_subO hp q S.tO.1 S.tO.2.1) (b.more S.t0.1 q hp) (S.newOwnG hp q upd_same (fun _ z => nomatch z) ⟨[], upd_same, rfl, Dats.nil⟩)
/-- d[k] = e, d own, k a new tuple -/
def mSetK (i : Nat) (mk : M (List D)) (ma : M D) : SM := fun env τ => match env[i]? with
  | some (some (.own (.dic ks vs))) => (ma env τ).bind fun d τ1 => (mk env τ1).bind fun k τ2 => if (toKey k).isSome && decide (ks.length ≤ line) then .ok (.nx (env.set i (some (.own (putD ks vs (.tup k) d))))) τ2 else .fail
  | _ => .fail
theorem c_setK {ma : M D} {mk : M (List D)} {i : Nat} {te tk : TE} {tg : Expr} (h : PS X (.Assign [tg] e pos) (tAsg te (gSub (tVar i) tk rSetD))) (ht : te = tE g E ma) (hk : ∀ σ H Q, tFT g E mk σ H Q → tk σ H Q) : PS X (.Assign [tg] e pos) (tS g E Hb (mSetK i mk ma)) := by
  subst ht
  refine weakS h fun Dn σ H ⟨O, env, τ, S, b, h⟩ => ?_
  unfold mSetK at h
  split at h
  · rename_i ks0 vs0 eo
    refine goS S b h fun d τ1 v H1 e1 p1 S1 b1 d1 h1 => ?_
    obtain ⟨a, ea, m, n1, n2, n3, kvs, eH, ef, r⟩ := S1.own i _ eo
    refine ⟨.ref a, ea, hk _ _ _ ⟨O, env, τ1, S1, ?_⟩⟩
    cases em : mk env τ1 with
    | exc c q τ2 => rw [em] at h1; exact fun cls dd H' p x => h1 cls dd H' (b1.to p) (x.mono (tape_sub (S1.post p)))
    | fail => rw [em] at h1; exact h1
    | ok k τ2 =>
      rw [em] at h1
      intro q vs H2 nq p2 eq dk
      replace h1 : ResS g E Hb O H1 Dn (if (toKey k).isSome && decide (ks0.length ≤ line) then .ok (.nx (env.set i (some (.own (putD ks0 vs0 (.tup k) d))))) τ2 else .fail) := h1
      split at h1
      · rename_i hc
        simp only [Bool.and_eq_true, decide_eq_true_eq] at hc
        obtain ⟨kk, ekk⟩ := Option.isSome_iff_exists.mp hc.1
        have ed := toKey_map ekk
        subst ed
        have ev := kD_dats dk
        have eH2 : H2 a = some (.dT kvs) := p2.keep _ _ n1 n2 eH
        have S2 := S1.post p2
        have b2 := b1.post p2
        have sb12 := p2.sub S1.tO.1 S1.tO.2.1
        have hlen : kvs.length < sizeLine := line_lt (by have := hc.2; rw [ef, List.length_map] at this; exact this)
        refine ⟨a, _, rfl, DPut.t eH2 (by rw [eq, ev]) hlen, ?_⟩
        have sb : Sub (hid H2 O) (hid (upd H2 a (.dT (putK kvs kk v))) O) := sub_write m
        obtain ⟨ks', vs', ep, e1', e2'⟩ := put_rep (k := kk) (Dats.mono (sb12.trans sb) _ _ r) (Dat.mono (sb12.trans sb) _ _ d1)
        rw [ef, ← keyD_eq, ep] at h1
        exact h1 σ _ O (sb12.trans sb) (b2.write m n1 n2 n3) (S2.writeG eo ea (fun _ z => nomatch z) m n1 n2 n3 ⟨_, upd_same, e1', e2'⟩)
      · exact h1.elim
  · exact h.elim
end
end Z
end
section
set_option Elab.async false
set_option linter.all false
set_option maxRecDepth 100000
namespace Z
open PySem PySem.Spec PyProof.Rows L2

/-! ### enumerate(t), t a tuple -/
set_option maxHeartbeats 1000000 in
theorem meets_enum1 {v : Value} {o : Obj} {H : Heap → Prop} (B : Begins v o H) :
    Meets (Builtin.«enumerate.__new__» ⟨[.type "enumerate", v], []⟩) (fun _ R s => H s.heap ∧
      R (.ok (.ret (.ref (s.heap.push o).objs.size))) { s with heap := (s.heap.push o).push { cls := .type "enumerate", data := .fields #[.none, .bool false, .ref s.heap.objs.size, rawInt 0, .none, .none] } }) :=
  .of_wp fun prog w A R s h => by
    obtain ⟨hp, g, d, tk, os⟩ := s; obtain ⟨h1, h⟩ := h
    have hsub := sub_enumerate
    have q1 : ∀ {A' : Around} {E : Value → Shared → Prop} {Q : Value → Shared → Prop}, Q (.ref hp.objs.size) ⟨hp.push o, g, d, tk, os⟩ → wpAny (model prog w) A' (pyIter v) Q E ⟨hp, g, d, tk, os⟩ :=
      fun q => B.iter prog w _ _ ⟨hp, g, d, tk, os⟩ _ h1 q
    wp_walk using q1
    refine wpAny_stack_any fun st => wpAny_pure ?_
    split
    · rename_i c _ _ _ _ _
      cases (c == Value.type "enumerate")
      · wp_walk using q1
        exact ⟨_, rfl, h⟩
      · wp_walk using q1
        exact ⟨_, rfl, h⟩
    · wp_walk using q1
      exact ⟨_, rfl, h⟩
theorem call_enum1 {prog : Program} {w : World} {A : Around} {E : Value → Shared → Prop} {s : Shared} {v : Value} {o : Obj} {H : Heap → Prop} {Q : Value → Shared → Prop} (B : Begins v o H) (h1 : H s.heap)
    (h : ∀ h', IsEnum h' (s.heap.objs.size + 1) s.heap.objs.size 0 .none → h'.get? s.heap.objs.size = some o → h'.objs.size = s.heap.objs.size + 2 →
      (∀ b o, s.heap.get? b = some o → h'.get? b = some o) → Q (.ref (s.heap.objs.size + 1)) { s with heap := h' }) :
    wpAny (model prog w) A (call (.type "enumerate") [v]) Q E s := by
  refine callType_new F.called_enumerate (by decide) (F.typeCall_enumerate_1 _) (F.newCall_enumerate_1 _) (fun obj => F.args_object_init_2 obj _) F.entry_enumerate_new
    (meets_enum1 B) ⟨h1, ?_⟩
  have hz : (s.heap.push o).objs.size = s.heap.objs.size + 1 := Heap.size_push ..
  show _ ∧ _
  rw [hz]
  have he : IsEnum ((s.heap.push o).push { cls := .type "enumerate", data := .fields #[.none, .bool false, .ref s.heap.objs.size, rawInt 0, .none, .none] }) (s.heap.objs.size + 1) s.heap.objs.size 0 .none := by
    have := Heap.get?_push_size (s.heap.push o) (o := { cls := .type "enumerate", data := .fields #[.none, .bool false, .ref s.heap.objs.size, rawInt 0, .none, .none] }) rfl
    rw [hz] at this; exact this
  refine ⟨⟨_, he, rfl⟩, h _ he (Heap.get?_push_of_some _ (Heap.get?_push_size _ B.free)) (by rw [Heap.size_push, hz]) fun b o x => Heap.get?_push_of_some _ (Heap.get?_push_of_some _ x)⟩
def IteT (K : PySem.W.Frag) (a : Addr) : It :=
  ⟨fun i H => ∃ (xs : List V) (x : V), SqT K H a xs ∧ xs[i]? = some x, fun i H v H' => ∃ T x, v = .ref T ∧ H T = none ∧ H' = upd H T (.tup [.int (i : Nat), x]) ∧ ∀ xs, SqT K H a xs → xs[i]? = some x, fun i H => ∃ xs : List V, SqT K H a xs ∧ xs.length = i⟩
theorem turn_enumT {P : Program} {w : World} {K : PySem.W.Frag} {elts : List Expr} {kk : Nat} {tpos : Pos} (a e it : Addr) :
    Turn P w K (.Tuple elts kk tpos) (IteT K a) [e, it] e (fun i h => (∃ old, IsEnum h e it ((i : Nat) : Int) old) ∧ h.IsTupleIter it a i ∧ e ≠ it) where
  mem := by simp
  obj := fun i h st b hb => by
    obtain ⟨⟨old, he⟩, ⟨o, ho, hc, hd⟩, _⟩ := st
    have e' : b = e ∨ b = it := by simpa using hb
    rcases e' with z | z
    · rw [z]; exact ⟨_, he, fun v q => nomatch q⟩
    · rw [z]; exact ⟨o, ho, fun v q => by rw [hd] at q; cases q⟩
  keep := fun i h h' st k => let ⟨⟨old, he⟩, hi, hne⟩ := st; ⟨⟨old, k e (by simp) _ he⟩, hi.at fun o q => k it (by simp) o q, hne⟩
  item := by
    intro X hP hw hK hc i pins s σ H E I hf st hg
    subst hP hw hK
    obtain ⟨⟨old, he⟩, hit, hne⟩ := st
    obtain ⟨xs, x, hq, hx⟩ := hg
    obtain ⟨its, rv, p, hz⟩ := I.tuple hq
    obtain ⟨u, hu, ru⟩ := rv.get hx
    have hT : s.heap.IsTuple a its.toArray := p
    have hel : e < s.heap.objs.size := Heap.lt_size he
    have hil : it < s.heap.objs.size := by obtain ⟨_, q, _⟩ := hit; exact Heap.lt_size q
    have nai : a ≠ it := fun z => by
      obtain ⟨o1, q1, c1, _⟩ := hit
      obtain ⟨o2, q2, c2, _⟩ := hT
      rw [z, q1] at q2
      cases q2
      rw [c1] at c2
      injection c2 with c2
      exact absurd c2 (by decide)
    have nae : e ≠ a := fun z => by
      obtain ⟨o2, q2, c2, _⟩ := hT
      rw [← z, show s.heap.get? e = _ from he] at q2
      cases q2
      injection c2 with c2
      exact absurd c2 (by decide)
    have hlt : i < its.toArray.size := by simpa using (List.getElem?_eq_some_iff.mp hu).1
    refine wpAny_pyNext_enum_itemC (Draws.tuple (A := X.A.in1) (show X.A.in1.handled = none from I.ok.hd hc) it a nai its.toArray) he ⟨hit, hT⟩ hlt hne (by simp [hne, nae]) fun x' h' tk hP ho hit' hT' hsz hk => ?_
    have ex : x' = u := by
      have q : its.toArray[i]? = some u := by simpa using hu
      rw [q] at hP
      exact (Option.some.inj hP).symm
    subst ex
    refine ⟨_, rfl, wpAny_letOwnedTupleGo_enum (s := { s with heap := h', toks := tk + 1 }) ho fun h'' he' sb => ?_⟩
    have hT2 : h''.get? s.heap.objs.size = some { cls := .type "tuple", data := .seq #[.int i tk, x'] } := (sb.2 _ (Nat.ne_of_gt hel)).trans hT'
    have new : ObjOk X.prog X.w (upd H s.heap.objs.size (.tup [.int (i : Nat), x])) h'' s.heap.objs.size (.tup [.int (i : Nat), x]) :=
      ⟨by show 2 ≤ sizeLine; decide, [.int i tk, x'], .cons ⟨_, rfl⟩ (.cons ru .nil), ⟨_, hT2, rfl, _, rfl⟩⟩
    have I1 : Inv X pins σ (upd H s.heap.objs.size (.tup [.int (i : Nat), x])) { s with heap := h'', toks := tk + 1 } :=
      I.turnedNew (ch := [e, it]) (fun b ob hb q => (sb.2 b (fun z => hb (by simp [z]))).trans (hk b ob (fun z => hb (by simp [z])) (fun z => hb (by simp [z])) q)) hf (Nat.le_refl _) new
    refine ⟨.ref s.heap.objs.size, _, I1, rfl, ⟨_, x, rfl, I.hok.fresh (Nat.le_refl _), rfl, fun ys hy => by rw [I.tuple_inj hy hq]; exact hx⟩, ⟨⟨x', ?_⟩, hit'.1.at fun o q => (sb.2 it (Ne.symm hne)).trans q, hne⟩, fun b hb => ?_⟩
    · have e1 : ((i + 1 : Nat) : Int) = (i : Int) + 1 := by omega
      rw [e1]; exact he'
    · have hb' : b < s.heap.objs.size := by
        have e' : b = e ∨ b = it := by simpa using hb
        rcases e' with z | z
        · rw [z]; exact hel
        · rw [z]; exact hil
      rw [upd_ne (Nat.ne_of_lt hb')]
      exact (hf b hb).1
  done := by
    intro X hP hw hK hc i pins s σ H E I hf st hg
    subst hP hw hK
    obtain ⟨⟨old, he⟩, hit, hne⟩ := st
    obtain ⟨xs, hq, hx⟩ := hg
    obtain ⟨its, rv, p, hz⟩ := I.tuple hq
    have hT : s.heap.IsTuple a its.toArray := p
    obtain ⟨f0, f1, f2, f3, f4, f5⟩ := hf it (by simp)
    have nai : a ≠ it := fun z => by
      obtain ⟨o1, q1, c1, _⟩ := hit
      obtain ⟨o2, q2, c2, _⟩ := hT
      rw [z, q1] at q2
      cases q2
      rw [c1] at c2
      injection c2 with c2
      exact absurd c2 (by decide)
    have hl : its.toArray.size = i := by rw [List.size_toArray, ← rv.length]; exact hx
    exact wpAny_pyNext_enum_endD (Draws.tuple (A := X.A.in1) (show X.A.in1.handled = none from I.ok.hd hc) it a nai its.toArray) he (by rw [hl]; exact ⟨hit, hT⟩) fun h' eb => ⟨rfl, I.turned (t' := s.toks) (fun b o hb q => eb b o hb q) f0 f1 f3 f4 f5⟩
  self := fun A i s Q E st h => let ⟨⟨_, he⟩, _⟩ := st; wpAny_pyIter_enum he h
/-- enumerate of a list or a tuple -/
def iEnumA (K : PySem.W.Frag) (ta : TA) : TI := fun σ H R => ta σ H fun vs H1 => ∃ a, vs = [.ref a] ∧ ((∃ xs, SqL K H1 a xs) ∧ R (Ite K a) H1 ∨ (∃ xs, SqT K H1 a xs) ∧ R (IteT K a) H1)
theorem pi_enumA {X : Cx} {e : Expr} {ta : TA} {p pos tpos : Pos} {elts : List Expr} {kk : Nat} (hg : Gl X "enumerate") (hm : X.mg "enumerate" = none) (ha : PA X [e] ta) (hs : starEach [e] X.env = [(false, eval e X.env)]) :
    PI X (.Tuple elts kk tpos) (.Call (.Name "enumerate" p) [e] [] pos) (iEnumA X.K ta) := by
  refine ⟨fun pins s σ H R I h => ?_⟩
  refine Call_ (ld_blt I hg hm boot_enumerate (PyProof.Rows.callWith_type1 (thn (ha.run pos pins s σ H _ I h) fun us s1 ⟨vs, H1, I1, r1, q1⟩ => ?_) hs rfl))
  obtain ⟨a, ex, q1⟩ := q1
  subst ex
  cases r1 with
  | cons r rr =>
    cases rr
    cases r
    have fin : ∀ b, b ∈ [s1.heap.objs.size + 1, s1.heap.objs.size] → s1.heap.objs.size ≤ b := fun b hb => by
      have e' : b = s1.heap.objs.size + 1 ∨ b = s1.heap.objs.size := by simpa using hb
      rcases e' with z | z
      · rw [z]; exact Nat.le_add_right _ _
      · rw [z]; exact Nat.le_refl _
    rcases q1 with ⟨⟨xs, hq⟩, q⟩ | ⟨⟨xs, hq⟩, q⟩
    · obtain ⟨its, rv, p', hz⟩ := I1.list hq
      refine call_enumerate_list p'.isList fun h' he hit hsz hk => wpAny_pyIter_enum he ?_
      have I2 : Inv X pins σ H1 { s1 with heap := h' } := I1.kept (t' := s1.toks) hk
      exact ⟨s1.heap.objs.size + 1, [s1.heap.objs.size + 1, s1.heap.objs.size], _, _, H1, rfl, I2, turn_enum a (s1.heap.objs.size + 1) s1.heap.objs.size, ⟨⟨.none, he⟩, hit, Nat.succ_ne_self _⟩, fun b hb => I1.fpOk (fin b hb) (I1.hok.fresh (fin b hb)), q⟩
    · obtain ⟨its, rv, p', hz⟩ := I1.tuple hq
      refine call_enum1 (begins_tuple a its.toArray) p' fun h' he ho hsz hk => wpAny_pyIter_enum he ?_
      have I2 : Inv X pins σ H1 { s1 with heap := h' } := I1.kept (t' := s1.toks) hk
      exact ⟨s1.heap.objs.size + 1, [s1.heap.objs.size + 1, s1.heap.objs.size], _, _, H1, rfl, I2, turn_enumT a (s1.heap.objs.size + 1) s1.heap.objs.size, ⟨⟨.none, he⟩, ⟨_, ho, rfl, rfl⟩, Nat.succ_ne_self _⟩, fun b hb => I1.fpOk (fin b hb) (I1.hok.fresh (fin b hb)), q⟩
section
variable {X : Cx} {g : Gc} {E : XK} {tg e : Expr} {ms : M (List D)} {pos p : Pos}
theorem itd_enumT {Fz : Hp} {a : Addr} {vs : List V} {ds : List D} (h : SqT g.K Fz a vs) (r : Dats g Fz ds vs) : ItD g (IteT g.K a) Fz (enumD 0 ds) where
  go := fun i H s hi => by
    rw [enumD_length] at hi
    have hl := r.length
    exact ⟨vs, vs[i]'(by omega), s.seqT h, List.getElem?_eq_getElem _⟩
  stop := fun i H s hi hi2 => ⟨vs, s.seqT h, by rw [r.length]; rw [enumD_length] at hi hi2; omega⟩
  yld := fun i H O x H' d s dom y e => by
    obtain ⟨T, u, rfl, hT, rfl, y⟩ := y
    have hH : SqT g.K H a vs := (s.trans hid_sub).seqT h
    obtain ⟨d', e0, rfl⟩ := enumD_inv e
    obtain ⟨v, e1, r1⟩ := r.get e0
    have := y vs hH
    rw [e1] at this; cases this
    exact ⟨new_sub hT, Dat.tup (.of (new_hid dom hT)) (Dats.cons Dat.i (Dats.cons (Dat.mono (s.trans (hid_mono (new_sub hT))) _ _ r1) Dats.nil))⟩
theorem i_enum {elts : List Expr} {kk : Nat} {tpos : Pos} (hK : X.K = g.K) (hg : Gl X "enumerate") (hm : X.mg "enumerate" = none) (ha : PA X [e] (tA g E ms)) (hs : starEach [e] X.env = [(false, eval e X.env)]) :
    PI X (.Tuple elts kk tpos) (.Call (.Name "enumerate" p) [e] [] pos) (tI g E (mOfL fEnum ms)) := by
  refine weakI (pi_enumA hg hm ha hs) fun σ H R' ⟨O, env, τ, S, h⟩ => ?_
  rw [hK]
  refine goI S h fun x τ1 v H1 e1 p1 S1 d1 h1 => ?_
  unfold fEnum at h1
  split at h1
  · obtain ⟨u, rfl, d2⟩ := d1.one
    obtain ⟨a, vs, rfl, hp, r⟩ := d2.lstE
    exact ⟨a, rfl, .inl ⟨⟨vs, .of (hid_some hp).1⟩, h1 _ H1 S1.post0 (itd_enum hp r)⟩⟩
  · obtain ⟨u, rfl, d2⟩ := d1.one
    obtain ⟨a, vs, rfl, hp, r⟩ := d2.tupE
    exact ⟨a, rfl, .inr ⟨⟨vs, hid_sub.seqT hp⟩, h1 _ H1 S1.post0 (itd_enumT hp r)⟩⟩
  · exact h1.elim
end
end Z
end
section
set_option Elab.async false
set_option linter.all false
set_option maxRecDepth 100000
namespace Z
open PySem PySem.Spec PyProof.Rows L2

/-! ### comprehensions with two clauses -/
def lc2Go (t : Tgt) (mt : M Bool) (mi1 : M (List D)) (t1 : Tgt) (mt1 : M Bool) (me : M D) (vs1 : List Nat) (env : Env) : Nat → List D → Tape → R (List D)
  | _, [], τ => .ok [] τ
  | n, d :: ds, τ => match bindT t d env with
    | none => .fail
    | some env1 => (mt env1 τ).nx.bind fun b τ1 => if b then (mi1 env1 τ1).nx.bind fun es τ2 => if n + es.length ≤ line then (lcGo t1 mt1 me (wipeE env1 vs1) es τ2).bind fun ys τ3 => (lc2Go t mt mi1 t1 mt1 me vs1 env (n + es.length) ds τ3).bind fun zs τ4 => .ok (ys ++ zs) τ4 else .fail
      else lc2Go t mt mi1 t1 mt1 me vs1 env n ds τ1
def mLc2 (vs : List Nat) (mi : M (List D)) (t : Tgt) (mt : M Bool) (mi1 : M (List D)) (t1 : Tgt) (mt1 : M Bool) (me : M D) (vs1 : List Nat) : M (List D) := fun env τ => (mi env τ).bind fun ds τ1 => lc2Go t mt mi1 t1 mt1 me vs1 (wipeE env vs) 0 ds τ1
section
variable {X : Cx} {g : Gc} {E : XK} {mi mi1 : M (List D)} {t t1 : Tgt} {mt mt1 : M Bool} {me : M D} {pos : Pos}
theorem LcW.up {σ : L2.St} {O : List Addr} {env : Env} {H1 H : Hp} {Dl : Addr} {i j : Nat} {accV : List V} {accD : List D} {τ : Tape} (w : LcW g σ O env H1 Dl i H accV accD τ) (h : i ≤ j) : LcW g σ O env H1 Dl j H accV accD τ := ⟨w.st, w.at_, w.dat, Nat.le_trans w.len h, w.keep, w.apart⟩
theorem R.bind_acc {r : R (List D)} {acc : List D} {f : List D → Tape → R (List D)} (h : ∀ ys τ, f ys τ = .ok (acc ++ ys) τ) : r.bind f = r.bind fun ys τ => .ok (acc ++ ys) τ := by
  cases r with
  | ok a τ => exact h a τ
  | exc c p τ => rfl
  | fail => rfl
theorem lc2_red {σ : L2.St} {H : Hp} {Q : VK} {vs vs1 : List Nat} (hns : ∀ i ∈ t.ns, i ∈ vs) (hns1 : ∀ i ∈ t1.ns, i ∈ vs1) (h0 : tF g E (mLc2 vs mi t mt mi1 t1 mt1 me vs1) σ H Q) : tLc2 (tI g E mi) (gTgt g.K t) (tT g E0x mt) (tI g E0x mi1) (gTgt g.K t1) (tT g E0x mt1) (tE g E0x me) vs vs1 σ H Q := by
  obtain ⟨O, env, τ, S, h⟩ := h0
  refine ⟨O, env, τ, S, ?_⟩
  unfold mLc2 at h
  cases ei : mi env τ with
  | exc c d τ1 => rw [ei] at h; exact h
  | fail => rw [ei] at h; exact h
  | ok ds τ1 =>
    rw [ei] at h
    replace h : ResF g E O H Q (lc2Go t mt mi1 t1 mt1 me vs1 (wipeE env vs) 0 ds τ1) := h
    intro J H1 p1 hJ Dl nD
    have S1 := S.post p1
    have h1 := h.step p1 S.dom S.tO.1 S.tO.2.1
    have nO : Dl ∉ O := not_in_of_none S1.dom nD
    have nTL : Dl ≠ g.T ∧ Dl ≠ g.L ∧ Dl ≠ g.C := ⟨fun z => nO (z ▸ S.tO.1), fun z => nO (z ▸ S.tO.2.1), fun z => by have q := S1.tp.2.2; rw [← z, nD] at q; cases q⟩
    have w0 : LcW g (wipe σ vs) O (wipeE env vs) H1 Dl 0 (upd H1 Dl (.lst [])) [] [] τ1 := by
      refine ⟨(S1.wiped vs).add (fun _ z => nomatch z) nD, upd_same, Dats.nil, Nat.le_refl _, fun a o _ _ e => by rw [upd_ne (ne_of_none e nD)]; exact e, fun j d a e1 e2 z => ?_⟩
      obtain ⟨a', e3, m, _⟩ := (S1.wiped vs).own j d e1
      rw [e2] at e3; cases e3
      exact nO (z ▸ m)
    refine ⟨fun i m H' => m = ds.length - i ∧ i ≤ ds.length ∧ ∃ n accV accD τi, LcW g (wipe σ vs) O (wipeE env vs) H1 Dl n H' accV accD τi ∧ ResF g E O H1 Q ((lc2Go t mt mi1 t1 mt1 me vs1 (wipeE env vs) n (ds.drop i) τi).bind fun ys τ2 => .ok (accD ++ ys) τ2), ⟨ds.length, by simp, Nat.zero_le _, 0, [], [], τ1, w0, ?_⟩, ?_⟩
    · rw [List.drop_zero]
      revert h1
      cases lc2Go t mt mi1 t1 mt1 me vs1 (wipeE env vs) 0 ds τ1 <;> exact fun h1 => h1
    rintro i m H' ⟨rfl, hi, n, accV, accD, τi, w, hr⟩
    have fz : ∀ {H2 : Hp}, (∀ a o, a ≠ g.T → a ≠ g.L → H1 a = some o → H2 a = some o) → Sub (hid H1 O) (hid H2 (Dl :: O)) := fun k a o e => by
      obtain ⟨e1, n⟩ := hid_some e
      refine hid_of (k a o (fun z => n (z ▸ S.tO.1)) (fun z => n (z ▸ S.tO.2.1)) e1) fun z => ?_
      rcases List.mem_cons.mp z with z | z
      · rw [z] at e1; rw [nD] at e1; cases e1
      · exact n z
    have sb := fz w.keep
    by_cases hlt : i < ds.length
    · refine .inr ⟨hJ.go i H' (sb.trans hid_sub) hlt, ?_⟩
      rw [drop_some hlt] at hr
      unfold lc2Go at hr
      cases eb : bindT t ds[i] (wipeE env vs) with
      | none => rw [eb] at hr; exact hr.elim
      | some env1 =>
        rw [eb] at hr
        dsimp only at hr
        refine ⟨fun H3 => i + 1 ≤ ds.length ∧ ∃ n accV accD τi, LcW g (wipe σ vs) O (wipeE env vs) H1 Dl n H3 accV accD τi ∧ ResF g E O H1 Q ((lc2Go t mt mi1 t1 mt1 me vs1 (wipeE env vs) n (ds.drop (i + 1)) τi).bind fun ys τ2 => .ok (accD ++ ys) τ2), fun H3 ⟨q1, q2⟩ => ⟨ds.length - (i + 1), by omega, rfl, q1, q2⟩, fun x H2 y => ?_⟩
        obtain ⟨s2, dx⟩ := hJ.yld i H' (Dl :: O) x H2 ds[i] sb w.st.dom y (List.getElem?_eq_getElem hlt)
        have w2 := w.step ⟨nTL.1, nTL.2.1⟩ (.of_sub s2 w.st.tp)
        refine bind_ok t ds[i] _ _ env1 x _ w2.st dx eb fun σ2 S2 b2 => ⟨?_, ?_⟩
        · rw [wipe_ext b2 hns, wipe_wipe]
        · refine ⟨Dl :: O, env1, τi, S2, ?_⟩
          cases et : mt env1 τi with
          | exc c d τ2 => rw [et] at hr; exact hr.elim
          | fail => rw [et] at hr; exact hr.elim
          | ok b τ2 =>
            rw [et] at hr
            rintro v H3 p3 rfl
            have w3 := w2.step ⟨nTL.1, nTL.2.1⟩ p3
            have S3 := S2.post p3
            cases b with
            | false =>
              rw [if_neg Bool.false_ne_true]
              exact ⟨by omega, n, accV, accD, τ2, w3, hr⟩
            | true =>
              rw [if_pos rfl]
              refine ⟨Dl :: O, env1, τ2, S3, ?_⟩
              replace hr : ResF g E O H1 Q (((mi1 env1 τ2).nx.bind fun es τ2 => if n + es.length ≤ line then (lcGo t1 mt1 me (wipeE env1 vs1) es τ2).bind fun ys τ3 => (lc2Go t mt mi1 t1 mt1 me vs1 (wipeE env vs) (n + es.length) (ds.drop (i + 1)) τ3).bind fun zs τ4 => .ok (ys ++ zs) τ4 else .fail).bind fun ys τ2 => .ok (accD ++ ys) τ2) := hr
              cases em : mi1 env1 τ2 with
              | exc c d τ3 => rw [em] at hr; exact hr.elim
              | fail => rw [em] at hr; exact hr.elim
              | ok es τ3 =>
                rw [em] at hr
                replace hr : ResF g E O H1 Q ((if n + es.length ≤ line then (lcGo t1 mt1 me (wipeE env1 vs1) es τ3).bind fun ys τ3 => (lc2Go t mt mi1 t1 mt1 me vs1 (wipeE env vs) (n + es.length) (ds.drop (i + 1)) τ3).bind fun zs τ4 => .ok (ys ++ zs) τ4 else .fail).bind fun ys τ2 => .ok (accD ++ ys) τ2) := hr
                by_cases hl : n + es.length ≤ line
                · rw [if_pos hl] at hr
                  intro J1 H4 p4 hJ1
                  have w4 := w3.step ⟨nTL.1, nTL.2.1⟩ p4
                  have S4 := S3.post p4
                  have wi4 : LcW g (wipe σ2 vs1) O (wipeE env1 vs1) H1 Dl n H4 accV accD τ3 := by
                    refine ⟨S4.wiped vs1, w4.at_, w4.dat, w4.len, w4.keep, fun j d a e1 e2 => ?_⟩
                    obtain ⟨e1', nv⟩ := wipeE_some e1
                    rw [wipe_out nv] at e2
                    obtain ⟨e3, nt⟩ := bindT_own t ds[i] _ _ j d eb e1'
                    exact w2.apart j d a e3 (by rw [← b2.2 j nt]; exact e2)
                  refine ⟨fun j k H5 => k = es.length - j ∧ j ≤ es.length ∧ Sub (hid H4 (Dl :: O)) (hid H5 (Dl :: O)) ∧ ∃ accV' accD' τj, LcW g (wipe σ vs) O (wipeE env vs) H1 Dl (n + j) H5 accV' accD' τj ∧ LcW g (wipe σ2 vs1) O (wipeE env1 vs1) H1 Dl (n + j) H5 accV' accD' τj ∧
                    ResF g E O H1 Q ((lcGo t1 mt1 me (wipeE env1 vs1) (es.drop j) τj).bind fun ys τ4 => (lc2Go t mt mi1 t1 mt1 me vs1 (wipeE env vs) (n + es.length) (ds.drop (i + 1)) τ4).bind fun zs τ5 => .ok (accD' ++ (ys ++ zs)) τ5), ⟨es.length, by simp, Nat.zero_le _, Sub.refl _, accV, accD, τ3, w4, wi4, ?_⟩, ?_⟩
                  · rw [List.drop_zero]
                    revert hr
                    cases lcGo t1 mt1 me (wipeE env1 vs1) es τ3 with
                    | exc c d τ => exact fun h => h
                    | fail => exact fun h => h
                    | ok ys τ =>
                      show ResF g E O H1 Q (((lc2Go t mt mi1 t1 mt1 me vs1 (wipeE env vs) (n + es.length) (ds.drop (i + 1)) τ).bind fun zs τ4 => .ok (ys ++ zs) τ4).bind fun ys τ2 => .ok (accD ++ ys) τ2) → ResF g E O H1 Q ((lc2Go t mt mi1 t1 mt1 me vs1 (wipeE env vs) (n + es.length) (ds.drop (i + 1)) τ).bind fun zs τ5 => .ok (accD ++ (ys ++ zs)) τ5)
                      rw [R.bind_assoc]
                      exact fun h => h
                  rintro j k H5 ⟨rfl, hj, sb5, accV', accD', τj, wo, wi, hq⟩
                  by_cases hjl : j < es.length
                  · refine .inr ⟨hJ1.go j H5 (sb5.trans hid_sub) hjl, ?_⟩
                    rw [drop_some hjl] at hq
                    unfold lcGo at hq
                    cases eb1 : bindT t1 es[j] (wipeE env1 vs1) with
                    | none => rw [eb1] at hq; exact hq.elim
                    | some env2 =>
                      rw [eb1] at hq
                      dsimp only at hq
                      refine ⟨fun H6 => j + 1 ≤ es.length ∧ Sub (hid H4 (Dl :: O)) (hid H6 (Dl :: O)) ∧ ∃ accV' accD' τj, LcW g (wipe σ vs) O (wipeE env vs) H1 Dl (n + (j + 1)) H6 accV' accD' τj ∧ LcW g (wipe σ2 vs1) O (wipeE env1 vs1) H1 Dl (n + (j + 1)) H6 accV' accD' τj ∧
                        ResF g E O H1 Q ((lcGo t1 mt1 me (wipeE env1 vs1) (es.drop (j + 1)) τj).bind fun ys τ4 => (lc2Go t mt mi1 t1 mt1 me vs1 (wipeE env vs) (n + es.length) (ds.drop (i + 1)) τ4).bind fun zs τ5 => .ok (accD' ++ (ys ++ zs)) τ5), fun H6 ⟨q1, q2⟩ => ⟨es.length - (j + 1), by omega, rfl, q1, q2⟩, fun x1 H6 y1 => ?_⟩
                      obtain ⟨s6, dx1⟩ := hJ1.yld j H5 (Dl :: O) x1 H6 es[j] sb5 wi.st.dom y1 (List.getElem?_eq_getElem hjl)
                      have p6 : Post g H5 H6 τj := .of_sub s6 wi.st.tp
                      have wo6 := wo.step ⟨nTL.1, nTL.2.1⟩ p6
                      have wi6 := wi.step ⟨nTL.1, nTL.2.1⟩ p6
                      have sb6 := sb5.trans (p6.sub wi.st.tO.1 wi.st.tO.2.1)
                      refine bind_ok t1 es[j] _ _ env2 x1 _ wi6.st dx1 eb1 fun σ3 S6 b3 => ⟨?_, ?_⟩
                      · rw [wipe_ext b3 hns1, wipe_wipe]
                      · refine ⟨Dl :: O, env2, τj, S6, ?_⟩
                        cases et1 : mt1 env2 τj with
                        | exc c d τ4 => rw [et1] at hq; exact hq.elim
                        | fail => rw [et1] at hq; exact hq.elim
                        | ok b τ4 =>
                          rw [et1] at hq
                          rintro v1 H7 p7 rfl
                          have wo7 := wo6.step ⟨nTL.1, nTL.2.1⟩ p7
                          have wi7 := wi6.step ⟨nTL.1, nTL.2.1⟩ p7
                          have sb7 := sb6.trans (p7.sub wi.st.tO.1 wi.st.tO.2.1)
                          have S7 := S6.post p7
                          cases b with
                          | false =>
                            rw [if_neg Bool.false_ne_true]
                            exact ⟨by omega, sb7, accV', accD', τ4, wo7.up (by omega), wi7.up (by omega), hq⟩
                          | true =>
                            rw [if_pos rfl]
                            refine ⟨Dl :: O, env2, τ4, S7, ?_⟩
                            replace hq : ResF g E O H1 Q ((((me env2 τ4).nx.bind fun y τ2 => (lcGo t1 mt1 me (wipeE env1 vs1) (es.drop (j + 1)) τ2).bind fun ys τ3 => .ok (y :: ys) τ3)).bind fun ys τ4 => (lc2Go t mt mi1 t1 mt1 me vs1 (wipeE env vs) (n + es.length) (ds.drop (i + 1)) τ4).bind fun zs τ5 => .ok (accD' ++ (ys ++ zs)) τ5) := hq
                            cases ee : me env2 τ4 with
                            | exc c d τ5 => rw [ee] at hq; exact hq.elim
                            | fail => rw [ee] at hq; exact hq.elim
                            | ok y τ5 =>
                              rw [ee] at hq
                              intro v2 H8 p8 dy
                              have wo8 := wo7.step ⟨nTL.1, nTL.2.1⟩ p8
                              have wi8 := wi7.step ⟨nTL.1, nTL.2.1⟩ p8
                              have sb8 := sb7.trans (p8.sub wi.st.tO.1 wi.st.tO.2.1)
                              have sb9 : Sub (hid H8 (Dl :: O)) (hid (upd H8 Dl (.lst (accV' ++ [v2]))) (Dl :: O)) := fun a o e => by
                                obtain ⟨e1, m⟩ := hid_some e
                                have ne : a ≠ Dl := fun z => m (by rw [z]; exact List.mem_cons_self)
                                exact hid_of (by rw [upd_ne ne]; exact e1) m
                              refine ⟨accV', wo8.at_, ?_, by omega, sb8.trans sb9, _, _, τ5, wo8.app nTL nO nD dy, wi8.app nTL nO nD dy, ?_⟩
                              · have l1 := wo8.dat.length
                                have l2 := wo8.len
                                exact line_lt (by omega)
                              · replace hq : ResF g E O H1 Q (((lcGo t1 mt1 me (wipeE env1 vs1) (es.drop (j + 1)) τ5).bind fun ys τ3 => .ok (y :: ys) τ3).bind fun ys τ4 => (lc2Go t mt mi1 t1 mt1 me vs1 (wipeE env vs) (n + es.length) (ds.drop (i + 1)) τ4).bind fun zs τ5 => .ok (accD' ++ (ys ++ zs)) τ5) := hq
                                rw [R.bind_assoc] at hq
                                cases hz : lcGo t1 mt1 me (wipeE env1 vs1) (es.drop (j + 1)) τ5 with
                                | ok ys τ6 =>
                                  rw [hz] at hq
                                  replace hq : ResF g E O H1 Q ((lc2Go t mt mi1 t1 mt1 me vs1 (wipeE env vs) (n + es.length) (ds.drop (i + 1)) τ6).bind fun zs τ5 => .ok (accD' ++ ((y :: ys) ++ zs)) τ5) := hq
                                  show ResF g E O H1 Q ((lc2Go t mt mi1 t1 mt1 me vs1 (wipeE env vs) (n + es.length) (ds.drop (i + 1)) τ6).bind fun zs τ5 => .ok ((accD' ++ [y]) ++ (ys ++ zs)) τ5)
                                  have ef : (fun (zs : List D) (τ5 : Tape) => R.ok ((accD' ++ [y]) ++ (ys ++ zs)) τ5) = fun zs τ5 => R.ok (accD' ++ ((y :: ys) ++ zs)) τ5 := by
                                    funext zs τ5
                                    simp
                                  rw [ef]
                                  exact hq
                                | exc c d τ6 => rw [hz] at hq; exact hq
                                | fail => rw [hz] at hq; exact hq
                  · refine .inl ⟨hJ1.stop j H5 (sb5.trans hid_sub) (by omega) hj, ?_⟩
                    rw [List.drop_eq_nil_of_le (by omega)] at hq
                    have hje : j = es.length := by omega
                    subst hje
                    refine ⟨by omega, _, accV', accD', τj, wo, ?_⟩
                    exact hq
                · rw [if_neg hl] at hr; exact hr.elim
    · refine .inl ⟨hJ.stop i H' (sb.trans hid_sub) (by omega) hi, ?_⟩
      rw [List.drop_eq_nil_of_le (by omega)] at hr
      replace hr : ResF g E O H1 Q (.ok (accD ++ []) τi) := hr
      rw [List.append_nil] at hr
      exact hr Dl accV H' nD ⟨w.keep, w.st.tp⟩ w.at_ w.dat
theorem f_lc2 {elt tg iter tg1 iter1 : Expr} {ifs ifs1 : List Expr} {scope : Scope} {own : List (Str × Nat)} {vs1 : List Nat} {pos : Pos} (hc : X.calm = true) (hN : X.N.Nodup) (hi : PI X tg iter (tI g E mi)) (ok : BlkOk X.N X.env.scope scope own) (hv : ∀ i ∈ vs1, i ∈ own.map (·.2))
    (hg : ∀ (s : Shared) (H : Hp) (C : Addr) (cl : List (Str × Addr)) (fp : List Addr), PG (X.blk s H scope (compEnvC scope cl C X.env) fp) tg (gTgt g.K t)) (ht : ∀ (s : Shared) (H : Hp) (C : Addr) (cl : List (Str × Addr)) (fp : List Addr), PTs (X.blk s H scope (compEnvC scope cl C X.env) fp) ifs (tT g E0x mt))
    (hi1 : ∀ (s : Shared) (H : Hp) (C : Addr) (cl : List (Str × Addr)) (fp : List Addr), PI (X.blk s H scope (compEnvC scope cl C X.env) fp) tg1 iter1 (tI g E0x mi1))
    (hg1 : ∀ (s : Shared) (H : Hp) (C : Addr) (cl : List (Str × Addr)) (fp : List Addr), PG (X.blk s H scope (compEnvC scope cl C X.env) fp) tg1 (gTgt g.K t1)) (ht1 : ∀ (s : Shared) (H : Hp) (C : Addr) (cl : List (Str × Addr)) (fp : List Addr), PTs (X.blk s H scope (compEnvC scope cl C X.env) fp) ifs1 (tT g E0x mt1))
    (he : ∀ (s : Shared) (H : Hp) (C : Addr) (cl : List (Str × Addr)) (fp : List Addr), PE (X.blk s H scope (compEnvC scope cl C X.env) fp) elt (tE g E0x me)) (hs : ∀ x, foldedSetIterable iter X.env x = pure x) (hs1 : ∀ env x, foldedSetIterable iter1 env x = pure x)
    (hns : ∀ i ∈ t.ns, i ∈ own.map (·.2)) (hns1 : ∀ i ∈ t1.ns, i ∈ vs1) :
    PE X (.ListComp elt [⟨tg, iter, ifs, 0⟩, ⟨tg1, iter1, ifs1, 0⟩] scope pos) (tF g E (mLc2 (own.map (·.2)) mi t mt mi1 t1 mt1 me vs1)) :=
  weakE (pe_lc2 hc hN hi ok hv hg ht hi1 hg1 ht1 he hs hs1) fun σ H Q h => lc2_red hns hns1 h
end
end Z
end
section
set_option Elab.async false
set_option linter.all false
set_option maxRecDepth 100000
namespace Z
open PySem PySem.Spec PyProof.Rows L2

/-! ### the tape -/
inductive TK where
  | rest | turn | cells
def TK.key : TK → Str
  | .rest => "rest"
  | .turn => "turn"
  | .cells => "cells"
def TK.get : TK → Tape → D
  | .rest, τ => .int τ.rest
  | .turn, τ => .int τ.turn
  | .cells, τ => .lst (τ.cells.map .int)
/-- tape[k] -/
def mTget (k : TK) (ma : M D) : M D := fun env τ => (ma env τ).bind fun d τ1 => match d with
  | .tape => .ok (k.get τ1) τ1
  | _ => .fail
/-- tape['large'] != [] -/
def mLgNe (ma : M D) : M Bool := fun env τ => (ma env τ).bind fun d τ1 => match d with
  | .tape => .ok (!τ1.large.isEmpty) τ1
  | _ => .fail
/-- tape['large'].pop(0) -/
def mLgPop (ma : M D) : M D := fun env τ => (ma env τ).bind fun d τ1 => match d with
  | .tape => (match τ1.large with
    | x :: r => .ok (.int x) { τ1 with large := r }
    | [] => .fail)
  | _ => .fail
def TK.set : TK → Int → Tape → Option Tape
  | .rest, i, τ => some { τ with rest := i }
  | .turn, i, τ => some { τ with turn := i }
  | .cells, _, _ => none
/-- tape[k] = e -/
def mTset (k : TK) (mo ma : M D) : SM := fun env τ => (ma env τ).bind fun x τ1 => (mo env τ1).bind fun d τ2 => match d, x with
  | .tape, .int i => (match k.set i τ2 with
    | some τ3 => .ok (.nx env) τ3
    | none => .fail)
  | _, _ => .fail
section
variable {X : Cx} {g : Gc} {E : XK} {Hb : Hp} {ma mo : M D} {o e : Expr} {pos pos' p2 p3 : Pos} {q : Nat}
theorem dats_ints {H : Hp} : ∀ (l : List Int), Dats g H (l.map D.int) (l.map V.int)
  | [] => Dats.nil
  | _ :: l => Dats.cons Dat.i (dats_ints l)
theorem Dat.tapeE {H : Hp} {v : V} (h : Dat g H .tape v) : v = .ref g.T := by simpa only [Dat] using h
abbrev pcs (x : Str) (q : Nat) (p : Pos) : Expr := .Constant (.str x) q p
theorem s_tget {k : TK} {x : Str} (hx : x = k.key) (hu : X.A.units + 1 < cLine) (ho : PE X o (tE g E ma)) (hi : PE X (pcs x q p2) (tC (.str x))) (hs : NoSl (pcs x q p2)) : PE X (.Subscript o (pcs x q p2) pos) (tE g E (mTget k ma)) := by
  subst hx
  refine weakE (pe_dget hu ho hi hs) fun σ H Q ⟨O, env, τ, S, h⟩ => ?_
  refine go S h fun d τ1 v H1 e1 p1 S1 d1 h1 => ?_
  cases d with
  | tape =>
    have ev := d1.tapeE
    subst ev
    cases k with
    | rest => exact ⟨g.T, .int τ1.rest, rfl, DGet.k (k := .inr "rest") S1.tp.1, h1 _ H1 S1.post0 Dat.i⟩
    | turn => exact ⟨g.T, .int τ1.turn, rfl, DGet.k (k := .inr "turn") S1.tp.1, h1 _ H1 S1.post0 Dat.i⟩
    | cells => exact ⟨g.T, .ref g.C, rfl, DGet.k (k := .inr "cells") S1.tp.1, h1 _ H1 S1.post0 (Dat.lst (hid_of S1.tp.2.2 S1.tO.2.2) (dats_ints _))⟩
  | _ => exact False.elim h1
theorem t_lgne (hu : X.A.units + 64 < cLine) (ho : PE X o (tE g E ma)) (hK : X.K = g.K) (hi : PE X (pcs "large" q p2) (tC (.str "large"))) (hs : NoSl (pcs "large" q p2)) (hm : behindInMarks .NotEq (.List [] p3) = false) :
    PT X (.Compare (.Subscript o (pcs "large" q p2) pos) [.NotEq] [.List [] p3] pos') (tT g E (mLgNe ma)) := by
  refine weakT (pt_cmpR (op_neD hu) (pe_dget (by omega) ho hi hs) (pe_lst pa_nil) hm) fun σ H Q ⟨O, env, τ, S, h⟩ => ?_
  refine go S h fun d τ1 v H1 e1 p1 S1 d1 h1 => ?_
  cases d with
  | tape =>
    have ev := d1.tapeE
    subst ev
    refine ⟨g.T, .ref g.L, rfl, DGet.k (k := .inr "large") S1.tp.1, line_le (Nat.zero_le _), fun p hp => ?_⟩
    have sb : Sub H1 (upd H1 p (.lst [])) := new_sub hp
    have dl : Dat g (upd H1 p (.lst [])) (.lst (τ1.large.map .int)) (.ref g.L) := Dat.lst (sb _ _ S1.tp.2.1) (dats_ints _)
    have de : Dat g (upd H1 p (.lst [])) (.lst []) (.ref p) := Dat.lst upd_same Dats.nil
    have okl : ∀ l : List Int, okDs 59 (l.map D.int) = true := fun l => by
      induction l with
      | nil => rfl
      | cons x l ih => rw [List.map_cons]; simp only [okDs, okD, ih, Bool.and_self]
    have ok1 : okD 60 (.lst (τ1.large.map .int)) = true := by simp only [okD]; exact okl _
    refine ⟨_, _, by rw [hK]; exact dp_of _ 60 _ ok1 dl, by rw [hK]; exact dp_of (.lst []) 60 _ rfl de, okD_shaped ok1, okD_shaped rfl, !τ1.large.isEmpty, ?_, h1 _ _ (.of_sub sb S1.tp) rfl⟩
    rw [eqv_toP _ _ 60 60 ok1 rfl]
    cases τ1.large <;> rfl
  | _ => exact False.elim h1
theorem StRep.tmod {σ : L2.St} {H H' : Hp} {O : List Addr} {env : Env} {τ τ' : Tape} (S : StRep g σ H O env τ) (k : ∀ a o, a ≠ g.T → a ≠ g.L → H a = some o → H' a = some o) (tp : TapeAt g H' τ') : Post g H H' τ' := ⟨k, tp⟩
theorem tl_ne {σ : L2.St} {H : Hp} {O : List Addr} {env : Env} {τ : Tape} (S : StRep g σ H O env τ) : g.T ≠ g.L ∧ g.C ≠ g.T ∧ g.C ≠ g.L := by
  refine ⟨fun z => ?_, fun z => S.tO.2.2 (z ▸ S.tO.1), fun z => S.tO.2.2 (z ▸ S.tO.2.1)⟩
  have h1 := S.tp.1
  rw [z, S.tp.2.1] at h1
  cases h1
def tapeKvs (L C : Addr) (r t : Int) : List (Key × V) := [(.inr "large", .ref L), (.inr "rest", .int r), (.inr "cells", .ref C), (.inr "turn", .int t)]
theorem put_rest (L C : Addr) (r t i : Int) : putK (tapeKvs L C r t) (.inr "rest" : Key) (.int i) = tapeKvs L C i t := by
  unfold putK tapeKvs
  simp
  exact ⟨by decide +kernel, by decide +kernel, fun z => absurd z (by decide +kernel)⟩
theorem put_turn (L C : Addr) (r t i : Int) : putK (tapeKvs L C r t) (.inr "turn" : Key) (.int i) = tapeKvs L C r i := by
  unfold putK tapeKvs
  simp
  exact ⟨by decide +kernel, fun z => absurd z (by decide +kernel), by decide +kernel⟩
theorem s_lgpop {m : Str} {p4 p5 cpos : Pos} {k0 : Nat} (pa : PlainAttrs "list") (slot : PySem.Slot "list" m "list.pop") (hty : typeOf (.builtin "list.pop") = pure (.type "method_descriptor")) (hu : X.A.units + 1 < cLine) (ho : PE X o (tE g E ma)) (hi : PE X (pcs "large" q p2) (tC (.str "large"))) (hs : NoSl (pcs "large" q p2))
    (h0 : PE X (.Constant (.int 0) k0 p4) (tC (.int 0)))
    (hbase : attributeBase (.Subscript o (pcs "large" q p2) pos) m X.env (eval (.Subscript o (pcs "large" q p2) pos) X.env) = eval (.Subscript o (pcs "large" q p2) pos) X.env)
    (hfew : ((backTo cpos (starEach [.Constant (.int 0) k0 p4] X.env)).all (fun x => !x.1) && (backToKw cpos (keywordEach [] X.env)).all (fun x => x.1.isSome)
      && decide ([Expr.Constant (.int 0) k0 p4].length + ([] : List Keyword).length + (if ([] : List Keyword).isEmpty then 0 else 1) < 30)) = true)
    (hline : (p5.endLine == cpos.line) = true) (hst : starEach [.Constant (.int 0) k0 p4] X.env = (false, eval (.Constant (.int 0) k0 p4) X.env) :: starEach [] X.env) (hplain : (backTo cpos (starEach [] X.env)).any (·.1) = false) :
    PE X (.Call (.Attribute (.Subscript o (pcs "large" q p2) pos) m p5) [.Constant (.int 0) k0 p4] [] cpos) (tE g E (mLgPop ma)) := by
  refine weakE (pe_bm pa slot hty mt_popAt (pe_dget hu ho hi hs) (pa_cons h0 pa_nil hst) hbase hfew hline hst hplain) fun σ H Q ⟨O, env, τ, S, h⟩ => ?_
  refine go S h fun d τ1 v H1 e1 p1 S1 d1 h1 => ?_
  cases d with
  | tape =>
    have ev := d1.tapeE
    subst ev
    refine ⟨g.T, .ref g.L, rfl, DGet.k (k := .inr "large") S1.tp.1, .inl ⟨rfl, _, .of S1.tp.2.1⟩, ?_⟩
    dsimp only at h1
    cases hl : τ1.large with
    | nil => rw [hl] at h1; exact h1.elim
    | cons x r =>
      rw [hl] at h1
      have eL := S1.tp.2.1
      rw [hl] at eL
      obtain ⟨t1, t2, t3⟩ := tl_ne S1
      refine ⟨g.L, _, 0, 0, .int x, rfl, rfl, eL, by decide, by decide, ?_, rfl, ?_⟩
      · have := seqIndex_of (k := 0) (n := (List.map V.int (x :: r)).length) (by decide) (by simp)
        exact this
      · have ee : (List.map V.int (x :: r)).eraseIdx 0 = r.map V.int := rfl
        rw [ee]
        refine h1 (.int x) _ (S1.tmod (fun a o n1 n2 q => by rw [upd_ne n2]; exact q) ⟨?_, upd_same, ?_⟩) Dat.i
        · rw [upd_ne t1]; exact S1.tp.1
        · rw [upd_ne t3]; exact S1.tp.2.2
  | _ => exact False.elim h1
theorem c_tset {k : TK} {x : Str} (hx : x = k.key) (hu : X.A.units + 1 < cLine) (ho : PE X o (tE g E mo)) (hi : PE X (pcs x q p2) (tC (.str x))) (hv : PE X e (tE g E ma)) (hs : swapsWith e (some (.Subscript o (pcs x q p2) pos')) pos.line X.env = pure false) :
    PS X (.Assign [.Subscript o (pcs x q p2) pos'] e pos) (tS g E Hb (mTset k mo ma)) := by
  subst hx
  refine weakS (ps_dput hu ho hi hv hs) fun Dn σ H ⟨O, env, τ, S, b, h⟩ => ?_
  refine goS S b h fun y τ1 u H1 e1 p1 S1 b1 d1 h1 => ?_
  refine goS S1 b1 h1 fun d τ2 v H2 e2 p2 S2 b2 d2 h2 => ?_
  cases d with
  | tape =>
    have ev := d2.tapeE
    subst ev
    cases y with
    | int i =>
      have eu := d1.intE
      subst eu
      obtain ⟨t1, t2, t3⟩ := tl_ne S2
      have fin : ∀ {H3 : Hp} {τ3 : Tape}, Post g H2 H3 τ3 → ResS g E Hb O H2 Dn (.ok (.nx env) τ3) → Dn.nx σ H3 := fun {H3 τ3} p h3 => h3 σ H3 O (p.sub S2.tO.1 S2.tO.2.1) (b2.post p) (S2.post p)
      have nin : ∀ {kvs : List (Key × V)} (H3 : Hp), H3 = upd H2 g.T (.dK kvs) → (∀ a o, a ≠ g.T → a ≠ g.L → H2 a = some o → H3 a = some o) ∧ H3 g.L = some (.lst (τ2.large.map V.int)) ∧ H3 g.C = some (.lst (τ2.cells.map V.int)) := fun {kvs} H3 z => by
        subst z
        exact ⟨fun a o n1 _ q => by rw [upd_ne n1]; exact q, by rw [upd_ne (Ne.symm t1)]; exact S2.tp.2.1, by rw [upd_ne t2]; exact S2.tp.2.2⟩
      cases k with
      | rest =>
        refine ⟨g.T, _, rfl, DPut.k (k := .inr "rest") S2.tp.1 (line_lt (show 4 ≤ line by decide)), ?_⟩
        obtain ⟨k1, k2, k3⟩ := nin _ rfl
        exact fin (τ3 := { τ2 with rest := i }) ⟨k1, ⟨by rw [upd_same]; exact congrArg (fun z => some (HO.dK z)) (put_rest g.L g.C τ2.rest τ2.turn i), k2, k3⟩⟩ h2
      | turn =>
        refine ⟨g.T, _, rfl, DPut.k (k := .inr "turn") S2.tp.1 (line_lt (show 4 ≤ line by decide)), ?_⟩
        obtain ⟨k1, k2, k3⟩ := nin _ rfl
        exact fin (τ3 := { τ2 with turn := i }) ⟨k1, ⟨by rw [upd_same]; exact congrArg (fun z => some (HO.dK z)) (put_turn g.L g.C τ2.rest τ2.turn i), k2, k3⟩⟩ h2
      | cells => exact h2.elim
    | _ => exact False.elim h2
  | _ => exact False.elim h2
end
end Z
end
section
set_option Elab.async false
set_option linter.all false
set_option maxRecDepth 100000
namespace Z
open PySem PySem.Spec PyProof.Rows L2 PySem.W

section
variable {X : Cx} {g : Gc} {E : XK} {Hb : Hp} {ma : M D} {ms : M (List D)} {e : Expr} {pos p : Pos} {tg : Expr}
/-- x = [..] on one line, as a value -/
theorem c_setC {te : TE} {i : Nat} (h : PS X (.Assign [tg] e pos) (tAsg te (gName i))) (ht : ∀ σ H Q, tE g E ma σ H Q → te σ H Q) : PS X (.Assign [tg] e pos) (tS g E Hb (mSet (.nm i) ma)) := by
  have h2 : PS X (.Assign [tg] e pos) (tAsg (tE g E ma) (gTgt g.K (.nm i))) := weakS h fun Dn σ H q => by
    simp only [gTgt] at q
    exact ht σ H _ q
  exact c_set h2 rfl rfl
theorem new_red {σ : L2.St} {H : Hp} {Q : VK} (h : tE g E (mLst ms) σ H Q) : tF g E ms σ H Q := by
  obtain ⟨O, env, τ, S, q⟩ := h
  exact ⟨O, env, τ, S, ResF.val S.dom q⟩
theorem g_lst {es : List Expr} {k : Nat} {ts : List Tgt} (hK : X.K = g.K) (hc : X.calm = true) (h : PGs X es (gTgts g.K ts)) (hn : (assignEach es X.env).length = ts.length) (hst : (assignEach es X.env).findIdx? (·.1) = none) : PG X (.Tuple es k pos) (gTgt g.K (.lp ts)) := by
  simp only [gTgt]
  rw [← hK] at h ⊢
  exact pg_lst hc h hn hst
/-! sorted of an own dict -/
def rSrtD (g : Gc) : List V → Hp → VK → Prop := fun xs H Q => ∃ (a : Addr) (kvs : List (List Key × V)), xs = [.ref a] ∧ H a = some (.dT kvs) ∧ sortOk (kvs.map fun p => keyD p.1) = true ∧
  ∀ q (bs : List Addr), H q = none → IsKeys H kvs bs → Q (.ref q) (upd H q (.lst ((isort (fun a b => dle a.1 b.1) ((kvs.map fun p => keyD p.1).zip (bs.map V.ref))).map (·.2))))
theorem isKeys_len {H : Hp} {kvs : List (List Key × V)} {bs : List Addr} (h : IsKeys H kvs bs) : kvs.length = bs.length := Paired.length h
theorem isKeys_dat {H : Hp} : ∀ {kvs : List (List Key × V)} {bs : List Addr}, IsKeys H kvs bs → ∀ p ∈ (kvs.map fun p => keyD p.1).zip (bs.map V.ref), ∃ k b, p = (keyD k, V.ref b) ∧ H b = some (.tup (k.map kV))
  | _, _, .nil, p, h => by simp at h
  | _, _, .cons (a := q) (b := b) h1 t, p, h => by
    rw [List.map_cons, List.map_cons, List.zip_cons_cons] at h
    rcases List.mem_cons.mp h with e | e
    · exact ⟨q.1, b, e, h1⟩
    · exact isKeys_dat t p e
theorem zip_fst {kvs : List (List Key × V)} {bs : List Addr} (h : kvs.length = bs.length) : (((kvs.map fun p => keyD p.1).zip (bs.map V.ref)).map (·.1)) = kvs.map fun p => keyD p.1 := by
  rw [List.map_fst_zip]
  simp [h]
theorem zip_snd {kvs : List (List Key × V)} {bs : List Addr} (h : kvs.length = bs.length) : (((kvs.map fun p => keyD p.1).zip (bs.map V.ref)).map (·.2)) = bs.map V.ref := by
  rw [List.map_snd_zip]
  simp [h]
theorem dp_key {K : PySem.W.Frag} {H : Hp} {k : List Key} {b : Addr} (h : H b = some (.tup (k.map kV))) : Dp K H (.ref b) (toP (keyD k)) := by
  rw [keyD_eq]
  simp only [toP]
  refine .tup (.of h) ?_
  clear h
  induction k with
  | nil => exact .nil
  | cons x k ih =>
    simp only [List.map_cons, toPs]
    refine .cons ?_ ih
    cases x with
    | inl i => exact .int i
    | inr i => exact .str i
theorem cr_srtD (hc : X.calm = true) (hu : X.A.units + 64 < cLine) : CallR X (.builtin "sorted") (rSrtD g) := by
  intro pins s σ H xs us Q I r h
  obtain ⟨a, kvs, rfl, hd, hok, q⟩ := h
  obtain ⟨u, rfl, rx⟩ := r.one
  cases rx
  obtain ⟨z, hs, ks, pr, o, es, ep, ho, hx, hdt, he, hn⟩ := (show ObjOk X.prog X.w H s.heap a (.dT kvs) from I.hok a _ hd)
  have l1 : es.size = ks.length := size_of_entries he
  have l2 : kvs.length = ks.length := Paired.length pr
  obtain ⟨k1, k2, k3, k4⟩ := sortOk_use hok
  rw [List.length_map] at k2
  have ik : IsKeys H kvs (ks.map fun x => x.2.1) := isKeys_of pr
  have lk := isKeys_len ik
  generalize hps : (kvs.map fun p => keyD p.1).zip ((ks.map fun x => x.2.1).map V.ref) = ps
  have e1 : ps.map (·.1) = kvs.map fun p => keyD p.1 := by rw [← hps]; exact zip_fst lk
  have e2 : ps.map (·.2) = (ks.map fun x => x.2.1).map V.ref := by rw [← hps]; exact zip_snd lk
  have lps : ps.length = kvs.length := by have := congrArg List.length e1; simpa using this
  have e := each_vals (ps := ps) (us := (ks.map fun x => x.2.1).map Value.ref) (by rw [e2]; exact vals_refs _)
  have hal : AllAlike (ps.map fun p : D × V => toP p.1) := by
    have : (ps.map fun p : D × V => toP p.1) = (kvs.map fun p => keyD p.1).map toP := by rw [← e1, List.map_map]; rfl
    rw [this]; exact k3
  have hso : Sortable (ps.map fun p : D × V => toP p.1) ∨ (ps.length ≤ 1 ∧ ∀ d ∈ ps.map (fun p : D × V => toP p.1), d ≠ .none) := by
    have : (ps.map fun p : D × V => toP p.1) = (kvs.map fun p => keyD p.1).map toP := by rw [← e1, List.map_map]; rfl
    rw [this, lps]
    rw [List.length_map] at k4
    exact k4
  refine sorted_gen (vs := (ks.map fun x => x.2.1).map Value.ref) (bs := ps) (R := fun u p => RelV p.2 u ∧ p ∈ ps) (enc := fun p : D × V => toP p.1) (fun R hR => ?_) e (e.mono fun u p hp => ?_) hal hso (by rw [lps]; exact line_le k2) (fun p hp => ?_) fun h2 h' tk out n kp1 kp2 hq hlen hout => ?_
  · refine PySem.W.kdu_collect (A := X.A.in1) (kdl_raw hs hx hdt) (show X.A.in1.handled = none from I.ok.hd hc) ho (by omega) fun h' tk acc kp it => ?_
    have ea : acc.toList = (ks.map fun x => x.2.1).map Value.ref := by
      rw [List.map_map]
      have hl : acc.toList.length = ks.length := by rw [Array.length_toList, it.1]; exact l1
      apply List.ext_getElem?
      intro j
      rw [List.getElem?_map]
      cases hj : acc.toList[j]? with
      | none =>
        have h1 := List.getElem?_eq_none_iff.mp hj
        rw [List.getElem?_eq_none (by omega)]
        all_goals rfl
      | some v =>
        obtain ⟨en, hen, hv⟩ := it.2 j v (by rw [← Array.getElem?_toList]; exact hj)
        have qe := entry_at he j
        rw [hen] at qe
        cases hb : ks[j]? with
        | none =>
          rw [hb] at qe
          exact nomatch (show some en = none from qe)
        | some b =>
          rw [hb] at qe
          have e2 : en = entryOfKey (tupleKind (mixKind X.prog X.w)) b := Option.some.inj qe
          rw [hv, e2]
          all_goals rfl
    rw [ea]
    exact hR h' tk kp
  · obtain ⟨k, b, rfl, hb⟩ := isKeys_dat ik p (by rw [hps]; exact hp.2)
    exact Dp.reads I (toP (keyD k)) (.ref b) u (dp_key hb) hp.1
  · have hm : p.1 ∈ kvs.map fun p => keyD p.1 := by rw [← e1]; exact List.mem_map_of_mem hp
    have := (okD_lay p.1 58 (okDs_mem k1 hm)).2
    show X.A.units + 2 + (toP p.1).depth < cLine
    omega
  · have I1 : Inv X pins σ H { s with heap := h2, toks := tk } := I.kept kp1
    have hn : H h2.objs.size = none := I1.hok.fresh (Nat.le_refl _)
    have er : isort (fun a b : D × V => dle a.1 b.1) ps = ps.mergeSort (dataLe false fun p : D × V => toP p.1) := isort_eq (le := dataLe false fun p : D × V => toP p.1) (by unfold dataLe; exact sortLe_total _ _ _) ps
    have hv : Vals ((isort (fun a b : D × V => dle a.1 b.1) ps).map (·.2)) out := by
      rw [er]; exact vals_each (fun _ _ z => z.1) hout
    refine ⟨.ref h2.objs.size, upd H h2.objs.size (.lst ((isort (fun a b : D × V => dle a.1 b.1) ps).map (·.2))), I1.laid (t' := tk) kp2 (Nat.le_refl _) ⟨?_, out, n, hv, hq⟩, rfl, ?_⟩
    · rw [hv.length, hlen, lps]; exact line_le k2
    · have := q h2.objs.size _ hn ik
      rw [hps] at this
      exact this
def mSrtD (i : Nat) : M (List D) := fun env τ => match env[i]? with
  | some (some (.own (.dic ks _))) => if sortOk ks then .ok (isort dle ks) τ else .fail
  | _ => .fail
theorem f_srtD {i : Nat} {x : Str} {p2 : Pos} (hc : X.calm = true) (hu : X.A.units + 64 < cLine) (hg : Gl X "sorted") (hm : X.mg "sorted" = none) (hx : PE X (.Name x p2) (tVar i)) (hb : bootBuiltins "sorted" = some (.builtin "sorted"))
    (he : starEach [.Name x p2] X.env = (false, eval (.Name x p2) X.env) :: starEach [] X.env) (hpl : (backTo pos (starEach [] X.env)).any (·.1) = false) : PE X (.Call (.Name "sorted" p) [.Name x p2] [] pos) (tF g E (mSrtD i)) := by
  refine weakE (pe_callB (cr_srtD (g := g) hc hu) hg hm hb (pa_cons hx pa_nil he) (by decide) (by decide) he hpl) fun σ H Q ⟨O, env, τ, S, h⟩ => ?_
  unfold mSrtD at h
  split at h
  · rename_i ks vs eo
    split at h
    · rename_i hok
      obtain ⟨a, ea, m, n1, n2, n3, kvs, eH, ef, r⟩ := S.own i _ eo
      subst ef
      refine ⟨.ref a, ea, a, kvs, rfl, eH, hok, fun q bs hq ik => ?_⟩
      have lk := isKeys_len ik
      have em := isort_map (r := fun a b : D × V => dle a.1 b.1) (s := dle) (·.1) (fun _ _ => rfl) ((kvs.map fun p => keyD p.1).zip (bs.map V.ref))
      rw [zip_fst lk] at em
      refine h q _ _ hq (.of_sub (new_sub hq) S.tp) upd_same ?_
      rw [← em]
      refine dats_of fun p hp => ?_
      obtain ⟨k, b, rfl, hb⟩ := isKeys_dat ik p ((isort_perm _).mem_iff.mp hp)
      have nb : b ∉ O := fun z => by
        obtain ⟨o, h1, h2⟩ := S.dom2 b z
        rw [hb] at h1; cases h1
        exact h2 _ rfl
      show Dat g _ (keyD k) (.ref b)
      rw [keyD_eq]
      exact Dat.tup (.of (hid_new hq _ _ (hid_of hb nb))) (dats_kD k)
    · exact h.elim
  · exact h.elim
/-! constants of the module -/
theorem s_gint {x : Str} {i : Int} {t : Tok} (hg : Gl X x) (hm : X.mg x = some (.int i t)) (hd : (x == ("__debug__" : Str)) = false := by decide) : PE X (.Name x pos) (tE g E (mRet (.int i))) := s_const (pe_glob (v := .int i) hg hm ⟨t, rfl⟩ hd) fun _ => Dat.i
theorem s_gstr {x y : Str} {t : Tok} (hg : Gl X x) (hm : X.mg x = some (.str y t)) (hd : (x == ("__debug__" : Str)) = false := by decide) : PE X (.Name x pos) (tE g E (mRet (.str y))) := s_const (pe_glob (v := .str y) hg hm ⟨t, rfl⟩ hd) fun _ => Dat.s
theorem s_gtup {x : Str} {a : Addr} {ds : List D} {vs : List V} (hK : X.K = g.K) (hg : Gl X x) (hm : X.mg x = some (.ref a)) (ht : ∀ H, SqT X.K H a vs) (hv : ∀ H, Dats g H ds vs) (hd : (x == ("__debug__" : Str)) = false := by decide) : PE X (.Name x pos) (tE g E (mRet (.tup ds))) :=
  s_const (pe_glob (v := .ref a) hg hm rfl hd) fun H => Dat.tup (by rw [← hK]; exact ht H) (hv H)
/-- what can't be reached -/
def mNo : SM := fun _ _ => .fail
theorem c_no {st : Stmt} : PS X st (tS g E Hb mNo) := ⟨fun pins s σ H Dn I ⟨_, _, _, _, _, h⟩ => h.elim⟩
theorem x_no {st : Stmt} {x : Addr} : PS X st (tSx g E Hb x fun _ _ => .fail) := ⟨fun pins s σ H Dn I ⟨_, _, _, _, _, _, h⟩ => h.elim⟩
end
end Z
end
section
set_option Elab.async false
set_option linter.all false
set_option maxRecDepth 100000
namespace Z
open PySem PySem.Spec PyProof.Rows L2 PySem.W

def absI (n : Int) : Int := if n < 0 then -n else n
/-- the tape at the beginning -/
def begunT (ns : List Int) : Tape := ⟨(ns.filter fun n => decide (10 ^ 18 ≤ absI n)).map (fun n => absI n - 10 ^ 18), 0, ns.map absI, 0⟩
/-- a comprehension over the ints of a list, its parts pure -/
theorem lc_ints {K : PySem.W.Frag} {σ : L2.St} {H : Hp} {Q : VK} {a : Addr} {ns : List Int} {j : Nat} {vs : List Nat} {tt : TT} {te : TE} {test : Int → Bool} {elem : Int → Int} (hs : SqL K H a (ns.map V.int)) (hl : ns.length ≤ 63) (hj : j ∈ vs) (hlt : j < σ.length)
    (ht : ∀ n σ2 H2 Q2, σ2[j]? = some (some (.int n)) → Q2 (test n) H2 → tt σ2 H2 Q2) (he : ∀ n σ2 H2 Q2, σ2[j]? = some (some (.int n)) → Q2 (.int (elem n)) H2 → te σ2 H2 Q2)
    (k : ∀ D, H D = none → Q (.ref D) (upd H D (.lst (((ns.filter test).map elem).map V.int)))) : tLc (fun σ H R => R (Itl K a) H) (gName j) tt te vs σ H Q := by
  intro D hD
  refine ⟨fun i m H' => m = ns.length - i ∧ i ≤ ns.length ∧ H' = upd H D (.lst ((((ns.take i).filter test).map elem).map V.int)), ⟨ns.length, by simp, Nat.zero_le _, by simp⟩, ?_⟩
  rintro i m H' ⟨rfl, hi, rfl⟩
  have kp : ∀ o b u, H b = some u → upd H D o b = some u := fun o b u e => by rw [upd_ne (ne_of_none e hD)]; exact e
  have hs' : ∀ o, SqL K (upd H D o) a (ns.map V.int) := fun o => by
    rcases hs with (h | ⟨u, h⟩) | h
    · exact .inl (.inl (kp o _ _ h))
    · exact .inl (.inr ⟨u, kp o _ _ h⟩)
    · exact .inr h
  by_cases hlt2 : i < ns.length
  · refine .inr ⟨⟨_, _, hs' _, by rw [List.getElem?_map, List.getElem?_eq_getElem hlt2]; rfl⟩, fun H3 => i + 1 ≤ ns.length ∧ H3 = upd H D (.lst ((((ns.take (i + 1)).filter test).map elem).map V.int)), fun H3 ⟨h1, h2⟩ => ⟨ns.length - (i + 1), by omega, rfl, h1, h2⟩, ?_⟩
    rintro x H2 ⟨rfl, hx⟩
    have ex := hx _ (hs' _)
    rw [List.getElem?_map, List.getElem?_eq_getElem hlt2] at ex
    have ex2 : V.int ns[i] = x := Option.some.inj ex
    subst ex2
    have hjw : j < (wipe σ vs).length := by rw [wipe_length]; exact hlt
    refine ⟨?_, ?_⟩
    · have eb : But [j] (wipe σ vs) ((wipe σ vs).set j (some (V.int ns[i]))) := ⟨by simp, fun k hk => by
        have : j ≠ k := fun z => hk (by simp [z])
        rw [List.getElem?_set_ne this]⟩
      rw [wipe_ext eb (fun k hk => by simp at hk; rw [hk]; exact hj), wipe_wipe]
    · have hg : ((wipe σ vs).set j (some (V.int ns[i])))[j]? = some (some (V.int ns[i])) := List.getElem?_set_self hjw
      have tk : ns.take (i + 1) = ns.take i ++ [ns[i]] := by rw [List.take_succ, List.getElem?_eq_getElem hlt2]; rfl
      refine ht _ _ _ _ hg ?_
      cases hb : test ns[i] with
      | false =>
        rw [if_neg Bool.false_ne_true]
        refine ⟨by omega, ?_⟩
        rw [tk, List.filter_append, List.filter_cons, hb]
        simp
      | true =>
        rw [if_pos rfl]
        refine he _ _ _ _ hg ?_
        refine ⟨_, upd_same, ?_, by omega, ?_⟩
        · rw [List.length_map, List.length_map]
          have := List.length_filter_le test (ns.take i)
          rw [List.length_take] at this
          exact line_lt (show _ ≤ line by unfold line; omega)
        · rw [tk, List.filter_append, List.filter_cons, hb]
          funext b
          by_cases hb2 : b = D
          · rw [hb2, upd_same, upd_same]; simp
          · rw [upd_ne hb2, upd_ne hb2, upd_ne hb2]
  · refine .inl ⟨⟨_, hs' _, by simp; omega⟩, ?_⟩
    rw [List.take_of_length_le (by omega)]
    exact k D hD
/-! ### _law_begun and the law's def -/
/-- the promise: a new tape -/
def spBegun (K : PySem.W.Frag) : Sp := fun vs H Q _ => ∃ a ns, vs = [V.ref a] ∧ SqL K H a (ns.map V.int) ∧ ns.length ≤ 63 ∧ ∀ T L C H', Sub H H' → H T = none → H L = none → H C = none → L ≠ C → H' T = some (.dK (tapeKvs L C 0 0)) → H' L = some (.lst ((begunT ns).large.map V.int)) → H' C = some (.lst ((begunT ns).cells.map V.int)) → Q (.ref T) H'
abbrev rAbsI : List V → Hp → VK → Prop := fun xs H Q => ∃ i, xs = [.int i] ∧ Q (.int (if i < 0 then -i else i)) H
def t_begunT : TT := tTest (tOp (rI0 fun i j => .bl (decide (j ≤ i))) (tCB rAbsI (tCons (tVar 2) tNil)) (tOp (rI CPow fun i j => .int (i ^ j.toNat)) (tC (.int 10)) (tC (.int 18))))
def t_begunE : TE := tOp (rI0 fun i j => .int (i - j)) (tCB rAbsI (tCons (tVar 2) tNil)) (tOp (rI CPow fun i j => .int (i ^ j.toNat)) (tC (.int 10)) (tC (.int 18)))
def t_begun (K : PySem.W.Frag) : TS := tSeq (tAsg (tLc (iSeq K (tVar 0)) (gName 2) t_begunT t_begunE [2]) (gName 1))
  (tSeq (tRet (tDisp [(tC (.str "large"), tVar 1), (tC (.str "rest"), tC (.int 0)), (tC (.str "cells"), tLc (iSeq K (tVar 0)) (gName 2) (fun _ H Q => Q true H) (tCB rAbsI (tCons (tVar 2) tNil)) [2]), (tC (.str "turn"), tC (.int 0))])) tNext)
theorem begun_red {K : PySem.W.Frag} (vs : List V) (H : Hp) (Q : VK) (E : XK) (h : spBegun K vs H Q E) : t_begun K { nx := fun _ H' => Q .non H', rt := Q } (L2.start ["script", "large", "grain"] vs) H := by
  obtain ⟨a, ns, rfl, hs, hl, hQ⟩ := h
  have p18 : CPow 10 18 := ⟨by decide, by decide, by decide⟩
  have seq : ∀ {σ : L2.St} {H1 : Hp} {Q1 : VK} {te : TE} {tt : TT}, σ[0]? = some (some (V.ref a)) → SqL K H1 a (ns.map V.int) → tLc (fun σ H R => R (Itl K a) H) (gName 2) tt te [2] σ H1 Q1 → tLc (iSeq K (tVar 0)) (gName 2) tt te [2] σ H1 Q1 := fun {σ H1 Q1 te tt} h0 h1 h2 =>
    ⟨_, h0, a, rfl, .inl ⟨⟨_, h1⟩, h2⟩⟩
  show tLc (iSeq K (tVar 0)) (gName 2) t_begunT t_begunE [2] [some (V.ref a), none, none] H (fun x H1 => tDisp [(tC (.str "large"), tVar 1), (tC (.str "rest"), tC (.int 0)), (tC (.str "cells"), tLc (iSeq K (tVar 0)) (gName 2) (fun _ H Q => Q true H) (tCB rAbsI (tCons (tVar 2) tNil)) [2]), (tC (.str "turn"), tC (.int 0))] [some (V.ref a), some x, none] H1 Q)
  refine seq (σ := [some (V.ref a), none, none]) rfl hs (lc_ints hs hl (by simp) (by simp) (test := fun n => decide (10 ^ 18 ≤ absI n)) (elem := fun n => absI n - 10 ^ 18) (fun n σ2 H2 Q2 e q => ?_) (fun n σ2 H2 Q2 e q => ?_) fun L nL => ?_)
  · exact ⟨_, e, n, rfl, 10, 18, rfl, rfl, p18, _, _, rfl, rfl, _, rfl, q⟩
  · exact ⟨_, e, n, rfl, 10, 18, rfl, rfl, p18, _, _, rfl, rfl, q⟩
  · have s1 : Sub H (upd H L (.lst ((begunT ns).large.map V.int))) := new_sub nL
    show tDisp [(tC (.str "large"), tVar 1), (tC (.str "rest"), tC (.int 0)), (tC (.str "cells"), tLc (iSeq K (tVar 0)) (gName 2) (fun _ H Q => Q true H) (tCB rAbsI (tCons (tVar 2) tNil)) [2]), (tC (.str "turn"), tC (.int 0))] [some (V.ref a), some (V.ref L), none] (upd H L (.lst ((begunT ns).large.map V.int))) Q
    intro T nT
    have s2 : Sub (upd H L (.lst ((begunT ns).large.map V.int))) (upd (upd H L (.lst ((begunT ns).large.map V.int))) T (.dK [])) := new_sub nT
    have nT1 : H T = none := by
      cases e : H T with
      | none => rfl
      | some o => have := s1 _ _ e; rw [nT] at this; cases this
    have sqL : ∀ {H2}, Sub H H2 → SqL K H2 a (ns.map V.int) := fun s => s.seqL hs
    refine ⟨.ref L, rfl, ?_⟩
    show tLc (iSeq K (tVar 0)) (gName 2) (fun _ H Q => Q true H) (tCB rAbsI (tCons (tVar 2) tNil)) [2] [some (V.ref a), some (V.ref L), none] (upd (upd H L (.lst ((begunT ns).large.map V.int))) T (.dK [])) (fun y H3 => H3 T = some (.dK []) ∧ ∃ kvs : List (Key × V), [(V.str "large", V.ref L), (V.str "rest", V.int 0), (V.str "cells", y), (V.str "turn", V.int 0)] = kvs.map (fun kv => (kV kv.1, kv.2)) ∧ kvs.length ≤ 15 ∧ Q (.ref T) (upd H3 T (.dK (mergeK [] kvs))))
    refine seq (σ := [some (V.ref a), some (V.ref L), none]) rfl (sqL (s1.trans s2)) (lc_ints (sqL (s1.trans s2)) hl (by simp) (by simp) (test := fun _ => true) (elem := absI) (fun n σ2 H2 Q2 e q => q) (fun n σ2 H2 Q2 e q => ⟨_, e, n, rfl, q⟩) fun C nC => ?_)
    have ec : ((ns.filter fun _ => true).map absI) = (begunT ns).cells := by
      have : (ns.filter fun _ => true) = ns := List.filter_eq_self.mpr fun _ _ => rfl
      rw [this]; rfl
    rw [ec]
    have s3 := new_sub (o := HO.lst ((begunT ns).cells.map V.int)) nC
    have nC1 : H C = none := by
      cases e : H C with
      | none => rfl
      | some o => have := s2 _ _ (s1 _ _ e); rw [nC] at this; cases this
    have nTC : T ≠ C := fun z => by rw [← z, upd_same] at nC; cases nC
    have nTL : T ≠ L := fun z => by rw [z, upd_same] at nT; cases nT
    have nLC : L ≠ C := fun z => by
      have := s2 L _ upd_same
      rw [z] at this
      rw [z] at nC
      rw [nC] at this; cases this
    refine ⟨by rw [upd_ne nTC, upd_same], [(.inr "large", .ref L), (.inr "rest", .int 0), (.inr "cells", .ref C), (.inr "turn", .int 0)], rfl, (show 4 ≤ 15 by decide), ?_⟩
    refine hQ T L C _ (fun b o e => ?_) nT1 nL nC1 nLC ?_ ?_ ?_
    · have nb : b ≠ T := ne_of_none e nT1
      rw [upd_ne nb]
      exact s3 _ _ (s2 _ _ (s1 _ _ e))
    · rw [upd_same]
      rfl
    · rw [upd_ne (Ne.symm nTL), upd_ne nLC, upd_ne (Ne.symm nTL), upd_same]
    · rw [upd_ne (Ne.symm nTC), upd_same]
end Z
end
section
set_option Elab.async false
set_option linter.all false
set_option maxRecDepth 100000
namespace Z
open PySem PySem.Spec PyProof.Rows L2 PySem.W

/-- the law's entry behind its first line -/
def envL (N : Nat) (ns : List Int) : Env := some (.val (.scr ns)) :: some (.val .tape) :: List.replicate (N - 2) none
def spLaw (K : PySem.W.Frag) : Sp := fun vs H Q _ => ∃ (a : Addr) (ns : List Int), vs = [V.ref a] ∧ SqL K H a (ns.map V.int) ∧ ns.length ≤ 63 ∧ ∀ H', Q (.bl true) H'
/-- what is fixed, with the tape's addresses -/
structure Gs where
  K : PySem.W.Frag
  clsA : Nat → Addr
  fnA : Nat → Addr
def Gs.gc (s : Gs) (T L C : Addr) (O : List Addr) : Gc := ⟨s.K, T, L, C, s.clsA, s.fnA, O⟩
def tLaw (s : Gs) (m : SM) : TS := fun Dn σ H => ∃ T L C, tS (s.gc T L C [T, L]) E0 H m Dn σ H
theorem pss_law {X : Cx} {s : Gs} {m : SM} {st : List Stmt} (h : ∀ T L C Hb, PSs X st (tS (s.gc T L C [T, L]) E0 Hb m)) : PSs X st (tLaw s m) := ⟨fun pins s σ H D I ⟨T, L, C, q⟩ => (h T L C H).run pins s σ H D I q⟩
def t_law (s : Gs) (m : SM) : TS := tSeq (tAsg (tCall (spBegun s.K) [] E0 (tCons (tVar 0) tNil)) (gName 1)) (tLaw s m)
theorem law_red {s : Gs} {m : SM} {N : List Str} (hN : 2 ≤ N.length) (hm : ∀ ns : List Int, ns.length ≤ 63 → ∃ τ, m (envL N.length ns) (begunT ns) = .ok (.ret (.bl true)) τ) (vs : List V) (H : Hp) (Q : VK) (E : XK) (h : spLaw s.K vs H Q E) :
    t_law s m { nx := fun _ H' => Q .non H', rt := Q } (L2.start N vs) H := by
  obtain ⟨a, ns, rfl, hs, hl, hQ⟩ := h
  have e0 : L2.start N [V.ref a] = some (V.ref a) :: none :: List.replicate (N.length - 2) none := by
    unfold L2.start
    obtain ⟨k, hk⟩ : ∃ k, N.length = k + 2 := ⟨N.length - 2, by omega⟩
    rw [hk]
    rfl
  rw [e0]
  refine ⟨.ref a, rfl, a, ns, rfl, hs, hl, fun T L C H' sb nT nL nC hLC eT eL eC => ?_⟩
  obtain ⟨τ, hτ⟩ := hm ns hl
  have nTL : T ≠ L := fun z => by rw [z, eL] at eT; cases eT
  have nTC : T ≠ C := fun z => by rw [z, eC] at eT; cases eT
  refine ⟨T, L, C, [T, L], envL N.length ns, begunT ns, ?_, ⟨fun _ _ _ _ q => q, fun x hx => .inl hx⟩, ?_⟩
  · refine ⟨⟨eT, eL, eC⟩, ⟨by simp [Gs.gc], by simp [Gs.gc], ?_⟩, ⟨⟨by simp [Gs.gc], by simp [Gs.gc], ?_⟩, fun x hx => hx⟩, ?_, fun x hx => ?_, fun i d e => ?_, fun i d e => ?_, fun i j d e x h1 _ _ _ => ?_⟩
    · simp [Gs.gc, Ne.symm nTC, Ne.symm hLC]
    · simp [Gs.gc, Ne.symm nTC, Ne.symm hLC]
    · simp [envL, gName]
    · rcases List.mem_cons.mp hx with z | z
      · rw [z]; exact ⟨_, eT, fun _ z => nomatch z⟩
      · simp at z
        rw [z]; exact ⟨_, eL, fun _ z => nomatch z⟩
    · match i with
      | 0 =>
        have : d = .scr ns := by simpa [envL] using e.symm
        subst this
        refine ⟨.ref a, by simp [gName], ?_⟩
        simp only [Dat]
        refine ⟨a, rfl, ?_⟩
        have nin : ∀ o, H a = some o → hid H' [T, L] a = some o := fun o q => hid_of (sb _ _ q) (by
          simp
          exact ⟨ne_of_none q nT, ne_of_none q nL⟩)
        rcases hs with (q | ⟨o, q⟩) | q
        · exact .inl (.inl (nin _ q))
        · exact .inl (.inr ⟨o, nin _ q⟩)
        · exact .inr q
      | 1 =>
        have : d = .tape := by simpa [envL] using e.symm
        subst this
        exact ⟨.ref T, by simp [gName], by simp only [Dat]; rfl⟩
      | i + 2 =>
        simp [envL, List.getElem?_replicate] at e
    · match i with
      | 0 => simp [envL] at e
      | 1 => simp [envL] at e
      | i + 2 => simp [envL, List.getElem?_replicate] at e
    · match i with
      | 0 => simp [envL] at h1
      | 1 => simp [envL] at h1
      | i + 2 => simp [envL, List.getElem?_replicate] at h1
  · rw [hτ]
    intro v H2 _ r
    have ev := r.blE
    subst ev
    exact hQ H2
end Z
end
section
set_option Elab.async false
set_option linter.all false
set_option maxRecDepth 100000
namespace Z
open PySem PySem.Spec PyProof.Rows L2

/-! ### the lemmas with their side conditions found -/
theorem bt_len : bootBuiltins "len" = some (.builtin "len") := by decide +kernel
theorem bt_abs : bootBuiltins "abs" = some (.builtin "abs") := by decide +kernel
theorem bt_max : bootBuiltins "max" = some (.builtin "max") := by decide +kernel
theorem bt_min : bootBuiltins "min" = some (.builtin "min") := by decide +kernel
theorem bt_sum : bootBuiltins "sum" = some (.builtin "sum") := by decide +kernel
theorem bt_any : bootBuiltins "any" = some (.builtin "any") := by decide +kernel
theorem bt_all : bootBuiltins "all" = some (.builtin "all") := by decide +kernel
theorem bt_sorted : bootBuiltins "sorted" = some (.builtin "sorted") := by decide +kernel
theorem bt_int : bootBuiltins "int" = some (.type "int") := by decide +kernel
theorem bt_bool : bootBuiltins "bool" = some (.type "bool") := by decide +kernel
theorem bt_str : bootBuiltins "str" = some (.type "str") := by decide +kernel
theorem bt_tuple : bootBuiltins "tuple" = some (.type "tuple") := by decide +kernel
theorem bt_list : bootBuiltins "list" = some (.type "list") := by decide +kernel
theorem units_of {A : Around} {k : Nat} (r : Room k A) : A.units + 65 < cLine := by have := r.un; omega
section
variable {X : Cx} {g : Gc} {E : XK} {Hb : Hp} {ma mb : M D} {ms : M (List D)} {e a b : Expr} {es : List Expr} {p pos : Pos}
theorem sv (i : Nat) {x : Str} (hN : X.N[i]? = some x := by rfl) (hv : Vis X.env.scope x := by first | exact Or.inl rfl | exact Or.inr (Or.inl rfl) | exact Or.inr (Or.inr rfl)) (hd : (x == ("__debug__" : Str)) = false := by decide)
    (hcd : (x == ("__classdict__" : Str)) = false := by decide) : PE X (.Name x pos) (tE g E (mVar i)) := s_var hN hv hd hcd
theorem k_int {i : Int} {j : Nat} : PE X (.Constant (.int i) j pos) (tE g E (mRet (.int i))) := s_const pe_int fun _ => Dat.i
theorem k_bl {i : Bool} {j : Nat} : PE X (.Constant (.bool i) j pos) (tE g E (mRet (.bl i))) := s_const pe_bl fun _ => Dat.b
theorem k_str {i : Str} {j : Nat} : PE X (.Constant (.str i) j pos) (tE g E (mRet (.str i))) := s_const pe_str fun _ => Dat.s
theorem k_non {j : Nat} : PE X (.Constant .none j pos) (tE g E (mRet .non)) := s_const pe_non fun _ => Dat.n
theorem ac (ha : PE X e (tE g E ma)) (hr : PA X es (tA g E ms)) (hs : starEach (e :: es) X.env = (false, eval e X.env) :: starEach es X.env := by rfl) : PA X (e :: es) (tA g E (mCons ma ms)) := a_cons ha hr hs
theorem as (ha : PE X e (tE g E ma)) (hr : PA X es (tA g E ms)) (hK : X.K = g.K := by rfl) (hs : starEach (.Starred e p :: es) X.env = (true, eval e X.env) :: starEach es X.env := by rfl) : PA X (.Starred e p :: es) (tA g E (mStar ma ms)) := a_star hK ha hr hs
/-! operators -/
abbrev dSub' := dSub
theorem o_add (ha : PE X a (tE g E ma)) (hb : PE X b (tE g E mb)) (hK : X.K = g.K := by rfl) : PE X (.BinOp a .Add b pos) (tE g E (m2 dAdd ma mb)) := s_op op_addAll (by rw [hK]; exact opd_add) ha hb
theorem o_mul (ha : PE X a (tE g E ma)) (hb : PE X b (tE g E mb)) (hK : X.K = g.K := by rfl) : PE X (.BinOp a .Mult b pos) (tE g E (m2 dMul ma mb)) := s_op op_mulAll (by rw [hK]; exact opd_mul) ha hb
theorem o_sub (ha : PE X a (tE g E ma)) (hb : PE X b (tE g E mb)) : PE X (.BinOp a .Sub b pos) (tE g E (m2 dSub ma mb)) := s_op op_sub opd_int0 ha hb
theorem c_eq (ha : PE X a (tE g E ma)) (hb : PE X b (tE g E mb)) (hu : X.A.units + 65 < cLine) (hK : X.K = g.K := by rfl) : PE X (.Compare a [.Eq] [b] pos) (tE g E (m2 dEq ma mb)) := s_cmp (op_eqD (by omega)) (by rw [hK]; exact opd_eq) (nomark _) ha hb
theorem c_ne (ha : PE X a (tE g E ma)) (hb : PE X b (tE g E mb)) (hu : X.A.units + 65 < cLine) (hK : X.K = g.K := by rfl) : PE X (.Compare a [.NotEq] [b] pos) (tE g E (m2 dNe ma mb)) := s_cmp (op_neD (by omega)) (by rw [hK]; exact opd_ne) (nomark _) ha hb
theorem c_in (ha : PE X a (tE g E ma)) (hb : PE X b (tE g E mb)) (hu : X.A.units + 65 < cLine) (hK : X.K = g.K := by rfl) (hm : behindInMarks .In b = false := by rfl) : PE X (.Compare a [.In] [b] pos) (tE g E (m2 (dIn false) ma mb)) := s_cmp (OpR.orr (op_inD hu) (op_inT hu)) (by rw [hK]; exact opd_in) hm ha hb
theorem c_notin (ha : PE X a (tE g E ma)) (hb : PE X b (tE g E mb)) (hu : X.A.units + 65 < cLine) (hK : X.K = g.K := by rfl) (hm : behindInMarks .NotIn b = false := by rfl) : PE X (.Compare a [.NotIn] [b] pos) (tE g E (m2 (dIn true) ma mb)) := s_cmp (OpR.orr (op_notInD hu) (op_notInT hu)) (by rw [hK]; exact opd_notIn) hm ha hb
theorem c_lt (ha : PE X a (tE g E ma)) (hb : PE X b (tE g E mb)) : PE X (.Compare a [.Lt] [b] pos) (tE g E (m2 dLt ma mb)) := s_cmp op_lt opd_cmp (nomark _) ha hb
theorem c_le (ha : PE X a (tE g E ma)) (hb : PE X b (tE g E mb)) : PE X (.Compare a [.LtE] [b] pos) (tE g E (m2 dLe ma mb)) := s_cmp op_le opd_cmp (nomark _) ha hb
theorem c_gt (ha : PE X a (tE g E ma)) (hb : PE X b (tE g E mb)) : PE X (.Compare a [.Gt] [b] pos) (tE g E (m2 dGt ma mb)) := s_cmp op_gt opd_cmp (nomark _) ha hb
theorem c_ge (ha : PE X a (tE g E ma)) (hb : PE X b (tE g E mb)) : PE X (.Compare a [.GtE] [b] pos) (tE g E (m2 dGe ma mb)) := s_cmp op_ge opd_cmp (nomark _) ha hb
theorem c_is (ha : PE X a (tE g E ma)) (hb : PE X b (tE g E mb)) : PE X (.Compare a [.Is] [b] pos) (tE g E (m2 (dIs false) ma mb)) := s_cmp op_isAll opd_is (nomark _) ha hb
theorem c_isnot (ha : PE X a (tE g E ma)) (hb : PE X b (tE g E mb)) : PE X (.Compare a [.IsNot] [b] pos) (tE g E (m2 (dIs true) ma mb)) := s_cmp op_notAll opd_isnot (nomark _) ha hb
end
end Z
end
section
set_option Elab.async false
set_option linter.all false
set_option maxRecDepth 100000
namespace Z
open PySem PySem.Spec PyProof.Rows L2
section
variable {X : Cx} {g : Gc} {E : XK} {Hb : Hp} {ma mb mc : M D} {ms : M (List D)} {e a b c : Expr} {es : List Expr} {p pos : Pos} {x : Str}
theorem o_fdiv (ha : PE X a (tE g E ma)) (hb : PE X b (tE g E mb)) : PE X (.BinOp a .FloorDiv b pos) (tE g E (m2 dFdiv ma mb)) := s_op op_fdiv (opd_int fun i j h => by simpa [CDiv] using h) ha hb
theorem o_mod (ha : PE X a (tE g E ma)) (hb : PE X b (tE g E mb)) : PE X (.BinOp a .Mod b pos) (tE g E (m2 dMod ma mb)) := s_op op_mod (opd_int fun i j h => by simpa using h) ha hb
theorem o_pow (ha : PE X a (tE g E ma)) (hb : PE X b (tE g E mb)) : PE X (.BinOp a .Pow b pos) (tE g E (m2 dPow ma mb)) := s_op op_pow (opd_int fun i j h => by simpa [CPow] using h) ha hb
theorem u_not (ha : PE X e (tE g E ma)) (hK : X.K = g.K := by rfl) : PE X (.UnaryOp .Not e pos) (tE g E (mNot ma)) := s_not hK ha
theorem u_neg (ha : PE X e (tE g E ma)) : PE X (.UnaryOp .USub e pos) (tE g E (mUn dNeg ma)) := s_neg ha
theorem u_and {rest : List Expr} (ha : PE X a (tE g E ma)) (hb : PE X (.BoolOp .And (b :: rest) pos) (tE g E mb)) (hK : X.K = g.K := by rfl) : PE X (.BoolOp .And (a :: b :: rest) pos) (tE g E (mAnd ma mb)) := s_and hK ha hb
theorem u_or {rest : List Expr} (ha : PE X a (tE g E ma)) (hb : PE X (.BoolOp .Or (b :: rest) pos) (tE g E mb)) (hK : X.K = g.K := by rfl) : PE X (.BoolOp .Or (a :: b :: rest) pos) (tE g E (mOr ma mb)) := s_or hK ha hb
/-! truth -/
theorem q_eq (ha : PE X a (tE g E ma)) (hb : PE X b (tE g E mb)) (hu : X.A.units + 65 < cLine) (hK : X.K = g.K := by rfl) : PT X (.Compare a [.Eq] [b] pos) (tT g E (mBl (m2 dEq ma mb))) := t_cmp (op_eqD (by omega)) (by rw [hK]; exact opd_eq) (nomark _) ha hb
theorem q_ne (ha : PE X a (tE g E ma)) (hb : PE X b (tE g E mb)) (hu : X.A.units + 65 < cLine) (hK : X.K = g.K := by rfl) : PT X (.Compare a [.NotEq] [b] pos) (tT g E (mBl (m2 dNe ma mb))) := t_cmp (op_neD (by omega)) (by rw [hK]; exact opd_ne) (nomark _) ha hb
theorem q_in (ha : PE X a (tE g E ma)) (hb : PE X b (tE g E mb)) (hu : X.A.units + 65 < cLine) (hK : X.K = g.K := by rfl) (hm : behindInMarks .In b = false := by rfl) : PT X (.Compare a [.In] [b] pos) (tT g E (mBl (m2 (dIn false) ma mb))) := t_cmp (OpR.orr (op_inD hu) (op_inT hu)) (by rw [hK]; exact opd_in) hm ha hb
theorem q_notin (ha : PE X a (tE g E ma)) (hb : PE X b (tE g E mb)) (hu : X.A.units + 65 < cLine) (hK : X.K = g.K := by rfl) (hm : behindInMarks .NotIn b = false := by rfl) : PT X (.Compare a [.NotIn] [b] pos) (tT g E (mBl (m2 (dIn true) ma mb))) := t_cmp (OpR.orr (op_notInD hu) (op_notInT hu)) (by rw [hK]; exact opd_notIn) hm ha hb
theorem q_lt (ha : PE X a (tE g E ma)) (hb : PE X b (tE g E mb)) : PT X (.Compare a [.Lt] [b] pos) (tT g E (mBl (m2 dLt ma mb))) := t_cmp op_lt opd_cmp (nomark _) ha hb
theorem q_le (ha : PE X a (tE g E ma)) (hb : PE X b (tE g E mb)) : PT X (.Compare a [.LtE] [b] pos) (tT g E (mBl (m2 dLe ma mb))) := t_cmp op_le opd_cmp (nomark _) ha hb
theorem q_gt (ha : PE X a (tE g E ma)) (hb : PE X b (tE g E mb)) : PT X (.Compare a [.Gt] [b] pos) (tT g E (mBl (m2 dGt ma mb))) := t_cmp op_gt opd_cmp (nomark _) ha hb
theorem q_ge (ha : PE X a (tE g E ma)) (hb : PE X b (tE g E mb)) : PT X (.Compare a [.GtE] [b] pos) (tT g E (mBl (m2 dGe ma mb))) := t_cmp op_ge opd_cmp (nomark _) ha hb
theorem q_is (ha : PE X a (tE g E ma)) (hb : PE X b (tE g E mb)) : PT X (.Compare a [.Is] [b] pos) (tT g E (mBl (m2 (dIs false) ma mb))) := t_cmp op_isAll opd_is (nomark _) ha hb
theorem q_isnot (ha : PE X a (tE g E ma)) (hb : PE X b (tE g E mb)) : PT X (.Compare a [.IsNot] [b] pos) (tT g E (mBl (m2 (dIs true) ma mb))) := t_cmp op_notAll opd_isnot (nomark _) ha hb
theorem q_tru (ha : PE X a (tE g E ma)) (hK : X.K = g.K := by rfl) (he : ∀ whole, isTrue a X.env whole = (do let v ← whole; standAt a.pos; holding [v] (truthy v)) := by intro _; rfl) : PT X a (tT g E (mTst ma)) := t_tru hK ha he
/-- a <= b <= c, a < b < c -/
theorem c_le2 (ha : PE X a (tE g E ma)) (hb : PE X b (tE g E mb)) (hc : PE X c (tE g E mc)) (hm : lastMarks [.LtE, .LtE] [b, c] = false := by rfl) : PE X (.Compare a [.LtE, .LtE] [b, c] pos) (tE g E (mChain dLe dLe ma mb mc)) := s_chain op_le op_le opd_cmp opd_cmp hm ha hb hc
theorem q_le2 (ha : PE X a (tE g E ma)) (hb : PE X b (tE g E mb)) (hc : PE X c (tE g E mc)) (hm : lastMarks [.LtE, .LtE] [b, c] = false := by rfl) : PT X (.Compare a [.LtE, .LtE] [b, c] pos) (tT g E (mBl (mChain dLe dLe ma mb mc))) := t_chain op_le op_le opd_cmp opd_cmp hm ha hb hc
/-! items, slices -/
theorem x_ix (ha : PE X a (tE g E ma)) (hb : PE X b (tE g E mb)) (hK : X.K = g.K := by rfl) (hs : PlainIx b := by intro _ _; rfl) : PE X (.Subscript a b pos) (tE g E (m2 dIx ma mb)) := s_ix hK ha hb hs
theorem x_sl {lo hi : Option Expr} {ml mh : M (Option Int)} {p2 : Pos} (ha : PE X e (tE g E ma)) (hl : PO X lo (tO g E ml)) (hh : PO X hi (tO g E mh)) (hK : X.K = g.K := by rfl) : PE X (.Subscript e (.Slice lo hi none p2) pos) (tE g E (mSl ma ml mh)) := s_slice hK ha hl hh
/-! built-in functions -/
theorem b_len (hm : X.mg "len" = none) (ha : PA X [e] (tA g E ms)) (hK : X.K = g.K := by rfl) (hg : Gl X "len" := by rfl) (he : starEach [e] X.env = (false, eval e X.env) :: starEach [] X.env := by rfl) (hpl : (backTo pos (starEach [] X.env)).any (·.1) = false := by rfl) : PE X (.Call (.Name "len" p) [e] [] pos) (tE g E (mCall fLen ms)) :=
  s_callB call_len_seq (by rw [hK]; exact cd_len) hg hm bt_len ha (by decide) (by decide) he hpl
theorem b_abs (hm : X.mg "abs" = none) (ha : PA X [e] (tA g E ms)) (hg : Gl X "abs" := by rfl) (he : starEach [e] X.env = (false, eval e X.env) :: starEach [] X.env := by rfl) (hpl : (backTo pos (starEach [] X.env)).any (·.1) = false := by rfl) : PE X (.Call (.Name "abs" p) [e] [] pos) (tE g E (mCall fAbs ms)) :=
  s_callB call_abs cd_abs hg hm bt_abs ha (by decide) (by decide) he hpl
theorem b_int (hm : X.mg "int" = none) (ha : PA X [e] (tA g E ms)) (hg : Gl X "int" := by rfl) (he : starEach [e] X.env = (false, eval e X.env) :: starEach [] X.env := by rfl) (hpl : (backTo pos (starEach [] X.env)).any (·.1) = false := by rfl) : PE X (.Call (.Name "int" p) [e] [] pos) (tE g E (mCall fInt ms)) :=
  s_callTy call_int1 cd_int hg hm bt_int ha (by decide) (by decide) he hpl
theorem b_max2 (hm : X.mg "max" = none) (ha : PA X [a, b] (tA g E ms)) (hc : X.calm = true := by rfl) (hg : Gl X "max" := by rfl) (he : starEach [a, b] X.env = (false, eval a X.env) :: starEach [b] X.env := by rfl) (hpl : (backTo pos (starEach [b] X.env)).any (·.1) = false := by rfl) : PE X (.Call (.Name "max" p) [a, b] [] pos) (tE g E (mCall fMax2 ms)) :=
  s_callB (call_max2 hc) cd_max2 hg hm bt_max ha (by decide) (by decide) he hpl
theorem b_min2 (hm : X.mg "min" = none) (ha : PA X [a, b] (tA g E ms)) (hc : X.calm = true := by rfl) (hg : Gl X "min" := by rfl) (he : starEach [a, b] X.env = (false, eval a X.env) :: starEach [b] X.env := by rfl) (hpl : (backTo pos (starEach [b] X.env)).any (·.1) = false := by rfl) : PE X (.Call (.Name "min" p) [a, b] [] pos) (tE g E (mCall fMin2 ms)) :=
  s_callB (call_min2 hc) cd_min2 hg hm bt_min ha (by decide) (by decide) he hpl
theorem b_sum (hm : X.mg "sum" = none) (ha : PA X [e] (tA g E ms)) (hc : X.calm = true := by rfl) (hK : X.K = g.K := by rfl) (hg : Gl X "sum" := by rfl) (he : starEach [e] X.env = (false, eval e X.env) :: starEach [] X.env := by rfl) (hpl : (backTo pos (starEach [] X.env)).any (·.1) = false := by rfl) : PE X (.Call (.Name "sum" p) [e] [] pos) (tE g E (mCall fSum ms)) :=
  s_callB (cr_sum hc) (by rw [hK]; exact cd_sum) hg hm bt_sum ha (by decide) (by decide) he hpl
theorem b_any (hm : X.mg "any" = none) (ha : PA X [e] (tA g E ms)) (hc : X.calm = true := by rfl) (hK : X.K = g.K := by rfl) (hg : Gl X "any" := by rfl) (he : starEach [e] X.env = (false, eval e X.env) :: starEach [] X.env := by rfl) (hpl : (backTo pos (starEach [] X.env)).any (·.1) = false := by rfl) : PE X (.Call (.Name "any" p) [e] [] pos) (tE g E (mCall fAny ms)) :=
  s_callB (cr_any hc) (by rw [hK]; exact cd_any) hg hm bt_any ha (by decide) (by decide) he hpl
theorem b_all (hm : X.mg "all" = none) (ha : PA X [e] (tA g E ms)) (hc : X.calm = true := by rfl) (hK : X.K = g.K := by rfl) (hg : Gl X "all" := by rfl) (he : starEach [e] X.env = (false, eval e X.env) :: starEach [] X.env := by rfl) (hpl : (backTo pos (starEach [] X.env)).any (·.1) = false := by rfl) : PE X (.Call (.Name "all" p) [e] [] pos) (tE g E (mCall fAll ms)) :=
  s_callB (cr_all hc) (by rw [hK]; exact cd_all) hg hm bt_all ha (by decide) (by decide) he hpl
theorem b_max (hm : X.mg "max" = none) (ha : PA X [e] (tA g E ms)) (hc : X.calm = true := by rfl) (hK : X.K = g.K := by rfl) (hg : Gl X "max" := by rfl) (he : starEach [e] X.env = (false, eval e X.env) :: starEach [] X.env := by rfl) (hpl : (backTo pos (starEach [] X.env)).any (·.1) = false := by rfl) : PE X (.Call (.Name "max" p) [e] [] pos) (tE g E (mCall fMax ms)) :=
  s_callB (cr_max hc) (by rw [hK]; exact cd_max) hg hm bt_max ha (by decide) (by decide) he hpl
theorem b_min (hm : X.mg "min" = none) (ha : PA X [e] (tA g E ms)) (hc : X.calm = true := by rfl) (hK : X.K = g.K := by rfl) (hg : Gl X "min" := by rfl) (he : starEach [e] X.env = (false, eval e X.env) :: starEach [] X.env := by rfl) (hpl : (backTo pos (starEach [] X.env)).any (·.1) = false := by rfl) : PE X (.Call (.Name "min" p) [e] [] pos) (tE g E (mCall fMin ms)) :=
  s_callB (cr_min hc) (by rw [hK]; exact cd_min) hg hm bt_min ha (by decide) (by decide) he hpl
theorem b_tuple (hm : X.mg "tuple" = none) (ha : PA X [e] (tA g E ms)) (hK : X.K = g.K := by rfl) (hg : Gl X "tuple" := by rfl) (he : starEach [e] X.env = (false, eval e X.env) :: starEach [] X.env := by rfl) (hpl : (backTo pos (starEach [] X.env)).any (·.1) = false := by rfl) : PE X (.Call (.Name "tuple" p) [e] [] pos) (tE g E (mCall fTuple ms)) :=
  s_callTy call_tuple_of (by rw [hK]; exact cd_tuple) hg hm bt_tuple ha (by decide) (by decide) he hpl
theorem n_list (hm : X.mg "list" = none) (ha : PA X [e] (tA g E ms)) (hK : X.K = g.K := by rfl) (hg : Gl X "list" := by rfl) (he : starEach [e] X.env = (false, eval e X.env) :: starEach [] X.env := by rfl) (hpl : (backTo pos (starEach [] X.env)).any (·.1) = false := by rfl) : PE X (.Call (.Name "list" p) [e] [] pos) (tF g E (mCallF fList ms)) :=
  f_callTy call_list_of (by rw [hK]; exact cf_list) hg hm bt_list ha (by decide) (by decide) he hpl
theorem n_sorted (hm : X.mg "sorted" = none) (ha : PA X [e] (tA g E ms)) (hu : X.A.units + 65 < cLine) (hK : X.K = g.K := by rfl) (hg : Gl X "sorted" := by rfl) (he : starEach [e] X.env = (false, eval e X.env) :: starEach [] X.env := by rfl) (hpl : (backTo pos (starEach [] X.env)).any (·.1) = false := by rfl) : PE X (.Call (.Name "sorted" p) [e] [] pos) (tF g E (mCallF fSort ms)) :=
  f_callB (cr_srt hK (by omega)) cf_srt hg hm bt_sorted ha (by decide) (by decide) he hpl
theorem i_rng1 {tg : Expr} (hm : X.mg "range" = none) (ha : PA X [a] (tA g E ms)) (hg : Gl X "range" := by rfl) (hs : starEach [a] X.env = [(false, eval a X.env)] := by rfl) : PI X tg (.Call (.Name "range" p) [a] [] pos) (tI g E (mOfL fRange1 ms)) := i_range1 hg hm ha hs
theorem i_rng2 {tg : Expr} (hm : X.mg "range" = none) (ha : PA X [a, b] (tA g E ms)) (hg : Gl X "range" := by rfl) (hs : starEach [a, b] X.env = [(false, eval a X.env), (false, eval b X.env)] := by rfl) (hs2 : starEach [b] X.env = [(false, eval b X.env)] := by rfl) : PI X tg (.Call (.Name "range" p) [a, b] [] pos) (tI g E (mOfL fRange2 ms)) := i_range2 hg hm ha hs hs2
theorem i_zp {elts : List Expr} {kk : Nat} {tpos : Pos} (hm : X.mg "zip" = none) (ha : PA X [a, b] (tA g E ms)) (hK : X.K = g.K := by rfl) (hg : Gl X "zip" := by rfl) (hs : starEach [a, b] X.env = (false, eval a X.env) :: starEach [b] X.env := by rfl) (hpl : (backTo pos (starEach [b] X.env)).any (·.1) = false := by rfl) : PI X (.Tuple elts kk tpos) (.Call (.Name "zip" p) [a, b] [] pos) (tI g E (mOfL fZip ms)) := i_zip hK hg hm ha hs hpl
theorem i_enu {elts : List Expr} {kk : Nat} {tpos : Pos} (hm : X.mg "enumerate" = none) (ha : PA X [e] (tA g E ms)) (hK : X.K = g.K := by rfl) (hg : Gl X "enumerate" := by rfl) (hs : starEach [e] X.env = [(false, eval e X.env)] := by rfl) : PI X (.Tuple elts kk tpos) (.Call (.Name "enumerate" p) [e] [] pos) (tI g E (mOfL fEnum ms)) := i_enum hK hg hm ha hs
theorem i_sq {tg : Expr} (ha : PE X e (tE g E ma)) (hK : X.K = g.K := by rfl) : PI X tg e (tI g E (mItems ma)) := i_seq hK ha
/-! comprehensions -/
theorem lc1 {elt tg iter : Expr} {ifs : List Expr} {scope : Scope} (own : List (Str × Nat)) {mi : M (List D)} {t : Tgt} {mt : M Bool} {me : M D} (hN : X.N.Nodup) (hi : PI X tg iter (tI g E mi))
    (hg : ∀ (s : Shared) (H : Hp) (C : Addr) (cl : List (Str × Addr)) (fp : List Addr), PG (X.blk s H scope (compEnvC scope cl C X.env) fp) tg (gTgt g.K t))
    (ht : ∀ (s : Shared) (H : Hp) (C : Addr) (cl : List (Str × Addr)) (fp : List Addr), PTs (X.blk s H scope (compEnvC scope cl C X.env) fp) ifs (tT g E0x mt))
    (he : ∀ (s : Shared) (H : Hp) (C : Addr) (cl : List (Str × Addr)) (fp : List Addr), PE (X.blk s H scope (compEnvC scope cl C X.env) fp) elt (tE g E0x me))
    (ok : BlkOk X.N X.env.scope scope own) (hK : X.K = g.K := by rfl) (hc : X.calm = true := by rfl) (hf : ∀ x, foldedSetIterable iter X.env x = pure x := by intro _; rfl) (hns : ∀ i ∈ t.ns, i ∈ own.map (·.2) := by decide) :
    PE X (.ListComp elt [⟨tg, iter, ifs, 0⟩] scope pos) (tF g E (mLc (own.map (·.2)) mi t mt me)) := f_lc hK hc hN hi ok hg ht he hf hns
end
end Z
end
section
set_option Elab.async false
set_option linter.all false
set_option maxRecDepth 100000
namespace Z
open PySem PySem.Spec PyProof.Rows L2

/-! ### what is known of the program's defs -/
/-- the module's name x is a def that does φ; ds0: the defaults that fill up -/
structure Cal (P : Program) (w : World) (K : PySem.W.Frag) (mg : Str → Option Value) (base : Heap) (k : Nat) (x : Str) (n : Nat) (φ : Fn) (g : Gc) (ds0 : List D) : Prop where
  ex : ∃ f fd ps ds dvs, FnOk P w K mg base CX0 k f fd ps (spM g n φ) ∧ mg x = some (.ref f) ∧ PySem.W.keepIn K (.ref f) = true ∧ Binds K fd ps ds ∧ Vals dvs ds ∧ ∀ H, Dats g H ds0 dvs
/-- the class c has the method m -/
structure Met (P : Program) (w : World) (K : PySem.W.Frag) (mg : Str → Option Value) (base : Heap) (k : Nat) (c : Nat) (m : Str) (n : Nat) (φ : Fn) (g : Gc) : Prop where
  ex : ∃ f fd ps, FnOk P w K mg base CX0 k f fd ps (spM g n φ) ∧ Meth K (g.clsA c) m f ∧ Binds K fd ps []
  cls : Cls K (g.clsA c)
  nf : ixOf m (clsF c) = none
structure Prp (P : Program) (w : World) (K : PySem.W.Frag) (mg : Str → Option Value) (base : Heap) (k : Nat) (c : Nat) (m : Str) (φ : Fn) (g : Gc) : Prop where
  ex : ∃ p f fd ps, FnOk P w K mg base CX0 k f fd ps (spM g 1 φ) ∧ PropOf K (g.clsA c) m p f ∧ Binds K fd ps []
  cls : Cls K (g.clsA c)
/-- the class c, called x -/
structure Mak (P : Program) (w : World) (K : PySem.W.Frag) (mg : Str → Option Value) (base : Heap) (k : Nat) (c : Nat) (x : Str) (n : Nat) (φ : Fn) (g : Gc) : Prop where
  ex : ∃ f fd ps, FnOk P w K mg base CX0 k f fd ps (spI g c n φ) ∧ Mk K (g.clsA c) f ∧ mg x = some (.ref (g.clsA c)) ∧ Binds K fd ps []
/-- the class c in isinstance -/
structure IsC (K : PySem.W.Frag) (mg : Str → Option Value) (c : Nat) (x : Str) (cA : Nat → Addr) : Prop where
  mg_ : mg x = some (.ref (cA c))
  nb : NotB K (cA c)
  cl : Cls K (cA c)
  h1 : PySem.W.findIn K (.ref (cA c)) "__class__" = some (some (.builtin "object.__class__"))
  h2 : PySem.W.specialIn K (.builtin "object.__class__") "__get__" = some (some (.builtin "getset_descriptor.__get__"))
  h3 : PySem.W.takesIn K (.builtin "object.__class__") = some true
  h4 : PySem.W.mroIn K (cA c) (.type "object") = some true
section
variable {X : Cx} {g : Gc} {E : XK} {Hb : Hp} {ma mb : M D} {ms : M (List D)} {e a b o : Expr} {es : List Expr} {p p2 p3 pos apos : Pos} {x m : Str} {k kc n c : Nat} {φ : Fn} {ds0 : List D}
theorem gl_call (F : Cal X.prog X.w X.K X.mg X.base kc x n φ (g.at []) ds0) (hr : Room k X.A) (ha : PA X (e :: es) (tA g E ms)) (hkk : kc ≤ k := by decide) (hg : Gl X x := by rfl) (hdb : (x == ("__debug__" : Str)) = false := by decide)
    (he : starEach (e :: es) X.env = (false, eval e X.env) :: starEach es X.env := by rfl) (hpl : (backTo pos (starEach es X.env)).any (·.1) = false := by rfl) : PE X (.Call (.Name x p) (e :: es) [] pos) (tE g E (mFn n φ ds0 ms)) := by
  obtain ⟨f, fd, ps, ds, dvs, F, hm, hk, hb, hd, h0⟩ := F.ex
  exact s_call (g := g) F (hr.mono hkk) hg hm hk hb hd (fun H => (dats_at _ _).1 (h0 H)) (fun _ _ _ _ _ _ _ h => h.elim) ha hdb he hpl
theorem gl_make (F : Mak X.prog X.w X.K X.mg X.base kc c x n φ (g.at [])) (hr : Room k X.A) (ha : PA X (e :: es) (tA g E ms)) (hkk : kc + 1 ≤ k := by decide) (hg : Gl X x := by rfl) (hdb : (x == ("__debug__" : Str)) = false := by decide)
    (he : starEach (e :: es) X.env = (false, eval e X.env) :: starEach es X.env := by rfl) (hpl : (backTo pos (starEach es X.env)).any (·.1) = false := by rfl) : PE X (.Call (.Name x p) (e :: es) [] pos) (tE g E (mFn n φ [] ms)) := by
  obtain ⟨f, fd, ps, F, M, hm, hb⟩ := F.ex
  exact s_make (g := g) (ds := []) (dvs := []) M F (hr.mono hkk) hg hm hb .nil (fun H => Dats.nil) (fun _ _ _ _ _ _ _ h => h.elim) ha hdb he hpl
theorem at_prop (F : Prp X.prog X.w X.K X.mg X.base kc c m φ (g.at [])) (hr : Room k X.A) (ha : PE X e (tE g E ma)) (hkk : kc + 1 ≤ k := by decide) (hab : attributeBase e m X.env (eval e X.env) = eval e X.env := by rfl) : PE X (.Attribute e m pos) (tE g E (fnOf1 c φ ma)) := by
  obtain ⟨p, f, fd, ps, F', hp, hb⟩ := F.ex
  exact s_prop (g := g) F.cls hp F' (hr.mono hkk) hb (fun _ _ _ _ _ _ _ h => h.elim) ha hab
theorem at_fld {f : Str} (hc : Cls X.K (g.clsA c)) (hn : NoAttr X.K (g.clsA c) f) (ha : PE X e (tE g E ma)) (hK : X.K = g.K := by rfl) (hb : attributeBase e f X.env (eval e X.env) = eval e X.env := by rfl) : PE X (.Attribute e f pos) (tE g E (m1 (fFldC c f) ma)) := s_fld hK hc hn ha hb
theorem at_meth0 {pl : Sem Bool} (F : Met X.prog X.w X.K X.mg X.base kc c m n φ (g.at [])) (hr : Room k X.A) (ho : PE X o (tE g E ma)) (hkk : kc ≤ k := by decide)
    (ht : eval (.Call (.Attribute o m apos) [] [] pos) X.env = (do
      let ov ← eval o X.env
      standAt apos.atName
      let (f, first) ← holding [ov] (getMethod ov m pl)
      callWith pos f first (backTo pos (starEach [] X.env)) (backToKw pos (keywordEach [] X.env))) := by rfl) : PE X (.Call (.Attribute o m apos) [] [] pos) (tE g E (mMeth c n φ ma (mRet []))) := by
  obtain ⟨f, fd, ps, F', hm, hb⟩ := F.ex
  exact s_meth0 (g := g) (pl := pl) ho F.cls hm F.nf F' (hr.mono hkk) hb (fun _ _ _ _ _ _ _ h => h.elim) ht
theorem is_ty {y : Str} (n : String) (hm : X.mg "isinstance" = none) (hm2 : X.mg y = none) (hv : bootBuiltins y = some (.type n)) (ha : PE X e (tE g E ma)) (hK : X.K = g.K := by rfl) (hg : Gl X "isinstance" := by rfl) (hg2 : Gl X y := by rfl) (hn : y ≠ "__name__" := by decide) (hd : (y == ("__debug__" : Str)) = false := by decide)
    (he : starEach [e, .Name y p2] X.env = (false, eval e X.env) :: starEach [.Name y p2] X.env := by rfl) (he2 : starEach [.Name y p2] X.env = (false, eval (.Name y p2) X.env) :: starEach [] X.env := by rfl) (hpl : (backTo pos (starEach [.Name y p2] X.env)).any (·.1) = false := by rfl) :
    PE X (.Call (.Name "isinstance" p) [e, .Name y p2] [] pos) (tE g E (m1 (fIsTy n) ma)) := s_isTy hK hg hm hg2 hm2 hv hn hd ha he he2 hpl
theorem is_ty2 {y z : Str} {tpos : Pos} {q : Nat} (n m : String) (hm : X.mg "isinstance" = none) (hm2 : X.mg y = none) (hv : bootBuiltins y = some (.type n)) (hm3 : X.mg z = none) (hv3 : bootBuiltins z = some (.type m)) (ha : PE X e (tE g E ma)) (hK : X.K = g.K := by rfl) (hg : Gl X "isinstance" := by rfl)
    (hg2 : Gl X y := by rfl) (hg3 : Gl X z := by rfl) (hn : y ≠ "__name__" := by decide) (hd : (y == ("__debug__" : Str)) = false := by decide) (hn3 : z ≠ "__name__" := by decide) (hd3 : (z == ("__debug__" : Str)) = false := by decide)
    (he : starEach [e, .Tuple [.Name y p2, .Name z p3] q tpos] X.env = (false, eval e X.env) :: starEach [.Tuple [.Name y p2, .Name z p3] q tpos] X.env := by rfl) (he1 : starEach [.Tuple [.Name y p2, .Name z p3] q tpos] X.env = (false, eval (.Tuple [.Name y p2, .Name z p3] q tpos) X.env) :: starEach [] X.env := by rfl)
    (he2 : starEach [.Name y p2, .Name z p3] X.env = (false, eval (.Name y p2) X.env) :: starEach [.Name z p3] X.env := by rfl) (he3 : starEach [.Name z p3] X.env = (false, eval (.Name z p3) X.env) :: starEach [] X.env := by rfl) (hpl : (backTo pos (starEach [.Tuple [.Name y p2, .Name z p3] q tpos] X.env)).any (·.1) = false := by rfl) :
    PE X (.Call (.Name "isinstance" p) [e, .Tuple [.Name y p2, .Name z p3] q tpos] [] pos) (tE g E (m1 (fIsTy2 n m) ma)) := s_isTy2 hK hg hm hg2 hm2 hv hn hd hg3 hm3 hv3 hn3 hd3 ha he he1 he2 he3 hpl
theorem is_cl {y : Str} (F : IsC X.K X.mg c y g.clsA) (hm : X.mg "isinstance" = none) (ha : PE X e (tE g E ma)) (hK : X.K = g.K := by rfl) (hg : Gl X "isinstance" := by rfl) (hg2 : Gl X y := by rfl) (hd : (y == ("__debug__" : Str)) = false := by decide)
    (he : starEach [e, .Name y p2] X.env = (false, eval e X.env) :: starEach [.Name y p2] X.env := by rfl) (he2 : starEach [.Name y p2] X.env = (false, eval (.Name y p2) X.env) :: starEach [] X.env := by rfl) (hpl : (backTo pos (starEach [.Name y p2] X.env)).any (·.1) = false := by rfl) :
    PE X (.Call (.Name "isinstance" p) [e, .Name y p2] [] pos) (tE g E (m1 (fIsCl c) ma)) := s_isCl hK hg hm hg2 F.mg_ hd F.nb F.cl F.h1 F.h2 F.h3 F.h4 ha he he2 hpl
/-! statements -/
theorem p_set {tg : Expr} {t : Tgt} (he : PE X e (tE g E ma)) (hg : PG X tg (gTgt g.K t)) (hs : swapsWithSole [tg] e pos.line X.env = pure false := by rfl) (hw : swappedStores [tg] e X.env = pure none := by rfl)
    (h1 : (assignEach [tg] X.env).map (·.2) = [assign tg X.env] := by rfl) : PS X (.Assign [tg] e pos) (tS g E Hb (mSet t ma)) := c_set (ps_asg he hg hs hw h1) rfl rfl
theorem p_setF {tg : Expr} {i : Nat} (he : PE X e (tF g E ms)) (hg : PG X tg (gName i)) (hs : swapsWithSole [tg] e pos.line X.env = pure false := by rfl) (hw : swappedStores [tg] e X.env = pure none := by rfl)
    (h1 : (assignEach [tg] X.env).map (·.2) = [assign tg X.env] := by rfl) : PS X (.Assign [tg] e pos) (tS g E Hb (mSetF i ms)) := c_setF (ps_asg he hg hs hw h1) fun _ _ _ q => q
theorem gn (i : Nat) {y : Str} (hN : X.N.Nodup) (hi : X.N[i]? = some y := by rfl) (hx : Loc X.env.scope y := by first | exact Or.inl rfl | exact Or.inr rfl) (hf : X.fn y = true ∨ X.env.scope.names.lookup y = some .local := by first | exact .inl rfl | exact .inr rfl) : PG X (.Name y pos) (gTgt g.K (.nm i)) := g_nm hN hi hx hf
theorem gni (i : Nat) {y : Str} (hN : X.N.Nodup) (hi : X.N[i]? = some y := by rfl) (hx : Loc X.env.scope y := by first | exact Or.inl rfl | exact Or.inr rfl) (hf : X.fn y = true ∨ X.env.scope.names.lookup y = some .local := by first | exact .inl rfl | exact .inr rfl) : PG X (.Name y pos) (gName i) := pg_name hN hi hx hf
theorem gc_ {t : Tgt} {ts : List Tgt} (h1 : PG X e (gTgt g.K t)) (h2 : PGs X es (gTgts g.K ts)) (hs : (assignEach (e :: es) X.env).map (·.2) = assign e X.env :: (assignEach es X.env).map (·.2) := by rfl) : PGs X (e :: es) (gTgts g.K (t :: ts)) := gs_cons h1 h2 hs
theorem gt_ {q : Nat} {ts : List Tgt} (h : PGs X es (gTgts g.K ts)) (hK : X.K = g.K := by rfl) (hc : X.calm = true := by rfl) (hn : (assignEach es X.env).length = ts.length := by rfl) (hst : (assignEach es X.env).findIdx? (·.1) = none := by rfl) : PG X (.Tuple es q pos) (gTgt g.K (.tp ts)) := g_tup hK hc h hn hst
theorem gl_ {q : Nat} {ts : List Tgt} (h : PGs X es (gTgts g.K ts)) (hK : X.K = g.K := by rfl) (hc : X.calm = true := by rfl) (hn : (assignEach es X.env).length = ts.length := by rfl) (hst : (assignEach es X.env).findIdx? (·.1) = none := by rfl) : PG X (.Tuple es q pos) (gTgt g.K (.lp ts)) := g_lst hK hc h hn hst
theorem p_drop (h : PE X e (tE g E ma)) (hs : swapsWith e none pos.line X.env = pure false := by rfl) : PS X (.Expr e pos) (tS g E Hb (mDrop ma)) := c_drop h hs
theorem p_for {tg iter : Expr} {body : List Stmt} {mi : M (List D)} {mb : SM} {t : Tgt} (hp : PassesOwn (model X.prog X.w) X.A X.env X.xe) (hi : PI X tg iter (tI g E mi)) (hg : PG X tg (gTgt g.K t)) (h1 : PSs X body (tS g E Hb mb)) (hc : X.calm = true := by rfl) (hs : ∀ x, foldedSetIterable iter X.env x = pure x := by intro _; rfl) :
    PS X (.For tg iter body [] pos) (tS g E Hb (mFor mi t mb)) := c_for hp hc hi hg h1 hs
end
end Z
end
section
set_option Elab.async false
set_option linter.all false
set_option maxRecDepth 100000
namespace Z
open PySem PySem.Spec PyProof.Rows L2
section
variable {X : Cx} {g : Gc} {E : XK} {Hb : Hp} {ma mb : M D} {ms : M (List D)} {e a b o : Expr} {es : List Expr} {p p2 p3 pos apos : Pos} {x m : Str}
theorem u_one {op : BoolOp} {t : TE} (h : PE X a t) : PE X (.BoolOp op [a] pos) t := ⟨fun pins s σ H Q I hq => h.run pins s σ H Q I hq⟩
/-- sorted(d), d a dict as a value -/
def mSrtV (a : M D) : M (List D) := fun env τ => (a env τ).bind fun d τ1 => match d with
  | .dic ks _ => if sortOk ks then .ok (isort dle ks) τ1 else .fail
  | _ => .fail
theorem n_sortedD (hm : X.mg "sorted" = none) (ha : PE X e (tE g E ma)) (hu : X.A.units + 65 < cLine) (hc : X.calm = true := by rfl) (hg : Gl X "sorted" := by rfl)
    (he : starEach [e] X.env = (false, eval e X.env) :: starEach [] X.env := by rfl) (hpl : (backTo pos (starEach [] X.env)).any (·.1) = false := by rfl) : PE X (.Call (.Name "sorted" p) [e] [] pos) (tF g E (mSrtV ma)) := by
  refine weakE (pe_callB (cr_srtD (g := g) hc (by omega)) hg hm bt_sorted (pa_cons ha pa_nil he) (by decide) (by decide) he hpl) fun σ H Q ⟨O, env, τ, S, h⟩ => ?_
  refine goF S h fun d τ1 v H1 e1 p1 S1 d1 h1 => ?_
  cases d with
  | dic ks vs =>
    dsimp only at h1
    split at h1
    · rename_i hok
      simp only [Dat] at d1
      obtain ⟨a, kvs, rfl, eH, ef, r⟩ := d1
      subst ef
      refine ⟨a, kvs, rfl, (hid_some eH).1, hok, fun q bs hq ik => ?_⟩
      have lk := isKeys_len ik
      have em := isort_map (r := fun a b : D × V => dle a.1 b.1) (s := dle) (·.1) (fun _ _ => rfl) ((kvs.map fun p => keyD p.1).zip (bs.map V.ref))
      rw [zip_fst lk] at em
      refine h1 q _ _ hq (.of_sub (new_sub hq) S1.tp) upd_same ?_
      rw [← em]
      refine dats_of fun p hp => ?_
      obtain ⟨k, b, rfl, hb⟩ := isKeys_dat ik p ((isort_perm _).mem_iff.mp hp)
      have nb : b ∉ O := fun z => by
        obtain ⟨o, h1, h2⟩ := S1.dom2 b z
        rw [hb] at h1; cases h1
        exact h2 _ rfl
      show Dat g _ (keyD k) (.ref b)
      rw [keyD_eq]
      exact Dat.tup (.of (hid_new hq _ _ (hid_of hb nb))) (dats_kD k)
    · exact h1.elim
  | _ => exact False.elim h1
/-! own lists: methods -/
theorem p_app {i : Nat} (hx : PE X (.Name x p2) (tVar i)) (ha : PE X e (tE g E ma)) (hbase : attributeBase (.Name x p2) "append" X.env (eval (.Name x p2) X.env) = eval (.Name x p2) X.env := by rfl)
    (hfew : ((backTo pos (starEach [e] X.env)).all (fun x => !x.1) && (backToKw pos (keywordEach [] X.env)).all (fun x => x.1.isSome) && decide ([e].length + ([] : List Keyword).length + (if ([] : List Keyword).isEmpty then 0 else 1) < 30)) = true := by rfl)
    (hline : (apos.endLine == pos.line) = true := by rfl) (hs : starEach [e] X.env = (false, eval e X.env) :: starEach [] X.env := by rfl) (hpl : (backTo pos (starEach [] X.env)).any (·.1) = false := by rfl)
    (hsw : swapsWith (.Call (.Attribute (.Name x p2) "append" apos) [e] [] pos) none p3.line X.env = pure false := by rfl) :
    PS X (.Expr (.Call (.Attribute (.Name x p2) "append" apos) [e] [] pos) p3) (tS g E Hb (mApp i ma)) :=
  c_app (ps_expr (pe_bm PySem.F.plainAttrs_list PySem.F.slot_list_append PySem.F.type_list_append mt_append hx (pa_cons ha pa_nil hs) hbase hfew hline hs hpl) hsw) rfl
theorem p_appPop {i j : Nat} {y : Str} {q1 q2 q3 : Pos} (hx : PE X (.Name x p2) (tVar i)) (hy : PE X (.Name y q1) (tVar j)) (ha : PE X e (tE g E ma)) (hbase : attributeBase (.Name x p2) "append" X.env (eval (.Name x p2) X.env) = eval (.Name x p2) X.env := by rfl)
    (hbase2 : attributeBase (.Name y q1) "pop" X.env (eval (.Name y q1) X.env) = eval (.Name y q1) X.env := by rfl)
    (hfew : ((backTo pos (starEach [.Call (.Attribute (.Name y q1) "pop" q2) [e] [] q3] X.env)).all (fun x => !x.1) && (backToKw pos (keywordEach [] X.env)).all (fun x => x.1.isSome) && decide ([Expr.Call (.Attribute (.Name y q1) "pop" q2) [e] [] q3].length + ([] : List Keyword).length + (if ([] : List Keyword).isEmpty then 0 else 1) < 30)) = true := by rfl)
    (hfew2 : ((backTo q3 (starEach [e] X.env)).all (fun x => !x.1) && (backToKw q3 (keywordEach [] X.env)).all (fun x => x.1.isSome) && decide ([e].length + ([] : List Keyword).length + (if ([] : List Keyword).isEmpty then 0 else 1) < 30)) = true := by rfl)
    (hline : (apos.endLine == pos.line) = true := by rfl) (hline2 : (q2.endLine == q3.line) = true := by rfl) (hs : starEach [.Call (.Attribute (.Name y q1) "pop" q2) [e] [] q3] X.env = (false, eval (.Call (.Attribute (.Name y q1) "pop" q2) [e] [] q3) X.env) :: starEach [] X.env := by rfl)
    (hs2 : starEach [e] X.env = (false, eval e X.env) :: starEach [] X.env := by rfl) (hpl : (backTo pos (starEach [] X.env)).any (·.1) = false := by rfl) (hpl2 : (backTo q3 (starEach [] X.env)).any (·.1) = false := by rfl)
    (hsw : swapsWith (.Call (.Attribute (.Name x p2) "append" apos) [.Call (.Attribute (.Name y q1) "pop" q2) [e] [] q3] [] pos) none p3.line X.env = pure false := by rfl) :
    PS X (.Expr (.Call (.Attribute (.Name x p2) "append" apos) [.Call (.Attribute (.Name y q1) "pop" q2) [e] [] q3] [] pos) p3) (tS g E Hb (mAppPop i j ma)) :=
  c_appPop (ps_expr (pe_bm PySem.F.plainAttrs_list PySem.F.slot_list_append PySem.F.type_list_append mt_append hx (pa_cons (pe_bm PySem.F.plainAttrs_list PySem.F.slot_list_pop PySem.F.type_list_pop mt_popAt hy (pa_cons ha pa_nil hs2) hbase2 hfew2 hline2 hs2 hpl2) pa_nil hs) hbase hfew hline hs hpl) hsw) rfl
/-! a, b = x, y -/
theorem p_par {i j : Nat} {y : Str} {ra rb : Rhs} {px py pt : Pos} {kt k2 : Nat} {pt2 : Pos} (hN : X.N.Nodup) (ha : PE X a (tRhs g E ra)) (hb : PE X b (tRhs g E rb)) (hi : X.N[i]? = some x := by rfl) (hj : X.N[j]? = some y := by rfl) (hij : i ≠ j := by decide) (hc : X.calm = true := by rfl)
    (hx : X.env.scope.names.lookup x = some .local := by rfl) (hy : X.env.scope.names.lookup y = some .local := by rfl) (h1 : starEach [a, b] X.env = (false, eval a X.env) :: starEach [b] X.env := by rfl) (h2 : starEach [b] X.env = (false, eval b X.env) :: starEach [] X.env := by rfl)
    (hw : swappedStores [.Tuple [.Name x px, .Name y py] kt pt] (.Tuple [a, b] k2 pt2) X.env = pure (some [x, y]) := by rfl)
    (hs : swapsWithSole [.Tuple [.Name x px, .Name y py] kt pt] (.Tuple [a, b] k2 pt2) pos.line X.env = pure false := by rfl) :
    PS X (.Assign [.Tuple [.Name x px, .Name y py] kt pt] (.Tuple [a, b] k2 pt2) pos) (tS g E Hb (mPar i j ra rb)) :=
  c_par (ps_par hc hN hi hj hij hx hy (pa_cons ha (pa_cons hb pa_nil h2) h1) hw hs) rfl
/-! d[k] = e -/
theorem p_setK {i : Nat} {key : Expr} {mk : M (List D)} (hx : PE X (.Name x p2) (tVar i)) (hk : PE X key (tFT g E mk)) (he : PE X e (tE g E ma)) (hu : X.A.units + 65 < cLine) (hsub : ∃ pl : Bool, True := ⟨true, trivial⟩)
    (h : PS X (.Assign [.Subscript (.Name x p2) key p3] e pos) (tAsg (tE g E ma) (gSub (tVar i) (tFT g E mk) rSetD))) : PS X (.Assign [.Subscript (.Name x p2) key p3] e pos) (tS g E Hb (mSetK i mk ma)) := c_setK h rfl fun _ _ _ q => q
/-- l.index(x) -/
def indexD (x : D) : List D → Option Nat
  | [] => none
  | d :: ds => if deq d x then some 0 else (indexD x ds).map (· + 1)
def fIndex (ds : List D) (x : D) : Option D := if okDs 59 ds && okD 60 x then (indexD x ds).map fun i => .int (i : Nat) else none
end
end Z
end
section
set_option Elab.async false
set_option linter.all false
set_option maxRecDepth 100000
namespace Z
open PySem PySem.Spec PyProof.Rows L2
section
variable {X : Cx} {g : Gc} {E : XK} {Hb : Hp} {ma mb : M D} {ms : M (List D)} {e a b o key : Expr} {es : List Expr} {p p2 p3 pos apos : Pos} {x m : Str}
theorem q_setK {i : Nat} {mk : M (List D)} (hx : PE X (.Name x p2) (tVar i)) (hk : PE X key (tFT g E mk)) (he : PE X e (tE g E ma)) (hu : X.A.units + 65 < cLine)
    (hg : ∀ v, assign (.Subscript (.Name x p2) key p3) X.env v = (do
      let ov ← holding [v] (eval (.Name x p2) X.env)
      let iv ← holding [v, ov] (eval key X.env)
      standAt p3
      holding [v, ov, iv] (setItem ov iv v)
      release [v, ov, iv] []) := by intro _; rfl)
    (hs : swapsWithSole [.Subscript (.Name x p2) key p3] e pos.line X.env = pure false := by rfl) (hw : swappedStores [.Subscript (.Name x p2) key p3] e X.env = pure none := by rfl)
    (h1 : (assignEach [.Subscript (.Name x p2) key p3] X.env).map (·.2) = [assign (.Subscript (.Name x p2) key p3) X.env] := by rfl) : PS X (.Assign [.Subscript (.Name x p2) key p3] e pos) (tS g E Hb (mSetK i mk ma)) :=
  c_setK (ps_asg he (pg_sub hx hk (set_dict (by omega)) hg) hs hw h1) rfl fun _ _ _ q => q
theorem p_dnew {i : Nat} {y : Str} {q : Pos} (hN : X.N.Nodup) (hi : X.N[i]? = some y := by rfl) (hx : Loc X.env.scope y := by first | exact Or.inl rfl | exact Or.inr rfl) (hf : X.fn y = true ∨ X.env.scope.names.lookup y = some .local := by first | exact .inl rfl | exact .inr rfl)
    (hs : swapsWithSole [.Name y q] (.Dict [] [] p) pos.line X.env = pure false := by rfl) (hw : swappedStores [.Name y q] (.Dict [] [] p) X.env = pure none := by rfl)
    (h1 : (assignEach [.Name y q] X.env).map (·.2) = [assign (.Name y q) X.env] := by rfl) : PS X (.Assign [.Name y q] (.Dict [] [] p) pos) (tS g E Hb (mDNew i)) := c_dnew (ps_asg pe_dnewT (pg_name hN hi hx hf) hs hw h1)
/-- tuple(l) as a key, l a list -/
theorem k_tuple (hm : X.mg "tuple" = none) (ha : PE X e (tE g E ma)) (hK : X.K = g.K := by rfl) (hg : Gl X "tuple" := by rfl) (he : starEach [e] X.env = (false, eval e X.env) :: starEach [] X.env := by rfl) (hpl : (backTo pos (starEach [] X.env)).any (·.1) = false := by rfl) :
    PE X (.Call (.Name "tuple" p) [e] [] pos) (tFT g E fun env τ => (ma env τ).bind fun d τ1 => match d with
      | .lst ds => .ok ds τ1
      | _ => .fail) := by
  refine weakE (pe_callTy call_tuple_of hg hm bt_tuple (pa_cons ha pa_nil he) (by decide) (by decide) he hpl) fun σ H Q ⟨O, env, τ, S, h⟩ => ?_
  refine goFT S h fun d τ1 v H1 e1 p1 S1 d1 nn h1 => ?_
  cases d with
  | lst ds =>
    obtain ⟨a, vs, rfl, hp, r⟩ := d1.lstE
    exact ⟨a, vs, rfl, .inl ⟨.of (hid_some hp).1, fun l hl => h1 l vs _ (nn l hl) (p1.trans (.of_sub (new_sub hl) S1.tp)) upd_same (Dats.mono (hid_mono (new_sub hl)) _ _ r)⟩⟩
  | _ => exact False.elim h1
/-! l.index(x) -/
def mIndex (ma : M D) (ms : M (List D)) : M D := fun env τ => (ma env τ).bind fun d τ1 => match d with
  | .lst ds => (ms env τ1).bind fun xs τ2 => (match xs with
    | [x] => R.of (fIndex ds x) τ2
    | _ => .fail)
  | _ => .fail
theorem indexD_spec {x : D} : ∀ {ds : List D} {j : Nat}, indexD x ds = some j → ∃ z, ds[j]? = some z ∧ deq z x = true ∧ ∀ (m : Nat) (z' : D), m < j → ds[m]? = some z' → deq z' x = false
  | [], j, h => by simp [indexD] at h
  | d :: ds, j, h => by
    unfold indexD at h
    by_cases hd : deq d x = true
    · rw [if_pos hd] at h
      cases h
      exact ⟨d, rfl, hd, fun m z' hm => absurd hm (Nat.not_lt_zero _)⟩
    · rw [if_neg hd] at h
      cases hi : indexD x ds with
      | none => rw [hi] at h; cases h
      | some i =>
        rw [hi] at h
        cases h
        obtain ⟨z, h1, h2, h3⟩ := indexD_spec hi
        refine ⟨z, by simpa using h1, h2, fun m z' hm hz => ?_⟩
        cases m with
        | zero =>
          have : d = z' := by simpa using hz
          subst this
          simpa using hd
        | succ m => exact h3 m z' (Nat.lt_of_succ_lt_succ (show m + 1 < i + 1 from hm)) (by simpa using hz)
theorem toPs_get : ∀ {ds : List D} {j : Nat} {p : PyData}, (toPs ds)[j]? = some p ↔ ∃ d, ds[j]? = some d ∧ p = toP d
  | [], j, p => by simp [toPs]
  | d :: ds, 0, p => by simp [toPs, eq_comm]
  | d :: ds, j + 1, p => by
    simp only [toPs, List.getElem?_cons_succ]
    exact toPs_get
theorem at_index (ho : PE X o (tE g E ma)) (ha : PA X [e] (tA g E ms)) (hu : X.A.units + 65 < cLine) (hK : X.K = g.K := by rfl) (hbase : attributeBase o "index" X.env (eval o X.env) = eval o X.env := by rfl)
    (hfew : ((backTo pos (starEach [e] X.env)).all (fun x => !x.1) && (backToKw pos (keywordEach [] X.env)).all (fun x => x.1.isSome) && decide ([e].length + ([] : List Keyword).length + (if ([] : List Keyword).isEmpty then 0 else 1) < 30)) = true := by rfl)
    (hline : (apos.endLine == pos.line) = true := by rfl) (hs : starEach [e] X.env = (false, eval e X.env) :: starEach [] X.env := by rfl) (hpl : (backTo pos (starEach [] X.env)).any (·.1) = false := by rfl) :
    PE X (.Call (.Attribute o "index" apos) [e] [] pos) (tE g E (mIndex ma ms)) := by
  refine weakE (pe_bm PySem.F.plainAttrs_list PySem.F.slot_list_index PySem.F.type_list_index (mt_indexD hu) ho ha hbase hfew hline hs hpl) fun σ H Q ⟨O, env, τ, S, h⟩ => ?_
  refine go S h fun d τ1 v H1 e1 p1 S1 d1 h1 => ?_
  cases d with
  | lst ds =>
    obtain ⟨a, vs, rfl, hp, r⟩ := d1.lstE
    refine ⟨.inl ⟨rfl, vs, .of (hid_some hp).1⟩, ?_⟩
    refine go S1 h1 fun xs τ2 us H2 e2 p2 S2 d2 h2 => ?_
    have hp2 := p2.sub S1.tO.1 S1.tO.2.1 _ _ hp
    have r2 := Dats.mono (p2.sub S1.tO.1 S1.tO.2.1) _ _ r
    match xs, d2, h2 with
    | [x1], d2, h2 =>
      replace h2 : Res g E (Dat g) O H2 Q (R.of (fIndex ds x1) τ2) := h2
      unfold fIndex at h2
      obtain ⟨u, rfl, d3⟩ := d2.one
      split at h2
      · rename_i hok
        rw [Bool.and_eq_true] at hok
        cases hi : indexD x1 ds with
        | none => rw [hi] at h2; exact h2.elim
        | some j =>
          rw [hi] at h2
          obtain ⟨z, hz, hzx, hno⟩ := indexD_spec hi
          have okl : okD 60 (.lst ds) = true := by simpa [okD] using hok.1
          refine ⟨a, u, toP x1, toPs ds, j, toP z, rfl, rfl, ?_, ?_, ?_, okD_shaped hok.2, toPs_get.2 ⟨z, hz, rfl⟩, ?_, fun m z' hm hz' => ?_, h2 _ H2 S2.post0 Dat.i⟩
          · rw [hK]
            have := dp_of (.lst ds) 60 (.ref a) okl (Dat.mono hid_sub _ _ (Dat.lst hp2 r2))
            simpa only [toP] using this
          · rw [hK]; exact dp_of x1 60 u hok.2 (Dat.mono hid_sub _ _ d3)
          · have := okD_shaped okl
            simpa only [toP] using this
          · rw [eqv_toP z x1 59 60 (okDs_mem hok.1 (List.mem_of_getElem? hz)) hok.2]; exact hzx
          · obtain ⟨z2, h3, rfl⟩ := toPs_get.1 hz'
            rw [eqv_toP z2 x1 59 60 (okDs_mem hok.1 (List.mem_of_getElem? h3)) hok.2]
            exact hno m z2 hm h3
      · exact h2.elim
    | [], _, h2 => exact False.elim h2
    | _ :: _ :: _, _, h2 => exact False.elim h2
  | _ => exact False.elim h1
/-! defs -/
theorem nox_pss {st : List Stmt} {t : TS} (h : PSs X.nox st t) : PSs X st t := h.nox
end
theorem def_cal {P : Program} {w : World} {mg : Str → Option Value} {base : Heap} {x qual : Str} {params : Arguments} {body : List Stmt} {scope : Scope} {dvs : List V} {kws : List (Str × V)} {f : Addr} {fd : FuncData} {N ps : List Str} {k : Nat} {s : Gs} {T L C : Addr} {m : SM} {ds : List Value} {dvs2 : List V} {ds0 : List D}
    (F : FunD s.K x qual params body scope dvs kws f fd) (hm : mg x = some (.ref f)) (S : FnScope N ps scope) (hb : Binds s.K fd ps ds) (hd : Vals dvs2 ds) (h0 : ∀ H, Dats (s.gc T L C []) H ds0 dvs2) (hn : ps.length ≤ N.length)
    (h : ∀ (O : List Addr) (cdv : Value) (A : Around) (outer : List PySem.Env) (s' : Shared) (H : Hp) (E : XK), Room k (A.deeper (envOfC qual scope s'.heap.objs.size f cdv)) → PSs (cxOf CX0 P w s.K mg base N qual scope f cdv A outer s' H E).nox body (tS ((s.gc T L C []).at O) E H m)) :
    Cal P w s.K mg base (k + 1) x ps.length (runB N.length m) (s.gc T L C []) ds0 :=
  ⟨f, fd, ps, ds, dvs2, ok_def F S hn fun O cdv A outer s' H E hr => nox_pss (h O cdv A outer s' H E hr), hm, F.kp, hb, hd, h0⟩
end Z
end
section
set_option Elab.async false
set_option linter.all false
set_option maxRecDepth 100000
namespace Z
open PySem PySem.Spec PyProof.Rows L2
/-- the items of a list, to be a key -/
def mKey (ma : M D) : M (List D) := fun env τ => (ma env τ).bind fun d τ1 => match d with
  | .lst ds => .ok ds τ1
  | _ => .fail
section
variable {X : Cx} {g : Gc} {E : XK} {Hb : Hp} {ma mb : M D} {ms : M (List D)} {e a b o key : Expr} {es : List Expr} {p p2 p3 pos apos spos : Pos} {x m : Str}
theorem k_tup1 (hm : X.mg "tuple" = none) (ha : PE X e (tE g E ma)) (hK : X.K = g.K := by rfl) (hg : Gl X "tuple" := by rfl) (he : starEach [e] X.env = (false, eval e X.env) :: starEach [] X.env := by rfl) (hpl : (backTo pos (starEach [] X.env)).any (·.1) = false := by rfl) :
    PE X (.Call (.Name "tuple" p) [e] [] pos) (tFT g E (mKey ma)) := k_tuple hm ha hK hg he hpl
/-- list(range(n)) -/
def mListRg (ma : M D) : M (List D) := fun env τ => (ma env τ).bind fun d τ1 => match d with
  | .int n => if -1000000 ≤ n ∧ n ≤ 1000000 then .ok (rangeD 0 n.toNat) τ1 else .fail
  | _ => .fail
theorem rgV_dats {H : Hp} : ∀ (n : Nat) (lo : Int), Dats g H (rangeD lo n) ((List.range n).map fun i => V.int (lo + (i : Nat)))
  | 0, lo => Dats.nil
  | n + 1, lo => by
    rw [List.range_succ_eq_map, List.map_cons, List.map_map]
    unfold rangeD
    have h := rgV_dats (H := H) n (lo + 1)
    have e : ((fun i => V.int (lo + (i : Nat))) ∘ Nat.succ) = fun i : Nat => V.int (lo + 1 + (i : Nat)) := by
      funext i
      show V.int (lo + ((i + 1 : Nat) : Int)) = _
      congr 1
      omega
    rw [e]
    refine Dats.cons ?_ h
    have : lo + ((0 : Nat) : Int) = lo := by omega
    rw [this]
    exact Dat.i
theorem n_listRg (hm : X.mg "list" = none) (hm2 : X.mg "range" = none) (ha : PE X a (tE g E ma)) (hc : X.calm = true := by rfl) (hg : Gl X "list" := by rfl) (hg2 : Gl X "range" := by rfl)
    (na : starEach [a] X.env = (false, eval a X.env) :: starEach [] X.env := by rfl) (nb : starEach [.Call (.Name "range" p2) [a] [] p3] X.env = (false, eval (.Call (.Name "range" p2) [a] [] p3) X.env) :: starEach [] X.env := by rfl) :
    PE X (.Call (.Name "list" p) [.Call (.Name "range" p2) [a] [] p3] [] pos) (tF g E (mListRg ma)) := by
  refine weakE (pe_listRg hc hg hm (prg_1 hg2 hm2 ha na) nb) fun σ H Q ⟨O, env, τ, S, h⟩ => ?_
  refine goF S h fun d τ1 v H1 e1 p1 S1 d1 h1 => ?_
  cases d with
  | int n =>
    have ev := d1.intE
    subst ev
    dsimp only at h1
    split at h1
    · rename_i hn
      refine ⟨n, rfl, ⟨by decide, by decide, by omega, by omega, by omega⟩, fun q hq => ?_⟩
      refine h1 q _ _ hq (.of_sub (new_sub hq) S1.tp) upd_same ?_
      unfold rgV
      have := rgV_dats (g := g) (H := hid (upd H1 q (.lst ((List.range (n - 0).toNat).map fun i => V.int (0 + (i : Nat))))) (q :: O)) n.toNat 0
      have e0 : (n - 0).toNat = n.toNat := by omega
      rw [e0] at this ⊢
      exact this
    · exact h1.elim
  | _ => exact False.elim h1
/-! x = [..] on one line -/
theorem w_setLc {i : Nat} {y : Str} {py : Pos} {elt tg iter : Expr} {ifs : List Expr} {scope : Scope} (own : List (Str × Nat)) {mi : M (List D)} {t : Tgt} {mt : M Bool} {me : M D} (hN : X.N.Nodup) (hi : PI X tg iter (tI g E mi))
    (hg : ∀ (s : Shared) (H : Hp) (C : Addr) (cl : List (Str × Addr)) (fp : List Addr), PG (X.blk s H scope (compEnvC scope cl C X.env) fp) tg (gTgt g.K t))
    (ht : ∀ (s : Shared) (H : Hp) (C : Addr) (cl : List (Str × Addr)) (fp : List Addr), PTs (X.blk s H scope (compEnvC scope cl C X.env) fp) ifs (tT g E0x mt))
    (he : ∀ (s : Shared) (H : Hp) (C : Addr) (cl : List (Str × Addr)) (fp : List Addr), PE (X.blk s H scope (compEnvC scope cl C X.env) fp) elt (tE g E0x me))
    (ok : BlkOk X.N X.env.scope scope own) (hy : X.N[i]? = some y := by rfl) (hyl : X.env.scope.names.lookup y = some .local := by rfl) (hsw : swapsWith (.ListComp elt [⟨tg, iter, ifs, 0⟩] scope pos) (some (.Name y py)) spos.line X.env = pure true := by rfl) (hc : X.calm = true := by rfl) (hf : ∀ x, foldedSetIterable iter X.env x = pure x := by intro _; rfl) (hns : ∀ i ∈ t.ns, i ∈ own.map (·.2) := by decide) :
    PS X (.Assign [.Name y py] (.ListComp elt [⟨tg, iter, ifs, 0⟩] scope pos) spos) (tS g E Hb (mSetF i (mLc (own.map (·.2)) mi t mt me))) := c_setF (ps_setLc hc hN hy hyl hsw hi ok hg ht he hf) fun σ H Q h => lc_red hns h
theorem w_setLcV {i : Nat} {y : Str} {py : Pos} {elt tg iter : Expr} {ifs : List Expr} {scope : Scope} (own : List (Str × Nat)) {mi : M (List D)} {t : Tgt} {mt : M Bool} {me : M D} (hN : X.N.Nodup) (hi : PI X tg iter (tI g E mi))
    (hg : ∀ (s : Shared) (H : Hp) (C : Addr) (cl : List (Str × Addr)) (fp : List Addr), PG (X.blk s H scope (compEnvC scope cl C X.env) fp) tg (gTgt g.K t))
    (ht : ∀ (s : Shared) (H : Hp) (C : Addr) (cl : List (Str × Addr)) (fp : List Addr), PTs (X.blk s H scope (compEnvC scope cl C X.env) fp) ifs (tT g E0x mt))
    (he : ∀ (s : Shared) (H : Hp) (C : Addr) (cl : List (Str × Addr)) (fp : List Addr), PE (X.blk s H scope (compEnvC scope cl C X.env) fp) elt (tE g E0x me))
    (ok : BlkOk X.N X.env.scope scope own) (hy : X.N[i]? = some y := by rfl) (hyl : X.env.scope.names.lookup y = some .local := by rfl) (hsw : swapsWith (.ListComp elt [⟨tg, iter, ifs, 0⟩] scope pos) (some (.Name y py)) spos.line X.env = pure true := by rfl) (hc : X.calm = true := by rfl) (hf : ∀ x, foldedSetIterable iter X.env x = pure x := by intro _; rfl) (hns : ∀ i ∈ t.ns, i ∈ own.map (·.2) := by decide) :
    PS X (.Assign [.Name y py] (.ListComp elt [⟨tg, iter, ifs, 0⟩] scope pos) spos) (tS g E Hb (mSet (.nm i) (mLst (mLc (own.map (·.2)) mi t mt me)))) := c_setC (ps_setLc hc hN hy hyl hsw hi ok hg ht he hf) fun σ H Q h => lc_red hns (new_red h)
theorem w_setLc2V {i : Nat} {y : Str} {py : Pos} {elt tg iter tg1 iter1 : Expr} {ifs ifs1 : List Expr} {scope : Scope} {own : List (Str × Nat)} {vs1 : List Nat} {mi mi1 : M (List D)} {t t1 : Tgt} {mt mt1 : M Bool} {me : M D} (hc : X.calm = true) (hN : X.N.Nodup) (hi : PI X tg iter (tI g E mi)) (ok : BlkOk X.N X.env.scope scope own) (hv : ∀ i ∈ vs1, i ∈ own.map (·.2))
    (hg : ∀ (s : Shared) (H : Hp) (C : Addr) (cl : List (Str × Addr)) (fp : List Addr), PG (X.blk s H scope (compEnvC scope cl C X.env) fp) tg (gTgt g.K t)) (ht : ∀ (s : Shared) (H : Hp) (C : Addr) (cl : List (Str × Addr)) (fp : List Addr), PTs (X.blk s H scope (compEnvC scope cl C X.env) fp) ifs (tT g E0x mt))
    (hi1 : ∀ (s : Shared) (H : Hp) (C : Addr) (cl : List (Str × Addr)) (fp : List Addr), PI (X.blk s H scope (compEnvC scope cl C X.env) fp) tg1 iter1 (tI g E0x mi1))
    (hg1 : ∀ (s : Shared) (H : Hp) (C : Addr) (cl : List (Str × Addr)) (fp : List Addr), PG (X.blk s H scope (compEnvC scope cl C X.env) fp) tg1 (gTgt g.K t1)) (ht1 : ∀ (s : Shared) (H : Hp) (C : Addr) (cl : List (Str × Addr)) (fp : List Addr), PTs (X.blk s H scope (compEnvC scope cl C X.env) fp) ifs1 (tT g E0x mt1))
    (he : ∀ (s : Shared) (H : Hp) (C : Addr) (cl : List (Str × Addr)) (fp : List Addr), PE (X.blk s H scope (compEnvC scope cl C X.env) fp) elt (tE g E0x me)) (hs : ∀ x, foldedSetIterable iter X.env x = pure x) (hs1 : ∀ env x, foldedSetIterable iter1 env x = pure x)
    (hns : ∀ i ∈ t.ns, i ∈ own.map (·.2)) (hns1 : ∀ i ∈ t1.ns, i ∈ vs1) (hy : X.N[i]? = some y := by rfl) (hyl : X.env.scope.names.lookup y = some .local := by rfl) (hsw : swapsWith (.ListComp elt [⟨tg, iter, ifs, 0⟩, ⟨tg1, iter1, ifs1, 0⟩] scope pos) (some (.Name y py)) spos.line X.env = pure true := by rfl) :
    PS X (.Assign [.Name y py] (.ListComp elt [⟨tg, iter, ifs, 0⟩, ⟨tg1, iter1, ifs1, 0⟩] scope pos) spos) (tS g E Hb (mSet (.nm i) (mLst (mLc2 (own.map (·.2)) mi t mt mi1 t1 mt1 me vs1)))) :=
  c_setC (ps_setLc2 hc hN hy hyl hsw hi ok hv hg ht hi1 hg1 ht1 he hs hs1) fun σ H Q h => lc2_red hns hns1 (new_red h)
theorem w_setLc2 {i : Nat} {y : Str} {py : Pos} {elt tg iter tg1 iter1 : Expr} {ifs ifs1 : List Expr} {scope : Scope} {own : List (Str × Nat)} {vs1 : List Nat} {mi mi1 : M (List D)} {t t1 : Tgt} {mt mt1 : M Bool} {me : M D} (hc : X.calm = true) (hN : X.N.Nodup) (hi : PI X tg iter (tI g E mi)) (ok : BlkOk X.N X.env.scope scope own) (hv : ∀ i ∈ vs1, i ∈ own.map (·.2))
    (hg : ∀ (s : Shared) (H : Hp) (C : Addr) (cl : List (Str × Addr)) (fp : List Addr), PG (X.blk s H scope (compEnvC scope cl C X.env) fp) tg (gTgt g.K t)) (ht : ∀ (s : Shared) (H : Hp) (C : Addr) (cl : List (Str × Addr)) (fp : List Addr), PTs (X.blk s H scope (compEnvC scope cl C X.env) fp) ifs (tT g E0x mt))
    (hi1 : ∀ (s : Shared) (H : Hp) (C : Addr) (cl : List (Str × Addr)) (fp : List Addr), PI (X.blk s H scope (compEnvC scope cl C X.env) fp) tg1 iter1 (tI g E0x mi1))
    (hg1 : ∀ (s : Shared) (H : Hp) (C : Addr) (cl : List (Str × Addr)) (fp : List Addr), PG (X.blk s H scope (compEnvC scope cl C X.env) fp) tg1 (gTgt g.K t1)) (ht1 : ∀ (s : Shared) (H : Hp) (C : Addr) (cl : List (Str × Addr)) (fp : List Addr), PTs (X.blk s H scope (compEnvC scope cl C X.env) fp) ifs1 (tT g E0x mt1))
    (he : ∀ (s : Shared) (H : Hp) (C : Addr) (cl : List (Str × Addr)) (fp : List Addr), PE (X.blk s H scope (compEnvC scope cl C X.env) fp) elt (tE g E0x me)) (hs : ∀ x, foldedSetIterable iter X.env x = pure x) (hs1 : ∀ env x, foldedSetIterable iter1 env x = pure x)
    (hns : ∀ i ∈ t.ns, i ∈ own.map (·.2)) (hns1 : ∀ i ∈ t1.ns, i ∈ vs1) (hy : X.N[i]? = some y := by rfl) (hyl : X.env.scope.names.lookup y = some .local := by rfl) (hsw : swapsWith (.ListComp elt [⟨tg, iter, ifs, 0⟩, ⟨tg1, iter1, ifs1, 0⟩] scope pos) (some (.Name y py)) spos.line X.env = pure true := by rfl) :
    PS X (.Assign [.Name y py] (.ListComp elt [⟨tg, iter, ifs, 0⟩, ⟨tg1, iter1, ifs1, 0⟩] scope pos) spos) (tS g E Hb (mSetF i (mLc2 (own.map (·.2)) mi t mt mi1 t1 mt1 me vs1))) :=
  c_setF (ps_setLc2 hc hN hy hyl hsw hi ok hv hg ht hi1 hg1 ht1 he hs hs1) fun σ H Q h => lc2_red hns hns1 h
end
/-! methods, properties, __init__ -/
theorem meth_cal {P : Program} {w : World} {mg : Str → Option Value} {base : Heap} {x qual : Str} {params : Arguments} {body : List Stmt} {scope : Scope} {f : Addr} {fd : FuncData} {N ps : List Str} {k c : Nat} {s : Gs} {T L C : Addr} {m : SM} {kws : List (Str × V)}
    (F : FunD s.K x qual params body scope [] kws f fd) (hm : Meth s.K (s.clsA c) x f) (hc : Cls s.K (s.clsA c)) (S : FnScope N ps scope) (hb : Binds s.K fd ps []) (hn : ps.length ≤ N.length) (nf : ixOf x (clsF c) = none)
    (h : ∀ (O : List Addr) (cdv : Value) (A : Around) (outer : List PySem.Env) (s' : Shared) (H : Hp) (E : XK), Room k (A.deeper (envOfC qual scope s'.heap.objs.size f cdv)) → PSs (cxOf CX0 P w s.K mg base N qual scope f cdv A outer s' H E).nox body (tS ((s.gc T L C []).at O) E H m)) :
    Met P w s.K mg base (k + 1) c x ps.length (runB N.length m) (s.gc T L C []) :=
  ⟨⟨f, fd, ps, ok_def F S hn fun O cdv A outer s' H E hr => nox_pss (h O cdv A outer s' H E hr), hm, hb⟩, hc, nf⟩
theorem prop_cal {P : Program} {w : World} {mg : Str → Option Value} {base : Heap} {x qual : Str} {params : Arguments} {body : List Stmt} {scope : Scope} {f p : Addr} {fd : FuncData} {N ps : List Str} {k c : Nat} {s : Gs} {T L C : Addr} {m : SM} {kws : List (Str × V)}
    (F : FunD s.K x qual params body scope [] kws f fd) (hm : PropOf s.K (s.clsA c) x p f) (hc : Cls s.K (s.clsA c)) (S : FnScope N ps scope) (hb : Binds s.K fd ps []) (hn : ps.length ≤ N.length) (h1 : ps.length = 1)
    (h : ∀ (O : List Addr) (cdv : Value) (A : Around) (outer : List PySem.Env) (s' : Shared) (H : Hp) (E : XK), Room k (A.deeper (envOfC qual scope s'.heap.objs.size f cdv)) → PSs (cxOf CX0 P w s.K mg base N qual scope f cdv A outer s' H E).nox body (tS ((s.gc T L C []).at O) E H m)) :
    Prp P w s.K mg base (k + 1) c x (runB N.length m) (s.gc T L C []) :=
  ⟨⟨p, f, fd, ps, h1 ▸ ok_def F S hn fun O cdv A outer s' H E hr => nox_pss (h O cdv A outer s' H E hr), hm, hb⟩, hc⟩
theorem init_cal {P : Program} {w : World} {mg : Str → Option Value} {base : Heap} {x y qual : Str} {params : Arguments} {body : List Stmt} {scope : Scope} {f : Addr} {fd : FuncData} {N ps : List Str} {k n c : Nat} {s : Gs} {T L C : Addr} {m : IM} {kws : List (Str × V)}
    (F : FunD s.K x qual params body scope [] kws f fd) (hm : Mk s.K (s.clsA c) f) (hg : mg y = some (.ref (s.clsA c))) (S : FnScope N ps scope) (hb : Binds s.K fd ps []) (hp : ps.length = n + 1) (hn : n + 1 ≤ N.length)
    (h : ∀ (O : List Addr) (Hb : Hp) (z : Addr) (cdv : Value) (A : Around) (outer : List PySem.Env) (s' : Shared) (H : Hp) (E : XK), Room k (A.deeper (envOfC qual scope s'.heap.objs.size f cdv)) → PSs (cxOf CX0 P w s.K mg base N qual scope f cdv A outer s' H E).nox body (tSx ((s.gc T L C []).at O) E Hb z m)) :
    Mak P w s.K mg base (k + 1) c y n (runI N.length c m) (s.gc T L C []) :=
  ⟨f, fd, ps, ok_init F S hp hn fun O Hb z cdv A outer s' H E hr => nox_pss (h O Hb z cdv A outer s' H E hr), hm, hg, hb⟩
end Z
namespace Z
open PySem PySem.Spec PyProof.Rows L2
def blkB (N : List Str) (sc scope : Scope) (own : List (Str × Nat)) : Bool :=
  decide (scope.kind = .function) && ((scope.names.all fun y => decide (scope.names.lookup y.1 = some y.2)) && ((own.all fun p => decide (N[p.2]? = some p.1)) &&
    ((scope.names.all fun y => !decide (y.2 = .free) || (decide (sc.names.lookup y.1 = some .cell) || decide (sc.names.lookup y.1 = some .free))) &&
      (scope.names.all fun y => !(decide (y.2 = .local) || decide (y.2 = .cell)) || (decide (y.1 ∈ own.map (·.1)) || !decide (y.1 ∈ N))))))
theorem blk_ok {N : List Str} {sc scope : Scope} {own : List (Str × Nat)} (h : blkB N sc scope own = true) : BlkOk N sc scope own := by
  unfold blkB at h
  simp only [Bool.and_eq_true, List.all_eq_true, decide_eq_true_eq, Bool.or_eq_true, Bool.not_eq_true', decide_eq_false_iff_not] at h
  obtain ⟨h1, h2, h3, h4, h5⟩ := h
  refine ⟨h1, h2, h3, fun y hy e => ?_, fun y hy e => ?_⟩
  · rcases h4 y hy with z | z
    · exact absurd e z
    · exact z
  · rcases h5 y hy with z | z
    · simp only [Bool.or_eq_false_iff, decide_eq_false_iff_not] at z
      rcases e with e | e
      · exact absurd e z.1
      · exact absurd e z.2
    · exact z
end Z
namespace Z
open PySem
theorem hu1 {n : Nat} (h : n + 65 < cLine) : n + 1 < cLine := by omega
theorem hu64 {n : Nat} (h : n + 65 < cLine) : n + 64 < cLine := by omega
end Z
end
section
set_option Elab.async false
set_option linter.all false
set_option maxRecDepth 100000
namespace Z
open PySem PySem.Spec PyProof.Rows L2 He
/-- isinstance(x, C), C a class of which nothing is an instance here -/
def fIsNo (d : D) : Option D := match bTy d with
  | some _ => some (.bl false)
  | none => none
structure IsN (K : PySem.W.Frag) (mg : Str → Option Value) (x : Str) : Prop where
  ex : ∃ C, mg x = some (.ref C) ∧ NotB K C
section
variable {X : Cx} {g : Gc} {E : XK} {ma : M D} {e : Expr} {pos p p2 : Pos}
theorem is_no {y : Str} (F : IsN X.K X.mg y) (hm : X.mg "isinstance" = none) (ha : PE X e (tE g E ma)) (hK : X.K = g.K := by rfl) (hg : Gl X "isinstance" := by rfl) (hg2 : Gl X y := by rfl) (hd : (y == ("__debug__" : Str)) = false := by decide)
    (he : starEach [e, .Name y p2] X.env = (false, eval e X.env) :: starEach [.Name y p2] X.env := by rfl) (he2 : starEach [.Name y p2] X.env = (false, eval (.Name y p2) X.env) :: starEach [] X.env := by rfl) (hpl : (backTo pos (starEach [.Name y p2] X.env)).any (·.1) = false := by rfl) :
    PE X (.Call (.Name "isinstance" p) [e, .Name y p2] [] pos) (tE g E (m1 fIsNo ma)) := by
  obtain ⟨C, hm2, nb⟩ := F.ex
  refine weakE (pe_callB call_isi hg hm PyProof.Rows.boot_isinstance (pa_cons ha (pa_cons (pe_glob (v := .ref C) hg2 hm2 rfl hd) pa_nil he2) he) (by decide) (by decide) he hpl) fun σ H Q ⟨O, env, τ, S, h⟩ => ?_
  refine go S h fun d τ1 v H1 e1 p1 S1 d1 q1 => ?_
  unfold fIsNo at q1
  cases ht : bTy d with
  | none => rw [ht] at q1; exact q1.elim
  | some t =>
    rw [ht] at q1
    exact ⟨v, .ref C, .type t, .ref C, false, rfl, .own _, by rw [hK]; exact tyx_of S1 ht d1, nb t (bTy_tys ht), q1 _ H1 S1.post0 Dat.b⟩
end
theorem insB_ok {K : PySem.W.Frag} {mg : Str → Option Value} {cA : Nat → Addr} {c : Nat} {x : Str} (e : cA c = ga K x) (hm : mg x = some (.ref (ga K x))) (hc : Cls K (ga K x)) (h : insB K x = true) : IsC K mg c x cA := by
  obtain ⟨h1, h⟩ := ba h
  obtain ⟨h2, h⟩ := ba h
  obtain ⟨h3, h⟩ := ba h
  obtain ⟨h4, h5⟩ := ba h
  exact ⟨by rw [e]; exact hm, by rw [e]; exact notB_ok h1, by rw [e]; exact hc, by rw [e]; exact eqO_ok h2, eqO_ok h3, of_decide_eq_true h4, by rw [e]; exact of_decide_eq_true h5⟩
end Z
end
section
set_option Elab.async false
set_option linter.all false
set_option maxRecDepth 100000
set_option maxHeartbeats 0
namespace LK
open PySem PySem.Spec PyProof.Rows L2 Z
section
variable {P : Program} {w : World} {mg : Str → Option Value} {base : Heap} {s : Gs}
theorem sc__law_begun : FnScope ["script", "large", "grain"] ["script"] (defScope (top 86)) := ⟨rfl, rfl, rfl, by decide +kernel, rfl, by decide +kernel, by decide +kernel⟩
theorem ok__law_begun {f : Addr} {fd : FuncData} (fr_abs : mg "abs" = none) (F : FunD s.K "_law_begun" "_law_begun" (defArgs (top 86)) (defBody (top 86)) (defScope (top 86)) [] [] f fd) : FnOk P w s.K mg base CX0 1 f fd ["script"] (spBegun s.K) := by
  refine F.ok sc__law_begun (fun vs H Q E h => ?_) (fun cdv A outer s' H vs Q E hr h => ⟨t_begun s.K, nox_pss ?_, begun_red vs H Q E h⟩)
  · obtain ⟨a, ns, rfl, _⟩ := h
    rfl
  · exact pss_cons (ps_setLc rfl sc__law_begun.nd rfl rfl rfl (pi_seq (pv 0)) (own := [("grain", 2)]) (blk_ok (by kernel_rfl)) (fun _ _ _ _ _ => pg_name (i := 2) sc__law_begun.nd rfl (Or.inl rfl)) (fun _ _ _ _ _ => pts_one (pt_cmpR op_ge (pe_callB call_abs rfl fr_abs bt_abs (pa_cons (pv 2) pa_nil)) (pe_op op_pow pe_int pe_int) (nomark _))) (fun _ _ _ _ _ => pe_op op_sub (pe_callB call_abs rfl fr_abs bt_abs (pa_cons (pv 2) pa_nil)) (pe_op op_pow pe_int pe_int)))
      (pss_cons (ps_ret (pe_disp (pps_cons pe_str (pv 1) (pps_cons pe_str pe_int (pps_cons pe_str (pe_lc rfl sc__law_begun.nd (pi_seq (pv 0)) (own := [("grain", 2)]) (blk_ok (by kernel_rfl)) (fun _ _ _ _ _ => pg_name (i := 2) sc__law_begun.nd rfl (Or.inl rfl)) (fun _ _ _ _ _ => pts_nil) (fun _ _ _ _ _ => (pe_callB call_abs rfl fr_abs bt_abs (pa_cons (pv 2) pa_nil)))) (pps_cons pe_str pe_int pps_nil)))) rfl rfl (by simp) (by decide))) pss_nil)
theorem sc_is_number : FnScope ["thing"] ["thing"] (defScope (top 14)) := ⟨rfl, rfl, rfl, by decide +kernel, rfl, by decide +kernel, by decide +kernel⟩
def m_is_number : SM := mSeq (mRetS (mAnd (m1 (fIsTy "int") (mVar 0)) (mNot (m1 (fIsTy "bool") (mVar 0))))) (mNext)
def φ_is_number : Fn := runB 1 m_is_number
theorem ok_is_number {T L C f : Addr} {fd : FuncData} {kws : List (Str × V)} (F : FunD s.K "is_number" "is_number" (defArgs (top 14)) (defBody (top 14)) (defScope (top 14)) [] kws f fd) (hm : mg "is_number" = some (.ref f)) (fr_isinstance : mg "isinstance" = none) (fr_bool : mg "bool" = none) (fr_int : mg "int" = none) : Cal P w s.K mg base 1 "is_number" 1 φ_is_number (s.gc T L C []) [] :=
  def_cal F hm sc_is_number (F.bindsN fun _ _ _ _ _ _ us hl => match us, hl with | [_], _ => rfl) .nil (fun _ => Dats.nil) (by decide) fun O cdv A outer s' H E hr => have hu := units_of hr; have nd := sc_is_number.nd; cs_cons (c_ret (u_and (is_ty "int" fr_isinstance fr_int bt_int (sv 0)) (u_one (u_not (is_ty "bool" fr_isinstance fr_bool bt_bool (sv 0)))))) (cs_nil)
theorem sc_is_between : FnScope ["thing", "low", "high"] ["thing", "low", "high"] (defScope (top 15)) := ⟨rfl, rfl, rfl, by decide +kernel, rfl, by decide +kernel, by decide +kernel⟩
def m_is_between : SM := mSeq (mRetS (mAnd (mFn 1 φ_is_number [] (mCons (mVar 0) (mNil))) (mChain dLe dLe (mVar 1) (mVar 0) (mVar 2)))) (mNext)
def φ_is_between : Fn := runB 3 m_is_between
theorem ok_is_between {T L C f : Addr} {fd : FuncData} {kws : List (Str × V)} (F : FunD s.K "is_between" "is_between" (defArgs (top 15)) (defBody (top 15)) (defScope (top 15)) [] kws f fd) (hm : mg "is_between" = some (.ref f)) (h_is_number : Cal P w s.K mg base 1 "is_number" 1 φ_is_number (s.gc T L C []) []) : Cal P w s.K mg base 2 "is_between" 3 φ_is_between (s.gc T L C []) [] :=
  def_cal F hm sc_is_between (F.bindsN fun _ _ _ _ _ _ us hl => match us, hl with | [_, _, _], _ => rfl) .nil (fun _ => Dats.nil) (by decide) fun O cdv A outer s' H E hr => have hu := units_of hr; have nd := sc_is_between.nd; cs_cons (c_ret (u_and (gl_call h_is_number hr (ac (sv 0) (a_nil))) (u_one (c_le2 (sv 1) (sv 0) (sv 2))))) (cs_nil)
theorem sc_need_places : FnScope ["places"] ["places"] (defScope (top 25)) := ⟨rfl, rfl, rfl, by decide +kernel, rfl, by decide +kernel, by decide +kernel⟩
def m_need_places : SM := mSeq (mIfS (mNotT (mTst (mFn 3 φ_is_between [] (mCons (mVar 0) (mCons (mRet (.int 1)) (mCons (mRet (.int 6)) (mNil))))))) (mSeq (mNo) (mNext)) (mNext)) (mNext)
def φ_need_places : Fn := runB 1 m_need_places
theorem ok_need_places {t_MOST_PLACES : Tok} {T L C f : Addr} {fd : FuncData} {kws : List (Str × V)} (F : FunD s.K "need_places" "need_places" (defArgs (top 25)) (defBody (top 25)) (defScope (top 25)) [] kws f fd) (hm : mg "need_places" = some (.ref f)) (k_MOST_PLACES : mg "MOST_PLACES" = some (.int 6 t_MOST_PLACES)) (h_is_between : Cal P w s.K mg base 2 "is_between" 3 φ_is_between (s.gc T L C []) []) : Cal P w s.K mg base 3 "need_places" 1 φ_need_places (s.gc T L C []) [] :=
  def_cal F hm sc_need_places (F.bindsN fun _ _ _ _ _ _ us hl => match us, hl with | [_], _ => rfl) .nil (fun _ => Dats.nil) (by decide) fun O cdv A outer s' H E hr => have hu := units_of hr; have nd := sc_need_places.nd; cs_cons (c_if (t_not (q_tru (gl_call h_is_between hr (ac (sv 0) (ac (k_int) (ac (s_gint (by rfl) k_MOST_PLACES) (a_nil))))))) (cs_cons (c_no) (cs_nil)) (cs_nil)) (cs_nil)
theorem sc_need_arc_size : FnScope ["places", "size"] ["places", "size"] (defScope (top 64)) := ⟨rfl, rfl, rfl, by decide +kernel, rfl, by decide +kernel, by decide +kernel⟩
def m_need_arc_size : SM := mSeq (mDrop (mFn 1 φ_need_places [] (mCons (mVar 0) (mNil)))) (mSeq (mIfS (mNotT (mTst (mFn 3 φ_is_between [] (mCons (mVar 1) (mCons (mRet (.int 1)) (mCons (m2 dFdiv (mVar 0) (mRet (.int 2))) (mNil))))))) (mSeq (mNo) (mNext)) (mNext)) (mNext))
def φ_need_arc_size : Fn := runB 2 m_need_arc_size
theorem ok_need_arc_size {T L C f : Addr} {fd : FuncData} {kws : List (Str × V)} (F : FunD s.K "need_arc_size" "need_arc_size" (defArgs (top 64)) (defBody (top 64)) (defScope (top 64)) [] kws f fd) (hm : mg "need_arc_size" = some (.ref f)) (h_need_places : Cal P w s.K mg base 3 "need_places" 1 φ_need_places (s.gc T L C []) []) (h_is_between : Cal P w s.K mg base 2 "is_between" 3 φ_is_between (s.gc T L C []) []) : Cal P w s.K mg base 4 "need_arc_size" 2 φ_need_arc_size (s.gc T L C []) [] :=
  def_cal F hm sc_need_arc_size (F.bindsN fun _ _ _ _ _ _ us hl => match us, hl with | [_, _], _ => rfl) .nil (fun _ => Dats.nil) (by decide) fun O cdv A outer s' H E hr => have hu := units_of hr; have nd := sc_need_arc_size.nd; cs_cons (p_drop (gl_call h_need_places hr (ac (sv 0) (a_nil)))) (cs_cons (c_if (t_not (q_tru (gl_call h_is_between hr (ac (sv 1) (ac (k_int) (ac (o_fdiv (sv 0) (k_int)) (a_nil))))))) (cs_cons (c_no) (cs_nil)) (cs_nil)) (cs_nil))
theorem sc_is_list : FnScope ["thing"] ["thing"] (defScope (top 16)) := ⟨rfl, rfl, rfl, by decide +kernel, rfl, by decide +kernel, by decide +kernel⟩
def m_is_list : SM := mSeq (mRetS (m1 (fIsTy2 "list" "tuple") (mVar 0))) (mNext)
def φ_is_list : Fn := runB 1 m_is_list
theorem ok_is_list {T L C f : Addr} {fd : FuncData} {kws : List (Str × V)} (F : FunD s.K "is_list" "is_list" (defArgs (top 16)) (defBody (top 16)) (defScope (top 16)) [] kws f fd) (hm : mg "is_list" = some (.ref f)) (fr_isinstance : mg "isinstance" = none) (fr_list : mg "list" = none) (fr_tuple : mg "tuple" = none) : Cal P w s.K mg base 1 "is_list" 1 φ_is_list (s.gc T L C []) [] :=
  def_cal F hm sc_is_list (F.bindsN fun _ _ _ _ _ _ us hl => match us, hl with | [_], _ => rfl) .nil (fun _ => Dats.nil) (by decide) fun O cdv A outer s' H E hr => have hu := units_of hr; have nd := sc_is_list.nd; cs_cons (c_ret (is_ty2 "list" "tuple" fr_isinstance fr_list bt_list fr_tuple bt_tuple (sv 0))) (cs_nil)
theorem sc_is_rising : FnScope ["several", "one", "other"] ["several"] (defScope (top 17)) := ⟨rfl, rfl, rfl, by decide +kernel, rfl, by decide +kernel, by decide +kernel⟩
def m_is_rising : SM := mSeq (mRetS (mCall fAll (mCons (mLst (mLc [1, 2] (mOfL fZip (mCons (mVar 0) (mCons (mSl (mVar 0) (mPart (mRet (.int 1))) (mNoP)) (mNil)))) (.tp [.nm 1, .nm 2]) (mRet true) (m2 dLt (mVar 1) (mVar 2)))) (mNil)))) (mNext)
def φ_is_rising : Fn := runB 3 m_is_rising
theorem ok_is_rising {T L C f : Addr} {fd : FuncData} {kws : List (Str × V)} (F : FunD s.K "is_rising" "is_rising" (defArgs (top 17)) (defBody (top 17)) (defScope (top 17)) [] kws f fd) (hm : mg "is_rising" = some (.ref f)) (fr_zip : mg "zip" = none) (fr_all : mg "all" = none) : Cal P w s.K mg base 1 "is_rising" 1 φ_is_rising (s.gc T L C []) [] :=
  def_cal F hm sc_is_rising (F.bindsN fun _ _ _ _ _ _ us hl => match us, hl with | [_], _ => rfl) .nil (fun _ => Dats.nil) (by decide) fun O cdv A outer s' H E hr => have hu := units_of hr; have nd := sc_is_rising.nd; cs_cons (c_ret (b_all fr_all (ac (s_new (lc1 [("one", 1), ("other", 2)] nd (i_zp fr_zip (ac (sv 0) (ac (x_sl (sv 0) (o_some (k_int)) (o_none)) (a_nil)))) (fun _ _ _ _ _ => gt_ (gc_ (gn 1 nd) (gc_ (gn 2 nd) (gs_nil)))) (fun _ _ _ _ _ => ts_nil) (fun _ _ _ _ _ => c_lt (sv 1) (sv 2)) (blk_ok (by kernel_rfl)))) (a_nil)))) (cs_nil)
theorem sc_is_side : FnScope ["places", "thing", "place"] ["places", "thing"] (defScope (top 21)) := ⟨rfl, rfl, rfl, by decide +kernel, rfl, by decide +kernel, by decide +kernel⟩
def m_is_side : SM := mSeq (mIfS (mOrT (mNotT (mTst (m1 (fIsTy "tuple") (mVar 1)))) (mNotT (mTst (mCall fAll (mCons (mLst (mLc [2] (mItems (mVar 1)) (.nm 2) (mRet true) (mFn 3 φ_is_between [] (mCons (mVar 2) (mCons (mRet (.int 0)) (mCons (m2 dSub (mVar 0) (mRet (.int 1))) (mNil))))))) (mNil)))))) (mSeq (mRetS (mRet (.bl false))) (mNext)) (mNext)) (mSeq (mRetS (mFn 1 φ_is_rising [] (mCons (mVar 1) (mNil)))) (mNext))
def φ_is_side : Fn := runB 3 m_is_side
theorem ok_is_side {T L C f : Addr} {fd : FuncData} {kws : List (Str × V)} (F : FunD s.K "is_side" "is_side" (defArgs (top 21)) (defBody (top 21)) (defScope (top 21)) [] kws f fd) (hm : mg "is_side" = some (.ref f)) (h_is_between : Cal P w s.K mg base 2 "is_between" 3 φ_is_between (s.gc T L C []) []) (fr_all : mg "all" = none) (fr_isinstance : mg "isinstance" = none) (fr_tuple : mg "tuple" = none) (h_is_rising : Cal P w s.K mg base 1 "is_rising" 1 φ_is_rising (s.gc T L C []) []) : Cal P w s.K mg base 3 "is_side" 2 φ_is_side (s.gc T L C []) [] :=
  def_cal F hm sc_is_side (F.bindsN fun _ _ _ _ _ _ us hl => match us, hl with | [_, _], _ => rfl) .nil (fun _ => Dats.nil) (by decide) fun O cdv A outer s' H E hr => have hu := units_of hr; have nd := sc_is_side.nd; cs_cons (c_if ((w_or (t_not (q_tru (is_ty "tuple" fr_isinstance fr_tuple bt_tuple (sv 1)))) (w_one (t_not (q_tru (b_all fr_all (ac (s_new (lc1 [("place", 2)] nd (i_sq (sv 1)) (fun _ _ _ _ _ => gn 2 nd) (fun _ _ _ _ _ => ts_nil) (fun _ _ _ _ _ => gl_call h_is_between hr (ac (sv 2) (ac (k_int) (ac (o_sub (sv 0) (k_int)) (a_nil))))) (blk_ok (by kernel_rfl)))) (a_nil))))) _)).pt) (cs_cons (c_ret (k_bl)) (cs_nil)) (cs_nil)) (cs_cons (c_ret (gl_call h_is_rising hr (ac (sv 1) (a_nil)))) (cs_nil))
theorem sc_need_sets : FnScope ["places", "sets", "index", "side"] ["places", "sets"] (defScope (top 53)) := ⟨rfl, rfl, rfl, by decide +kernel, rfl, by decide +kernel, by decide +kernel⟩
def m_need_sets : SM := mSeq (mDrop (mFn 1 φ_need_places [] (mCons (mVar 0) (mNil)))) (mSeq (mIfS (mOrT (mNotT (mTst (mFn 1 φ_is_list [] (mCons (mVar 1) (mNil))))) (mBl (m2 dGt (mCall fLen (mCons (mVar 1) (mNil))) (mRet (.int 24))))) (mSeq (mNo) (mNext)) (mNext)) (mSeq (mFor (mOfL fEnum (mCons (mVar 1) (mNil))) (.tp [.nm 2, .nm 3]) (mSeq (mIfS (mOrT (mNotT (mTst (mFn 2 φ_is_side [] (mCons (mVar 0) (mCons (mVar 3) (mNil)))))) (mBl (m2 (dIn false) (mVar 3) (mSl (mLst (mCallF fList (mCons (mVar 1) (mNil)))) (mNoP) (mPart (mVar 2)))))) (mSeq (mNo) (mNext)) (mNext)) (mNext))) (mNext)))
def φ_need_sets : Fn := runB 4 m_need_sets
theorem ok_need_sets {t_MOST_PAIRS : Tok} {T L C f : Addr} {fd : FuncData} {kws : List (Str × V)} (F : FunD s.K "need_sets" "need_sets" (defArgs (top 53)) (defBody (top 53)) (defScope (top 53)) [] kws f fd) (hm : mg "need_sets" = some (.ref f)) (h_need_places : Cal P w s.K mg base 3 "need_places" 1 φ_need_places (s.gc T L C []) []) (fr_len : mg "len" = none) (k_MOST_PAIRS : mg "MOST_PAIRS" = some (.int 24 t_MOST_PAIRS)) (h_is_list : Cal P w s.K mg base 1 "is_list" 1 φ_is_list (s.gc T L C []) []) (fr_enumerate : mg "enumerate" = none) (fr_list : mg "list" = none) (h_is_side : Cal P w s.K mg base 3 "is_side" 2 φ_is_side (s.gc T L C []) []) : Cal P w s.K mg base 4 "need_sets" 2 φ_need_sets (s.gc T L C []) [] :=
  def_cal F hm sc_need_sets (F.bindsN fun _ _ _ _ _ _ us hl => match us, hl with | [_, _], _ => rfl) .nil (fun _ => Dats.nil) (by decide) fun O cdv A outer s' H E hr => have hu := units_of hr; have nd := sc_need_sets.nd; cs_cons (p_drop (gl_call h_need_places hr (ac (sv 0) (a_nil)))) (cs_cons (c_if ((w_or (t_not (q_tru (gl_call h_is_list hr (ac (sv 1) (a_nil))))) (w_one (q_gt (b_len fr_len (ac (sv 1) (a_nil))) (s_gint (by rfl) k_MOST_PAIRS)) _)).pt) (cs_cons (c_no) (cs_nil)) (cs_nil)) (cs_cons (p_for PassesOwn.never (i_enu fr_enumerate (ac (sv 1) (a_nil))) (gt_ (gc_ (gn 2 nd) (gc_ (gn 3 nd) (gs_nil)))) (cs_cons (c_if ((w_or (t_not (q_tru (gl_call h_is_side hr (ac (sv 0) (ac (sv 3) (a_nil)))))) (w_one (q_in (sv 3) (x_sl (s_new (n_list fr_list (ac (sv 1) (a_nil)))) (o_none) (o_some (sv 2))) hu) _)).pt) (cs_cons (c_no) (cs_nil)) (cs_nil)) (cs_nil))) (cs_nil)))
theorem sc_need_arcs : FnScope ["places", "size", "sets", "index", "side"] ["places", "size", "sets"] (defScope (top 65)) := ⟨rfl, rfl, rfl, by decide +kernel, rfl, by decide +kernel, by decide +kernel⟩
def m_need_arcs : SM := mSeq (mDrop (mFn 2 φ_need_arc_size [] (mCons (mVar 0) (mCons (mVar 1) (mNil))))) (mSeq (mDrop (mFn 2 φ_need_sets [] (mCons (mVar 0) (mCons (mVar 2) (mNil))))) (mSeq (mFor (mOfL fEnum (mCons (mVar 2) (mNil))) (.tp [.nm 3, .nm 4]) (mSeq (mIfS (mBl (m2 dNe (mCall fLen (mCons (mVar 4) (mNil))) (mVar 1))) (mSeq (mNo) (mNext)) (mNext)) (mNext))) (mNext)))
def φ_need_arcs : Fn := runB 5 m_need_arcs
theorem ok_need_arcs {T L C f : Addr} {fd : FuncData} {kws : List (Str × V)} (F : FunD s.K "need_arcs" "need_arcs" (defArgs (top 65)) (defBody (top 65)) (defScope (top 65)) [] kws f fd) (hm : mg "need_arcs" = some (.ref f)) (h_need_arc_size : Cal P w s.K mg base 4 "need_arc_size" 2 φ_need_arc_size (s.gc T L C []) []) (h_need_sets : Cal P w s.K mg base 4 "need_sets" 2 φ_need_sets (s.gc T L C []) []) (fr_enumerate : mg "enumerate" = none) (fr_len : mg "len" = none) : Cal P w s.K mg base 5 "need_arcs" 3 φ_need_arcs (s.gc T L C []) [] :=
  def_cal F hm sc_need_arcs (F.bindsN fun _ _ _ _ _ _ us hl => match us, hl with | [_, _, _], _ => rfl) .nil (fun _ => Dats.nil) (by decide) fun O cdv A outer s' H E hr => have hu := units_of hr; have nd := sc_need_arcs.nd; cs_cons (p_drop (gl_call h_need_arc_size hr (ac (sv 0) (ac (sv 1) (a_nil))))) (cs_cons (p_drop (gl_call h_need_sets hr (ac (sv 0) (ac (sv 2) (a_nil))))) (cs_cons (p_for PassesOwn.never (i_enu fr_enumerate (ac (sv 2) (a_nil))) (gt_ (gc_ (gn 3 nd) (gc_ (gn 4 nd) (gs_nil)))) (cs_cons (c_if (q_ne (b_len fr_len (ac (sv 4) (a_nil))) (sv 1) hu) (cs_cons (c_no) (cs_nil)) (cs_nil)) (cs_nil))) (cs_nil)))
theorem sc_rising_keys : FnScope ["many", "one", "other"] ["many"] (defScope (top 62)) := ⟨rfl, rfl, rfl, by decide +kernel, rfl, by decide +kernel, by decide +kernel⟩
def m_rising_keys : SM := mSeq (mRetS (mLst (mLc2 [1, 2] (mOfL fRange1 (mCons (mVar 0) (mNil))) (.nm 1) (mRet true) (mOfL fRange2 (mCons (m2 dAdd (mVar 1) (mRet (.int 1))) (mCons (mVar 0) (mNil)))) (.nm 2) (mRet true) (mTup (mCons (mVar 1) (mCons (mVar 2) (mNil)))) [2]))) (mNext)
def φ_rising_keys : Fn := runB 3 m_rising_keys
theorem ok_rising_keys {T L C f : Addr} {fd : FuncData} {kws : List (Str × V)} (F : FunD s.K "rising_keys" "rising_keys" (defArgs (top 62)) (defBody (top 62)) (defScope (top 62)) [] kws f fd) (hm : mg "rising_keys" = some (.ref f)) (fr_range : mg "range" = none) : Cal P w s.K mg base 1 "rising_keys" 1 φ_rising_keys (s.gc T L C []) [] :=
  def_cal F hm sc_rising_keys (F.bindsN fun _ _ _ _ _ _ us hl => match us, hl with | [_], _ => rfl) .nil (fun _ => Dats.nil) (by decide) fun O cdv A outer s' H E hr => have hu := units_of hr; have nd := sc_rising_keys.nd; cs_cons (c_ret (s_new (f_lc2 (own := [("one", 1), ("other", 2)]) (vs1 := [2]) (by rfl) nd (i_rng1 fr_range (ac (sv 0) (a_nil))) (blk_ok (by kernel_rfl)) (by decide) (fun _ _ _ _ _ => gn 1 nd) (fun _ _ _ _ _ => ts_nil) (fun _ _ _ _ _ => i_rng2 fr_range (ac (o_add (sv 1) (k_int)) (ac (sv 0) (a_nil)))) (fun _ _ _ _ _ => gn 2 nd) (fun _ _ _ _ _ => ts_nil) (fun _ _ _ _ _ => s_tup (ac (sv 1) (ac (sv 2) (a_nil)))) (by intro _; rfl) (by intro _ _; rfl) (by decide) (by decide)))) (cs_nil)
theorem sc_common_of : FnScope ["one", "other", "place"] ["one", "other"] (defScope (top 22)) := ⟨rfl, rfl, rfl, by decide +kernel, rfl, by decide +kernel, by decide +kernel⟩
def m_common_of : SM := mSeq (mRetS (mCall fTuple (mCons (mLst (mLc [2] (mItems (mVar 0)) (.nm 2) (mBl (m2 (dIn false) (mVar 2) (mVar 1))) (mVar 2))) (mNil)))) (mNext)
def φ_common_of : Fn := runB 3 m_common_of
theorem ok_common_of {T L C f : Addr} {fd : FuncData} {kws : List (Str × V)} (F : FunD s.K "common_of" "common_of" (defArgs (top 22)) (defBody (top 22)) (defScope (top 22)) [] kws f fd) (hm : mg "common_of" = some (.ref f)) (fr_tuple : mg "tuple" = none) : Cal P w s.K mg base 1 "common_of" 2 φ_common_of (s.gc T L C []) [] :=
  def_cal F hm sc_common_of (F.bindsN fun _ _ _ _ _ _ us hl => match us, hl with | [_, _], _ => rfl) .nil (fun _ => Dats.nil) (by decide) fun O cdv A outer s' H E hr => have hu := units_of hr; have nd := sc_common_of.nd; cs_cons (c_ret (b_tuple fr_tuple (ac (s_new (lc1 [("place", 2)] nd (i_sq (sv 0)) (fun _ _ _ _ _ => gn 2 nd) (fun _ _ _ _ _ => ts_one (q_in (sv 2) (sv 1) hu)) (fun _ _ _ _ _ => sv 2) (blk_ok (by kernel_rfl)))) (a_nil)))) (cs_nil)
theorem sc_round_with : FnScope ["places", "one", "other", "rest", "place", "whole", "spot"] ["places", "one", "other"] (defScope (top 72)) := ⟨rfl, rfl, rfl, by decide +kernel, rfl, by decide +kernel, by decide +kernel⟩
def m_round_with : SM := mSeq (mSet (.nm 3) (mLst (mLc [4] (mOfL fRange1 (mCons (mVar 0) (mNil))) (.nm 4) (mAndT (mBl (m2 (dIn true) (mVar 4) (mVar 1))) (mBl (m2 (dIn true) (mVar 4) (mVar 2)))) (mVar 4)))) (mSeq (mSet (.nm 5) (mLst (mDisp (mStar (mVar 1) (mStar (mVar 2) (mStar (mVar 3) (mNil))))))) (mSeq (mSet (.nm 6) (mIndex (mVar 5) (mCons (mRet (.int 0)) (mNil)))) (mSeq (mRetS (mCall fTuple (mCons (mLst (mDisp (mStar (mSl (mVar 5) (mPart (mVar 6)) (mNoP)) (mStar (mSl (mVar 5) (mNoP) (mPart (mVar 6))) (mNil))))) (mNil)))) (mNext))))
def φ_round_with : Fn := runB 7 m_round_with
theorem ok_round_with {T L C f : Addr} {fd : FuncData} {kws : List (Str × V)} (F : FunD s.K "round_with" "round_with" (defArgs (top 72)) (defBody (top 72)) (defScope (top 72)) [] kws f fd) (hm : mg "round_with" = some (.ref f)) (fr_range : mg "range" = none) (fr_tuple : mg "tuple" = none) : Cal P w s.K mg base 1 "round_with" 3 φ_round_with (s.gc T L C []) [] :=
  def_cal F hm sc_round_with (F.bindsN fun _ _ _ _ _ _ us hl => match us, hl with | [_, _, _], _ => rfl) .nil (fun _ => Dats.nil) (by decide) fun O cdv A outer s' H E hr => have hu := units_of hr; have nd := sc_round_with.nd; cs_cons (w_setLcV (i := 3) [("place", 4)] nd (i_rng1 fr_range (ac (sv 0) (a_nil))) (fun _ _ _ _ _ => gn 4 nd) (fun _ _ _ _ _ => ts_one ((w_and (q_notin (sv 4) (sv 1) hu) (w_one (q_notin (sv 4) (sv 2) hu) _)).pt)) (fun _ _ _ _ _ => sv 4) (blk_ok (by kernel_rfl))) (cs_cons (p_set (s_new (f_lst (as (sv 1) (as (sv 2) (as (sv 3) (a_nil)))))) (gn 5 nd)) (cs_cons (p_set (at_index (sv 5) (ac (k_int) (a_nil)) hu) (gn 6 nd)) (cs_cons (c_ret (b_tuple fr_tuple (ac (s_new (f_lst (as (x_sl (sv 5) (o_some (sv 6)) (o_none)) (as (x_sl (sv 5) (o_none) (o_some (sv 6))) (a_nil))))) (a_nil)))) (cs_nil))))
theorem sc_meeting_paper : FnScope ["places", "size", "sets", "found", "one", "other", "shared"] ["places", "size", "sets"] (defScope (top 73)) := ⟨rfl, rfl, rfl, by decide +kernel, rfl, by decide +kernel, by decide +kernel⟩
def m_meeting_paper : SM := mSeq (mDrop (mFn 3 φ_need_arcs [] (mCons (mVar 0) (mCons (mVar 1) (mCons (mVar 2) (mNil)))))) (mSeq (mDNew 3) (mSeq (mFor (mItems (mFn 1 φ_rising_keys [] (mCons (mCall fLen (mCons (mVar 2) (mNil))) (mNil)))) (.tp [.nm 4, .nm 5]) (mSeq (mSet (.nm 6) (mFn 2 φ_common_of [] (mCons (m2 dIx (mVar 2) (mVar 4)) (mCons (m2 dIx (mVar 2) (mVar 5)) (mNil))))) (mSeq (mIfS (mBl (m2 dEq (mVar 6) (mTup (mNil)))) (mSeq (mRetS (mTup (mCons (mRet (.str "apart")) (mCons (mVar 4) (mCons (mVar 5) (mCons (mFn 3 φ_round_with [] (mCons (mVar 0) (mCons (m2 dIx (mVar 2) (mVar 4)) (mCons (m2 dIx (mVar 2) (mVar 5)) (mNil))))) (mNil))))))) (mNext)) (mNext)) (mSeq (mSetK 3 (mTupN (mCons (mVar 4) (mCons (mVar 5) (mNil)))) (m2 dIx (mVar 6) (mRet (.int 0)))) (mNext))))) (mSeq (mRetS (mTup (mCons (mRet (.str "meet")) (mCons (mVar 3) (mNil))))) (mNext))))
def φ_meeting_paper : Fn := runB 7 m_meeting_paper
theorem ok_meeting_paper {T L C f : Addr} {fd : FuncData} {kws : List (Str × V)} (F : FunD s.K "meeting_paper" "meeting_paper" (defArgs (top 73)) (defBody (top 73)) (defScope (top 73)) [] kws f fd) (hm : mg "meeting_paper" = some (.ref f)) (h_need_arcs : Cal P w s.K mg base 5 "need_arcs" 3 φ_need_arcs (s.gc T L C []) []) (fr_len : mg "len" = none) (h_rising_keys : Cal P w s.K mg base 1 "rising_keys" 1 φ_rising_keys (s.gc T L C []) []) (h_common_of : Cal P w s.K mg base 1 "common_of" 2 φ_common_of (s.gc T L C []) []) (h_round_with : Cal P w s.K mg base 1 "round_with" 3 φ_round_with (s.gc T L C []) []) : Cal P w s.K mg base 6 "meeting_paper" 3 φ_meeting_paper (s.gc T L C []) [] :=
  def_cal F hm sc_meeting_paper (F.bindsN fun _ _ _ _ _ _ us hl => match us, hl with | [_, _, _], _ => rfl) .nil (fun _ => Dats.nil) (by decide) fun O cdv A outer s' H E hr => have hu := units_of hr; have nd := sc_meeting_paper.nd; cs_cons (p_drop (gl_call h_need_arcs hr (ac (sv 0) (ac (sv 1) (ac (sv 2) (a_nil)))))) (cs_cons (p_dnew nd) (cs_cons (p_for PassesOwn.never (i_sq (gl_call h_rising_keys hr (ac (b_len fr_len (ac (sv 2) (a_nil))) (a_nil)))) (gt_ (gc_ (gn 4 nd) (gc_ (gn 5 nd) (gs_nil)))) (cs_cons (p_set (gl_call h_common_of hr (ac (x_ix (sv 2) (sv 4)) (ac (x_ix (sv 2) (sv 5)) (a_nil)))) (gn 6 nd)) (cs_cons (c_if (q_eq (sv 6) (s_tup (a_nil)) hu) (cs_cons (c_ret (s_tup (ac (k_str) (ac (sv 4) (ac (sv 5) (ac (gl_call h_round_with hr (ac (sv 0) (ac (x_ix (sv 2) (sv 4)) (ac (x_ix (sv 2) (sv 5)) (a_nil))))) (a_nil))))))) (cs_nil)) (cs_nil)) (cs_cons (q_setK (pv 3) (k_tup (ac (sv 4) (ac (sv 5) (a_nil)))) (x_ix (sv 6) (k_int)) hu) (cs_nil))))) (cs_cons (c_ret (s_tup (ac (k_str) (ac (sv 3) (a_nil))))) (cs_nil))))
theorem sc__law_keys : FnScope ["many", "found", "one", "other"] ["many"] (defScope (top 93)) := ⟨rfl, rfl, rfl, by decide +kernel, rfl, by decide +kernel, by decide +kernel⟩
def m__law_keys : SM := mSeq (mSet (.nm 1) (mLst (mDisp (mNil)))) (mSeq (mFor (mOfL fRange1 (mCons (mVar 0) (mNil))) (.nm 2) (mSeq (mSet (.nm 1) (m2 dAdd (mVar 1) (mLst (mLc [3] (mOfL fRange2 (mCons (m2 dAdd (mVar 2) (mRet (.int 1))) (mCons (mVar 0) (mNil)))) (.nm 3) (mRet true) (mTup (mCons (mVar 2) (mCons (mVar 3) (mNil)))))))) (mNext))) (mSeq (mRetS (mVar 1)) (mNext)))
def φ__law_keys : Fn := runB 4 m__law_keys
theorem ok__law_keys {T L C f : Addr} {fd : FuncData} {kws : List (Str × V)} (F : FunD s.K "_law_keys" "_law_keys" (defArgs (top 93)) (defBody (top 93)) (defScope (top 93)) [] kws f fd) (hm : mg "_law_keys" = some (.ref f)) (fr_range : mg "range" = none) : Cal P w s.K mg base 1 "_law_keys" 1 φ__law_keys (s.gc T L C []) [] :=
  def_cal F hm sc__law_keys (F.bindsN fun _ _ _ _ _ _ us hl => match us, hl with | [_], _ => rfl) .nil (fun _ => Dats.nil) (by decide) fun O cdv A outer s' H E hr => have hu := units_of hr; have nd := sc__law_keys.nd; cs_cons (p_set (s_new (f_lst (a_nil))) (gn 1 nd)) (cs_cons (p_for PassesOwn.never (i_rng1 fr_range (ac (sv 0) (a_nil))) (gn 2 nd) (cs_cons (p_set (o_add (sv 1) (s_new (lc1 [("other", 3)] nd (i_rng2 fr_range (ac (o_add (sv 2) (k_int)) (ac (sv 0) (a_nil)))) (fun _ _ _ _ _ => gn 3 nd) (fun _ _ _ _ _ => ts_nil) (fun _ _ _ _ _ => s_tup (ac (sv 2) (ac (sv 3) (a_nil)))) (blk_ok (by kernel_rfl))))) (gn 1 nd)) (cs_nil))) (cs_cons (c_ret (sv 1)) (cs_nil)))
theorem sc_orders_by : FnScope ["places", "found", "lap", "order", "place"] ["places"] (defScope (top 59)) := ⟨rfl, rfl, rfl, by decide +kernel, rfl, by decide +kernel, by decide +kernel⟩
def m_orders_by : SM := mSeq (mSet (.nm 1) (mLst (mDisp (mCons (mTup (mNil)) (mNil))))) (mSeq (mFor (mOfL fRange1 (mCons (mVar 0) (mNil))) (.nm 2) (mSeq (mSet (.nm 1) (mLst (mLc2 [3, 4] (mItems (mVar 1)) (.nm 3) (mRet true) (mOfL fRange1 (mCons (mVar 0) (mNil))) (.nm 4) (mBl (m2 (dIn true) (mVar 4) (mVar 3))) (mTup (mStar (mVar 3) (mCons (mVar 4) (mNil)))) [4]))) (mNext))) (mSeq (mRetS (mVar 1)) (mNext)))
def φ_orders_by : Fn := runB 5 m_orders_by
theorem ok_orders_by {T L C f : Addr} {fd : FuncData} {kws : List (Str × V)} (F : FunD s.K "orders_by" "orders_by" (defArgs (top 59)) (defBody (top 59)) (defScope (top 59)) [] kws f fd) (hm : mg "orders_by" = some (.ref f)) (fr_range : mg "range" = none) : Cal P w s.K mg base 1 "orders_by" 1 φ_orders_by (s.gc T L C []) [] :=
  def_cal F hm sc_orders_by (F.bindsN fun _ _ _ _ _ _ us hl => match us, hl with | [_], _ => rfl) .nil (fun _ => Dats.nil) (by decide) fun O cdv A outer s' H E hr => have hu := units_of hr; have nd := sc_orders_by.nd; cs_cons (p_set (s_new (f_lst (ac (s_tup (a_nil)) (a_nil)))) (gn 1 nd)) (cs_cons (p_for PassesOwn.never (i_rng1 fr_range (ac (sv 0) (a_nil))) (gn 2 nd) (cs_cons (w_setLc2V (i := 1) (own := [("order", 3), ("place", 4)]) (vs1 := [4]) (by rfl) nd (i_sq (sv 1)) (blk_ok (by kernel_rfl)) (by decide) (fun _ _ _ _ _ => gn 3 nd) (fun _ _ _ _ _ => ts_nil) (fun _ _ _ _ _ => i_rng1 fr_range (ac (sv 0) (a_nil))) (fun _ _ _ _ _ => gn 4 nd) (fun _ _ _ _ _ => ts_one (q_notin (sv 4) (sv 3) hu)) (fun _ _ _ _ _ => s_tup (as (sv 3) (ac (sv 4) (a_nil)))) (by intro _; rfl) (by intro _ _; rfl) (by decide) (by decide)) (cs_nil))) (cs_cons (c_ret (sv 1)) (cs_nil)))
theorem sc_round_orders_by : FnScope ["places", "order"] ["places"] (defScope (top 67)) := ⟨rfl, rfl, rfl, by decide +kernel, rfl, by decide +kernel, by decide +kernel⟩
def m_round_orders_by : SM := mSeq (mRetS (mLst (mLc [1] (mItems (mFn 1 φ_orders_by [] (mCons (mVar 0) (mNil)))) (.nm 1) (mBl (m2 dEq (m2 dIx (mVar 1) (mRet (.int 0))) (mRet (.int 0)))) (mVar 1)))) (mNext)
def φ_round_orders_by : Fn := runB 2 m_round_orders_by
theorem ok_round_orders_by {T L C f : Addr} {fd : FuncData} {kws : List (Str × V)} (F : FunD s.K "round_orders_by" "round_orders_by" (defArgs (top 67)) (defBody (top 67)) (defScope (top 67)) [] kws f fd) (hm : mg "round_orders_by" = some (.ref f)) (h_orders_by : Cal P w s.K mg base 1 "orders_by" 1 φ_orders_by (s.gc T L C []) []) : Cal P w s.K mg base 2 "round_orders_by" 1 φ_round_orders_by (s.gc T L C []) [] :=
  def_cal F hm sc_round_orders_by (F.bindsN fun _ _ _ _ _ _ us hl => match us, hl with | [_], _ => rfl) .nil (fun _ => Dats.nil) (by decide) fun O cdv A outer s' H E hr => have hu := units_of hr; have nd := sc_round_orders_by.nd; cs_cons (c_ret (s_new (lc1 [("order", 1)] nd (i_sq (gl_call h_orders_by hr (ac (sv 0) (a_nil)))) (fun _ _ _ _ _ => gn 1 nd) (fun _ _ _ _ _ => ts_one (q_eq (x_ix (sv 1) (k_int)) (k_int) hu)) (fun _ _ _ _ _ => sv 1) (blk_ok (by kernel_rfl))))) (cs_nil)
theorem sc_round_orders : FnScope ["places"] ["places"] (defScope (top 68)) := ⟨rfl, rfl, rfl, by decide +kernel, rfl, by decide +kernel, by decide +kernel⟩
def m_round_orders : SM := mSeq (mDrop (mFn 1 φ_need_places [] (mCons (mVar 0) (mNil)))) (mSeq (mRetS (mFn 1 φ_round_orders_by [] (mCons (mVar 0) (mNil)))) (mNext))
def φ_round_orders : Fn := runB 1 m_round_orders
theorem ok_round_orders {T L C f : Addr} {fd : FuncData} {kws : List (Str × V)} (F : FunD s.K "round_orders" "round_orders" (defArgs (top 68)) (defBody (top 68)) (defScope (top 68)) [] kws f fd) (hm : mg "round_orders" = some (.ref f)) (h_need_places : Cal P w s.K mg base 3 "need_places" 1 φ_need_places (s.gc T L C []) []) (h_round_orders_by : Cal P w s.K mg base 2 "round_orders_by" 1 φ_round_orders_by (s.gc T L C []) []) : Cal P w s.K mg base 4 "round_orders" 1 φ_round_orders (s.gc T L C []) [] :=
  def_cal F hm sc_round_orders (F.bindsN fun _ _ _ _ _ _ us hl => match us, hl with | [_], _ => rfl) .nil (fun _ => Dats.nil) (by decide) fun O cdv A outer s' H E hr => have hu := units_of hr; have nd := sc_round_orders.nd; cs_cons (p_drop (gl_call h_need_places hr (ac (sv 0) (a_nil)))) (cs_cons (c_ret (gl_call h_round_orders_by hr (ac (sv 0) (a_nil)))) (cs_nil))
theorem sc__law_blend : FnScope ["tape", "turn", "found", "great", "blended", "grain"] ["tape"] (defScope (top 87)) := ⟨rfl, rfl, rfl, by decide +kernel, rfl, by decide +kernel, by decide +kernel⟩
def m__law_blend : SM := mSeq (mTset .turn (mVar 0) (m2 dAdd (mTget .turn (mVar 0)) (mRet (.int 1)))) (mSeq (mPar 1 2 (.v (mCall fInt (mCons (mTget .turn (mVar 0)) (mNil)))) (.v (mRet (.int 0)))) (mSeq (mFor (mItems (mLst (mDisp (mCons (mRet (.int 2147483629)) (mCons (mRet (.int 2147483587)) (mCons (mRet (.int 2147483579)) (mNil))))))) (.nm 3) (mSeq (mSet (.nm 4) (m2 dMod (m2 dAdd (m2 dMul (mVar 1) (mRet (.int 69621))) (m2 dFdiv (mVar 3) (mRet (.int 7)))) (mVar 3))) (mSeq (mFor (mItems (mTget .cells (mVar 0))) (.nm 5) (mSeq (mSet (.nm 4) (m2 dMod (m2 dAdd (m2 dMul (mVar 4) (mRet (.int 48271))) (mCall fInt (mCons (mVar 5) (mNil)))) (mVar 3))) (mNext))) (mSeq (mSet (.nm 2) (m2 dAdd (m2 dMul (mVar 2) (mRet (.int 2147483647))) (m2 dMod (m2 dPow (mVar 4) (mRet (.int 5))) (mVar 3)))) (mNext))))) (mSeq (mRetS (mVar 2)) (mNext))))
def φ__law_blend : Fn := runB 6 m__law_blend
theorem ok__law_blend {T L C f : Addr} {fd : FuncData} {kws : List (Str × V)} (F : FunD s.K "_law_blend" "_law_blend" (defArgs (top 87)) (defBody (top 87)) (defScope (top 87)) [] kws f fd) (hm : mg "_law_blend" = some (.ref f)) (fr_int : mg "int" = none) : Cal P w s.K mg base 1 "_law_blend" 1 φ__law_blend (s.gc T L C []) [] :=
  def_cal F hm sc__law_blend (F.bindsN fun _ _ _ _ _ _ us hl => match us, hl with | [_], _ => rfl) .nil (fun _ => Dats.nil) (by decide) fun O cdv A outer s' H E hr => have hu := units_of hr; have nd := sc__law_blend.nd; cs_cons (c_tset (k := .turn) (by rfl) (hu1 hu) (sv 0) pe_str (o_add (s_tget (k := .turn) (by rfl) (hu1 hu) (sv 0) pe_str (by intro _ _; rfl)) (k_int)) (by rfl)) (cs_cons (p_par (ra := .v (mCall fInt (mCons (mTget .turn (mVar 0)) (mNil)))) (rb := .v (mRet (.int 0))) nd (b_int fr_int (ac (s_tget (k := .turn) (by rfl) (hu1 hu) (sv 0) pe_str (by intro _ _; rfl)) (a_nil))) (k_int)) (cs_cons (p_for PassesOwn.never (i_sq (s_new (f_lst (ac (k_int) (ac (k_int) (ac (k_int) (a_nil))))))) (gn 3 nd) (cs_cons (p_set (o_mod (o_add (o_mul (sv 1) (k_int)) (o_fdiv (sv 3) (k_int))) (sv 3)) (gn 4 nd)) (cs_cons (p_for PassesOwn.never (i_sq (s_tget (k := .cells) (by rfl) (hu1 hu) (sv 0) pe_str (by intro _ _; rfl))) (gn 5 nd) (cs_cons (p_set (o_mod (o_add (o_mul (sv 4) (k_int)) (b_int fr_int (ac (sv 5) (a_nil)))) (sv 3)) (gn 4 nd)) (cs_nil))) (cs_cons (p_set (o_add (o_mul (sv 2) (k_int)) (o_mod (o_pow (sv 4) (k_int)) (sv 3))) (gn 2 nd)) (cs_nil))))) (cs_cons (c_ret (sv 2)) (cs_nil))))
theorem sc__law_draw : FnScope ["tape", "size", "found"] ["tape", "size"] (defScope (top 88)) := ⟨rfl, rfl, rfl, by decide +kernel, rfl, by decide +kernel, by decide +kernel⟩
def m__law_draw : SM := mSeq (mIfS (mBl (m2 dEq (mTget .rest (mVar 0)) (mRet (.int 0)))) (mSeq (mTset .rest (mVar 0) (mIf (mLgNe (mVar 0)) (mLgPop (mVar 0)) (mFn 1 φ__law_blend [] (mCons (mVar 0) (mNil))))) (mNext)) (mNext)) (mSeq (mSet (.nm 2) (m2 dMod (mCall fInt (mCons (mTget .rest (mVar 0)) (mNil))) (mVar 1))) (mSeq (mTset .rest (mVar 0) (m2 dFdiv (mCall fInt (mCons (mTget .rest (mVar 0)) (mNil))) (mVar 1))) (mSeq (mRetS (mVar 2)) (mNext))))
def φ__law_draw : Fn := runB 3 m__law_draw
theorem ok__law_draw {T L C f : Addr} {fd : FuncData} {kws : List (Str × V)} (F : FunD s.K "_law_draw" "_law_draw" (defArgs (top 88)) (defBody (top 88)) (defScope (top 88)) [] kws f fd) (hm : mg "_law_draw" = some (.ref f)) (h__law_blend : Cal P w s.K mg base 1 "_law_blend" 1 φ__law_blend (s.gc T L C []) []) (fr_int : mg "int" = none) : Cal P w s.K mg base 2 "_law_draw" 2 φ__law_draw (s.gc T L C []) [] :=
  def_cal F hm sc__law_draw (F.bindsN fun _ _ _ _ _ _ us hl => match us, hl with | [_, _], _ => rfl) .nil (fun _ => Dats.nil) (by decide) fun O cdv A outer s' H E hr => have hu := units_of hr; have nd := sc__law_draw.nd; cs_cons (c_if (q_eq (s_tget (k := .rest) (by rfl) (hu1 hu) (sv 0) pe_str (by intro _ _; rfl)) (k_int) hu) (cs_cons (c_tset (k := .rest) (by rfl) (hu1 hu) (sv 0) pe_str (s_if (t_lgne (hu64 hu) (sv 0) (by rfl) pe_str (by intro _ _; rfl) (nomark _)) (s_lgpop PySem.F.plainAttrs_list PySem.F.slot_list_pop PySem.F.type_list_pop (hu1 hu) (sv 0) pe_str (by intro _ _; rfl) pe_int (by rfl) (by rfl) (by rfl) (by rfl) (by rfl)) (gl_call h__law_blend hr (ac (sv 0) (a_nil)))) (by rfl)) (cs_nil)) (cs_nil)) (cs_cons (p_set (o_mod (b_int fr_int (ac (s_tget (k := .rest) (by rfl) (hu1 hu) (sv 0) pe_str (by intro _ _; rfl)) (a_nil))) (sv 1)) (gn 2 nd)) (cs_cons (c_tset (k := .rest) (by rfl) (hu1 hu) (sv 0) pe_str (o_fdiv (b_int fr_int (ac (s_tget (k := .rest) (by rfl) (hu1 hu) (sv 0) pe_str (by intro _ _; rfl)) (a_nil))) (sv 1)) (by rfl)) (cs_cons (c_ret (sv 2)) (cs_nil))))
theorem sc__law_pick : FnScope ["tape", "several"] ["tape", "several"] (defScope (top 89)) := ⟨rfl, rfl, rfl, by decide +kernel, rfl, by decide +kernel, by decide +kernel⟩
def m__law_pick : SM := mSeq (mRetS (m2 dIx (mVar 1) (mFn 2 φ__law_draw [] (mCons (mVar 0) (mCons (mCall fLen (mCons (mVar 1) (mNil))) (mNil)))))) (mNext)
def φ__law_pick : Fn := runB 2 m__law_pick
theorem ok__law_pick {T L C f : Addr} {fd : FuncData} {kws : List (Str × V)} (F : FunD s.K "_law_pick" "_law_pick" (defArgs (top 89)) (defBody (top 89)) (defScope (top 89)) [] kws f fd) (hm : mg "_law_pick" = some (.ref f)) (fr_len : mg "len" = none) (h__law_draw : Cal P w s.K mg base 2 "_law_draw" 2 φ__law_draw (s.gc T L C []) []) : Cal P w s.K mg base 3 "_law_pick" 2 φ__law_pick (s.gc T L C []) [] :=
  def_cal F hm sc__law_pick (F.bindsN fun _ _ _ _ _ _ us hl => match us, hl with | [_, _], _ => rfl) .nil (fun _ => Dats.nil) (by decide) fun O cdv A outer s' H E hr => have hu := units_of hr; have nd := sc__law_pick.nd; cs_cons (c_ret (x_ix (sv 1) (gl_call h__law_draw hr (ac (sv 0) (ac (b_len fr_len (ac (sv 1) (a_nil))) (a_nil)))))) (cs_nil)
theorem sc_meets : FnScope ["one", "other"] ["one", "other"] (defScope (top 23)) := ⟨rfl, rfl, rfl, by decide +kernel, rfl, by decide +kernel, by decide +kernel⟩
def m_meets : SM := mSeq (mRetS (m2 dNe (mFn 2 φ_common_of [] (mCons (mVar 0) (mCons (mVar 1) (mNil)))) (mTup (mNil)))) (mNext)
def φ_meets : Fn := runB 2 m_meets
theorem ok_meets {T L C f : Addr} {fd : FuncData} {kws : List (Str × V)} (F : FunD s.K "meets" "meets" (defArgs (top 23)) (defBody (top 23)) (defScope (top 23)) [] kws f fd) (hm : mg "meets" = some (.ref f)) (h_common_of : Cal P w s.K mg base 1 "common_of" 2 φ_common_of (s.gc T L C []) []) : Cal P w s.K mg base 2 "meets" 2 φ_meets (s.gc T L C []) [] :=
  def_cal F hm sc_meets (F.bindsN fun _ _ _ _ _ _ us hl => match us, hl with | [_, _], _ => rfl) .nil (fun _ => Dats.nil) (by decide) fun O cdv A outer s' H E hr => have hu := units_of hr; have nd := sc_meets.nd; cs_cons (c_ret (c_ne (gl_call h_common_of hr (ac (sv 0) (ac (sv 1) (a_nil)))) (s_tup (a_nil)) hu)) (cs_nil)
theorem sc_is_pair : FnScope ["places", "thing", "side"] ["places", "thing"] (defScope (top 24)) := ⟨rfl, rfl, rfl, by decide +kernel, rfl, by decide +kernel, by decide +kernel⟩
def m_is_pair : SM := mSeq (mIfS (mOrT (mNotT (mTst (m1 (fIsTy "tuple") (mVar 1)))) (mOrT (mBl (m2 dNe (mCall fLen (mCons (mVar 1) (mNil))) (mRet (.int 2)))) (mNotT (mTst (mCall fAll (mCons (mLst (mLc [2] (mItems (mVar 1)) (.nm 2) (mRet true) (mFn 2 φ_is_side [] (mCons (mVar 0) (mCons (mVar 2) (mNil)))))) (mNil))))))) (mSeq (mRetS (mRet (.bl false))) (mNext)) (mNext)) (mSeq (mRetS (mNot (mFn 2 φ_meets [] (mCons (m2 dIx (mVar 1) (mRet (.int 0))) (mCons (m2 dIx (mVar 1) (mRet (.int 1))) (mNil)))))) (mNext))
def φ_is_pair : Fn := runB 3 m_is_pair
theorem ok_is_pair {T L C f : Addr} {fd : FuncData} {kws : List (Str × V)} (F : FunD s.K "is_pair" "is_pair" (defArgs (top 24)) (defBody (top 24)) (defScope (top 24)) [] kws f fd) (hm : mg "is_pair" = some (.ref f)) (h_is_side : Cal P w s.K mg base 3 "is_side" 2 φ_is_side (s.gc T L C []) []) (fr_all : mg "all" = none) (fr_len : mg "len" = none) (fr_isinstance : mg "isinstance" = none) (fr_tuple : mg "tuple" = none) (h_meets : Cal P w s.K mg base 2 "meets" 2 φ_meets (s.gc T L C []) []) : Cal P w s.K mg base 4 "is_pair" 2 φ_is_pair (s.gc T L C []) [] :=
  def_cal F hm sc_is_pair (F.bindsN fun _ _ _ _ _ _ us hl => match us, hl with | [_, _], _ => rfl) .nil (fun _ => Dats.nil) (by decide) fun O cdv A outer s' H E hr => have hu := units_of hr; have nd := sc_is_pair.nd; cs_cons (c_if ((w_or (t_not (q_tru (is_ty "tuple" fr_isinstance fr_tuple bt_tuple (sv 1)))) (w_or (q_ne (b_len fr_len (ac (sv 1) (a_nil))) (k_int) hu) (w_one (t_not (q_tru (b_all fr_all (ac (s_new (lc1 [("side", 2)] nd (i_sq (sv 1)) (fun _ _ _ _ _ => gn 2 nd) (fun _ _ _ _ _ => ts_nil) (fun _ _ _ _ _ => gl_call h_is_side hr (ac (sv 0) (ac (sv 2) (a_nil)))) (blk_ok (by kernel_rfl)))) (a_nil))))) _))).pt) (cs_cons (c_ret (k_bl)) (cs_nil)) (cs_nil)) (cs_cons (c_ret (u_not (gl_call h_meets hr (ac (x_ix (sv 1) (k_int)) (ac (x_ix (sv 1) (k_int)) (a_nil)))))) (cs_nil))
theorem sc_need_pairs : FnScope ["places", "pairs", "index", "pair"] ["places", "pairs"] (defScope (top 26)) := ⟨rfl, rfl, rfl, by decide +kernel, rfl, by decide +kernel, by decide +kernel⟩
def m_need_pairs : SM := mSeq (mIfS (mOrT (mNotT (mTst (mFn 1 φ_is_list [] (mCons (mVar 1) (mNil))))) (mBl (m2 dGt (mCall fLen (mCons (mVar 1) (mNil))) (mRet (.int 24))))) (mSeq (mNo) (mNext)) (mNext)) (mSeq (mFor (mOfL fEnum (mCons (mVar 1) (mNil))) (.tp [.nm 2, .nm 3]) (mSeq (mIfS (mOrT (mNotT (mTst (mFn 2 φ_is_pair [] (mCons (mVar 0) (mCons (mVar 3) (mNil)))))) (mBl (m2 (dIn false) (mVar 3) (mSl (mLst (mCallF fList (mCons (mVar 1) (mNil)))) (mNoP) (mPart (mVar 2)))))) (mSeq (mNo) (mNext)) (mNext)) (mNext))) (mNext))
def φ_need_pairs : Fn := runB 4 m_need_pairs
theorem ok_need_pairs {t_MOST_PAIRS : Tok} {T L C f : Addr} {fd : FuncData} {kws : List (Str × V)} (F : FunD s.K "need_pairs" "need_pairs" (defArgs (top 26)) (defBody (top 26)) (defScope (top 26)) [] kws f fd) (hm : mg "need_pairs" = some (.ref f)) (fr_len : mg "len" = none) (k_MOST_PAIRS : mg "MOST_PAIRS" = some (.int 24 t_MOST_PAIRS)) (h_is_list : Cal P w s.K mg base 1 "is_list" 1 φ_is_list (s.gc T L C []) []) (fr_enumerate : mg "enumerate" = none) (fr_list : mg "list" = none) (h_is_pair : Cal P w s.K mg base 4 "is_pair" 2 φ_is_pair (s.gc T L C []) []) : Cal P w s.K mg base 5 "need_pairs" 2 φ_need_pairs (s.gc T L C []) [] :=
  def_cal F hm sc_need_pairs (F.bindsN fun _ _ _ _ _ _ us hl => match us, hl with | [_, _], _ => rfl) .nil (fun _ => Dats.nil) (by decide) fun O cdv A outer s' H E hr => have hu := units_of hr; have nd := sc_need_pairs.nd; cs_cons (c_if ((w_or (t_not (q_tru (gl_call h_is_list hr (ac (sv 1) (a_nil))))) (w_one (q_gt (b_len fr_len (ac (sv 1) (a_nil))) (s_gint (by rfl) k_MOST_PAIRS)) _)).pt) (cs_cons (c_no) (cs_nil)) (cs_nil)) (cs_cons (p_for PassesOwn.never (i_enu fr_enumerate (ac (sv 1) (a_nil))) (gt_ (gc_ (gn 2 nd) (gc_ (gn 3 nd) (gs_nil)))) (cs_cons (c_if ((w_or (t_not (q_tru (gl_call h_is_pair hr (ac (sv 0) (ac (sv 3) (a_nil)))))) (w_one (q_in (sv 3) (x_sl (s_new (n_list fr_list (ac (sv 1) (a_nil)))) (o_none) (o_some (sv 2))) hu) _)).pt) (cs_cons (c_no) (cs_nil)) (cs_nil)) (cs_nil))) (cs_nil))
theorem sc_Family___init__ : FnScope ["self", "places", "pairs"] ["self", "places", "pairs"] (defScope (inClass (top 27) 0)) := ⟨rfl, rfl, rfl, by decide +kernel, rfl, by decide +kernel, by decide +kernel⟩
def m_Family___init__ : IM := iSeq2 (iDo (mFn 1 φ_need_places [] (mCons (mVar 1) (mNil)))) (iSeq2 (iDo (mFn 2 φ_need_pairs [] (mCons (mVar 1) (mCons (mVar 2) (mNil))))) (iSeq2 (iFld 0 "own_places" (mVar 1)) (iSeq2 (iFld 0 "own_pairs" (mCall fTuple (mCons (mVar 2) (mNil)))) (iNil))))
def φ_Family___init__ : Fn := runI 3 0 m_Family___init__
theorem ok_Family___init__ {T L C f : Addr} {fd : FuncData} {kws : List (Str × V)} (F : FunD s.K "__init__" "Family.__init__" (defArgs (inClass (top 27) 0)) (defBody (inClass (top 27) 0)) (defScope (inClass (top 27) 0)) [] kws f fd) (hm : Mk s.K (s.clsA 0) f) (hg : mg "Family" = some (.ref (s.clsA 0))) (fr_tuple : mg "tuple" = none) (c_0 : Cls s.K (s.clsA 0)) (n_own_pairs : NoAttr s.K (s.clsA 0) "own_pairs") (n_own_places : NoAttr s.K (s.clsA 0) "own_places") (h_need_pairs : Cal P w s.K mg base 5 "need_pairs" 2 φ_need_pairs (s.gc T L C []) []) (h_need_places : Cal P w s.K mg base 3 "need_places" 1 φ_need_places (s.gc T L C []) []) : Mak P w s.K mg base 6 0 "Family" 2 φ_Family___init__ (s.gc T L C []) :=
  init_cal F hm hg sc_Family___init__ (F.bindsN fun _ _ _ _ _ _ us hl => match us, hl with | [_, _, _], _ => rfl) rfl (by decide) fun O Hb z cdv A outer s' H E hr => have hu := units_of hr; have nd := sc_Family___init__.nd; x_cons (x_do (gl_call h_need_places hr (ac (sv 1) (a_nil))) (by rfl)) (x_cons (x_do (gl_call h_need_pairs hr (ac (sv 1) (ac (sv 2) (a_nil)))) (by rfl)) (x_cons (x_fld c_0 n_own_places (pv 0) (sv 1) (by rfl) (by decide)) (x_cons (x_fld c_0 n_own_pairs (pv 0) (b_tuple fr_tuple (ac (sv 2) (a_nil))) (by rfl) (by decide)) (x_nil))))
theorem sc_need_many : FnScope ["many", "size"] ["many", "size"] (defScope (top 81)) := ⟨rfl, rfl, rfl, by decide +kernel, rfl, by decide +kernel, by decide +kernel⟩
def m_need_many : SM := mSeq (mIfS (mNotT (mTst (mFn 3 φ_is_between [] (mCons (mVar 0) (mCons (mRet (.int 0)) (mCons (mRet (.int 1000000000)) (mNil))))))) (mSeq (mNo) (mNext)) (mNext)) (mSeq (mIfS (mNotT (mTst (mFn 3 φ_is_between [] (mCons (mVar 1) (mCons (mRet (.int 1)) (mCons (mRet (.int 6)) (mNil))))))) (mSeq (mNo) (mNext)) (mNext)) (mNext))
def φ_need_many : Fn := runB 2 m_need_many
theorem ok_need_many {t_MOST_SETS : Tok} {T L C f : Addr} {fd : FuncData} {kws : List (Str × V)} (F : FunD s.K "need_many" "need_many" (defArgs (top 81)) (defBody (top 81)) (defScope (top 81)) [] kws f fd) (hm : mg "need_many" = some (.ref f)) (k_MOST_SETS : mg "MOST_SETS" = some (.int 1000000000 t_MOST_SETS)) (h_is_between : Cal P w s.K mg base 2 "is_between" 3 φ_is_between (s.gc T L C []) []) : Cal P w s.K mg base 3 "need_many" 2 φ_need_many (s.gc T L C []) [] :=
  def_cal F hm sc_need_many (F.bindsN fun _ _ _ _ _ _ us hl => match us, hl with | [_, _], _ => rfl) .nil (fun _ => Dats.nil) (by decide) fun O cdv A outer s' H E hr => have hu := units_of hr; have nd := sc_need_many.nd; cs_cons (c_if (t_not (q_tru (gl_call h_is_between hr (ac (sv 0) (ac (k_int) (ac (s_gint (by rfl) k_MOST_SETS) (a_nil))))))) (cs_cons (c_no) (cs_nil)) (cs_nil)) (cs_cons (c_if (t_not (q_tru (gl_call h_is_between hr (ac (sv 1) (ac (k_int) (ac (k_int) (a_nil))))))) (cs_cons (c_no) (cs_nil)) (cs_nil)) (cs_nil))
theorem sc_picks : FnScope ["many", "few", "found", "step"] ["many", "few"] (defScope (top 51)) := ⟨rfl, rfl, rfl, by decide +kernel, rfl, by decide +kernel, by decide +kernel⟩
def m_picks : SM := mSeq (mIfS (mOrT (mBl (m2 dLt (mVar 1) (mRet (.int 0)))) (mBl (m2 dGt (mVar 1) (mVar 0)))) (mSeq (mRetS (mRet (.int 0))) (mNext)) (mNext)) (mSeq (mSet (.nm 2) (mRet (.int 1))) (mSeq (mFor (mOfL fRange1 (mCons (mVar 1) (mNil))) (.nm 3) (mSeq (mSet (.nm 2) (m2 dFdiv (m2 dMul (mVar 2) (m2 dSub (mVar 0) (mVar 3))) (m2 dAdd (mVar 3) (mRet (.int 1))))) (mNext))) (mSeq (mRetS (mVar 2)) (mNext))))
def φ_picks : Fn := runB 4 m_picks
theorem ok_picks {T L C f : Addr} {fd : FuncData} {kws : List (Str × V)} (F : FunD s.K "picks" "picks" (defArgs (top 51)) (defBody (top 51)) (defScope (top 51)) [] kws f fd) (hm : mg "picks" = some (.ref f)) (fr_range : mg "range" = none) : Cal P w s.K mg base 1 "picks" 2 φ_picks (s.gc T L C []) [] :=
  def_cal F hm sc_picks (F.bindsN fun _ _ _ _ _ _ us hl => match us, hl with | [_, _], _ => rfl) .nil (fun _ => Dats.nil) (by decide) fun O cdv A outer s' H E hr => have hu := units_of hr; have nd := sc_picks.nd; cs_cons (c_if ((w_or (q_lt (sv 1) (k_int)) (w_one (q_gt (sv 1) (sv 0)) _)).pt) (cs_cons (c_ret (k_int)) (cs_nil)) (cs_nil)) (cs_cons (p_set (k_int) (gn 2 nd)) (cs_cons (p_for PassesOwn.never (i_rng1 fr_range (ac (sv 1) (a_nil))) (gn 3 nd) (cs_cons (p_set (o_fdiv (o_mul (sv 2) (o_sub (sv 0) (sv 3))) (o_add (sv 3) (k_int))) (gn 2 nd)) (cs_nil))) (cs_cons (c_ret (sv 2)) (cs_nil))))
theorem sc_greatest_top : FnScope ["many", "size", "low", "high", "middle"] ["many", "size"] (defScope (top 82)) := ⟨rfl, rfl, rfl, by decide +kernel, rfl, by decide +kernel, by decide +kernel⟩
def m_greatest_top : SM := mSeq (mPar 2 3 (.v (mVar 1)) (.v (m2 dAdd (mVar 1) (mRet (.int 1))))) (mSeq (mWhile 1000 (mBl (m2 dLe (mFn 2 φ_picks [] (mCons (mVar 3) (mCons (mVar 1) (mNil)))) (mVar 0))) (mSeq (mPar 2 3 (.v (mVar 3)) (.v (m2 dMul (mRet (.int 2)) (mVar 3)))) (mNext))) (mSeq (mWhile 1000 (mBl (m2 dGt (m2 dSub (mVar 3) (mVar 2)) (mRet (.int 1)))) (mSeq (mSet (.nm 4) (m2 dFdiv (m2 dAdd (mVar 2) (mVar 3)) (mRet (.int 2)))) (mSeq (mSet (.tp [.nm 2, .nm 3]) (mIf (mBl (m2 dLe (mFn 2 φ_picks [] (mCons (mVar 4) (mCons (mVar 1) (mNil)))) (mVar 0))) (mTup (mCons (mVar 4) (mCons (mVar 3) (mNil)))) (mTup (mCons (mVar 2) (mCons (mVar 4) (mNil)))))) (mNext)))) (mSeq (mRetS (mVar 2)) (mNext))))
def φ_greatest_top : Fn := runB 5 m_greatest_top
theorem ok_greatest_top {T L C f : Addr} {fd : FuncData} {kws : List (Str × V)} (F : FunD s.K "greatest_top" "greatest_top" (defArgs (top 82)) (defBody (top 82)) (defScope (top 82)) [] kws f fd) (hm : mg "greatest_top" = some (.ref f)) (h_picks : Cal P w s.K mg base 1 "picks" 2 φ_picks (s.gc T L C []) []) : Cal P w s.K mg base 2 "greatest_top" 2 φ_greatest_top (s.gc T L C []) [] :=
  def_cal F hm sc_greatest_top (F.bindsN fun _ _ _ _ _ _ us hl => match us, hl with | [_, _], _ => rfl) .nil (fun _ => Dats.nil) (by decide) fun O cdv A outer s' H E hr => have hu := units_of hr; have nd := sc_greatest_top.nd; cs_cons (p_par (ra := .v (mVar 1)) (rb := .v (m2 dAdd (mVar 1) (mRet (.int 1)))) nd (sv 1) (o_add (sv 1) (k_int))) (cs_cons (c_while PassesOwn.never (q_le (gl_call h_picks hr (ac (sv 3) (ac (sv 1) (a_nil)))) (sv 0)) (cs_cons (p_par (ra := .v (mVar 3)) (rb := .v (m2 dMul (mRet (.int 2)) (mVar 3))) nd (sv 3) (o_mul (k_int) (sv 3))) (cs_nil))) (cs_cons (c_while PassesOwn.never (q_gt (o_sub (sv 3) (sv 2)) (k_int)) (cs_cons (p_set (o_fdiv (o_add (sv 2) (sv 3)) (k_int)) (gn 4 nd)) (cs_cons (p_set (s_if (q_le (gl_call h_picks hr (ac (sv 4) (ac (sv 1) (a_nil)))) (sv 0)) (s_tup (ac (sv 4) (ac (sv 3) (a_nil)))) (s_tup (ac (sv 2) (ac (sv 4) (a_nil))))) (gt_ (gc_ (gn 2 nd) (gc_ (gn 3 nd) (gs_nil))))) (cs_nil)))) (cs_cons (c_ret (sv 2)) (cs_nil))))
theorem sc_cascade_by : FnScope ["many", "size", "found", "top"] ["many", "size"] (defScope (top 83)) := ⟨rfl, rfl, rfl, by decide +kernel, rfl, by decide +kernel, by decide +kernel⟩
def m_cascade_by : SM := mSeq (mSetF 2 (mDisp (mNil))) (mSeq (mWhile 1000 (mBl (m2 dGt (mVar 0) (mRet (.int 0)))) (mSeq (mSet (.nm 3) (mFn 2 φ_greatest_top [] (mCons (mVar 0) (mCons (mVar 1) (mNil))))) (mSeq (mApp 2 (mTup (mCons (mVar 3) (mCons (mVar 1) (mNil))))) (mSeq (mPar 0 1 (.v (m2 dSub (mVar 0) (mFn 2 φ_picks [] (mCons (mVar 3) (mCons (mVar 1) (mNil)))))) (.v (m2 dSub (mVar 1) (mRet (.int 1))))) (mNext))))) (mSeq (mRetS (mCall fTuple (mCons (mVar 2) (mNil)))) (mNext)))
def φ_cascade_by : Fn := runB 4 m_cascade_by
theorem ok_cascade_by {T L C f : Addr} {fd : FuncData} {kws : List (Str × V)} (F : FunD s.K "cascade_by" "cascade_by" (defArgs (top 83)) (defBody (top 83)) (defScope (top 83)) [] kws f fd) (hm : mg "cascade_by" = some (.ref f)) (h_greatest_top : Cal P w s.K mg base 2 "greatest_top" 2 φ_greatest_top (s.gc T L C []) []) (h_picks : Cal P w s.K mg base 1 "picks" 2 φ_picks (s.gc T L C []) []) (fr_tuple : mg "tuple" = none) : Cal P w s.K mg base 3 "cascade_by" 2 φ_cascade_by (s.gc T L C []) [] :=
  def_cal F hm sc_cascade_by (F.bindsN fun _ _ _ _ _ _ us hl => match us, hl with | [_, _], _ => rfl) .nil (fun _ => Dats.nil) (by decide) fun O cdv A outer s' H E hr => have hu := units_of hr; have nd := sc_cascade_by.nd; cs_cons (p_setF (f_lst (a_nil)) (gni 2 nd)) (cs_cons (c_while PassesOwn.never (q_gt (sv 0) (k_int)) (cs_cons (p_set (gl_call h_greatest_top hr (ac (sv 0) (ac (sv 1) (a_nil)))) (gn 3 nd)) (cs_cons (p_app (pv 2) (s_tup (ac (sv 3) (ac (sv 1) (a_nil))))) (cs_cons (p_par (ra := .v (m2 dSub (mVar 0) (mFn 2 φ_picks [] (mCons (mVar 3) (mCons (mVar 1) (mNil)))))) (rb := .v (m2 dSub (mVar 1) (mRet (.int 1)))) nd (o_sub (sv 0) (gl_call h_picks hr (ac (sv 3) (ac (sv 1) (a_nil))))) (o_sub (sv 1) (k_int))) (cs_nil))))) (cs_cons (c_ret (b_tuple fr_tuple (ac (sv 2) (a_nil)))) (cs_nil)))
theorem sc_least_shadow : FnScope ["many", "size", "top", "few"] ["many", "size"] (defScope (top 84)) := ⟨rfl, rfl, rfl, by decide +kernel, rfl, by decide +kernel, by decide +kernel⟩
def m_least_shadow : SM := mSeq (mDrop (mFn 2 φ_need_many [] (mCons (mVar 0) (mCons (mVar 1) (mNil))))) (mSeq (mRetS (mCall fSum (mCons (mLst (mLc [2, 3] (mItems (mFn 2 φ_cascade_by [] (mCons (mVar 0) (mCons (mVar 1) (mNil))))) (.tp [.nm 2, .nm 3]) (mRet true) (mFn 2 φ_picks [] (mCons (mVar 2) (mCons (m2 dSub (mVar 3) (mRet (.int 1))) (mNil)))))) (mNil)))) (mNext))
def φ_least_shadow : Fn := runB 4 m_least_shadow
theorem ok_least_shadow {T L C f : Addr} {fd : FuncData} {kws : List (Str × V)} (F : FunD s.K "least_shadow" "least_shadow" (defArgs (top 84)) (defBody (top 84)) (defScope (top 84)) [] kws f fd) (hm : mg "least_shadow" = some (.ref f)) (h_need_many : Cal P w s.K mg base 3 "need_many" 2 φ_need_many (s.gc T L C []) []) (h_cascade_by : Cal P w s.K mg base 3 "cascade_by" 2 φ_cascade_by (s.gc T L C []) []) (h_picks : Cal P w s.K mg base 1 "picks" 2 φ_picks (s.gc T L C []) []) (fr_sum : mg "sum" = none) : Cal P w s.K mg base 4 "least_shadow" 2 φ_least_shadow (s.gc T L C []) [] :=
  def_cal F hm sc_least_shadow (F.bindsN fun _ _ _ _ _ _ us hl => match us, hl with | [_, _], _ => rfl) .nil (fun _ => Dats.nil) (by decide) fun O cdv A outer s' H E hr => have hu := units_of hr; have nd := sc_least_shadow.nd; cs_cons (p_drop (gl_call h_need_many hr (ac (sv 0) (ac (sv 1) (a_nil))))) (cs_cons (c_ret (b_sum fr_sum (ac (s_new (lc1 [("top", 2), ("few", 3)] nd (i_sq (gl_call h_cascade_by hr (ac (sv 0) (ac (sv 1) (a_nil))))) (fun _ _ _ _ _ => gt_ (gc_ (gn 2 nd) (gc_ (gn 3 nd) (gs_nil)))) (fun _ _ _ _ _ => ts_nil) (fun _ _ _ _ _ => gl_call h_picks hr (ac (sv 2) (ac (o_sub (sv 3) (k_int)) (a_nil)))) (blk_ok (by kernel_rfl)))) (a_nil)))) (cs_nil))
theorem sc_is_within_side : FnScope ["one", "other", "place"] ["one", "other"] (defScope (top 55)) := ⟨rfl, rfl, rfl, by decide +kernel, rfl, by decide +kernel, by decide +kernel⟩
def m_is_within_side : SM := mSeq (mRetS (mCall fAll (mCons (mLst (mLc [2] (mItems (mVar 0)) (.nm 2) (mRet true) (m2 (dIn false) (mVar 2) (mVar 1)))) (mNil)))) (mNext)
def φ_is_within_side : Fn := runB 3 m_is_within_side
theorem ok_is_within_side {T L C f : Addr} {fd : FuncData} {kws : List (Str × V)} (F : FunD s.K "is_within_side" "is_within_side" (defArgs (top 55)) (defBody (top 55)) (defScope (top 55)) [] kws f fd) (hm : mg "is_within_side" = some (.ref f)) (fr_all : mg "all" = none) : Cal P w s.K mg base 1 "is_within_side" 2 φ_is_within_side (s.gc T L C []) [] :=
  def_cal F hm sc_is_within_side (F.bindsN fun _ _ _ _ _ _ us hl => match us, hl with | [_, _], _ => rfl) .nil (fun _ => Dats.nil) (by decide) fun O cdv A outer s' H E hr => have hu := units_of hr; have nd := sc_is_within_side.nd; cs_cons (c_ret (b_all fr_all (ac (s_new (lc1 [("place", 2)] nd (i_sq (sv 0)) (fun _ _ _ _ _ => gn 2 nd) (fun _ _ _ _ _ => ts_nil) (fun _ _ _ _ _ => c_in (sv 2) (sv 1) hu) (blk_ok (by kernel_rfl)))) (a_nil)))) (cs_nil)
theorem sc_unlike_keys : FnScope ["many", "one", "other"] ["many"] (defScope (top 56)) := ⟨rfl, rfl, rfl, by decide +kernel, rfl, by decide +kernel, by decide +kernel⟩
def m_unlike_keys : SM := mSeq (mRetS (mLst (mLc2 [1, 2] (mOfL fRange1 (mCons (mVar 0) (mNil))) (.nm 1) (mRet true) (mOfL fRange1 (mCons (mVar 0) (mNil))) (.nm 2) (mBl (m2 dNe (mVar 1) (mVar 2))) (mTup (mCons (mVar 1) (mCons (mVar 2) (mNil)))) [2]))) (mNext)
def φ_unlike_keys : Fn := runB 3 m_unlike_keys
theorem ok_unlike_keys {T L C f : Addr} {fd : FuncData} {kws : List (Str × V)} (F : FunD s.K "unlike_keys" "unlike_keys" (defArgs (top 56)) (defBody (top 56)) (defScope (top 56)) [] kws f fd) (hm : mg "unlike_keys" = some (.ref f)) (fr_range : mg "range" = none) : Cal P w s.K mg base 1 "unlike_keys" 1 φ_unlike_keys (s.gc T L C []) [] :=
  def_cal F hm sc_unlike_keys (F.bindsN fun _ _ _ _ _ _ us hl => match us, hl with | [_], _ => rfl) .nil (fun _ => Dats.nil) (by decide) fun O cdv A outer s' H E hr => have hu := units_of hr; have nd := sc_unlike_keys.nd; cs_cons (c_ret (s_new (f_lc2 (own := [("one", 1), ("other", 2)]) (vs1 := [2]) (by rfl) nd (i_rng1 fr_range (ac (sv 0) (a_nil))) (blk_ok (by kernel_rfl)) (by decide) (fun _ _ _ _ _ => gn 1 nd) (fun _ _ _ _ _ => ts_nil) (fun _ _ _ _ _ => i_rng1 fr_range (ac (sv 0) (a_nil))) (fun _ _ _ _ _ => gn 2 nd) (fun _ _ _ _ _ => ts_one (q_ne (sv 1) (sv 2) hu)) (fun _ _ _ _ _ => s_tup (ac (sv 1) (ac (sv 2) (a_nil)))) (by intro _; rfl) (by intro _ _; rfl) (by decide) (by decide)))) (cs_nil)
theorem sc_is_antichain : FnScope ["places", "sets", "one", "other"] ["places", "sets"] (defScope (top 57)) := ⟨rfl, rfl, rfl, by decide +kernel, rfl, by decide +kernel, by decide +kernel⟩
def m_is_antichain : SM := mSeq (mDrop (mFn 2 φ_need_sets [] (mCons (mVar 0) (mCons (mVar 1) (mNil))))) (mSeq (mRetS (mNot (mCall fAny (mCons (mLst (mLc [2, 3] (mItems (mFn 1 φ_unlike_keys [] (mCons (mCall fLen (mCons (mVar 1) (mNil))) (mNil)))) (.tp [.nm 2, .nm 3]) (mRet true) (mFn 2 φ_is_within_side [] (mCons (m2 dIx (mVar 1) (mVar 2)) (mCons (m2 dIx (mVar 1) (mVar 3)) (mNil)))))) (mNil))))) (mNext))
def φ_is_antichain : Fn := runB 4 m_is_antichain
theorem ok_is_antichain {T L C f : Addr} {fd : FuncData} {kws : List (Str × V)} (F : FunD s.K "is_antichain" "is_antichain" (defArgs (top 57)) (defBody (top 57)) (defScope (top 57)) [] kws f fd) (hm : mg "is_antichain" = some (.ref f)) (h_need_sets : Cal P w s.K mg base 4 "need_sets" 2 φ_need_sets (s.gc T L C []) []) (fr_len : mg "len" = none) (h_unlike_keys : Cal P w s.K mg base 1 "unlike_keys" 1 φ_unlike_keys (s.gc T L C []) []) (h_is_within_side : Cal P w s.K mg base 1 "is_within_side" 2 φ_is_within_side (s.gc T L C []) []) (fr_any : mg "any" = none) : Cal P w s.K mg base 5 "is_antichain" 2 φ_is_antichain (s.gc T L C []) [] :=
  def_cal F hm sc_is_antichain (F.bindsN fun _ _ _ _ _ _ us hl => match us, hl with | [_, _], _ => rfl) .nil (fun _ => Dats.nil) (by decide) fun O cdv A outer s' H E hr => have hu := units_of hr; have nd := sc_is_antichain.nd; cs_cons (p_drop (gl_call h_need_sets hr (ac (sv 0) (ac (sv 1) (a_nil))))) (cs_cons (c_ret (u_not (b_any fr_any (ac (s_new (lc1 [("one", 2), ("other", 3)] nd (i_sq (gl_call h_unlike_keys hr (ac (b_len fr_len (ac (sv 1) (a_nil))) (a_nil)))) (fun _ _ _ _ _ => gt_ (gc_ (gn 2 nd) (gc_ (gn 3 nd) (gs_nil)))) (fun _ _ _ _ _ => ts_nil) (fun _ _ _ _ _ => gl_call h_is_within_side hr (ac (x_ix (sv 1) (sv 2)) (ac (x_ix (sv 1) (sv 3)) (a_nil)))) (blk_ok (by kernel_rfl)))) (a_nil))))) (cs_nil))
theorem sc_need_family : FnScope ["family", "part"] ["family", "part"] (defScope (top 28)) := ⟨rfl, rfl, rfl, by decide +kernel, rfl, by decide +kernel, by decide +kernel⟩
def m_need_family : SM := mSeq (mIfS (mNotT (mTst (m1 (fIsCl 0) (mVar 0)))) (mSeq (mNo) (mNext)) (mNext)) (mNext)
def φ_need_family : Fn := runB 2 m_need_family
theorem ok_need_family {T L C f : Addr} {fd : FuncData} {kws : List (Str × V)} (F : FunD s.K "need_family" "need_family" (defArgs (top 28)) (defBody (top 28)) (defScope (top 28)) [.non] kws f fd) (hm : mg "need_family" = some (.ref f)) {ds : List Value} (hb : Binds s.K fd ["family", "part"] ds) (hd : Vals [.non] ds) (fr_isinstance : mg "isinstance" = none) (i_Family : IsC s.K mg 0 "Family" s.clsA) : Cal P w s.K mg base 1 "need_family" 2 φ_need_family (s.gc T L C []) [.non] :=
  def_cal F hm sc_need_family hb hd (fun _ => Dats.cons Dat.n (Dats.nil)) (by decide) fun O cdv A outer s' H E hr => have hu := units_of hr; have nd := sc_need_family.nd; cs_cons (c_if (t_not (q_tru (is_cl i_Family fr_isinstance (sv 0)))) (cs_cons (c_no) (cs_nil)) (cs_nil)) (cs_nil)
theorem sc_is_kind : FnScope ["thing"] ["thing"] (defScope (top 41)) := ⟨rfl, rfl, rfl, by decide +kernel, rfl, by decide +kernel, by decide +kernel⟩
def m_is_kind : SM := mSeq (mRetS (mAnd (m1 (fIsTy "str") (mVar 0)) (m2 (dIn false) (mVar 0) (mRet (.tup [.str "both", .str "line", .str "one"]))))) (mNext)
def φ_is_kind : Fn := runB 1 m_is_kind
theorem ok_is_kind {a_KINDS : Addr} {T L C f : Addr} {fd : FuncData} {kws : List (Str × V)} (F : FunD s.K "is_kind" "is_kind" (defArgs (top 41)) (defBody (top 41)) (defScope (top 41)) [] kws f fd) (hm : mg "is_kind" = some (.ref f)) (k_KINDS : mg "KINDS" = some (.ref a_KINDS) ∧ ∀ H, SqT s.K H a_KINDS [.str "both", .str "line", .str "one"]) (fr_isinstance : mg "isinstance" = none) (fr_str : mg "str" = none) : Cal P w s.K mg base 1 "is_kind" 1 φ_is_kind (s.gc T L C []) [] :=
  def_cal F hm sc_is_kind (F.bindsN fun _ _ _ _ _ _ us hl => match us, hl with | [_], _ => rfl) .nil (fun _ => Dats.nil) (by decide) fun O cdv A outer s' H E hr => have hu := units_of hr; have nd := sc_is_kind.nd; cs_cons (c_ret (u_and (is_ty "str" fr_isinstance fr_str bt_str (sv 0)) (u_one (c_in (sv 0) (s_gtup (by rfl) (by rfl) k_KINDS.1 k_KINDS.2 fun _ => Dats.cons Dat.s (Dats.cons Dat.s (Dats.cons Dat.s (Dats.nil)))) hu)))) (cs_nil)
theorem sc_need_kind : FnScope ["kind"] ["kind"] (defScope (top 42)) := ⟨rfl, rfl, rfl, by decide +kernel, rfl, by decide +kernel, by decide +kernel⟩
def m_need_kind : SM := mSeq (mIfS (mNotT (mTst (mFn 1 φ_is_kind [] (mCons (mVar 0) (mNil))))) (mSeq (mNo) (mNext)) (mNext)) (mNext)
def φ_need_kind : Fn := runB 1 m_need_kind
theorem ok_need_kind {T L C f : Addr} {fd : FuncData} {kws : List (Str × V)} (F : FunD s.K "need_kind" "need_kind" (defArgs (top 42)) (defBody (top 42)) (defScope (top 42)) [] kws f fd) (hm : mg "need_kind" = some (.ref f)) (h_is_kind : Cal P w s.K mg base 1 "is_kind" 1 φ_is_kind (s.gc T L C []) []) : Cal P w s.K mg base 2 "need_kind" 1 φ_need_kind (s.gc T L C []) [] :=
  def_cal F hm sc_need_kind (F.bindsN fun _ _ _ _ _ _ us hl => match us, hl with | [_], _ => rfl) .nil (fun _ => Dats.nil) (by decide) fun O cdv A outer s' H E hr => have hu := units_of hr; have nd := sc_need_kind.nd; cs_cons (c_if (t_not (q_tru (gl_call h_is_kind hr (ac (sv 0) (a_nil))))) (cs_cons (c_no) (cs_nil)) (cs_nil)) (cs_nil)
theorem sc_need_family_kind : FnScope ["family", "kind"] ["family", "kind"] (defScope (top 43)) := ⟨rfl, rfl, rfl, by decide +kernel, rfl, by decide +kernel, by decide +kernel⟩
def m_need_family_kind : SM := mSeq (mDrop (mFn 2 φ_need_family [.non] (mCons (mVar 0) (mNil)))) (mSeq (mDrop (mFn 1 φ_need_kind [] (mCons (mVar 1) (mNil)))) (mNext))
def φ_need_family_kind : Fn := runB 2 m_need_family_kind
theorem ok_need_family_kind {T L C f : Addr} {fd : FuncData} {kws : List (Str × V)} (F : FunD s.K "need_family_kind" "need_family_kind" (defArgs (top 43)) (defBody (top 43)) (defScope (top 43)) [] kws f fd) (hm : mg "need_family_kind" = some (.ref f)) (h_need_family_1 : Cal P w s.K mg base 1 "need_family" 2 φ_need_family (s.gc T L C []) [.non]) (h_need_kind : Cal P w s.K mg base 2 "need_kind" 1 φ_need_kind (s.gc T L C []) []) : Cal P w s.K mg base 3 "need_family_kind" 2 φ_need_family_kind (s.gc T L C []) [] :=
  def_cal F hm sc_need_family_kind (F.bindsN fun _ _ _ _ _ _ us hl => match us, hl with | [_, _], _ => rfl) .nil (fun _ => Dats.nil) (by decide) fun O cdv A outer s' H E hr => have hu := units_of hr; have nd := sc_need_family_kind.nd; cs_cons (p_drop (gl_call h_need_family_1 hr (ac (sv 0) (a_nil)))) (cs_cons (p_drop (gl_call h_need_kind hr (ac (sv 1) (a_nil)))) (cs_nil))
theorem sc_keys_of : FnScope ["many", "kind", "several", "one", "other"] ["many", "kind"] (defScope (top 46)) := ⟨rfl, rfl, rfl, by decide +kernel, rfl, by decide +kernel, by decide +kernel⟩
def m_keys_of : SM := mSeq (mSet (.nm 2) (mLst (mLc2 [3, 4] (mOfL fRange1 (mCons (mVar 0) (mNil))) (.nm 3) (mRet true) (mOfL fRange1 (mCons (mVar 0) (mNil))) (.nm 4) (mBl (m2 dNe (mVar 3) (mVar 4))) (mTup (mCons (mVar 3) (mCons (mVar 4) (mNil)))) [4]))) (mSeq (mRetS (mIf (mBl (m2 dEq (mVar 1) (mRet (.str "both")))) (mVar 2) (mLst (mLc [3, 4] (mItems (mVar 2)) (.tp [.nm 3, .nm 4]) (mBl (m2 dLt (mVar 3) (mVar 4))) (mTup (mCons (mVar 3) (mCons (mVar 4) (mNil)))))))) (mNext))
def φ_keys_of : Fn := runB 5 m_keys_of
theorem ok_keys_of {t_BOTH : Tok} {T L C f : Addr} {fd : FuncData} {kws : List (Str × V)} (F : FunD s.K "keys_of" "keys_of" (defArgs (top 46)) (defBody (top 46)) (defScope (top 46)) [] kws f fd) (hm : mg "keys_of" = some (.ref f)) (fr_range : mg "range" = none) (k_BOTH : mg "BOTH" = some (.str "both" t_BOTH)) : Cal P w s.K mg base 1 "keys_of" 2 φ_keys_of (s.gc T L C []) [] :=
  def_cal F hm sc_keys_of (F.bindsN fun _ _ _ _ _ _ us hl => match us, hl with | [_, _], _ => rfl) .nil (fun _ => Dats.nil) (by decide) fun O cdv A outer s' H E hr => have hu := units_of hr; have nd := sc_keys_of.nd; cs_cons (w_setLc2V (i := 2) (own := [("one", 3), ("other", 4)]) (vs1 := [4]) (by rfl) nd (i_rng1 fr_range (ac (sv 0) (a_nil))) (blk_ok (by kernel_rfl)) (by decide) (fun _ _ _ _ _ => gn 3 nd) (fun _ _ _ _ _ => ts_nil) (fun _ _ _ _ _ => i_rng1 fr_range (ac (sv 0) (a_nil))) (fun _ _ _ _ _ => gn 4 nd) (fun _ _ _ _ _ => ts_one (q_ne (sv 3) (sv 4) hu)) (fun _ _ _ _ _ => s_tup (ac (sv 3) (ac (sv 4) (a_nil)))) (by intro _; rfl) (by intro _ _; rfl) (by decide) (by decide)) (cs_cons (c_ret (s_if (q_eq (sv 1) (s_gstr (by rfl) k_BOTH) hu) (sv 2) (s_new (lc1 [("one", 3), ("other", 4)] nd (i_sq (sv 2)) (fun _ _ _ _ _ => gt_ (gc_ (gn 3 nd) (gc_ (gn 4 nd) (gs_nil)))) (fun _ _ _ _ _ => ts_one (q_lt (sv 3) (sv 4))) (fun _ _ _ _ _ => s_tup (ac (sv 3) (ac (sv 4) (a_nil)))) (blk_ok (by kernel_rfl)))))) (cs_nil))
theorem sc_Family_many : FnScope ["self"] ["self"] (defScope (inClass (top 27) 3)) := ⟨rfl, rfl, rfl, by decide +kernel, rfl, by decide +kernel, by decide +kernel⟩
def m_Family_many : SM := mSeq (mRetS (mCall fLen (mCons (m1 (fFldC 0 "own_pairs") (mVar 0)) (mNil)))) (mNext)
def φ_Family_many : Fn := runB 1 m_Family_many
theorem ok_Family_many {T L C f : Addr} {fd : FuncData} {kws : List (Str × V)} (F : FunD s.K "many" "Family.many" (defArgs (inClass (top 27) 3)) (defBody (inClass (top 27) 3)) (defScope (inClass (top 27) 3)) [] kws f fd) (hm : Meth s.K (s.clsA 0) "many" f) (hc : Cls s.K (s.clsA 0)) (c_0 : Cls s.K (s.clsA 0)) (n_own_pairs : NoAttr s.K (s.clsA 0) "own_pairs") (fr_len : mg "len" = none) : Met P w s.K mg base 1 0 "many" 1 φ_Family_many (s.gc T L C []) :=
  meth_cal F hm hc sc_Family_many (F.bindsN fun _ _ _ _ _ _ us hl => match us, hl with | [_], _ => rfl) (by decide) rfl fun O cdv A outer s' H E hr => have hu := units_of hr; have nd := sc_Family_many.nd; cs_cons (c_ret (b_len fr_len (ac (at_fld c_0 n_own_pairs (sv 0)) (a_nil)))) (cs_nil)
theorem sc_Family_pairs : FnScope ["self"] ["self"] (defScope (inClass (top 27) 2)) := ⟨rfl, rfl, rfl, by decide +kernel, rfl, by decide +kernel, by decide +kernel⟩
def m_Family_pairs : SM := mSeq (mRetS (m1 (fFldC 0 "own_pairs") (mVar 0))) (mNext)
def φ_Family_pairs : Fn := runB 1 m_Family_pairs
theorem ok_Family_pairs {T L C f p : Addr} {fd : FuncData} {kws : List (Str × V)} (F : FunD s.K "pairs" "Family.pairs" (defArgs (inClass (top 27) 2)) (defBody (inClass (top 27) 2)) (defScope (inClass (top 27) 2)) [] kws f fd) (hm : PropOf s.K (s.clsA 0) "pairs" p f) (hc : Cls s.K (s.clsA 0)) (c_0 : Cls s.K (s.clsA 0)) (n_own_pairs : NoAttr s.K (s.clsA 0) "own_pairs") : Prp P w s.K mg base 1 0 "pairs" φ_Family_pairs (s.gc T L C []) :=
  prop_cal F hm hc sc_Family_pairs (F.bindsN fun _ _ _ _ _ _ us hl => match us, hl with | [_], _ => rfl) (by decide) rfl fun O cdv A outer s' H E hr => have hu := units_of hr; have nd := sc_Family_pairs.nd; cs_cons (c_ret (at_fld c_0 n_own_pairs (sv 0))) (cs_nil)
theorem sc_right_places : FnScope ["family", "kind", "key", "one", "other", "index", "found"] ["family", "kind", "key"] (defScope (top 47)) := ⟨rfl, rfl, rfl, by decide +kernel, rfl, by decide +kernel, by decide +kernel⟩
def m_right_places : SM := mSeq (mSet (.lp [.nm 3, .nm 4]) (mLst (mLc [5] (mItems (mVar 2)) (.nm 5) (mRet true) (m2 dIx (fnOf1 0 φ_Family_pairs (mVar 0)) (mVar 5))))) (mSeq (mSet (.nm 6) (mFn 2 φ_common_of [] (mCons (m2 dIx (mVar 3) (mRet (.int 0))) (mCons (m2 dIx (mVar 4) (mRet (.int 1))) (mNil))))) (mSeq (mRetS (mIf (mBl (m2 dNe (mVar 1) (mRet (.str "one")))) (mVar 6) (mCall fTuple (mCons (mLst (mCallF fSort (mCons (mLst (mDisp (mStar (mVar 6) (mStar (mFn 2 φ_common_of [] (mCons (m2 dIx (mVar 4) (mRet (.int 0))) (mCons (m2 dIx (mVar 3) (mRet (.int 1))) (mNil)))) (mNil))))) (mNil)))) (mNil))))) (mNext)))
def φ_right_places : Fn := runB 7 m_right_places
theorem ok_right_places {t_ONE : Tok} {T L C f : Addr} {fd : FuncData} {kws : List (Str × V)} (F : FunD s.K "right_places" "right_places" (defArgs (top 47)) (defBody (top 47)) (defScope (top 47)) [] kws f fd) (hm : mg "right_places" = some (.ref f)) (h_Family_pairs : Prp P w s.K mg base 1 0 "pairs" φ_Family_pairs (s.gc T L C [])) (h_common_of : Cal P w s.K mg base 1 "common_of" 2 φ_common_of (s.gc T L C []) []) (k_ONE : mg "ONE" = some (.str "one" t_ONE)) (fr_sorted : mg "sorted" = none) (fr_tuple : mg "tuple" = none) : Cal P w s.K mg base 3 "right_places" 3 φ_right_places (s.gc T L C []) [] :=
  def_cal F hm sc_right_places (F.bindsN fun _ _ _ _ _ _ us hl => match us, hl with | [_, _, _], _ => rfl) .nil (fun _ => Dats.nil) (by decide) fun O cdv A outer s' H E hr => have hu := units_of hr; have nd := sc_right_places.nd; cs_cons (p_set (s_new (lc1 [("index", 5)] nd (i_sq (sv 2)) (fun _ _ _ _ _ => gn 5 nd) (fun _ _ _ _ _ => ts_nil) (fun _ _ _ _ _ => x_ix (at_prop h_Family_pairs hr (sv 0)) (sv 5)) (blk_ok (by kernel_rfl)))) (gl_ (gc_ (gn 3 nd) (gc_ (gn 4 nd) (gs_nil))))) (cs_cons (p_set (gl_call h_common_of hr (ac (x_ix (sv 3) (k_int)) (ac (x_ix (sv 4) (k_int)) (a_nil)))) (gn 6 nd)) (cs_cons (c_ret (s_if (q_ne (sv 1) (s_gstr (by rfl) k_ONE) hu) (sv 6) (b_tuple fr_tuple (ac (s_new (n_sorted fr_sorted (ac (s_new (f_lst (as (sv 6) (as (gl_call h_common_of hr (ac (x_ix (sv 4) (k_int)) (ac (x_ix (sv 3) (k_int)) (a_nil)))) (a_nil))))) (a_nil)) hu)) (a_nil))))) (cs_nil)))
theorem sc_first_failing : FnScope ["family", "kind", "key"] ["family", "kind"] (defScope (top 48)) := ⟨rfl, rfl, rfl, by decide +kernel, rfl, by decide +kernel, by decide +kernel⟩
def m_first_failing : SM := mSeq (mFor (mItems (mFn 2 φ_keys_of [] (mCons (mMeth 0 1 φ_Family_many (mVar 0) (mRet [])) (mCons (mVar 1) (mNil))))) (.nm 2) (mSeq (mIfS (mBl (m2 dEq (mFn 3 φ_right_places [] (mCons (mVar 0) (mCons (mVar 1) (mCons (mVar 2) (mNil))))) (mTup (mNil)))) (mSeq (mRetS (mVar 2)) (mNext)) (mNext)) (mNext))) (mSeq (mRetS (mRet .non)) (mNext))
def φ_first_failing : Fn := runB 3 m_first_failing
theorem ok_first_failing {T L C f : Addr} {fd : FuncData} {kws : List (Str × V)} (F : FunD s.K "first_failing" "first_failing" (defArgs (top 48)) (defBody (top 48)) (defScope (top 48)) [] kws f fd) (hm : mg "first_failing" = some (.ref f)) (h_Family_many : Met P w s.K mg base 1 0 "many" 1 φ_Family_many (s.gc T L C [])) (h_keys_of : Cal P w s.K mg base 1 "keys_of" 2 φ_keys_of (s.gc T L C []) []) (h_right_places : Cal P w s.K mg base 3 "right_places" 3 φ_right_places (s.gc T L C []) []) : Cal P w s.K mg base 4 "first_failing" 2 φ_first_failing (s.gc T L C []) [] :=
  def_cal F hm sc_first_failing (F.bindsN fun _ _ _ _ _ _ us hl => match us, hl with | [_, _], _ => rfl) .nil (fun _ => Dats.nil) (by decide) fun O cdv A outer s' H E hr => have hu := units_of hr; have nd := sc_first_failing.nd; cs_cons (p_for PassesOwn.never (i_sq (gl_call h_keys_of hr (ac (at_meth0 h_Family_many hr (sv 0)) (ac (sv 1) (a_nil))))) (gn 2 nd) (cs_cons (c_if (q_eq (gl_call h_right_places hr (ac (sv 0) (ac (sv 1) (ac (sv 2) (a_nil))))) (s_tup (a_nil)) hu) (cs_cons (c_ret (sv 2)) (cs_nil)) (cs_nil)) (cs_nil))) (cs_cons (c_ret (k_non)) (cs_nil))
theorem sc_is_of_kind : FnScope ["family", "kind"] ["family", "kind"] (defScope (top 49)) := ⟨rfl, rfl, rfl, by decide +kernel, rfl, by decide +kernel, by decide +kernel⟩
def m_is_of_kind : SM := mSeq (mDrop (mFn 2 φ_need_family_kind [] (mCons (mVar 0) (mCons (mVar 1) (mNil))))) (mSeq (mRetS (m2 (dIs false) (mFn 2 φ_first_failing [] (mCons (mVar 0) (mCons (mVar 1) (mNil)))) (mRet .non))) (mNext))
def φ_is_of_kind : Fn := runB 2 m_is_of_kind
theorem ok_is_of_kind {T L C f : Addr} {fd : FuncData} {kws : List (Str × V)} (F : FunD s.K "is_of_kind" "is_of_kind" (defArgs (top 49)) (defBody (top 49)) (defScope (top 49)) [] kws f fd) (hm : mg "is_of_kind" = some (.ref f)) (h_need_family_kind : Cal P w s.K mg base 3 "need_family_kind" 2 φ_need_family_kind (s.gc T L C []) []) (h_first_failing : Cal P w s.K mg base 4 "first_failing" 2 φ_first_failing (s.gc T L C []) []) : Cal P w s.K mg base 5 "is_of_kind" 2 φ_is_of_kind (s.gc T L C []) [] :=
  def_cal F hm sc_is_of_kind (F.bindsN fun _ _ _ _ _ _ us hl => match us, hl with | [_, _], _ => rfl) .nil (fun _ => Dats.nil) (by decide) fun O cdv A outer s' H E hr => have hu := units_of hr; have nd := sc_is_of_kind.nd; cs_cons (p_drop (gl_call h_need_family_kind hr (ac (sv 0) (ac (sv 1) (a_nil))))) (cs_cons (c_ret (c_is (gl_call h_first_failing hr (ac (sv 0) (ac (sv 1) (a_nil)))) (k_non))) (cs_nil))
theorem sc_need_sized : FnScope ["places", "size", "sets", "index", "side"] ["places", "size", "sets"] (defScope (top 78)) := ⟨rfl, rfl, rfl, by decide +kernel, rfl, by decide +kernel, by decide +kernel⟩
def m_need_sized : SM := mSeq (mDrop (mFn 1 φ_need_places [] (mCons (mVar 0) (mNil)))) (mSeq (mIfS (mNotT (mTst (mFn 3 φ_is_between [] (mCons (mVar 1) (mCons (mRet (.int 1)) (mCons (mVar 0) (mNil))))))) (mSeq (mNo) (mNext)) (mNext)) (mSeq (mDrop (mFn 2 φ_need_sets [] (mCons (mVar 0) (mCons (mVar 2) (mNil))))) (mSeq (mFor (mOfL fEnum (mCons (mVar 2) (mNil))) (.tp [.nm 3, .nm 4]) (mSeq (mIfS (mBl (m2 dNe (mCall fLen (mCons (mVar 4) (mNil))) (mVar 1))) (mSeq (mNo) (mNext)) (mNext)) (mNext))) (mNext))))
def φ_need_sized : Fn := runB 5 m_need_sized
theorem ok_need_sized {T L C f : Addr} {fd : FuncData} {kws : List (Str × V)} (F : FunD s.K "need_sized" "need_sized" (defArgs (top 78)) (defBody (top 78)) (defScope (top 78)) [] kws f fd) (hm : mg "need_sized" = some (.ref f)) (h_need_places : Cal P w s.K mg base 3 "need_places" 1 φ_need_places (s.gc T L C []) []) (h_is_between : Cal P w s.K mg base 2 "is_between" 3 φ_is_between (s.gc T L C []) []) (h_need_sets : Cal P w s.K mg base 4 "need_sets" 2 φ_need_sets (s.gc T L C []) []) (fr_enumerate : mg "enumerate" = none) (fr_len : mg "len" = none) : Cal P w s.K mg base 5 "need_sized" 3 φ_need_sized (s.gc T L C []) [] :=
  def_cal F hm sc_need_sized (F.bindsN fun _ _ _ _ _ _ us hl => match us, hl with | [_, _, _], _ => rfl) .nil (fun _ => Dats.nil) (by decide) fun O cdv A outer s' H E hr => have hu := units_of hr; have nd := sc_need_sized.nd; cs_cons (p_drop (gl_call h_need_places hr (ac (sv 0) (a_nil)))) (cs_cons (c_if (t_not (q_tru (gl_call h_is_between hr (ac (sv 1) (ac (k_int) (ac (sv 0) (a_nil))))))) (cs_cons (c_no) (cs_nil)) (cs_nil)) (cs_cons (p_drop (gl_call h_need_sets hr (ac (sv 0) (ac (sv 2) (a_nil))))) (cs_cons (p_for PassesOwn.never (i_enu fr_enumerate (ac (sv 2) (a_nil))) (gt_ (gc_ (gn 3 nd) (gc_ (gn 4 nd) (gs_nil)))) (cs_cons (c_if (q_ne (b_len fr_len (ac (sv 4) (a_nil))) (sv 1) hu) (cs_cons (c_no) (cs_nil)) (cs_nil)) (cs_nil))) (cs_nil))))
theorem sc_shadow_by : FnScope ["sets", "found", "side", "place", "item"] ["sets"] (defScope (top 79)) := ⟨rfl, rfl, rfl, by decide +kernel, rfl, by decide +kernel, by decide +kernel⟩
def m_shadow_by : SM := mSeq (mDNew 1) (mSeq (mFor (mItems (mVar 0)) (.nm 2) (mSeq (mFor (mItems (mVar 2)) (.nm 3) (mSeq (mSetK 1 (mKey (mLst (mLc [4] (mItems (mVar 2)) (.nm 4) (mBl (m2 dNe (mVar 4) (mVar 3))) (mVar 4)))) (mRet .non)) (mNext))) (mNext))) (mSeq (mRetS (mLst (mSrtV (mVar 1)))) (mNext)))
def φ_shadow_by : Fn := runB 5 m_shadow_by
theorem ok_shadow_by {T L C f : Addr} {fd : FuncData} {kws : List (Str × V)} (F : FunD s.K "shadow_by" "shadow_by" (defArgs (top 79)) (defBody (top 79)) (defScope (top 79)) [] kws f fd) (hm : mg "shadow_by" = some (.ref f)) (fr_tuple : mg "tuple" = none) (fr_sorted : mg "sorted" = none) : Cal P w s.K mg base 1 "shadow_by" 1 φ_shadow_by (s.gc T L C []) [] :=
  def_cal F hm sc_shadow_by (F.bindsN fun _ _ _ _ _ _ us hl => match us, hl with | [_], _ => rfl) .nil (fun _ => Dats.nil) (by decide) fun O cdv A outer s' H E hr => have hu := units_of hr; have nd := sc_shadow_by.nd; cs_cons (p_dnew nd) (cs_cons (p_for PassesOwn.never (i_sq (sv 0)) (gn 2 nd) (cs_cons (p_for PassesOwn.never (i_sq (sv 2)) (gn 3 nd) (cs_cons (q_setK (pv 1) (k_tup1 fr_tuple (s_new (lc1 [("item", 4)] nd (i_sq (sv 2)) (fun _ _ _ _ _ => gn 4 nd) (fun _ _ _ _ _ => ts_one (q_ne (sv 4) (sv 3) hu)) (fun _ _ _ _ _ => sv 4) (blk_ok (by kernel_rfl))))) (k_non) hu) (cs_nil))) (cs_nil))) (cs_cons (c_ret (s_new (n_sortedD fr_sorted (sv 1) hu))) (cs_nil)))
theorem sc_shadow : FnScope ["places", "size", "sets"] ["places", "size", "sets"] (defScope (top 80)) := ⟨rfl, rfl, rfl, by decide +kernel, rfl, by decide +kernel, by decide +kernel⟩
def m_shadow : SM := mSeq (mDrop (mFn 3 φ_need_sized [] (mCons (mVar 0) (mCons (mVar 1) (mCons (mVar 2) (mNil)))))) (mSeq (mRetS (mFn 1 φ_shadow_by [] (mCons (mVar 2) (mNil)))) (mNext))
def φ_shadow : Fn := runB 3 m_shadow
theorem ok_shadow {T L C f : Addr} {fd : FuncData} {kws : List (Str × V)} (F : FunD s.K "shadow" "shadow" (defArgs (top 80)) (defBody (top 80)) (defScope (top 80)) [] kws f fd) (hm : mg "shadow" = some (.ref f)) (h_need_sized : Cal P w s.K mg base 5 "need_sized" 3 φ_need_sized (s.gc T L C []) []) (h_shadow_by : Cal P w s.K mg base 1 "shadow_by" 1 φ_shadow_by (s.gc T L C []) []) : Cal P w s.K mg base 6 "shadow" 3 φ_shadow (s.gc T L C []) [] :=
  def_cal F hm sc_shadow (F.bindsN fun _ _ _ _ _ _ us hl => match us, hl with | [_, _, _], _ => rfl) .nil (fun _ => Dats.nil) (by decide) fun O cdv A outer s' H E hr => have hu := units_of hr; have nd := sc_shadow.nd; cs_cons (p_drop (gl_call h_need_sized hr (ac (sv 0) (ac (sv 1) (ac (sv 2) (a_nil)))))) (cs_cons (c_ret (gl_call h_shadow_by hr (ac (sv 2) (a_nil)))) (cs_nil))
theorem sc_is_order : FnScope ["places", "thing", "place"] ["places", "thing"] (defScope (top 31)) := ⟨rfl, rfl, rfl, by decide +kernel, rfl, by decide +kernel, by decide +kernel⟩
def m_is_order : SM := mSeq (mIfS (mOrT (mNotT (mTst (mFn 1 φ_is_list [] (mCons (mVar 1) (mNil))))) (mNotT (mTst (mCall fAll (mCons (mLst (mLc [2] (mItems (mVar 1)) (.nm 2) (mRet true) (mFn 3 φ_is_between [] (mCons (mVar 2) (mCons (mRet (.int 0)) (mCons (m2 dSub (mVar 0) (mRet (.int 1))) (mNil))))))) (mNil)))))) (mSeq (mRetS (mRet (.bl false))) (mNext)) (mNext)) (mSeq (mRetS (m2 dEq (mLst (mCallF fSort (mCons (mVar 1) (mNil)))) (mLst (mListRg (mVar 0))))) (mNext))
def φ_is_order : Fn := runB 3 m_is_order
theorem ok_is_order {T L C f : Addr} {fd : FuncData} {kws : List (Str × V)} (F : FunD s.K "is_order" "is_order" (defArgs (top 31)) (defBody (top 31)) (defScope (top 31)) [] kws f fd) (hm : mg "is_order" = some (.ref f)) (h_is_between : Cal P w s.K mg base 2 "is_between" 3 φ_is_between (s.gc T L C []) []) (fr_all : mg "all" = none) (h_is_list : Cal P w s.K mg base 1 "is_list" 1 φ_is_list (s.gc T L C []) []) (fr_sorted : mg "sorted" = none) (fr_list : mg "list" = none) (fr_range : mg "range" = none) : Cal P w s.K mg base 3 "is_order" 2 φ_is_order (s.gc T L C []) [] :=
  def_cal F hm sc_is_order (F.bindsN fun _ _ _ _ _ _ us hl => match us, hl with | [_, _], _ => rfl) .nil (fun _ => Dats.nil) (by decide) fun O cdv A outer s' H E hr => have hu := units_of hr; have nd := sc_is_order.nd; cs_cons (c_if ((w_or (t_not (q_tru (gl_call h_is_list hr (ac (sv 1) (a_nil))))) (w_one (t_not (q_tru (b_all fr_all (ac (s_new (lc1 [("place", 2)] nd (i_sq (sv 1)) (fun _ _ _ _ _ => gn 2 nd) (fun _ _ _ _ _ => ts_nil) (fun _ _ _ _ _ => gl_call h_is_between hr (ac (sv 2) (ac (k_int) (ac (o_sub (sv 0) (k_int)) (a_nil))))) (blk_ok (by kernel_rfl)))) (a_nil))))) _)).pt) (cs_cons (c_ret (k_bl)) (cs_nil)) (cs_nil)) (cs_cons (c_ret (c_eq (s_new (n_sorted fr_sorted (ac (sv 1) (a_nil)) hu)) (s_new (n_listRg fr_list fr_range (sv 0))) hu)) (cs_nil))
theorem sc_need_order : FnScope ["places", "order"] ["places", "order"] (defScope (top 32)) := ⟨rfl, rfl, rfl, by decide +kernel, rfl, by decide +kernel, by decide +kernel⟩
def m_need_order : SM := mSeq (mIfS (mNotT (mTst (mFn 2 φ_is_order [] (mCons (mVar 0) (mCons (mVar 1) (mNil)))))) (mSeq (mNo) (mNext)) (mNext)) (mNext)
def φ_need_order : Fn := runB 2 m_need_order
theorem ok_need_order {T L C f : Addr} {fd : FuncData} {kws : List (Str × V)} (F : FunD s.K "need_order" "need_order" (defArgs (top 32)) (defBody (top 32)) (defScope (top 32)) [] kws f fd) (hm : mg "need_order" = some (.ref f)) (h_is_order : Cal P w s.K mg base 3 "is_order" 2 φ_is_order (s.gc T L C []) []) : Cal P w s.K mg base 4 "need_order" 2 φ_need_order (s.gc T L C []) [] :=
  def_cal F hm sc_need_order (F.bindsN fun _ _ _ _ _ _ us hl => match us, hl with | [_, _], _ => rfl) .nil (fun _ => Dats.nil) (by decide) fun O cdv A outer s' H E hr => have hu := units_of hr; have nd := sc_need_order.nd; cs_cons (c_if (t_not (q_tru (gl_call h_is_order hr (ac (sv 0) (ac (sv 1) (a_nil)))))) (cs_cons (c_no) (cs_nil)) (cs_nil)) (cs_nil)
theorem sc_Family_places : FnScope ["self"] ["self"] (defScope (inClass (top 27) 1)) := ⟨rfl, rfl, rfl, by decide +kernel, rfl, by decide +kernel, by decide +kernel⟩
def m_Family_places : SM := mSeq (mRetS (m1 (fFldC 0 "own_places") (mVar 0))) (mNext)
def φ_Family_places : Fn := runB 1 m_Family_places
theorem ok_Family_places {T L C f p : Addr} {fd : FuncData} {kws : List (Str × V)} (F : FunD s.K "places" "Family.places" (defArgs (inClass (top 27) 1)) (defBody (inClass (top 27) 1)) (defScope (inClass (top 27) 1)) [] kws f fd) (hm : PropOf s.K (s.clsA 0) "places" p f) (hc : Cls s.K (s.clsA 0)) (c_0 : Cls s.K (s.clsA 0)) (n_own_places : NoAttr s.K (s.clsA 0) "own_places") : Prp P w s.K mg base 1 0 "places" φ_Family_places (s.gc T L C []) :=
  prop_cal F hm hc sc_Family_places (F.bindsN fun _ _ _ _ _ _ us hl => match us, hl with | [_], _ => rfl) (by decide) rfl fun O cdv A outer s' H E hr => have hu := units_of hr; have nd := sc_Family_places.nd; cs_cons (c_ret (at_fld c_0 n_own_places (sv 0))) (cs_nil)
theorem sc_parts_by : FnScope ["order", "pair", "first", "spot", "place", "second"] ["order", "pair"] (defScope (top 60)) := ⟨rfl, rfl, rfl, by decide +kernel, rfl, by decide +kernel, by decide +kernel⟩
def m_parts_by : SM := mSeq (mSet (.nm 2) (mLst (mLc [3, 4] (mOfL fEnum (mCons (mVar 0) (mNil))) (.tp [.nm 3, .nm 4]) (mBl (m2 (dIn false) (mVar 4) (m2 dIx (mVar 1) (mRet (.int 0))))) (mVar 3)))) (mSeq (mSet (.nm 5) (mLst (mLc [3, 4] (mOfL fEnum (mCons (mVar 0) (mNil))) (.tp [.nm 3, .nm 4]) (mBl (m2 (dIn false) (mVar 4) (m2 dIx (mVar 1) (mRet (.int 1))))) (mVar 3)))) (mSeq (mRetS (mOr (m2 dEq (mVar 2) (mLst (mDisp (mNil)))) (mOr (m2 dEq (mVar 5) (mLst (mDisp (mNil)))) (m2 dLt (m2 dIx (mVar 2) (mUn dNeg (mRet (.int 1)))) (m2 dIx (mVar 5) (mRet (.int 0))))))) (mNext)))
def φ_parts_by : Fn := runB 6 m_parts_by
theorem ok_parts_by {T L C f : Addr} {fd : FuncData} {kws : List (Str × V)} (F : FunD s.K "parts_by" "parts_by" (defArgs (top 60)) (defBody (top 60)) (defScope (top 60)) [] kws f fd) (hm : mg "parts_by" = some (.ref f)) (fr_enumerate : mg "enumerate" = none) : Cal P w s.K mg base 1 "parts_by" 2 φ_parts_by (s.gc T L C []) [] :=
  def_cal F hm sc_parts_by (F.bindsN fun _ _ _ _ _ _ us hl => match us, hl with | [_, _], _ => rfl) .nil (fun _ => Dats.nil) (by decide) fun O cdv A outer s' H E hr => have hu := units_of hr; have nd := sc_parts_by.nd; cs_cons (w_setLcV (i := 2) [("spot", 3), ("place", 4)] nd (i_enu fr_enumerate (ac (sv 0) (a_nil))) (fun _ _ _ _ _ => gt_ (gc_ (gn 3 nd) (gc_ (gn 4 nd) (gs_nil)))) (fun _ _ _ _ _ => ts_one (q_in (sv 4) (x_ix (sv 1) (k_int)) hu)) (fun _ _ _ _ _ => sv 3) (blk_ok (by kernel_rfl))) (cs_cons (w_setLcV (i := 5) [("spot", 3), ("place", 4)] nd (i_enu fr_enumerate (ac (sv 0) (a_nil))) (fun _ _ _ _ _ => gt_ (gc_ (gn 3 nd) (gc_ (gn 4 nd) (gs_nil)))) (fun _ _ _ _ _ => ts_one (q_in (sv 4) (x_ix (sv 1) (k_int)) hu)) (fun _ _ _ _ _ => sv 3) (blk_ok (by kernel_rfl))) (cs_cons (c_ret (u_or (c_eq (sv 2) (s_new (f_lst (a_nil))) hu) (u_or (c_eq (sv 5) (s_new (f_lst (a_nil))) hu) (u_one (c_lt (x_ix (sv 2) (u_neg (k_int))) (x_ix (sv 5) (k_int))))))) (cs_nil)))
theorem sc_parted_by : FnScope ["family", "order", "index", "pair"] ["family", "order"] (defScope (top 61)) := ⟨rfl, rfl, rfl, by decide +kernel, rfl, by decide +kernel, by decide +kernel⟩
def m_parted_by : SM := mSeq (mDrop (mFn 2 φ_need_family [.non] (mCons (mVar 0) (mNil)))) (mSeq (mDrop (mFn 2 φ_need_order [] (mCons (fnOf1 0 φ_Family_places (mVar 0)) (mCons (mVar 1) (mNil))))) (mSeq (mRetS (mCall fTuple (mCons (mLst (mLc [2, 3] (mOfL fEnum (mCons (fnOf1 0 φ_Family_pairs (mVar 0)) (mNil))) (.tp [.nm 2, .nm 3]) (mTst (mFn 2 φ_parts_by [] (mCons (mVar 1) (mCons (mVar 3) (mNil))))) (mVar 2))) (mNil)))) (mNext)))
def φ_parted_by : Fn := runB 4 m_parted_by
theorem ok_parted_by {T L C f : Addr} {fd : FuncData} {kws : List (Str × V)} (F : FunD s.K "parted_by" "parted_by" (defArgs (top 61)) (defBody (top 61)) (defScope (top 61)) [] kws f fd) (hm : mg "parted_by" = some (.ref f)) (h_need_family_1 : Cal P w s.K mg base 1 "need_family" 2 φ_need_family (s.gc T L C []) [.non]) (h_Family_places : Prp P w s.K mg base 1 0 "places" φ_Family_places (s.gc T L C [])) (h_need_order : Cal P w s.K mg base 4 "need_order" 2 φ_need_order (s.gc T L C []) []) (h_Family_pairs : Prp P w s.K mg base 1 0 "pairs" φ_Family_pairs (s.gc T L C [])) (fr_enumerate : mg "enumerate" = none) (h_parts_by : Cal P w s.K mg base 1 "parts_by" 2 φ_parts_by (s.gc T L C []) []) (fr_tuple : mg "tuple" = none) : Cal P w s.K mg base 5 "parted_by" 2 φ_parted_by (s.gc T L C []) [] :=
  def_cal F hm sc_parted_by (F.bindsN fun _ _ _ _ _ _ us hl => match us, hl with | [_, _], _ => rfl) .nil (fun _ => Dats.nil) (by decide) fun O cdv A outer s' H E hr => have hu := units_of hr; have nd := sc_parted_by.nd; cs_cons (p_drop (gl_call h_need_family_1 hr (ac (sv 0) (a_nil)))) (cs_cons (p_drop (gl_call h_need_order hr (ac (at_prop h_Family_places hr (sv 0)) (ac (sv 1) (a_nil))))) (cs_cons (c_ret (b_tuple fr_tuple (ac (s_new (lc1 [("index", 2), ("pair", 3)] nd (i_enu fr_enumerate (ac (at_prop h_Family_pairs hr (sv 0)) (a_nil))) (fun _ _ _ _ _ => gt_ (gc_ (gn 2 nd) (gc_ (gn 3 nd) (gs_nil)))) (fun _ _ _ _ _ => ts_one (q_tru (gl_call h_parts_by hr (ac (sv 1) (ac (sv 3) (a_nil)))))) (fun _ _ _ _ _ => sv 2) (blk_ok (by kernel_rfl)))) (a_nil)))) (cs_nil)))
theorem sc_need_index : FnScope ["family", "index", "part"] ["family", "index", "part"] (defScope (top 29)) := ⟨rfl, rfl, rfl, by decide +kernel, rfl, by decide +kernel, by decide +kernel⟩
def m_need_index : SM := mSeq (mIfS (mNotT (mTst (mFn 3 φ_is_between [] (mCons (mVar 1) (mCons (mRet (.int 0)) (mCons (m2 dSub (mMeth 0 1 φ_Family_many (mVar 0) (mRet [])) (mRet (.int 1))) (mNil))))))) (mSeq (mNo) (mNext)) (mNext)) (mNext)
def φ_need_index : Fn := runB 3 m_need_index
theorem ok_need_index {T L C f : Addr} {fd : FuncData} {kws : List (Str × V)} (F : FunD s.K "need_index" "need_index" (defArgs (top 29)) (defBody (top 29)) (defScope (top 29)) [] kws f fd) (hm : mg "need_index" = some (.ref f)) (h_Family_many : Met P w s.K mg base 1 0 "many" 1 φ_Family_many (s.gc T L C [])) (h_is_between : Cal P w s.K mg base 2 "is_between" 3 φ_is_between (s.gc T L C []) []) : Cal P w s.K mg base 3 "need_index" 3 φ_need_index (s.gc T L C []) [] :=
  def_cal F hm sc_need_index (F.bindsN fun _ _ _ _ _ _ us hl => match us, hl with | [_, _, _], _ => rfl) .nil (fun _ => Dats.nil) (by decide) fun O cdv A outer s' H E hr => have hu := units_of hr; have nd := sc_need_index.nd; cs_cons (c_if (t_not (q_tru (gl_call h_is_between hr (ac (sv 1) (ac (k_int) (ac (o_sub (at_meth0 h_Family_many hr (sv 0)) (k_int)) (a_nil))))))) (cs_cons (c_no) (cs_nil)) (cs_nil)) (cs_nil)
theorem sc_crosses_by : FnScope ["one", "other"] ["one", "other"] (defScope (top 44)) := ⟨rfl, rfl, rfl, by decide +kernel, rfl, by decide +kernel, by decide +kernel⟩
def m_crosses_by : SM := mSeq (mRetS (mFn 2 φ_meets [] (mCons (m2 dIx (mVar 0) (mRet (.int 0))) (mCons (m2 dIx (mVar 1) (mRet (.int 1))) (mNil))))) (mNext)
def φ_crosses_by : Fn := runB 2 m_crosses_by
theorem ok_crosses_by {T L C f : Addr} {fd : FuncData} {kws : List (Str × V)} (F : FunD s.K "crosses_by" "crosses_by" (defArgs (top 44)) (defBody (top 44)) (defScope (top 44)) [] kws f fd) (hm : mg "crosses_by" = some (.ref f)) (h_meets : Cal P w s.K mg base 2 "meets" 2 φ_meets (s.gc T L C []) []) : Cal P w s.K mg base 3 "crosses_by" 2 φ_crosses_by (s.gc T L C []) [] :=
  def_cal F hm sc_crosses_by (F.bindsN fun _ _ _ _ _ _ us hl => match us, hl with | [_, _], _ => rfl) .nil (fun _ => Dats.nil) (by decide) fun O cdv A outer s' H E hr => have hu := units_of hr; have nd := sc_crosses_by.nd; cs_cons (c_ret (gl_call h_meets hr (ac (x_ix (sv 0) (k_int)) (ac (x_ix (sv 1) (k_int)) (a_nil))))) (cs_nil)
theorem sc_crosses : FnScope ["family", "one", "other"] ["family", "one", "other"] (defScope (top 45)) := ⟨rfl, rfl, rfl, by decide +kernel, rfl, by decide +kernel, by decide +kernel⟩
def m_crosses : SM := mSeq (mDrop (mFn 2 φ_need_family [.non] (mCons (mVar 0) (mNil)))) (mSeq (mDrop (mFn 3 φ_need_index [] (mCons (mVar 0) (mCons (mVar 1) (mCons (mRet (.str "one")) (mNil)))))) (mSeq (mDrop (mFn 3 φ_need_index [] (mCons (mVar 0) (mCons (mVar 2) (mCons (mRet (.str "other")) (mNil)))))) (mSeq (mRetS (mFn 2 φ_crosses_by [] (mCons (m2 dIx (fnOf1 0 φ_Family_pairs (mVar 0)) (mVar 1)) (mCons (m2 dIx (fnOf1 0 φ_Family_pairs (mVar 0)) (mVar 2)) (mNil))))) (mNext))))
def φ_crosses : Fn := runB 3 m_crosses
theorem ok_crosses {T L C f : Addr} {fd : FuncData} {kws : List (Str × V)} (F : FunD s.K "crosses" "crosses" (defArgs (top 45)) (defBody (top 45)) (defScope (top 45)) [] kws f fd) (hm : mg "crosses" = some (.ref f)) (h_need_family_1 : Cal P w s.K mg base 1 "need_family" 2 φ_need_family (s.gc T L C []) [.non]) (h_need_index : Cal P w s.K mg base 3 "need_index" 3 φ_need_index (s.gc T L C []) []) (h_Family_pairs : Prp P w s.K mg base 1 0 "pairs" φ_Family_pairs (s.gc T L C [])) (h_crosses_by : Cal P w s.K mg base 3 "crosses_by" 2 φ_crosses_by (s.gc T L C []) []) : Cal P w s.K mg base 4 "crosses" 3 φ_crosses (s.gc T L C []) [] :=
  def_cal F hm sc_crosses (F.bindsN fun _ _ _ _ _ _ us hl => match us, hl with | [_, _, _], _ => rfl) .nil (fun _ => Dats.nil) (by decide) fun O cdv A outer s' H E hr => have hu := units_of hr; have nd := sc_crosses.nd; cs_cons (p_drop (gl_call h_need_family_1 hr (ac (sv 0) (a_nil)))) (cs_cons (p_drop (gl_call h_need_index hr (ac (sv 0) (ac (sv 1) (ac (k_str) (a_nil)))))) (cs_cons (p_drop (gl_call h_need_index hr (ac (sv 0) (ac (sv 2) (ac (k_str) (a_nil)))))) (cs_cons (c_ret (gl_call h_crosses_by hr (ac (x_ix (at_prop h_Family_pairs hr (sv 0)) (sv 1)) (ac (x_ix (at_prop h_Family_pairs hr (sv 0)) (sv 2)) (a_nil))))) (cs_nil))))
theorem sc_others_of : FnScope ["places", "side", "place"] ["places", "side"] (defScope (top 35)) := ⟨rfl, rfl, rfl, by decide +kernel, rfl, by decide +kernel, by decide +kernel⟩
def m_others_of : SM := mSeq (mRetS (mCall fTuple (mCons (mLst (mLc [2] (mOfL fRange1 (mCons (mVar 0) (mNil))) (.nm 2) (mBl (m2 (dIn true) (mVar 2) (mVar 1))) (mVar 2))) (mNil)))) (mNext)
def φ_others_of : Fn := runB 3 m_others_of
theorem ok_others_of {T L C f : Addr} {fd : FuncData} {kws : List (Str × V)} (F : FunD s.K "others_of" "others_of" (defArgs (top 35)) (defBody (top 35)) (defScope (top 35)) [] kws f fd) (hm : mg "others_of" = some (.ref f)) (fr_range : mg "range" = none) (fr_tuple : mg "tuple" = none) : Cal P w s.K mg base 1 "others_of" 2 φ_others_of (s.gc T L C []) [] :=
  def_cal F hm sc_others_of (F.bindsN fun _ _ _ _ _ _ us hl => match us, hl with | [_, _], _ => rfl) .nil (fun _ => Dats.nil) (by decide) fun O cdv A outer s' H E hr => have hu := units_of hr; have nd := sc_others_of.nd; cs_cons (c_ret (b_tuple fr_tuple (ac (s_new (lc1 [("place", 2)] nd (i_rng1 fr_range (ac (sv 0) (a_nil))) (fun _ _ _ _ _ => gn 2 nd) (fun _ _ _ _ _ => ts_one (q_notin (sv 2) (sv 1) hu)) (fun _ _ _ _ _ => sv 2) (blk_ok (by kernel_rfl)))) (a_nil)))) (cs_nil)
theorem sc_sets_family : FnScope ["places", "sets", "side"] ["places", "sets"] (defScope (top 54)) := ⟨rfl, rfl, rfl, by decide +kernel, rfl, by decide +kernel, by decide +kernel⟩
def m_sets_family : SM := mSeq (mDrop (mFn 2 φ_need_sets [] (mCons (mVar 0) (mCons (mVar 1) (mNil))))) (mSeq (mRetS (mFn 2 φ_Family___init__ [] (mCons (mVar 0) (mCons (mLst (mLc [2] (mItems (mVar 1)) (.nm 2) (mRet true) (mTup (mCons (mVar 2) (mCons (mFn 2 φ_others_of [] (mCons (mVar 0) (mCons (mVar 2) (mNil)))) (mNil)))))) (mNil))))) (mNext))
def φ_sets_family : Fn := runB 3 m_sets_family
theorem ok_sets_family {T L C f : Addr} {fd : FuncData} {kws : List (Str × V)} (F : FunD s.K "sets_family" "sets_family" (defArgs (top 54)) (defBody (top 54)) (defScope (top 54)) [] kws f fd) (hm : mg "sets_family" = some (.ref f)) (h_need_sets : Cal P w s.K mg base 4 "need_sets" 2 φ_need_sets (s.gc T L C []) []) (h_others_of : Cal P w s.K mg base 1 "others_of" 2 φ_others_of (s.gc T L C []) []) (h_Family___init__ : Mak P w s.K mg base 6 0 "Family" 2 φ_Family___init__ (s.gc T L C [])) : Cal P w s.K mg base 8 "sets_family" 2 φ_sets_family (s.gc T L C []) [] :=
  def_cal F hm sc_sets_family (F.bindsN fun _ _ _ _ _ _ us hl => match us, hl with | [_, _], _ => rfl) .nil (fun _ => Dats.nil) (by decide) fun O cdv A outer s' H E hr => have hu := units_of hr; have nd := sc_sets_family.nd; cs_cons (p_drop (gl_call h_need_sets hr (ac (sv 0) (ac (sv 1) (a_nil))))) (cs_cons (c_ret (gl_make h_Family___init__ hr (ac (sv 0) (ac (s_new (lc1 [("side", 2)] nd (i_sq (sv 1)) (fun _ _ _ _ _ => gn 2 nd) (fun _ _ _ _ _ => ts_nil) (fun _ _ _ _ _ => s_tup (ac (sv 2) (ac (gl_call h_others_of hr (ac (sv 0) (ac (sv 2) (a_nil)))) (a_nil)))) (blk_ok (by kernel_rfl)))) (a_nil))))) (cs_nil))
theorem sc_most_meeting : FnScope ["places", "size"] ["places", "size"] (defScope (top 75)) := ⟨rfl, rfl, rfl, by decide +kernel, rfl, by decide +kernel, by decide +kernel⟩
def m_most_meeting : SM := mSeq (mDrop (mFn 2 φ_need_arc_size [] (mCons (mVar 0) (mCons (mVar 1) (mNil))))) (mSeq (mRetS (mFn 2 φ_picks [] (mCons (m2 dSub (mVar 0) (mRet (.int 1))) (mCons (m2 dSub (mVar 1) (mRet (.int 1))) (mNil))))) (mNext))
def φ_most_meeting : Fn := runB 2 m_most_meeting
theorem ok_most_meeting {T L C f : Addr} {fd : FuncData} {kws : List (Str × V)} (F : FunD s.K "most_meeting" "most_meeting" (defArgs (top 75)) (defBody (top 75)) (defScope (top 75)) [] kws f fd) (hm : mg "most_meeting" = some (.ref f)) (h_need_arc_size : Cal P w s.K mg base 4 "need_arc_size" 2 φ_need_arc_size (s.gc T L C []) []) (h_picks : Cal P w s.K mg base 1 "picks" 2 φ_picks (s.gc T L C []) []) : Cal P w s.K mg base 5 "most_meeting" 2 φ_most_meeting (s.gc T L C []) [] :=
  def_cal F hm sc_most_meeting (F.bindsN fun _ _ _ _ _ _ us hl => match us, hl with | [_, _], _ => rfl) .nil (fun _ => Dats.nil) (by decide) fun O cdv A outer s' H E hr => have hu := units_of hr; have nd := sc_most_meeting.nd; cs_cons (p_drop (gl_call h_need_arc_size hr (ac (sv 0) (ac (sv 1) (a_nil))))) (cs_cons (c_ret (gl_call h_picks hr (ac (o_sub (sv 0) (k_int)) (ac (o_sub (sv 1) (k_int)) (a_nil))))) (cs_nil))
theorem sc_arcs_by : FnScope ["order", "size", "twice", "spot"] ["order", "size"] (defScope (top 69)) := ⟨rfl, rfl, rfl, by decide +kernel, rfl, by decide +kernel, by decide +kernel⟩
def m_arcs_by : SM := mSeq (mSet (.nm 2) (mLst (mDisp (mStar (mVar 0) (mStar (mVar 0) (mNil)))))) (mSeq (mRetS (mLst (mLc [3] (mOfL fRange1 (mCons (mCall fLen (mCons (mVar 0) (mNil))) (mNil))) (.nm 3) (mRet true) (mCall fTuple (mCons (mLst (mCallF fSort (mCons (mSl (mVar 2) (mPart (mVar 3)) (mPart (m2 dAdd (mVar 3) (mVar 1)))) (mNil)))) (mNil)))))) (mNext))
def φ_arcs_by : Fn := runB 4 m_arcs_by
theorem ok_arcs_by {T L C f : Addr} {fd : FuncData} {kws : List (Str × V)} (F : FunD s.K "arcs_by" "arcs_by" (defArgs (top 69)) (defBody (top 69)) (defScope (top 69)) [] kws f fd) (hm : mg "arcs_by" = some (.ref f)) (fr_len : mg "len" = none) (fr_range : mg "range" = none) (fr_sorted : mg "sorted" = none) (fr_tuple : mg "tuple" = none) : Cal P w s.K mg base 1 "arcs_by" 2 φ_arcs_by (s.gc T L C []) [] :=
  def_cal F hm sc_arcs_by (F.bindsN fun _ _ _ _ _ _ us hl => match us, hl with | [_, _], _ => rfl) .nil (fun _ => Dats.nil) (by decide) fun O cdv A outer s' H E hr => have hu := units_of hr; have nd := sc_arcs_by.nd; cs_cons (p_set (s_new (f_lst (as (sv 0) (as (sv 0) (a_nil))))) (gn 2 nd)) (cs_cons (c_ret (s_new (lc1 [("spot", 3)] nd (i_rng1 fr_range (ac (b_len fr_len (ac (sv 0) (a_nil))) (a_nil))) (fun _ _ _ _ _ => gn 3 nd) (fun _ _ _ _ _ => ts_nil) (fun _ _ _ _ _ => b_tuple fr_tuple (ac (s_new (n_sorted fr_sorted (ac (x_sl (sv 2) (o_some (sv 3)) (o_some (o_add (sv 3) (sv 1)))) (a_nil)) hu)) (a_nil))) (blk_ok (by kernel_rfl))))) (cs_nil))
theorem sc_most_arcs : FnScope ["places", "size", "sets", "found", "order", "several", "side"] ["places", "size", "sets"] (defScope (top 71)) := ⟨rfl, rfl, rfl, by decide +kernel, rfl, by decide +kernel, by decide +kernel⟩
def m_most_arcs : SM := mSeq (mDrop (mFn 3 φ_need_arcs [] (mCons (mVar 0) (mCons (mVar 1) (mCons (mVar 2) (mNil)))))) (mSeq (mSet (.nm 3) (mRet (.int 0))) (mSeq (mFor (mItems (mFn 1 φ_round_orders_by [] (mCons (mVar 0) (mNil)))) (.nm 4) (mSeq (mSet (.nm 5) (mFn 2 φ_arcs_by [] (mCons (mVar 4) (mCons (mVar 1) (mNil))))) (mSeq (mSet (.nm 3) (mCall fMax2 (mCons (mVar 3) (mCons (mCall fLen (mCons (mLst (mLc [6] (mItems (mVar 2)) (.nm 6) (mBl (m2 (dIn false) (mVar 6) (mVar 5))) (mVar 6))) (mNil))) (mNil))))) (mNext)))) (mSeq (mRetS (mVar 3)) (mNext))))
def φ_most_arcs : Fn := runB 7 m_most_arcs
theorem ok_most_arcs {T L C f : Addr} {fd : FuncData} {kws : List (Str × V)} (F : FunD s.K "most_arcs" "most_arcs" (defArgs (top 71)) (defBody (top 71)) (defScope (top 71)) [] kws f fd) (hm : mg "most_arcs" = some (.ref f)) (h_need_arcs : Cal P w s.K mg base 5 "need_arcs" 3 φ_need_arcs (s.gc T L C []) []) (h_round_orders_by : Cal P w s.K mg base 2 "round_orders_by" 1 φ_round_orders_by (s.gc T L C []) []) (h_arcs_by : Cal P w s.K mg base 1 "arcs_by" 2 φ_arcs_by (s.gc T L C []) []) (fr_len : mg "len" = none) (fr_max : mg "max" = none) : Cal P w s.K mg base 6 "most_arcs" 3 φ_most_arcs (s.gc T L C []) [] :=
  def_cal F hm sc_most_arcs (F.bindsN fun _ _ _ _ _ _ us hl => match us, hl with | [_, _, _], _ => rfl) .nil (fun _ => Dats.nil) (by decide) fun O cdv A outer s' H E hr => have hu := units_of hr; have nd := sc_most_arcs.nd; cs_cons (p_drop (gl_call h_need_arcs hr (ac (sv 0) (ac (sv 1) (ac (sv 2) (a_nil)))))) (cs_cons (p_set (k_int) (gn 3 nd)) (cs_cons (p_for PassesOwn.never (i_sq (gl_call h_round_orders_by hr (ac (sv 0) (a_nil)))) (gn 4 nd) (cs_cons (p_set (gl_call h_arcs_by hr (ac (sv 4) (ac (sv 1) (a_nil)))) (gn 5 nd)) (cs_cons (p_set (b_max2 fr_max (ac (sv 3) (ac (b_len fr_len (ac (s_new (lc1 [("side", 6)] nd (i_sq (sv 2)) (fun _ _ _ _ _ => gn 6 nd) (fun _ _ _ _ _ => ts_one (q_in (sv 6) (sv 5) hu)) (fun _ _ _ _ _ => sv 6) (blk_ok (by kernel_rfl)))) (a_nil))) (a_nil)))) (gn 3 nd)) (cs_nil)))) (cs_cons (c_ret (sv 3)) (cs_nil))))
theorem sc_is_round : FnScope ["places", "thing"] ["places", "thing"] (defScope (top 66)) := ⟨rfl, rfl, rfl, by decide +kernel, rfl, by decide +kernel, by decide +kernel⟩
def m_is_round : SM := mSeq (mRetS (mAnd (mFn 2 φ_is_order [] (mCons (mVar 0) (mCons (mVar 1) (mNil)))) (m2 dEq (m2 dIx (mVar 1) (mRet (.int 0))) (mRet (.int 0))))) (mNext)
def φ_is_round : Fn := runB 2 m_is_round
theorem ok_is_round {T L C f : Addr} {fd : FuncData} {kws : List (Str × V)} (F : FunD s.K "is_round" "is_round" (defArgs (top 66)) (defBody (top 66)) (defScope (top 66)) [] kws f fd) (hm : mg "is_round" = some (.ref f)) (h_is_order : Cal P w s.K mg base 3 "is_order" 2 φ_is_order (s.gc T L C []) []) : Cal P w s.K mg base 4 "is_round" 2 φ_is_round (s.gc T L C []) [] :=
  def_cal F hm sc_is_round (F.bindsN fun _ _ _ _ _ _ us hl => match us, hl with | [_, _], _ => rfl) .nil (fun _ => Dats.nil) (by decide) fun O cdv A outer s' H E hr => have hu := units_of hr; have nd := sc_is_round.nd; cs_cons (c_ret (u_and (gl_call h_is_order hr (ac (sv 0) (ac (sv 1) (a_nil)))) (u_one (c_eq (x_ix (sv 1) (k_int)) (k_int) hu)))) (cs_nil)
theorem sc_arcs_among : FnScope ["places", "size", "sets", "order", "several", "index", "side"] ["places", "size", "sets", "order"] (defScope (top 70)) := ⟨rfl, rfl, rfl, by decide +kernel, rfl, by decide +kernel, by decide +kernel⟩
def m_arcs_among : SM := mSeq (mDrop (mFn 3 φ_need_arcs [] (mCons (mVar 0) (mCons (mVar 1) (mCons (mVar 2) (mNil)))))) (mSeq (mIfS (mNotT (mTst (mFn 2 φ_is_round [] (mCons (mVar 0) (mCons (mVar 3) (mNil)))))) (mSeq (mNo) (mNext)) (mNext)) (mSeq (mSet (.nm 4) (mFn 2 φ_arcs_by [] (mCons (mVar 3) (mCons (mVar 1) (mNil))))) (mSeq (mRetS (mCall fTuple (mCons (mLst (mLc [5, 6] (mOfL fEnum (mCons (mVar 2) (mNil))) (.tp [.nm 5, .nm 6]) (mBl (m2 (dIn false) (mVar 6) (mVar 4))) (mVar 5))) (mNil)))) (mNext))))
def φ_arcs_among : Fn := runB 7 m_arcs_among
theorem ok_arcs_among {T L C f : Addr} {fd : FuncData} {kws : List (Str × V)} (F : FunD s.K "arcs_among" "arcs_among" (defArgs (top 70)) (defBody (top 70)) (defScope (top 70)) [] kws f fd) (hm : mg "arcs_among" = some (.ref f)) (h_need_arcs : Cal P w s.K mg base 5 "need_arcs" 3 φ_need_arcs (s.gc T L C []) []) (h_is_round : Cal P w s.K mg base 4 "is_round" 2 φ_is_round (s.gc T L C []) []) (h_arcs_by : Cal P w s.K mg base 1 "arcs_by" 2 φ_arcs_by (s.gc T L C []) []) (fr_enumerate : mg "enumerate" = none) (fr_tuple : mg "tuple" = none) : Cal P w s.K mg base 6 "arcs_among" 4 φ_arcs_among (s.gc T L C []) [] :=
  def_cal F hm sc_arcs_among (F.bindsN fun _ _ _ _ _ _ us hl => match us, hl with | [_, _, _, _], _ => rfl) .nil (fun _ => Dats.nil) (by decide) fun O cdv A outer s' H E hr => have hu := units_of hr; have nd := sc_arcs_among.nd; cs_cons (p_drop (gl_call h_need_arcs hr (ac (sv 0) (ac (sv 1) (ac (sv 2) (a_nil)))))) (cs_cons (c_if (t_not (q_tru (gl_call h_is_round hr (ac (sv 0) (ac (sv 3) (a_nil)))))) (cs_cons (c_no) (cs_nil)) (cs_nil)) (cs_cons (p_set (gl_call h_arcs_by hr (ac (sv 3) (ac (sv 1) (a_nil)))) (gn 4 nd)) (cs_cons (c_ret (b_tuple fr_tuple (ac (s_new (lc1 [("index", 5), ("side", 6)] nd (i_enu fr_enumerate (ac (sv 2) (a_nil))) (fun _ _ _ _ _ => gt_ (gc_ (gn 5 nd) (gc_ (gn 6 nd) (gs_nil)))) (fun _ _ _ _ _ => ts_one (q_in (sv 6) (sv 4) hu)) (fun _ _ _ _ _ => sv 5) (blk_ok (by kernel_rfl)))) (a_nil)))) (cs_nil))))
theorem sc__law_common : FnScope ["one", "other", "place"] ["one", "other"] (defScope (top 92)) := ⟨rfl, rfl, rfl, by decide +kernel, rfl, by decide +kernel, by decide +kernel⟩
def m__law_common : SM := mSeq (mRetS (mCall fTuple (mCons (mLst (mLc [2] (mItems (mVar 0)) (.nm 2) (mBl (m2 (dIn false) (mVar 2) (mVar 1))) (mVar 2))) (mNil)))) (mNext)
def φ__law_common : Fn := runB 3 m__law_common
theorem ok__law_common {T L C f : Addr} {fd : FuncData} {kws : List (Str × V)} (F : FunD s.K "_law_common" "_law_common" (defArgs (top 92)) (defBody (top 92)) (defScope (top 92)) [] kws f fd) (hm : mg "_law_common" = some (.ref f)) (fr_tuple : mg "tuple" = none) : Cal P w s.K mg base 1 "_law_common" 2 φ__law_common (s.gc T L C []) [] :=
  def_cal F hm sc__law_common (F.bindsN fun _ _ _ _ _ _ us hl => match us, hl with | [_, _], _ => rfl) .nil (fun _ => Dats.nil) (by decide) fun O cdv A outer s' H E hr => have hu := units_of hr; have nd := sc__law_common.nd; cs_cons (c_ret (b_tuple fr_tuple (ac (s_new (lc1 [("place", 2)] nd (i_sq (sv 0)) (fun _ _ _ _ _ => gn 2 nd) (fun _ _ _ _ _ => ts_one (q_in (sv 2) (sv 1) hu)) (fun _ _ _ _ _ => sv 2) (blk_ok (by kernel_rfl)))) (a_nil)))) (cs_nil)
theorem sc_need_place : FnScope ["places", "place"] ["places", "place"] (defScope (top 30)) := ⟨rfl, rfl, rfl, by decide +kernel, rfl, by decide +kernel, by decide +kernel⟩
def m_need_place : SM := mSeq (mIfS (mNotT (mTst (mFn 3 φ_is_between [] (mCons (mVar 1) (mCons (mRet (.int 0)) (mCons (m2 dSub (mVar 0) (mRet (.int 1))) (mNil))))))) (mSeq (mNo) (mNext)) (mNext)) (mNext)
def φ_need_place : Fn := runB 2 m_need_place
theorem ok_need_place {T L C f : Addr} {fd : FuncData} {kws : List (Str × V)} (F : FunD s.K "need_place" "need_place" (defArgs (top 30)) (defBody (top 30)) (defScope (top 30)) [] kws f fd) (hm : mg "need_place" = some (.ref f)) (h_is_between : Cal P w s.K mg base 2 "is_between" 3 φ_is_between (s.gc T L C []) []) : Cal P w s.K mg base 3 "need_place" 2 φ_need_place (s.gc T L C []) [] :=
  def_cal F hm sc_need_place (F.bindsN fun _ _ _ _ _ _ us hl => match us, hl with | [_, _], _ => rfl) .nil (fun _ => Dats.nil) (by decide) fun O cdv A outer s' H E hr => have hu := units_of hr; have nd := sc_need_place.nd; cs_cons (c_if (t_not (q_tru (gl_call h_is_between hr (ac (sv 1) (ac (k_int) (ac (o_sub (sv 0) (k_int)) (a_nil))))))) (cs_cons (c_no) (cs_nil)) (cs_nil)) (cs_nil)
theorem sc_sides_by : FnScope ["places", "found", "place", "side", "size"] ["places"] (defScope (top 33)) := ⟨rfl, rfl, rfl, by decide +kernel, rfl, by decide +kernel, by decide +kernel⟩
def m_sides_by : SM := mSeq (mSet (.nm 1) (mLst (mDisp (mCons (mTup (mNil)) (mNil))))) (mSeq (mFor (mOfL fRange1 (mCons (mVar 0) (mNil))) (.nm 2) (mSeq (mSet (.nm 1) (m2 dAdd (mVar 1) (mLst (mLc [3] (mItems (mVar 1)) (.nm 3) (mRet true) (mTup (mStar (mVar 3) (mCons (mVar 2) (mNil)))))))) (mNext))) (mSeq (mRetS (mLst (mLc [4, 3] (mItems (mLst (mCallF fSort (mCons (mLst (mLc [3] (mItems (mVar 1)) (.nm 3) (mRet true) (mTup (mCons (mCall fLen (mCons (mVar 3) (mNil))) (mCons (mVar 3) (mNil)))))) (mNil))))) (.tp [.nm 4, .nm 3]) (mRet true) (mVar 3)))) (mNext)))
def φ_sides_by : Fn := runB 5 m_sides_by
theorem ok_sides_by {T L C f : Addr} {fd : FuncData} {kws : List (Str × V)} (F : FunD s.K "sides_by" "sides_by" (defArgs (top 33)) (defBody (top 33)) (defScope (top 33)) [] kws f fd) (hm : mg "sides_by" = some (.ref f)) (fr_range : mg "range" = none) (fr_len : mg "len" = none) (fr_sorted : mg "sorted" = none) : Cal P w s.K mg base 1 "sides_by" 1 φ_sides_by (s.gc T L C []) [] :=
  def_cal F hm sc_sides_by (F.bindsN fun _ _ _ _ _ _ us hl => match us, hl with | [_], _ => rfl) .nil (fun _ => Dats.nil) (by decide) fun O cdv A outer s' H E hr => have hu := units_of hr; have nd := sc_sides_by.nd; cs_cons (p_set (s_new (f_lst (ac (s_tup (a_nil)) (a_nil)))) (gn 1 nd)) (cs_cons (p_for PassesOwn.never (i_rng1 fr_range (ac (sv 0) (a_nil))) (gn 2 nd) (cs_cons (p_set (o_add (sv 1) (s_new (lc1 [("side", 3)] nd (i_sq (sv 1)) (fun _ _ _ _ _ => gn 3 nd) (fun _ _ _ _ _ => ts_nil) (fun _ _ _ _ _ => s_tup (as (sv 3) (ac (sv 2) (a_nil)))) (blk_ok (by kernel_rfl))))) (gn 1 nd)) (cs_nil))) (cs_cons (c_ret (s_new (lc1 [("size", 4), ("side", 3)] nd (i_sq (s_new (n_sorted fr_sorted (ac (s_new (lc1 [("side", 3)] nd (i_sq (sv 1)) (fun _ _ _ _ _ => gn 3 nd) (fun _ _ _ _ _ => ts_nil) (fun _ _ _ _ _ => s_tup (ac (b_len fr_len (ac (sv 3) (a_nil))) (ac (sv 3) (a_nil)))) (blk_ok (by kernel_rfl)))) (a_nil)) hu))) (fun _ _ _ _ _ => gt_ (gc_ (gn 4 nd) (gc_ (gn 3 nd) (gs_nil)))) (fun _ _ _ _ _ => ts_nil) (fun _ _ _ _ _ => sv 3) (blk_ok (by kernel_rfl))))) (cs_nil)))
theorem sc_sides_of : FnScope ["places", "size", "side"] ["places", "size"] (defScope (top 34)) := ⟨rfl, rfl, rfl, by decide +kernel, rfl, by decide +kernel, by decide +kernel⟩
def m_sides_of : SM := mSeq (mRetS (mLst (mLc [2] (mItems (mFn 1 φ_sides_by [] (mCons (mVar 0) (mNil)))) (.nm 2) (mBl (m2 dEq (mCall fLen (mCons (mVar 2) (mNil))) (mVar 1))) (mVar 2)))) (mNext)
def φ_sides_of : Fn := runB 3 m_sides_of
theorem ok_sides_of {T L C f : Addr} {fd : FuncData} {kws : List (Str × V)} (F : FunD s.K "sides_of" "sides_of" (defArgs (top 34)) (defBody (top 34)) (defScope (top 34)) [] kws f fd) (hm : mg "sides_of" = some (.ref f)) (h_sides_by : Cal P w s.K mg base 1 "sides_by" 1 φ_sides_by (s.gc T L C []) []) (fr_len : mg "len" = none) : Cal P w s.K mg base 2 "sides_of" 2 φ_sides_of (s.gc T L C []) [] :=
  def_cal F hm sc_sides_of (F.bindsN fun _ _ _ _ _ _ us hl => match us, hl with | [_, _], _ => rfl) .nil (fun _ => Dats.nil) (by decide) fun O cdv A outer s' H E hr => have hu := units_of hr; have nd := sc_sides_of.nd; cs_cons (c_ret (s_new (lc1 [("side", 2)] nd (i_sq (gl_call h_sides_by hr (ac (sv 0) (a_nil)))) (fun _ _ _ _ _ => gn 2 nd) (fun _ _ _ _ _ => ts_one (q_eq (b_len fr_len (ac (sv 2) (a_nil))) (sv 1) hu)) (fun _ _ _ _ _ => sv 2) (blk_ok (by kernel_rfl))))) (cs_nil)
theorem sc_star : FnScope ["places", "size", "place", "side"] ["places", "size", "place"] (defScope (top 74)) := ⟨rfl, rfl, rfl, by decide +kernel, rfl, by decide +kernel, by decide +kernel⟩
def m_star : SM := mSeq (mDrop (mFn 2 φ_need_arc_size [] (mCons (mVar 0) (mCons (mVar 1) (mNil))))) (mSeq (mDrop (mFn 2 φ_need_place [] (mCons (mVar 0) (mCons (mVar 2) (mNil))))) (mSeq (mRetS (mLst (mLc [3] (mItems (mFn 2 φ_sides_of [] (mCons (mVar 0) (mCons (mVar 1) (mNil))))) (.nm 3) (mBl (m2 (dIn false) (mVar 2) (mVar 3))) (mVar 3)))) (mNext)))
def φ_star : Fn := runB 4 m_star
theorem ok_star {T L C f : Addr} {fd : FuncData} {kws : List (Str × V)} (F : FunD s.K "star" "star" (defArgs (top 74)) (defBody (top 74)) (defScope (top 74)) [] kws f fd) (hm : mg "star" = some (.ref f)) (h_need_arc_size : Cal P w s.K mg base 4 "need_arc_size" 2 φ_need_arc_size (s.gc T L C []) []) (h_need_place : Cal P w s.K mg base 3 "need_place" 2 φ_need_place (s.gc T L C []) []) (h_sides_of : Cal P w s.K mg base 2 "sides_of" 2 φ_sides_of (s.gc T L C []) []) : Cal P w s.K mg base 5 "star" 3 φ_star (s.gc T L C []) [] :=
  def_cal F hm sc_star (F.bindsN fun _ _ _ _ _ _ us hl => match us, hl with | [_, _, _], _ => rfl) .nil (fun _ => Dats.nil) (by decide) fun O cdv A outer s' H E hr => have hu := units_of hr; have nd := sc_star.nd; cs_cons (p_drop (gl_call h_need_arc_size hr (ac (sv 0) (ac (sv 1) (a_nil))))) (cs_cons (p_drop (gl_call h_need_place hr (ac (sv 0) (ac (sv 2) (a_nil))))) (cs_cons (c_ret (s_new (lc1 [("side", 3)] nd (i_sq (gl_call h_sides_of hr (ac (sv 0) (ac (sv 1) (a_nil))))) (fun _ _ _ _ _ => gn 3 nd) (fun _ _ _ _ _ => ts_one (q_in (sv 2) (sv 3) hu)) (fun _ _ _ _ _ => sv 3) (blk_ok (by kernel_rfl))))) (cs_nil)))
theorem sc__law_sets_right : FnScope ["tape", "places", "size", "sets", "told", "one", "other", "pair", "index", "place", "total", "order", "first"] ["tape", "places", "size", "sets"] (defScope (top 95)) := ⟨rfl, rfl, rfl, by decide +kernel, rfl, by decide +kernel, by decide +kernel⟩
def m__law_sets_right : SM := mSeq (mSet (.nm 4) (mFn 3 φ_meeting_paper [] (mCons (mVar 1) (mCons (mVar 2) (mCons (mVar 3) (mNil)))))) (mSeq (mFor (mItems (mFn 1 φ__law_keys [] (mCons (mCall fLen (mCons (mVar 3) (mNil))) (mNil)))) (.tp [.nm 5, .nm 6]) (mSeq (mSet (.nm 7) (mFn 2 φ_Family___init__ [] (mCons (mVar 1) (mCons (mLst (mDisp (mCons (mTup (mCons (m2 dIx (mVar 3) (mVar 5)) (mCons (mTup (mNil)) (mNil)))) (mCons (mTup (mCons (mTup (mNil)) (mCons (m2 dIx (mVar 3) (mVar 6)) (mNil)))) (mNil))))) (mNil))))) (mSeq (mIfS (mOrT (mBl (m2 dNe (mFn 3 φ_crosses [] (mCons (mVar 7) (mCons (mRet (.int 0)) (mCons (mRet (.int 1)) (mNil))))) (m2 dNe (mFn 2 φ__law_common [] (mCons (m2 dIx (mVar 3) (mVar 5)) (mCons (m2 dIx (mVar 3) (mVar 6)) (mNil)))) (mTup (mNil))))) (mBl (m2 (dIs true) (mFn 3 φ_crosses [] (mCons (mVar 7) (mCons (mRet (.int 1)) (mCons (mRet (.int 0)) (mNil))))) (mRet (.bl false))))) (mSeq (mRetS (mRet (.bl false))) (mNext)) (mNext)) (mNext)))) (mSeq (mIfS (mOrT (mBl (m2 (dIs true) (mFn 2 φ_is_antichain [] (mCons (mVar 1) (mCons (mVar 3) (mNil)))) (mRet (.bl true)))) (mBl (m2 (dIs true) (mFn 2 φ_is_of_kind [] (mCons (mFn 2 φ_sets_family [] (mCons (mVar 1) (mCons (mVar 3) (mNil)))) (mCons (mRet (.str "both")) (mNil)))) (mRet (.bl true))))) (mSeq (mRetS (mRet (.bl false))) (mNext)) (mNext)) (mSeq (mIfS (mAndT (mBl (m2 dEq (m2 dIx (mVar 4) (mRet (.int 0))) (mRet (.str "meet")))) (mOrT (mBl (m2 dGt (mCall fLen (mCons (mVar 3) (mNil))) (mFn 2 φ_most_meeting [] (mCons (mVar 1) (mCons (mVar 2) (mNil)))))) (mBl (m2 dGt (mFn 3 φ_most_arcs [] (mCons (mVar 1) (mCons (mVar 2) (mCons (mVar 3) (mNil))))) (mVar 2))))) (mSeq (mRetS (mRet (.bl false))) (mNext)) (mNext)) (mSeq (mIfS (mAndT (mBl (m2 dEq (m2 dIx (mVar 4) (mRet (.int 0))) (mRet (.str "apart")))) (mBl (m2 dNe (mLst (mLc [8] (mItems (mSl (mVar 4) (mPart (mRet (.int 1))) (mPart (mRet (.int 3))))) (.nm 8) (mBl (m2 (dIn true) (mVar 8) (mFn 4 φ_arcs_among [] (mCons (mVar 1) (mCons (mVar 2) (mCons (mVar 3) (mCons (m2 dIx (mVar 4) (mRet (.int 3))) (mNil)))))))) (mVar 8))) (mLst (mDisp (mNil)))))) (mSeq (mRetS (mRet (.bl false))) (mNext)) (mNext)) (mSeq (mIfS (mBl (m2 dLt (mCall fLen (mCons (mFn 3 φ_shadow [] (mCons (mVar 1) (mCons (mVar 2) (mCons (mVar 3) (mNil))))) (mNil))) (mFn 2 φ_least_shadow [] (mCons (mCall fLen (mCons (mVar 3) (mNil))) (mCons (mVar 2) (mNil)))))) (mSeq (mRetS (mRet (.bl false))) (mNext)) (mNext)) (mSeq (mPar 9 10 (.v (mFn 2 φ__law_draw [] (mCons (mVar 0) (mCons (mVar 1) (mNil))))) (.v (mRet (.int 0)))) (mSeq (mFor (mItems (mFn 1 φ_round_orders [] (mCons (mVar 1) (mNil)))) (.nm 11) (mSeq (mSet (.nm 10) (m2 dAdd (mVar 10) (mCall fLen (mCons (mFn 4 φ_arcs_among [] (mCons (mVar 1) (mCons (mVar 2) (mCons (mFn 3 φ_star [] (mCons (mVar 1) (mCons (mVar 2) (mCons (mVar 9) (mNil))))) (mCons (mVar 11) (mNil)))))) (mNil))))) (mNext))) (mSeq (mIfS (mBl (m2 dNe (mVar 10) (m2 dMul (mVar 2) (mCall fLen (mCons (mFn 1 φ_round_orders [] (mCons (mVar 1) (mNil))) (mNil)))))) (mSeq (mRetS (mRet (.bl false))) (mNext)) (mNext)) (mSeq (mSet (.nm 11) (mFn 2 φ__law_pick [] (mCons (mVar 0) (mCons (mFn 1 φ_round_orders [] (mCons (mVar 1) (mNil))) (mNil))))) (mSeq (mSet (.nm 12) (mLst (mLc [8] (mItems (mFn 2 φ_parted_by [] (mCons (mFn 2 φ_sets_family [] (mCons (mVar 1) (mCons (mVar 3) (mNil)))) (mCons (mVar 11) (mNil))))) (.nm 8) (mRet true) (mVar 8)))) (mSeq (mRetS (mAnd (m2 dEq (mLst (mLc [8] (mItems (mVar 12)) (.nm 8) (mBl (m2 (dIn true) (mVar 8) (mFn 4 φ_arcs_among [] (mCons (mVar 1) (mCons (mVar 2) (mCons (mVar 3) (mCons (mVar 11) (mNil)))))))) (mVar 8))) (mLst (mDisp (mNil)))) (m2 dLt (mCall fLen (mCons (mVar 12) (mNil))) (mRet (.int 2))))) (mNext))))))))))))
def φ__law_sets_right : Fn := runB 13 m__law_sets_right
theorem ok__law_sets_right {T L C f : Addr} {fd : FuncData} {kws : List (Str × V)} (F : FunD s.K "_law_sets_right" "_law_sets_right" (defArgs (top 95)) (defBody (top 95)) (defScope (top 95)) [] kws f fd) (hm : mg "_law_sets_right" = some (.ref f)) (h_meeting_paper : Cal P w s.K mg base 6 "meeting_paper" 3 φ_meeting_paper (s.gc T L C []) []) (fr_len : mg "len" = none) (h__law_keys : Cal P w s.K mg base 1 "_law_keys" 1 φ__law_keys (s.gc T L C []) []) (h_Family___init__ : Mak P w s.K mg base 6 0 "Family" 2 φ_Family___init__ (s.gc T L C [])) (h_crosses : Cal P w s.K mg base 4 "crosses" 3 φ_crosses (s.gc T L C []) []) (h__law_common : Cal P w s.K mg base 1 "_law_common" 2 φ__law_common (s.gc T L C []) []) (h_sets_family : Cal P w s.K mg base 8 "sets_family" 2 φ_sets_family (s.gc T L C []) []) (h_is_of_kind : Cal P w s.K mg base 5 "is_of_kind" 2 φ_is_of_kind (s.gc T L C []) []) (h_is_antichain : Cal P w s.K mg base 5 "is_antichain" 2 φ_is_antichain (s.gc T L C []) []) (h_most_arcs : Cal P w s.K mg base 6 "most_arcs" 3 φ_most_arcs (s.gc T L C []) []) (h_most_meeting : Cal P w s.K mg base 5 "most_meeting" 2 φ_most_meeting (s.gc T L C []) []) (h_arcs_among : Cal P w s.K mg base 6 "arcs_among" 4 φ_arcs_among (s.gc T L C []) []) (h_shadow : Cal P w s.K mg base 6 "shadow" 3 φ_shadow (s.gc T L C []) []) (h_least_shadow : Cal P w s.K mg base 4 "least_shadow" 2 φ_least_shadow (s.gc T L C []) []) (h__law_draw : Cal P w s.K mg base 2 "_law_draw" 2 φ__law_draw (s.gc T L C []) []) (h_round_orders : Cal P w s.K mg base 4 "round_orders" 1 φ_round_orders (s.gc T L C []) []) (h_star : Cal P w s.K mg base 5 "star" 3 φ_star (s.gc T L C []) []) (h__law_pick : Cal P w s.K mg base 3 "_law_pick" 2 φ__law_pick (s.gc T L C []) []) (h_parted_by : Cal P w s.K mg base 5 "parted_by" 2 φ_parted_by (s.gc T L C []) []) : Cal P w s.K mg base 9 "_law_sets_right" 4 φ__law_sets_right (s.gc T L C []) [] :=
  def_cal F hm sc__law_sets_right (F.bindsN fun _ _ _ _ _ _ us hl => match us, hl with | [_, _, _, _], _ => rfl) .nil (fun _ => Dats.nil) (by decide) fun O cdv A outer s' H E hr => have hu := units_of hr; have nd := sc__law_sets_right.nd; cs_cons (p_set (gl_call h_meeting_paper hr (ac (sv 1) (ac (sv 2) (ac (sv 3) (a_nil))))) (gn 4 nd)) (cs_cons (p_for PassesOwn.never (i_sq (gl_call h__law_keys hr (ac (b_len fr_len (ac (sv 3) (a_nil))) (a_nil)))) (gt_ (gc_ (gn 5 nd) (gc_ (gn 6 nd) (gs_nil)))) (cs_cons (p_set (gl_make h_Family___init__ hr (ac (sv 1) (ac (s_new (f_lst (ac (s_tup (ac (x_ix (sv 3) (sv 5)) (ac (s_tup (a_nil)) (a_nil)))) (ac (s_tup (ac (s_tup (a_nil)) (ac (x_ix (sv 3) (sv 6)) (a_nil)))) (a_nil))))) (a_nil)))) (gn 7 nd)) (cs_cons (c_if ((w_or (q_ne (gl_call h_crosses hr (ac (sv 7) (ac (k_int) (ac (k_int) (a_nil))))) (c_ne (gl_call h__law_common hr (ac (x_ix (sv 3) (sv 5)) (ac (x_ix (sv 3) (sv 6)) (a_nil)))) (s_tup (a_nil)) hu) hu) (w_one (q_isnot (gl_call h_crosses hr (ac (sv 7) (ac (k_int) (ac (k_int) (a_nil))))) (k_bl)) _)).pt) (cs_cons (c_ret (k_bl)) (cs_nil)) (cs_nil)) (cs_nil)))) (cs_cons (c_if ((w_or (q_isnot (gl_call h_is_antichain hr (ac (sv 1) (ac (sv 3) (a_nil)))) (k_bl)) (w_one (q_isnot (gl_call h_is_of_kind hr (ac (gl_call h_sets_family hr (ac (sv 1) (ac (sv 3) (a_nil)))) (ac (k_str) (a_nil)))) (k_bl)) _)).pt) (cs_cons (c_ret (k_bl)) (cs_nil)) (cs_nil)) (cs_cons (c_if ((w_and (q_eq (x_ix (sv 4) (k_int)) (k_str) hu) (w_one ((w_or (q_gt (b_len fr_len (ac (sv 3) (a_nil))) (gl_call h_most_meeting hr (ac (sv 1) (ac (sv 2) (a_nil))))) (w_one (q_gt (gl_call h_most_arcs hr (ac (sv 1) (ac (sv 2) (ac (sv 3) (a_nil))))) (sv 2)) _)).pt) _)).pt) (cs_cons (c_ret (k_bl)) (cs_nil)) (cs_nil)) (cs_cons (c_if ((w_and (q_eq (x_ix (sv 4) (k_int)) (k_str) hu) (w_one (q_ne (s_new (lc1 [("index", 8)] nd (i_sq (x_sl (sv 4) (o_some (k_int)) (o_some (k_int)))) (fun _ _ _ _ _ => gn 8 nd) (fun _ _ _ _ _ => ts_one (q_notin (sv 8) (gl_call h_arcs_among hr (ac (sv 1) (ac (sv 2) (ac (sv 3) (ac (x_ix (sv 4) (k_int)) (a_nil)))))) hu)) (fun _ _ _ _ _ => sv 8) (blk_ok (by kernel_rfl)))) (s_new (f_lst (a_nil))) hu) _)).pt) (cs_cons (c_ret (k_bl)) (cs_nil)) (cs_nil)) (cs_cons (c_if (q_lt (b_len fr_len (ac (gl_call h_shadow hr (ac (sv 1) (ac (sv 2) (ac (sv 3) (a_nil))))) (a_nil))) (gl_call h_least_shadow hr (ac (b_len fr_len (ac (sv 3) (a_nil))) (ac (sv 2) (a_nil))))) (cs_cons (c_ret (k_bl)) (cs_nil)) (cs_nil)) (cs_cons (p_par (ra := .v (mFn 2 φ__law_draw [] (mCons (mVar 0) (mCons (mVar 1) (mNil))))) (rb := .v (mRet (.int 0))) nd (gl_call h__law_draw hr (ac (sv 0) (ac (sv 1) (a_nil)))) (k_int)) (cs_cons (p_for PassesOwn.never (i_sq (gl_call h_round_orders hr (ac (sv 1) (a_nil)))) (gn 11 nd) (cs_cons (p_set (o_add (sv 10) (b_len fr_len (ac (gl_call h_arcs_among hr (ac (sv 1) (ac (sv 2) (ac (gl_call h_star hr (ac (sv 1) (ac (sv 2) (ac (sv 9) (a_nil))))) (ac (sv 11) (a_nil)))))) (a_nil)))) (gn 10 nd)) (cs_nil))) (cs_cons (c_if (q_ne (sv 10) (o_mul (sv 2) (b_len fr_len (ac (gl_call h_round_orders hr (ac (sv 1) (a_nil))) (a_nil)))) hu) (cs_cons (c_ret (k_bl)) (cs_nil)) (cs_nil)) (cs_cons (p_set (gl_call h__law_pick hr (ac (sv 0) (ac (gl_call h_round_orders hr (ac (sv 1) (a_nil))) (a_nil)))) (gn 11 nd)) (cs_cons (w_setLcV (i := 12) [("index", 8)] nd (i_sq (gl_call h_parted_by hr (ac (gl_call h_sets_family hr (ac (sv 1) (ac (sv 3) (a_nil)))) (ac (sv 11) (a_nil))))) (fun _ _ _ _ _ => gn 8 nd) (fun _ _ _ _ _ => ts_nil) (fun _ _ _ _ _ => sv 8) (blk_ok (by kernel_rfl))) (cs_cons (c_ret (u_and (c_eq (s_new (lc1 [("index", 8)] nd (i_sq (sv 12)) (fun _ _ _ _ _ => gn 8 nd) (fun _ _ _ _ _ => ts_one (q_notin (sv 8) (gl_call h_arcs_among hr (ac (sv 1) (ac (sv 2) (ac (sv 3) (ac (sv 11) (a_nil)))))) hu)) (fun _ _ _ _ _ => sv 8) (blk_ok (by kernel_rfl)))) (s_new (f_lst (a_nil))) hu) (u_one (c_lt (b_len fr_len (ac (sv 12) (a_nil))) (k_int))))) (cs_nil))))))))))))
theorem sc__law_sets : FnScope ["places", "found", "place", "asked", "pair"] ["places"] (defScope (top 91)) := ⟨rfl, rfl, rfl, by decide +kernel, rfl, by decide +kernel, by decide +kernel⟩
def m__law_sets : SM := mSeq (mSet (.nm 1) (mLst (mDisp (mCons (mTup (mNil)) (mNil))))) (mSeq (mFor (mOfL fRange1 (mCons (mVar 0) (mNil))) (.nm 2) (mSeq (mSet (.nm 1) (m2 dAdd (mVar 1) (mLst (mLc [3] (mItems (mVar 1)) (.nm 3) (mRet true) (m2 dAdd (mVar 3) (mTup (mCons (mVar 2) (mNil)))))))) (mNext))) (mSeq (mRetS (mLst (mLc [4] (mItems (mLst (mCallF fSort (mCons (mLst (mLc [3] (mItems (mVar 1)) (.nm 3) (mRet true) (mTup (mCons (mCall fLen (mCons (mVar 3) (mNil))) (mCons (mVar 3) (mNil)))))) (mNil))))) (.nm 4) (mRet true) (m2 dIx (mVar 4) (mRet (.int 1)))))) (mNext)))
def φ__law_sets : Fn := runB 5 m__law_sets
theorem ok__law_sets {T L C f : Addr} {fd : FuncData} {kws : List (Str × V)} (F : FunD s.K "_law_sets" "_law_sets" (defArgs (top 91)) (defBody (top 91)) (defScope (top 91)) [] kws f fd) (hm : mg "_law_sets" = some (.ref f)) (fr_range : mg "range" = none) (fr_len : mg "len" = none) (fr_sorted : mg "sorted" = none) : Cal P w s.K mg base 1 "_law_sets" 1 φ__law_sets (s.gc T L C []) [] :=
  def_cal F hm sc__law_sets (F.bindsN fun _ _ _ _ _ _ us hl => match us, hl with | [_], _ => rfl) .nil (fun _ => Dats.nil) (by decide) fun O cdv A outer s' H E hr => have hu := units_of hr; have nd := sc__law_sets.nd; cs_cons (p_set (s_new (f_lst (ac (s_tup (a_nil)) (a_nil)))) (gn 1 nd)) (cs_cons (p_for PassesOwn.never (i_rng1 fr_range (ac (sv 0) (a_nil))) (gn 2 nd) (cs_cons (p_set (o_add (sv 1) (s_new (lc1 [("asked", 3)] nd (i_sq (sv 1)) (fun _ _ _ _ _ => gn 3 nd) (fun _ _ _ _ _ => ts_nil) (fun _ _ _ _ _ => o_add (sv 3) (s_tup (ac (sv 2) (a_nil)))) (blk_ok (by kernel_rfl))))) (gn 1 nd)) (cs_nil))) (cs_cons (c_ret (s_new (lc1 [("pair", 4)] nd (i_sq (s_new (n_sorted fr_sorted (ac (s_new (lc1 [("asked", 3)] nd (i_sq (sv 1)) (fun _ _ _ _ _ => gn 3 nd) (fun _ _ _ _ _ => ts_nil) (fun _ _ _ _ _ => s_tup (ac (b_len fr_len (ac (sv 3) (a_nil))) (ac (sv 3) (a_nil)))) (blk_ok (by kernel_rfl)))) (a_nil)) hu))) (fun _ _ _ _ _ => gn 4 nd) (fun _ _ _ _ _ => ts_nil) (fun _ _ _ _ _ => x_ix (sv 4) (k_int)) (blk_ok (by kernel_rfl))))) (cs_nil)))
theorem sc__law_sized : FnScope ["places", "size", "side"] ["places", "size"] (defScope (top 94)) := ⟨rfl, rfl, rfl, by decide +kernel, rfl, by decide +kernel, by decide +kernel⟩
def m__law_sized : SM := mSeq (mRetS (mLst (mLc [2] (mItems (mFn 1 φ__law_sets [] (mCons (mVar 0) (mNil)))) (.nm 2) (mBl (m2 dEq (mCall fLen (mCons (mVar 2) (mNil))) (mVar 1))) (mVar 2)))) (mNext)
def φ__law_sized : Fn := runB 3 m__law_sized
theorem ok__law_sized {T L C f : Addr} {fd : FuncData} {kws : List (Str × V)} (F : FunD s.K "_law_sized" "_law_sized" (defArgs (top 94)) (defBody (top 94)) (defScope (top 94)) [] kws f fd) (hm : mg "_law_sized" = some (.ref f)) (h__law_sets : Cal P w s.K mg base 1 "_law_sets" 1 φ__law_sets (s.gc T L C []) []) (fr_len : mg "len" = none) : Cal P w s.K mg base 2 "_law_sized" 2 φ__law_sized (s.gc T L C []) [] :=
  def_cal F hm sc__law_sized (F.bindsN fun _ _ _ _ _ _ us hl => match us, hl with | [_, _], _ => rfl) .nil (fun _ => Dats.nil) (by decide) fun O cdv A outer s' H E hr => have hu := units_of hr; have nd := sc__law_sized.nd; cs_cons (c_ret (s_new (lc1 [("side", 2)] nd (i_sq (gl_call h__law_sets hr (ac (sv 0) (a_nil)))) (fun _ _ _ _ _ => gn 2 nd) (fun _ _ _ _ _ => ts_one (q_eq (b_len fr_len (ac (sv 2) (a_nil))) (sv 1) hu)) (fun _ _ _ _ _ => sv 2) (blk_ok (by kernel_rfl))))) (cs_nil)
theorem sc__law_shuffled : FnScope ["tape", "several", "left", "found"] ["tape", "several"] (defScope (top 90)) := ⟨rfl, rfl, rfl, by decide +kernel, rfl, by decide +kernel, by decide +kernel⟩
def m__law_shuffled : SM := mSeq (mPar 2 3 (.f (mCallF fList (mCons (mVar 1) (mNil)))) (.f (mDisp (mNil)))) (mSeq (mWhile 1000 (mBl (m2 dNe (mVar 2) (mLst (mDisp (mNil))))) (mSeq (mAppPop 3 2 (mFn 2 φ__law_draw [] (mCons (mVar 0) (mCons (mCall fLen (mCons (mVar 2) (mNil))) (mNil))))) (mNext))) (mSeq (mRetS (mVar 3)) (mNext)))
def φ__law_shuffled : Fn := runB 4 m__law_shuffled
theorem ok__law_shuffled {T L C f : Addr} {fd : FuncData} {kws : List (Str × V)} (F : FunD s.K "_law_shuffled" "_law_shuffled" (defArgs (top 90)) (defBody (top 90)) (defScope (top 90)) [] kws f fd) (hm : mg "_law_shuffled" = some (.ref f)) (fr_list : mg "list" = none) (fr_len : mg "len" = none) (h__law_draw : Cal P w s.K mg base 2 "_law_draw" 2 φ__law_draw (s.gc T L C []) []) : Cal P w s.K mg base 3 "_law_shuffled" 2 φ__law_shuffled (s.gc T L C []) [] :=
  def_cal F hm sc__law_shuffled (F.bindsN fun _ _ _ _ _ _ us hl => match us, hl with | [_, _], _ => rfl) .nil (fun _ => Dats.nil) (by decide) fun O cdv A outer s' H E hr => have hu := units_of hr; have nd := sc__law_shuffled.nd; cs_cons (p_par (ra := .f (mCallF fList (mCons (mVar 1) (mNil)))) (rb := .f (mDisp (mNil))) nd (n_list fr_list (ac (sv 1) (a_nil))) (f_lst (a_nil))) (cs_cons (c_while PassesOwn.never (q_ne (sv 2) (s_new (f_lst (a_nil))) hu) (cs_cons (p_appPop (pv 3) (pv 2) (gl_call h__law_draw hr (ac (sv 0) (ac (b_len fr_len (ac (sv 2) (a_nil))) (a_nil))))) (cs_nil))) (cs_cons (c_ret (sv 3)) (cs_nil)))
theorem sc_law : FnScope ["script", "tape", "lap", "places", "size", "place", "several"] ["script"] (defScope (top 96)) := ⟨rfl, rfl, rfl, by decide +kernel, rfl, by decide +kernel, by decide +kernel⟩
def m_law : SM := mSeq (mFor (mOfL fRange1 (mCons (m2 dAdd (mRet (.int 5)) (mCall fMin2 (mCons (mCall fLen (mCons (mVar 0) (mNil))) (mCons (mRet (.int 7)) (mNil))))) (mNil))) (.nm 2) (mSeq (mSet (.nm 3) (m2 dAdd (mRet (.int 2)) (mFn 2 φ__law_draw [] (mCons (mVar 1) (mCons (mRet (.int 4)) (mNil)))))) (mSeq (mPar 4 5 (.v (m2 dAdd (mRet (.int 1)) (mFn 2 φ__law_draw [] (mCons (mVar 1) (mCons (mCall fInt (mCons (m2 dFdiv (mVar 3) (mRet (.int 2))) (mNil))) (mNil)))))) (.v (mFn 2 φ__law_draw [] (mCons (mVar 1) (mCons (mVar 3) (mNil)))))) (mSeq (mSet (.nm 6) (mIf (mBl (m2 dEq (mFn 2 φ__law_draw [] (mCons (mVar 1) (mCons (mRet (.int 2)) (mNil)))) (mRet (.int 0)))) (mFn 2 φ__law_sized [] (mCons (mVar 3) (mCons (mVar 4) (mNil)))) (mFn 3 φ_star [] (mCons (mVar 3) (mCons (mVar 4) (mCons (mVar 5) (mNil))))))) (mSeq (mIfS (mNotT (mTst (mFn 4 φ__law_sets_right [] (mCons (mVar 1) (mCons (mVar 3) (mCons (mVar 4) (mCons (mSl (mFn 2 φ__law_shuffled [] (mCons (mVar 1) (mCons (mVar 6) (mNil)))) (mNoP) (mPart (mFn 2 φ__law_draw [] (mCons (mVar 1) (mCons (mRet (.int 7)) (mNil)))))) (mNil)))))))) (mSeq (mRetS (mRet (.bl false))) (mNext)) (mNext)) (mNext)))))) (mSeq (mRetS (mAnd (mFn 4 φ__law_sets_right [] (mCons (mVar 1) (mCons (mRet (.int 4)) (mCons (mRet (.int 2)) (mCons (mLst (mDisp (mCons (mTup (mCons (mRet (.int 0)) (mCons (mRet (.int 1)) (mNil)))) (mCons (mTup (mCons (mRet (.int 1)) (mCons (mRet (.int 2)) (mNil)))) (mCons (mTup (mCons (mRet (.int 0)) (mCons (mRet (.int 2)) (mNil)))) (mNil)))))) (mNil)))))) (mAnd (mFn 4 φ__law_sets_right [] (mCons (mVar 1) (mCons (mRet (.int 5)) (mCons (mRet (.int 2)) (mCons (mLst (mDisp (mCons (mTup (mCons (mRet (.int 0)) (mCons (mRet (.int 1)) (mNil)))) (mCons (mTup (mCons (mRet (.int 2)) (mCons (mRet (.int 3)) (mNil)))) (mNil))))) (mNil)))))) (mNot (m1 fIsNo (mVar 1)))))) (mNext))
theorem ok_law {f fB : Addr} {fd fdB : FuncData} (F : FunD s.K "law" "law" (defArgs (top 96)) (defBody (top 96)) (defScope (top 96)) [] [] f fd) (hB : FnOk P w s.K mg base CX0 1 fB fdB ["script"] (spBegun s.K)) (mB : mg "_law_begun" = some (.ref fB)) (kB : PySem.W.keepIn s.K (.ref fB) = true) (bB : Binds s.K fdB ["script"] []) (fr_len : mg "len" = none) (fr_min : mg "min" = none) (fr_range : mg "range" = none) (h__law_draw : ∀ T L C : Addr, Cal P w s.K mg base 2 "_law_draw" 2 φ__law_draw (s.gc T L C []) []) (fr_int : mg "int" = none) (h__law_sized : ∀ T L C : Addr, Cal P w s.K mg base 2 "_law_sized" 2 φ__law_sized (s.gc T L C []) []) (h_star : ∀ T L C : Addr, Cal P w s.K mg base 5 "star" 3 φ_star (s.gc T L C []) []) (h__law_shuffled : ∀ T L C : Addr, Cal P w s.K mg base 3 "_law_shuffled" 2 φ__law_shuffled (s.gc T L C []) []) (h__law_sets_right : ∀ T L C : Addr, Cal P w s.K mg base 9 "_law_sets_right" 4 φ__law_sets_right (s.gc T L C []) []) (fr_isinstance : mg "isinstance" = none) (i_PairError : IsN s.K mg "PairError")
    (hm : ∀ ns : List Int, ns.length ≤ 63 → ∃ τ, m_law (envL 7 ns) (begunT ns) = .ok (.ret (.bl true)) τ) : FnOk P w s.K mg base CX0 10 f fd ["script"] (spLaw s.K) := by
  refine F.ok sc_law (fun vs H Q E h => ?_) (fun cdv A outer s' H vs Q E hr h => ⟨t_law s m_law, nox_pss ?_, law_red (by decide) hm vs H Q E h⟩)
  · obtain ⟨a, ns, rfl, _⟩ := h
    rfl
  · exact pss_cons (ps_asg (pe_call (hB.mono (Nat.le_refl _)) (hr.mono (by decide)) rfl mB kB bB .nil pass0 (pa_cons (pv 0) pa_nil)) (pg_name (i := 1) sc_law.nd rfl (by first | exact Or.inl rfl | exact Or.inr rfl))) (pss_law fun T L C Hb => have h__law_draw := h__law_draw T L C; have h__law_sized := h__law_sized T L C; have h_star := h_star T L C; have h__law_shuffled := h__law_shuffled T L C; have h__law_sets_right := h__law_sets_right T L C; have hu := units_of hr; have nd := sc_law.nd; cs_cons (p_for PassesOwn.never (i_rng1 fr_range (ac (o_add (k_int) (b_min2 fr_min (ac (b_len fr_len (ac (sv 0) (a_nil))) (ac (k_int) (a_nil))))) (a_nil))) (gn 2 nd) (cs_cons (p_set (o_add (k_int) (gl_call h__law_draw hr (ac (sv 1) (ac (k_int) (a_nil))))) (gn 3 nd)) (cs_cons (p_par (ra := .v (m2 dAdd (mRet (.int 1)) (mFn 2 φ__law_draw [] (mCons (mVar 1) (mCons (mCall fInt (mCons (m2 dFdiv (mVar 3) (mRet (.int 2))) (mNil))) (mNil)))))) (rb := .v (mFn 2 φ__law_draw [] (mCons (mVar 1) (mCons (mVar 3) (mNil))))) nd (o_add (k_int) (gl_call h__law_draw hr (ac (sv 1) (ac (b_int fr_int (ac (o_fdiv (sv 3) (k_int)) (a_nil))) (a_nil))))) (gl_call h__law_draw hr (ac (sv 1) (ac (sv 3) (a_nil))))) (cs_cons (p_set (s_if (q_eq (gl_call h__law_draw hr (ac (sv 1) (ac (k_int) (a_nil)))) (k_int) hu) (gl_call h__law_sized hr (ac (sv 3) (ac (sv 4) (a_nil)))) (gl_call h_star hr (ac (sv 3) (ac (sv 4) (ac (sv 5) (a_nil)))))) (gn 6 nd)) (cs_cons (c_if (t_not (q_tru (gl_call h__law_sets_right hr (ac (sv 1) (ac (sv 3) (ac (sv 4) (ac (x_sl (gl_call h__law_shuffled hr (ac (sv 1) (ac (sv 6) (a_nil)))) (o_none) (o_some (gl_call h__law_draw hr (ac (sv 1) (ac (k_int) (a_nil)))))) (a_nil)))))))) (cs_cons (c_ret (k_bl)) (cs_nil)) (cs_nil)) (cs_nil)))))) (cs_cons (c_ret (u_and (gl_call h__law_sets_right hr (ac (sv 1) (ac (k_int) (ac (k_int) (ac (s_new (f_lst (ac (s_tup (ac (k_int) (ac (k_int) (a_nil)))) (ac (s_tup (ac (k_int) (ac (k_int) (a_nil)))) (ac (s_tup (ac (k_int) (ac (k_int) (a_nil)))) (a_nil)))))) (a_nil)))))) (u_and (gl_call h__law_sets_right hr (ac (sv 1) (ac (k_int) (ac (k_int) (ac (s_new (f_lst (ac (s_tup (ac (k_int) (ac (k_int) (a_nil)))) (ac (s_tup (ac (k_int) (ac (k_int) (a_nil)))) (a_nil))))) (a_nil)))))) (u_one (u_not (is_no i_PairError fr_isinstance (sv 1))))))) (cs_nil)))
end
end LK
end
section
set_option Elab.async false
set_option linter.all false
set_option maxRecDepth 100000
namespace Z
/-! ### plain laws of what the parts compute -/
/-- φ at these data gives d, the tape stays -/
def Pu (φ : Fn) (xs : List D) (d : D) : Prop := ∀ τ, φ xs τ = .ok d τ
theorem seq_nx {a b : SM} {env e : Env} {τ τ1 : Tape} (h : a env τ = .ok (.nx e) τ1) : mSeq a b env τ = b e τ1 := by
  unfold mSeq; rw [h]; rfl
theorem seq_ret {a b : SM} {env : Env} {d : D} {τ τ1 : Tape} (h : a env τ = .ok (.ret d) τ1) : mSeq a b env τ = .ok (.ret d) τ1 := by
  unfold mSeq; rw [h]; rfl
theorem set_ok {t : Tgt} {a : M D} {env e : Env} {d : D} {τ τ1 : Tape} (h : a env τ = .ok d τ1) (hb : bindT t d env = some e) : mSet t a env τ = .ok (.nx e) τ1 := by
  unfold mSet; rw [h]
  show (R.of (bindT t d env) τ1).bind _ = _
  rw [hb]; rfl
theorem drop_ok {a : M D} {env : Env} {d : D} {τ τ1 : Tape} (h : a env τ = .ok d τ1) : mDrop a env τ = .ok (.nx env) τ1 := by
  unfold mDrop; rw [h]; rfl
theorem ret_ok {a : M D} {env : Env} {d : D} {τ τ1 : Tape} (hw : wholeE env = true) (h : a (unown env) τ = .ok d τ1) : mRetS a env τ = .ok (.ret d) τ1 := by
  unfold mRetS; rw [if_pos hw, h]; rfl
theorem if_t {c : M Bool} {a b : SM} {env : Env} {τ τ1 : Tape} (hw : wholeE env = true) (h : c (unown env) τ = .ok true τ1) : mIfS c a b env τ = a env τ1 := by
  unfold mIfS mLendT; rw [if_pos hw, h]; rfl
theorem if_f {c : M Bool} {a b : SM} {env : Env} {τ τ1 : Tape} (hw : wholeE env = true) (h : c (unown env) τ = .ok false τ1) : mIfS c a b env τ = b env τ1 := by
  unfold mIfS mLendT; rw [if_pos hw, h]; rfl
theorem runB_nx {N : Nat} {m : SM} {ds : List D} {e : Env} {τ τ1 : Tape} (h : m (env0 N ds) τ = .ok (.nx e) τ1) : runB N m ds τ = .ok .non τ1 := by
  unfold runB; rw [h]; rfl
theorem runB_ret {N : Nat} {m : SM} {ds : List D} {d : D} {τ τ1 : Tape} (h : m (env0 N ds) τ = .ok (.ret d) τ1) : runB N m ds τ = .ok d τ1 := by
  unfold runB; rw [h]; rfl
theorem for_ok {mi : M (List D)} {t : Tgt} {b : SM} {env : Env} {ds : List D} {τ τ1 : Tape} (h : mi env τ = .ok ds τ1) : mFor mi t b env τ = forGo t b ds env τ1 := by
  unfold mFor; rw [h]; rfl
/-- a for, its body runs through each time -/
theorem forGo_ind {t : Tgt} {b : SM} {τ : Tape} (I : List D → Env → Prop) : ∀ (ds done : List D) (env : Env), I done env →
    (∀ pre d rest env, done ++ ds = pre ++ d :: rest → I pre env → ∃ env1 e2, bindT t d env = some env1 ∧ b env1 τ = .ok (.nx e2) τ ∧ I (pre ++ [d]) e2) → ∃ e, forGo t b ds env τ = .ok (.nx e) τ ∧ I (done ++ ds) e
  | [], done, env, h0, _ => ⟨env, rfl, by rw [List.append_nil]; exact h0⟩
  | d :: ds, done, env, h0, h => by
    obtain ⟨env1, e2, h1, h2, h3⟩ := h done d ds env rfl h0
    obtain ⟨e, h4, h5⟩ := forGo_ind I ds (done ++ [d]) e2 h3 fun pre d' rest env' q i => h pre d' rest env' (by rw [← q]; simp) i
    refine ⟨e, ?_, by simpa using h5⟩
    unfold forGo
    rw [h1]
    show (b env1 τ).bind _ = _
    rw [h2]
    exact h4
/-- a for that leaves no trace -/
theorem forGo_keep {t : Tgt} {b : SM} {τ : Tape} {I : Env → Prop} {ds : List D} {env : Env} (h0 : I env) (h : ∀ d ∈ ds, ∀ env, I env → ∃ env1 e2, bindT t d env = some env1 ∧ b env1 τ = .ok (.nx e2) τ ∧ I e2) : ∃ e, forGo t b ds env τ = .ok (.nx e) τ ∧ I e := by
  obtain ⟨e, h1, h2⟩ := forGo_ind (t := t) (b := b) (τ := τ) (fun _ env => I env) ds [] env h0 fun pre d rest env q i => h d (by rw [List.nil_append] at q; rw [q]; simp) env i
  exact ⟨e, h1, h2⟩
theorem lcGo_pure {t : Tgt} {mt : M Bool} {me : M D} {env : Env} {p : D → Bool} {f : D → D} {τ : Tape} : ∀ {ds : List D}, (∀ d ∈ ds, ∃ env1, bindT t d env = some env1 ∧ mt env1 τ = .ok (p d) τ ∧ (p d = true → me env1 τ = .ok (f d) τ)) → lcGo t mt me env ds τ = .ok ((ds.filter p).map f) τ
  | [], _ => rfl
  | d :: ds, h => by
    obtain ⟨env1, h1, h2, h3⟩ := h d List.mem_cons_self
    have ih := lcGo_pure (ds := ds) fun x hx => h x (List.mem_cons_of_mem _ hx)
    unfold lcGo
    rw [h1]
    dsimp only
    rw [h2]
    show (if p d = true then _ else _) = _
    by_cases hp : p d = true
    · rw [if_pos hp, h3 hp]
      show (lcGo t mt me env ds τ).bind _ = _
      rw [ih, List.filter_cons, if_pos hp]
      rfl
    · rw [if_neg hp, ih, List.filter_cons, if_neg hp]
theorem lc_ok {vs : List Nat} {mi : M (List D)} {t : Tgt} {mt : M Bool} {me : M D} {env : Env} {ds ys : List D} {τ : Tape} (h : mi env τ = .ok ds τ) (hl : ds.length ≤ line) (hg : lcGo t mt me (wipeE env vs) ds τ = .ok ys τ) : mLc vs mi t mt me env τ = .ok ys τ := by
  unfold mLc; rw [h]
  show (if ds.length ≤ line then _ else _) = _
  rw [if_pos hl, hg]
/-- closed facts of each item of a list -/
theorem all_of_map {α β : Type} {L : List α} {f g : α → β} (h : L.map f = L.map g) : ∀ a ∈ L, f a = g a := List.map_inj_left.mp h
end Z
end
section
set_option Elab.async false
set_option linter.all false
set_option maxRecDepth 100000
namespace Z
theorem atI_nat {α : Type} {xs : List α} {k : Nat} {d : α} (h : xs[k]? = some d) : L2.atI xs (k : Int) = some d := by
  have hk := (List.getElem?_eq_some_iff.mp h).1
  unfold L2.atI L2.ixN
  rw [if_pos (by omega), if_pos (by omega)]
  show xs[(k : Int).toNat]? = some d
  rw [Int.toNat_natCast]; exact h
theorem dIx_nat {xs : List D} {k : Nat} {d : D} (h : xs[k]? = some d) : dIx (.lst xs) (.int (k : Int)) = some d := atI_nat h
theorem dIx_natT {xs : List D} {k : Nat} {d : D} (h : xs[k]? = some d) : dIx (.tup xs) (.int (k : Int)) = some d := atI_nat h
theorem cut_to {ds : List D} {k : Nat} (h : k ≤ ds.length) : dSl (.lst ds) none (some (k : Int)) = some (.lst (ds.take k)) := by
  show some (D.lst ((ds.drop 0).take (HT.sIx ds.length ds.length (some (k : Int)) - 0))) = _
  rw [HT.sIx_nat, Nat.min_eq_left h]; rfl
theorem ofL_ok0 {f : List D → Option (List D)} {ms : M (List D)} {env : Env} {xs zs : List D} {τ τ1 : Tape} (ha : ms env τ = .ok xs τ1) (h : f xs = some zs) : mOfL f ms env τ = .ok zs τ1 := by
  unfold mOfL; rw [ha]
  show R.of (f xs) τ1 = _
  rw [h]; rfl
theorem enumD_append (x : D) : ∀ (ds : List D) (k : Nat), enumD k (ds ++ [x]) = enumD k ds ++ [.tup [.int ((k + ds.length : Nat) : Int), x]]
  | [], k => rfl
  | d :: ds, k => by
    show D.tup [.int k, d] :: enumD (k + 1) (ds ++ [x]) = _
    rw [enumD_append x ds (k + 1)]
    show _ = D.tup [.int k, d] :: (enumD (k + 1) ds ++ [_])
    rw [List.length_cons, show k + 1 + ds.length = k + (ds.length + 1) from by omega]
/-- for i, d in enumerate(ds), its body runs through each time -/
theorem for_enumK {i j : Nat} {b : SM} {τ : Tape} (I : Nat → Env → Prop) (ds0 : List D) : ∀ (ds : List D) (k : Nat) (env : Env), I k env →
    (∀ k' d env, ds[k' - k]? = some d → k ≤ k' → I k' env → ∃ e2, b ((env.set i (some (.val (.int (k' : Int))))).set j (some (.val d))) τ = .ok (.nx e2) τ ∧ I (k' + 1) e2) → ∃ e, forGo (.tp [.nm i, .nm j]) b (enumD k ds) env τ = .ok (.nx e) τ ∧ I (k + ds.length) e
  | [], k, env, h0, _ => ⟨env, rfl, h0⟩
  | d :: ds, k, env, h0, h => by
    obtain ⟨e2, h1, h2⟩ := h k d env (by rw [Nat.sub_self]; rfl) (Nat.le_refl _) h0
    obtain ⟨e, h3, h4⟩ := for_enumK I ds0 ds (k + 1) e2 h2 fun k' d' env' q l i => h k' d' env' (by
      rw [show k' - k = (k' - (k + 1)) + 1 from by omega]; exact q) (by omega) i
    refine ⟨e, ?_, by rw [List.length_cons, show k + (ds.length + 1) = k + 1 + ds.length from by omega]; exact h4⟩
    unfold enumD forGo
    show (b ((env.set i (some (.val (.int (k : Int))))).set j (some (.val d))) τ).bind _ = _
    rw [h1]
    exact h3
theorem for_enum {i j : Nat} {b : SM} {τ : Tape} (I : Nat → Env → Prop) {ds : List D} {env : Env} (h0 : I 0 env) (h : ∀ k d env, ds[k]? = some d → I k env → ∃ e2, b ((env.set i (some (.val (.int (k : Int))))).set j (some (.val d))) τ = .ok (.nx e2) τ ∧ I (k + 1) e2) :
    ∃ e, forGo (.tp [.nm i, .nm j]) b (enumD 0 ds) env τ = .ok (.nx e) τ ∧ I ds.length e := by
  obtain ⟨e, h1, h2⟩ := for_enumK (i := i) (j := j) (b := b) (τ := τ) I ds ds 0 env h0 fun k d env q _ i => h k d env (by simpa using q) i
  exact ⟨e, h1, by simpa using h2⟩
/-- the numbers of the items that keep q -/
def idx (q : D → Bool) : Nat → List D → List D
  | _, [] => []
  | k, d :: ds => if q d then .int k :: idx q (k + 1) ds else idx q (k + 1) ds
theorem idx_len (q : D → Bool) : ∀ (ds : List D) (k : Nat), (idx q k ds).length = (ds.filter q).length
  | [], _ => rfl
  | d :: ds, k => by
    unfold idx
    rw [List.filter_cons]
    split
    · rw [List.length_cons, List.length_cons, idx_len q ds]
    · exact idx_len q ds _
theorem idx_mem {q : D → Bool} : ∀ {ds : List D} {k : Nat} {x : D}, x ∈ idx q k ds ↔ ∃ i d, ds[i]? = some d ∧ q d = true ∧ x = .int ((k + i : Nat) : Int)
  | [], k, x => by simp [idx]
  | d :: ds, k, x => by
    unfold idx
    constructor
    · intro h
      by_cases hq : q d = true
      · rw [if_pos hq] at h
        rcases List.mem_cons.mp h with h | h
        · exact ⟨0, d, rfl, hq, h⟩
        · obtain ⟨i, d', h1, h2, h3⟩ := idx_mem.mp h
          exact ⟨i + 1, d', h1, h2, by rw [h3, show k + (i + 1) = k + 1 + i from by omega]⟩
      · rw [if_neg hq] at h
        obtain ⟨i, d', h1, h2, h3⟩ := idx_mem.mp h
        exact ⟨i + 1, d', h1, h2, by rw [h3, show k + (i + 1) = k + 1 + i from by omega]⟩
    · rintro ⟨i, d', h1, h2, h3⟩
      cases i with
      | zero =>
        cases (show d = d' from by simpa using h1)
        rw [if_pos h2]
        exact List.mem_cons.mpr (.inl h3)
      | succ i =>
        have : x ∈ idx q (k + 1) ds := idx_mem.mpr ⟨i, d', by simpa using h1, h2, by rw [h3, show k + (i + 1) = k + 1 + i from by omega]⟩
        split
        · exact List.mem_cons_of_mem _ this
        · exact this
/-- [i for i, d in enumerate(ds) if q] -/
theorem lc_enum {i j : Nat} {mt : M Bool} {me : M D} {env : Env} {q : D → Bool} {τ : Tape} : ∀ {ds : List D} {k : Nat}, (∀ k d, d ∈ ds → mt ((env.set i (some (.val (.int (k : Int))))).set j (some (.val d))) τ = .ok (q d) τ ∧ me ((env.set i (some (.val (.int (k : Int))))).set j (some (.val d))) τ = .ok (.int (k : Int)) τ) → lcGo (.tp [.nm i, .nm j]) mt me env (enumD k ds) τ = .ok (idx q k ds) τ
  | [], _, _ => rfl
  | d :: ds, k, h => by
    obtain ⟨h1, h2⟩ := h k d List.mem_cons_self
    have ih := lc_enum (i := i) (j := j) (mt := mt) (me := me) (env := env) (q := q) (τ := τ) (ds := ds) (k := k + 1) fun k x hx => h k x (List.mem_cons_of_mem _ hx)
    unfold enumD lcGo idx
    show ((mt ((env.set i (some (.val (.int (k : Int))))).set j (some (.val d))) τ).nx.bind _) = _
    rw [h1]
    show (if q d = true then _ else _) = _
    by_cases hq : q d = true
    · rw [if_pos hq, if_pos hq, h2]
      show (lcGo _ mt me env _ τ).bind _ = _
      rw [ih]; rfl
    · rw [if_neg hq, if_neg hq]; exact ih
theorem enum_ok {i : Nat} {env : Env} {ds : List D} {τ : Tape} (h : env[i]? = some (some (.val (.lst ds)))) : mOfL fEnum (mCons (mVar i) mNil) env τ = .ok (enumD 0 ds) τ := by
  refine ofL_ok0 (xs := [.lst ds]) ?_ rfl
  unfold mCons mVar
  rw [h]; rfl
theorem enumT_ok {i : Nat} {env : Env} {ds : List D} {τ : Tape} (h : env[i]? = some (some (.val (.tup ds)))) : mOfL fEnum (mCons (mVar i) mNil) env τ = .ok (enumD 0 ds) τ := by
  refine ofL_ok0 (xs := [.tup ds]) ?_ rfl
  unfold mCons mVar
  rw [h]; rfl
theorem okDs_of {n : Nat} : ∀ {ds : List D}, (∀ d ∈ ds, okD n d = true) → okDs n ds = true
  | [], _ => by simp [okDs]
  | d :: ds, h => by
    simp only [okDs, Bool.and_eq_true]
    exact ⟨h d List.mem_cons_self, okDs_of fun x hx => h x (List.mem_cons_of_mem _ hx)⟩
theorem memD_false {x : D} : ∀ {ds : List D}, (∀ d ∈ ds, deq d x = false) → memD x ds = false
  | [], _ => rfl
  | d :: ds, h => by
    show (deq d x || memD x ds) = false
    rw [h d List.mem_cons_self, memD_false fun y hy => h y (List.mem_cons_of_mem _ hy)]; rfl
theorem memD_true {x d : D} : ∀ {ds : List D}, d ∈ ds → deq d x = true → memD x ds = true
  | e :: ds, h, q => by
    show (deq e x || memD x ds) = true
    rcases List.mem_cons.mp h with h | h
    · rw [← h, q]; rfl
    · rw [memD_true h q, Bool.or_true]
theorem dIn_ok {x : D} {ds : List D} (hx : okD 60 x = true) (hd : okDs 59 ds = true) : dIn false x (.lst ds) = some (.bl (memD x ds)) := by
  show (if (okD 60 x && okDs 59 ds) = true then some (D.bl (memD x ds)) else none) = _
  rw [hx, hd]; rfl
theorem dEq_ok {x y : D} (hx : okD 60 x = true) (hy : okD 60 y = true) : dEq x y = some (.bl (deq x y)) := by
  unfold dEq
  rw [hx, hy]; rfl
theorem dNe_ok {x y : D} (hx : okD 60 x = true) (hy : okD 60 y = true) : dNe x y = some (.bl (!deq x y)) := by
  unfold dNe
  rw [hx, hy]; rfl
theorem drop_fn {n : Nat} {φ : Fn} {ms : M (List D)} {env : Env} {xs : List D} {d : D} {τ : Tape} (hm : ms env τ = .ok xs τ) (hn : (xs ++ []).length = n) (h : Pu φ xs d) : mDrop (mFn n φ [] ms) env τ = .ok (.nx env) τ := by
  refine drop_ok (d := d) ?_
  unfold mFn
  rw [hm]
  show (if (xs ++ []).length = n then φ (xs ++ []) τ else .fail) = _
  rw [if_pos hn, List.append_nil]; exact h τ
theorem fn_ok {n : Nat} {φ : Fn} {ms : M (List D)} {env : Env} {xs : List D} {d : D} {τ : Tape} (hm : ms env τ = .ok xs τ) (hn : (xs ++ []).length = n) (h : Pu φ xs d) : mFn n φ [] ms env τ = .ok d τ := by
  unfold mFn
  rw [hm]
  show (if (xs ++ []).length = n then φ (xs ++ []) τ else .fail) = _
  rw [if_pos hn, List.append_nil]; exact h τ
theorem tst_ok {a : M D} {env : Env} {d : D} {b : Bool} {τ τ1 : Tape} (h : a env τ = .ok d τ1) (hb : dTru d = some b) : mTst a env τ = .ok b τ1 := by
  unfold mTst
  rw [h]
  show R.of (dTru d) τ1 = _
  rw [hb]; rfl
theorem notT_ok {a : M Bool} {env : Env} {b : Bool} {τ τ1 : Tape} (h : a env τ = .ok b τ1) : mNotT a env τ = .ok (!b) τ1 := by
  unfold mNotT; rw [h]; rfl
theorem or_f {a b : M Bool} {env : Env} {τ τ1 : Tape} (h : a env τ = .ok false τ1) : mOrT a b env τ = b env τ1 := by
  unfold mOrT; rw [h]; rfl
theorem or_t {a b : M Bool} {env : Env} {τ τ1 : Tape} (h : a env τ = .ok true τ1) : mOrT a b env τ = .ok true τ1 := by
  unfold mOrT; rw [h]; rfl
theorem and_t {a b : M Bool} {env : Env} {τ τ1 : Tape} (h : a env τ = .ok true τ1) : mAndT a b env τ = b env τ1 := by
  unfold mAndT; rw [h]; rfl
theorem and_f {a b : M Bool} {env : Env} {τ τ1 : Tape} (h : a env τ = .ok false τ1) : mAndT a b env τ = .ok false τ1 := by
  unfold mAndT; rw [h]; rfl
theorem bl_ok {a : M D} {env : Env} {b : Bool} {τ τ1 : Tape} (h : a env τ = .ok (.bl b) τ1) : mBl a env τ = .ok b τ1 := by
  unfold mBl; rw [h]; rfl
theorem m2_ok {f : D → D → Option D} {a b : M D} {env : Env} {x y z : D} {τ τ1 τ2 : Tape} (ha : a env τ = .ok x τ1) (hb : b env τ1 = .ok y τ2) (h : f x y = some z) : m2 f a b env τ = .ok z τ2 := by
  unfold m2; rw [ha]
  show ((b env τ1).bind _) = _
  rw [hb]
  show R.of (f x y) τ2 = _
  rw [h]; rfl
theorem m1_ok {f : D → Option D} {a : M D} {env : Env} {x z : D} {τ τ1 : Tape} (ha : a env τ = .ok x τ1) (h : f x = some z) : m1 f a env τ = .ok z τ1 := by
  unfold m1; rw [ha]
  show R.of (f x) τ1 = _
  rw [h]; rfl
theorem call_ok {f : List D → Option D} {ms : M (List D)} {env : Env} {xs : List D} {z : D} {τ τ1 : Tape} (ha : ms env τ = .ok xs τ1) (h : f xs = some z) : mCall f ms env τ = .ok z τ1 := by
  unfold mCall; rw [ha]
  show R.of (f xs) τ1 = _
  rw [h]; rfl
theorem lst_ok {ms : M (List D)} {env : Env} {xs : List D} {τ τ1 : Tape} (ha : ms env τ = .ok xs τ1) : mLst ms env τ = .ok (.lst xs) τ1 := by
  unfold mLst; rw [ha]; rfl
theorem cons_ok {a : M D} {ms : M (List D)} {env : Env} {x : D} {xs : List D} {τ τ1 τ2 : Tape} (ha : a env τ = .ok x τ1) (h : ms env τ1 = .ok xs τ2) : mCons a ms env τ = .ok (x :: xs) τ2 := by
  unfold mCons; rw [ha]
  show (ms env τ1).bind _ = _
  rw [h]; rfl
theorem tup_ok {ms : M (List D)} {env : Env} {xs : List D} {τ τ1 : Tape} (ha : ms env τ = .ok xs τ1) (hl : xs.length ≤ line) : mTup ms env τ = .ok (.tup xs) τ1 := by
  unfold mTup; rw [ha]
  show (if xs.length ≤ line then _ else _) = _
  rw [if_pos hl]
theorem items_ok {a : M D} {env : Env} {d : D} {xs : List D} {τ τ1 : Tape} (ha : a env τ = .ok d τ1) (h : itemsOf d = some xs) : mItems a env τ = .ok xs τ1 := by
  unfold mItems; rw [ha]
  show R.of (itemsOf d) τ1 = _
  rw [h]; rfl
theorem ofL_ok {f : List D → Option (List D)} {ms : M (List D)} {env : Env} {xs zs : List D} {τ τ1 : Tape} (ha : ms env τ = .ok xs τ1) (h : f xs = some zs) : mOfL f ms env τ = .ok zs τ1 := by
  unfold mOfL; rw [ha]
  show R.of (f xs) τ1 = _
  rw [h]; rfl
theorem callF_ok {f : List D → Option (List D)} {ms : M (List D)} {env : Env} {xs zs : List D} {τ τ1 : Tape} (ha : ms env τ = .ok xs τ1) (h : f xs = some zs) : mCallF f ms env τ = .ok zs τ1 := by
  unfold mCallF; rw [ha]
  show R.of (f xs) τ1 = _
  rw [h]; rfl
theorem not_ok {a : M D} {env : Env} {d : D} {b : Bool} {τ τ1 : Tape} (h : a env τ = .ok d τ1) (hb : dTru d = some b) : mNot a env τ = .ok (.bl (!b)) τ1 := by
  unfold mNot; rw [h]
  show R.of ((dTru d).map _) τ1 = _
  rw [hb]; rfl
theorem lend_ok {a : M Bool} {env : Env} {b : Bool} {τ τ1 : Tape} (hw : wholeE env = true) (h : a (unown env) τ = .ok b τ1) : mLendT a env τ = .ok b τ1 := by
  unfold mLendT; rw [if_pos hw, h]; rfl
theorem all_bl {ds : List D} (h : ∀ d ∈ ds, d = .bl true) : fAll [.lst ds] = some (.bl true) := by
  have : ∀ ds : List D, (∀ d ∈ ds, d = .bl true) → ∃ bs, boolsOf ds = some bs ∧ bs.all id = true := by
    intro ds
    induction ds with
    | nil => exact fun _ => ⟨[], rfl, rfl⟩
    | cons d ds ih =>
      intro h
      obtain ⟨bs, h1, h2⟩ := ih fun x hx => h x (List.mem_cons_of_mem _ hx)
      rw [h d List.mem_cons_self]
      exact ⟨true :: bs, by show (boolsOf ds).map _ = _; rw [h1]; rfl, by simpa using h2⟩
  obtain ⟨bs, h1, h2⟩ := this ds h
  show (boolsOf ds).map _ = _
  rw [h1]
  show some (D.bl (bs.all id)) = _
  rw [h2]
theorem any_bl {ds : List D} (h : ∀ d ∈ ds, d = .bl false) : fAny [.lst ds] = some (.bl false) := by
  have : ∀ ds : List D, (∀ d ∈ ds, d = .bl false) → ∃ bs, boolsOf ds = some bs ∧ bs.any id = false := by
    intro ds
    induction ds with
    | nil => exact fun _ => ⟨[], rfl, rfl⟩
    | cons d ds ih =>
      intro h
      obtain ⟨bs, h1, h2⟩ := ih fun x hx => h x (List.mem_cons_of_mem _ hx)
      rw [h d List.mem_cons_self]
      exact ⟨false :: bs, by show (boolsOf ds).map _ = _; rw [h1]; rfl, by simpa using h2⟩
  obtain ⟨bs, h1, h2⟩ := this ds h
  show (boolsOf ds).map _ = _
  rw [h1]
  show some (D.bl (bs.any id)) = _
  rw [h2]
/-- [f d for d in ds] -/
theorem lc_map {i : Nat} {me : M D} {env : Env} {f : D → D} {τ : Tape} : ∀ {ds : List D}, (∀ d ∈ ds, me (env.set i (some (.val d))) τ = .ok (f d) τ) → lcGo (.nm i) (mRet true) me env ds τ = .ok (ds.map f) τ
  | [], _ => rfl
  | d :: ds, h => by
    have ih := lc_map (i := i) (me := me) (env := env) (f := f) (τ := τ) (ds := ds) fun x hx => h x (List.mem_cons_of_mem _ hx)
    unfold lcGo
    show ((me (env.set i (some (.val d))) τ).nx.bind _) = _
    rw [h d List.mem_cons_self]
    show (lcGo _ _ me env ds τ).bind _ = _
    rw [ih]; rfl
/-- [d for d in ds if q] -/
theorem lc_filter {i : Nat} {mt : M Bool} {me : M D} {env : Env} {q : D → Bool} {τ : Tape} : ∀ {ds : List D}, (∀ d ∈ ds, mt (env.set i (some (.val d))) τ = .ok (q d) τ ∧ me (env.set i (some (.val d))) τ = .ok d τ) → lcGo (.nm i) mt me env ds τ = .ok (ds.filter q) τ
  | [], _ => rfl
  | d :: ds, h => by
    obtain ⟨h1, h2⟩ := h d List.mem_cons_self
    have ih := lc_filter (i := i) (mt := mt) (me := me) (env := env) (q := q) (τ := τ) (ds := ds) fun x hx => h x (List.mem_cons_of_mem _ hx)
    unfold lcGo
    show ((mt (env.set i (some (.val d))) τ).nx.bind _) = _
    rw [h1]
    show (if q d = true then _ else _) = _
    rw [List.filter_cons]
    by_cases hq : q d = true
    · rw [if_pos hq, if_pos hq, h2]
      show (lcGo _ mt me env ds τ).bind _ = _
      rw [ih]; rfl
    · rw [if_neg hq, if_neg hq]; exact ih
end Z
end
section
set_option Elab.async false
set_option linter.all false
set_option maxRecDepth 100000
namespace Z
/-- a for that ends early or not -/
theorem forGo_ret {t : Tgt} {b : SM} {τ : Tape} (I : Nat → Env → Prop) (P : D → Prop) (Q : D → D → Prop) (N : Nat) : ∀ (ds : List D) (n : Nat) (env : Env), I n env → n + ds.length ≤ N →
    (∀ d ∈ ds, ∀ n env, n < N → I n env → ∃ env1, bindT t d env = some env1 ∧ ((∃ e2, b env1 τ = .ok (.nx e2) τ ∧ I (n + 1) e2 ∧ P d) ∨ ∃ r, b env1 τ = .ok (.ret r) τ ∧ Q d r)) →
    (∃ e, forGo t b ds env τ = .ok (.nx e) τ ∧ I (n + ds.length) e ∧ ∀ d ∈ ds, P d) ∨ ∃ d ∈ ds, ∃ r, forGo t b ds env τ = .ok (.ret r) τ ∧ Q d r
  | [], n, env, h0, _, _ => .inl ⟨env, rfl, h0, fun _ h => nomatch h⟩
  | d :: ds, n, env, h0, hN, h => by
    rw [List.length_cons] at hN
    obtain ⟨env1, h1, h2⟩ := h d List.mem_cons_self n env (by omega) h0
    rcases h2 with ⟨e2, h2, h3, h4⟩ | ⟨r, h2, h3⟩
    · have e : forGo t b (d :: ds) env τ = forGo t b ds e2 τ := by
        rw [forGo, h1]
        show (b env1 τ).bind _ = _
        rw [h2]; rfl
      rw [e]
      rcases forGo_ret I P Q N ds (n + 1) e2 h3 (by omega) fun x hx => h x (List.mem_cons_of_mem _ hx) with ⟨e, a, b, c⟩ | ⟨x, hx, r, a, b⟩
      · refine .inl ⟨e, a, by rw [List.length_cons, show n + (ds.length + 1) = n + 1 + ds.length from by omega]; exact b, fun x hx => ?_⟩
        rcases List.mem_cons.mp hx with rfl | hx
        · exact h4
        · exact c x hx
      · exact .inr ⟨x, List.mem_cons_of_mem _ hx, r, a, b⟩
    · refine .inr ⟨d, List.mem_cons_self, r, ?_, h3⟩
      rw [forGo, h1]
      show (b env1 τ).bind _ = _
      rw [h2]; rfl
theorem forGo_step {t : Tgt} {b : SM} {d : D} {ds : List D} {env env1 e2 : Env} {τ τ1 : Tape} (h1 : bindT t d env = some env1) (h2 : b env1 τ = .ok (.nx e2) τ1) : forGo t b (d :: ds) env τ = forGo t b ds e2 τ1 := by
  rw [forGo, h1]
  show (b env1 τ).bind _ = _
  rw [h2]; rfl
/-- a side -/
def T (l : List Int) : D := .tup (l.map .int)
theorem deqs_ints : ∀ a b : List Int, deqs (a.map .int) (b.map .int) = decide (a = b)
  | [], [] => rfl
  | [], _ :: _ => rfl
  | _ :: _, [] => rfl
  | x :: a, y :: b => by
    show (deq (.int x) (.int y) && deqs (a.map .int) (b.map .int)) = _
    rw [deqs_ints a b]
    show ((x == y) && _) = _
    by_cases h1 : x = y <;> by_cases h2 : a = b <;> simp [h1, h2]
theorem deq_T (a b : List Int) : deq (T a) (T b) = decide (a = b) := deqs_ints a b
theorem okDs_ints (n : Nat) : ∀ a : List Int, okDs n (a.map .int) = true
  | [] => by simp [okDs]
  | x :: a => by
    show (okDs n (D.int x :: a.map .int)) = true
    simp only [okDs, okDs_ints n a, Bool.and_true]
    cases n <;> rfl
theorem ok_T (n : Nat) (a : List Int) : okD (n + 1) (T a) = true := okDs_ints n a
theorem toKey_ints : ∀ a : List Int, (toKey (a.map .int)).isSome = true
  | [] => rfl
  | x :: a => by
    show ((toKey (a.map D.int)).map _).isSome = true
    rw [Option.isSome_map]; exact toKey_ints a
def addK (K : List (List Int)) (k : List Int) : List (List Int) := if k ∈ K then K else K ++ [k]
theorem put_T (K : List (List Int)) (vs : List D) (k : List Int) (v : D) : ∃ vs', putD (K.map T) vs (T k) v = .dic ((addK K k).map T) vs' := by
  unfold putD addK
  have e : ((K.map T).any fun x => deq x (T k)) = decide (k ∈ K) := by
    rw [List.any_map]
    by_cases h : k ∈ K
    · rw [decide_eq_true h, List.any_eq_true]
      exact ⟨k, h, by show deq (T k) (T k) = true; rw [deq_T]; simp⟩
    · rw [decide_eq_false h, List.any_eq_false]
      intro x hx
      show ¬ deq (T x) (T k) = true
      rw [deq_T, decide_eq_true_iff]
      intro q; exact h (q ▸ hx)
  rw [e]
  by_cases h : k ∈ K
  · rw [if_pos (decide_eq_true h), if_pos h]; exact ⟨_, rfl⟩
  · rw [if_neg (by rw [decide_eq_false h]; decide), if_neg h, List.map_append]; exact ⟨_, rfl⟩
theorem addK_len (K : List (List Int)) (k : List Int) : (addK K k).length ≤ K.length + 1 := by
  unfold addK; split
  · omega
  · simp
theorem addK_nodup {K : List (List Int)} {k : List Int} (h : K.Nodup) : (addK K k).Nodup := by
  unfold addK; split
  · exact h
  · rename_i q
    rw [List.nodup_append]
    exact ⟨h, by simp, fun a ha b hb => by rcases List.mem_singleton.mp hb with rfl; intro e; exact q (e ▸ ha)⟩
theorem addK_mem {K : List (List Int)} {k x : List Int} : x ∈ addK K k ↔ x ∈ K ∨ x = k := by
  unfold addK; split
  · rename_i q
    exact ⟨.inl, fun h => h.elim id fun e => e ▸ q⟩
  · simp
theorem foldK_mem {α : Type} {f : α → List Int} {x : List Int} : ∀ {l : List α} {K : List (List Int)}, x ∈ l.foldl (fun K a => addK K (f a)) K ↔ x ∈ K ∨ ∃ a ∈ l, x = f a
  | [], K => by simp
  | a :: l, K => by
    rw [List.foldl_cons, foldK_mem, addK_mem]
    simp [or_assoc]
theorem foldK_nodup {α : Type} {f : α → List Int} : ∀ {l : List α} {K : List (List Int)}, K.Nodup → (l.foldl (fun K a => addK K (f a)) K).Nodup
  | [], K, h => h
  | a :: l, K, h => foldK_nodup (l := l) (addK_nodup h)
theorem foldK_len {α : Type} {f : α → List Int} : ∀ {l : List α} {K : List (List Int)}, (l.foldl (fun K a => addK K (f a)) K).length ≤ K.length + l.length
  | [], K => by simp
  | a :: l, K => by
    have h1 := foldK_len (f := f) (l := l) (K := addK K (f a))
    have h2 := addK_len K (f a)
    rw [List.foldl_cons, List.length_cons]; omega
theorem sortOk_of {l : List D} (h1 : ∀ d ∈ l, okD 58 d = true) (h2 : l.length ≤ line) (h3 : ∀ d ∈ l, ∀ e ∈ l, PySem.W.alike (toP d) (toP e) = true) (h4 : (∀ d ∈ l, tup1 d = true) ∨ (l.length ≤ 1 ∧ ∀ d ∈ l, isNon d = false)) : sortOk l = true := by
  unfold sortOk
  rw [okDs_of h1, decide_eq_true h2, List.all_eq_true.mpr fun d hd => List.all_eq_true.mpr fun e he => h3 d hd e he]
  rcases h4 with h4 | ⟨h4, h5⟩
  · rw [List.all_eq_true.mpr h4]; rfl
  · rw [decide_eq_true h4, show (l.all fun d => !isNon d) = true from List.all_eq_true.mpr fun d hd => by rw [h5 d hd]; rfl]
    simp
theorem ins_length {α : Type} (le : α → α → Bool) (x : α) : ∀ l : List α, (ins le x l).length = l.length + 1
  | [] => rfl
  | y :: l => by
    unfold ins; split
    · rfl
    · rw [List.length_cons, ins_length le x l]; rfl
theorem isort_len {α : Type} (le : α → α → Bool) : ∀ l : List α, (isort le l).length = l.length
  | [] => rfl
  | x :: l => by unfold isort; rw [ins_length, isort_len le l]; rfl
theorem nodup_le {α : Type} [DecidableEq α] : ∀ {xs ys : List α}, xs.Nodup → (∀ x ∈ xs, x ∈ ys) → xs.length ≤ ys.length
  | [], _, _, _ => Nat.zero_le _
  | x :: xs, ys, h, hs => by
    have hx := hs x List.mem_cons_self
    rw [List.nodup_cons] at h
    have := nodup_le (xs := xs) (ys := ys.erase x) h.2 fun y hy => by
      have hne : y ≠ x := fun e => h.1 (e ▸ hy)
      exact (List.mem_erase_of_ne hne).mpr (hs y (List.mem_cons_of_mem _ hy))
    rw [List.length_erase_of_mem hx] at this
    have := List.length_pos_of_mem hx
    rw [List.length_cons]; omega
theorem setK_ok {i : Nat} {mk : M (List D)} {ma : M D} {env : Env} {ks vs k : List D} {d : D} {τ τ1 τ2 : Tape} (h : env[i]? = some (some (.own (.dic ks vs)))) (ha : ma env τ = .ok d τ1) (hk : mk env τ1 = .ok k τ2) (h1 : (toKey k).isSome = true) (h2 : ks.length ≤ line) : mSetK i mk ma env τ = .ok (.nx (env.set i (some (.own (putD ks vs (.tup k) d))))) τ2 := by
  unfold mSetK
  rw [h]
  show (ma env τ).bind _ = _
  rw [ha]
  show (mk env τ1).bind _ = _
  rw [hk]
  show (if ((toKey k).isSome && decide (ks.length ≤ line)) = true then _ else _) = _
  rw [if_pos (by rw [h1, decide_eq_true h2]; rfl)]
theorem tupN_ok {ms : M (List D)} {env : Env} {xs : List D} {τ τ1 : Tape} (ha : ms env τ = .ok xs τ1) (hl : xs.length ≤ line) : mTupN ms env τ = .ok xs τ1 := by
  unfold mTupN; rw [ha]
  show (if xs.length ≤ line then _ else _) = _
  rw [if_pos hl]
theorem key_ok {a : M D} {env : Env} {xs : List D} {τ τ1 : Tape} (ha : a env τ = .ok (.lst xs) τ1) : mKey a env τ = .ok xs τ1 := by
  unfold mKey; rw [ha]; rfl
end Z
end
section
set_option Elab.async false
set_option linter.all false
set_option maxRecDepth 100000
set_option maxHeartbeats 0
namespace LK
open PySem Z
/-- unlike, laid flat -/
structure Dist (ds : List D) : Prop where
  ok : ∀ d ∈ ds, okD 58 d = true
  ok59 : ∀ d ∈ ds, okD 59 d = true
  ok60 : ∀ d ∈ ds, okD 60 d = true
  no : ∀ (k : Nat) (d : D), ds[k]? = some d → memD d (ds.take k) = false
theorem lenGt {ds : List D} (h : ds.length ≤ 24) : dGt (.int (ds.length : Int)) (.int 24) = some (.bl false) := by
  show some (D.bl (decide ((24 : Int) < (ds.length : Int)))) = _
  rw [decide_eq_false (by omega)]
theorem is_list_ok (ds : List D) : Pu φ_is_list [.lst ds] (.bl true) := fun τ => rfl
/-- the guard of a list of unlike things -/
theorem take_in {ds : List D} (h : Dist ds) {k : Nat} {d : D} (hk : ds[k]? = some d) : dIn false d (.lst (ds.take k)) = some (.bl false) := by
  rw [dIn_ok (h.ok60 d (List.mem_of_getElem? hk)) (okDs_of fun x hx => h.ok59 x (List.mem_of_mem_take hx)), h.no k d hk]
theorem need_sets_ok {p : Int} {ds : List D} (hp : Pu φ_need_places [.int p] .non) (hl : ds.length ≤ 24) (hs : ∀ d ∈ ds, Pu φ_is_side [.int p, d] (.bl true)) (hd : Dist ds) : Pu φ_need_sets [.int p, .lst ds] .non := fun τ => by
  obtain ⟨e, h1, _⟩ := for_enum (i := 2) (j := 3) (τ := τ) (ds := ds) (env := [some (.val (.int p)), some (.val (.lst ds)), none, none]) (b := mSeq (mIfS (mOrT (mNotT (mTst (mFn 2 φ_is_side [] (mCons (mVar 0) (mCons (mVar 3) (mNil)))))) (mBl (m2 (dIn false) (mVar 3) (mSl (mLst (mCallF fList (mCons (mVar 1) (mNil)))) (mNoP) (mPart (mVar 2)))))) (mSeq (mNo) (mNext)) (mNext)) (mNext))
    (fun _ env => ∃ x y, env = [some (.val (.int p)), some (.val (.lst ds)), x, y]) ⟨_, _, rfl⟩ fun k d env hk ⟨x, y, e⟩ => by
      subst e
      have hi := (List.getElem?_eq_some_iff.mp hk).1
      refine ⟨[some (.val (.int p)), some (.val (.lst ds)), some (.val (.int (k : Int))), some (.val d)], ?_, _, _, rfl⟩
      refine (seq_nx (e := [some (.val (.int p)), some (.val (.lst ds)), some (.val (.int (k : Int))), some (.val d)]) (τ1 := τ) ?_).trans rfl
      refine (if_f rfl ?_).trans rfl
      refine (or_f (notT_ok (tst_ok (fn_ok (cons_ok rfl (cons_ok rfl rfl)) rfl (hs d (List.mem_of_getElem? hk))) rfl))).trans ?_
      refine bl_ok (m2_ok (y := .lst (ds.take k)) rfl ?_ (take_in hd hk))
      show R.of (dSl (.lst ds) none (some (k : Int))) τ = _
      rw [cut_to (by omega)]; rfl
  refine runB_nx (N := 4) (m := m_need_sets) (e := e) ?_
  refine (seq_nx (drop_fn (cons_ok rfl rfl) rfl hp)).trans ?_
  refine (seq_nx (e := [some (.val (.int p)), some (.val (.lst ds)), none, none]) (τ1 := τ) ?_).trans ?_
  · refine (if_f rfl ?_).trans rfl
    refine (or_f (notT_ok (tst_ok (fn_ok (cons_ok rfl rfl) rfl (is_list_ok ds)) rfl))).trans ?_
    exact bl_ok (m2_ok (call_ok (cons_ok rfl rfl) rfl) rfl (lenGt hl))
  · exact (seq_nx ((for_ok (enum_ok rfl)).trans h1)).trans rfl
end LK
end
section
set_option Elab.async false
set_option linter.all false
set_option maxRecDepth 100000
set_option maxHeartbeats 0
namespace LK
open PySem Z
theorem dNe_self (z : Int) : dNe (.int z) (.int z) = some (.bl false) := by
  simp [dNe, okD, deq]
abbrev bLen : SM := mSeq (mIfS (mBl (m2 dNe (mCall fLen (mCons (mVar 4) (mNil))) (mVar 1))) (mSeq (mNo) (mNext)) (mNext)) (mNext)
theorem len_loop {p z : Int} {ds : List D} (hz : ∀ d ∈ ds, fLen [d] = some (.int z)) (τ : Tape) : ∃ e, forGo (.tp [.nm 3, .nm 4]) bLen (enumD 0 ds) [some (.val (.int p)), some (.val (.int z)), some (.val (.lst ds)), none, none] τ = .ok (.nx e) τ := by
  obtain ⟨e, h1, _⟩ := for_enum (i := 3) (j := 4) (τ := τ) (ds := ds) (env := [some (.val (.int p)), some (.val (.int z)), some (.val (.lst ds)), none, none]) (b := bLen)
    (fun _ env => ∃ x y, env = [some (.val (.int p)), some (.val (.int z)), some (.val (.lst ds)), x, y]) ⟨_, _, rfl⟩ fun k d env hk ⟨x, y, e⟩ => by
      subst e
      refine ⟨[some (.val (.int p)), some (.val (.int z)), some (.val (.lst ds)), some (.val (.int (k : Int))), some (.val d)], ?_, _, _, rfl⟩
      refine (seq_nx (e := [some (.val (.int p)), some (.val (.int z)), some (.val (.lst ds)), some (.val (.int (k : Int))), some (.val d)]) (τ1 := τ) ?_).trans rfl
      refine (if_f rfl ?_).trans rfl
      exact bl_ok (m2_ok (call_ok (cons_ok rfl rfl) (hz d (List.mem_of_getElem? hk))) rfl (dNe_self z))
  exact ⟨e, h1⟩
theorem need_arcs_ok {p z : Int} {ds : List D} (ha : Pu φ_need_arc_size [.int p, .int z] .non) (hn : Pu φ_need_sets [.int p, .lst ds] .non) (hz : ∀ d ∈ ds, fLen [d] = some (.int z)) : Pu φ_need_arcs [.int p, .int z, .lst ds] .non := fun τ => by
  obtain ⟨e, h1⟩ := len_loop (p := p) hz τ
  refine runB_nx (N := 5) (m := m_need_arcs) (e := e) ?_
  refine (seq_nx (drop_fn (cons_ok rfl (cons_ok rfl rfl)) rfl ha)).trans ?_
  refine (seq_nx (drop_fn (cons_ok rfl (cons_ok rfl rfl)) rfl hn)).trans ?_
  exact (seq_nx ((for_ok (enum_ok rfl)).trans h1)).trans rfl
theorem need_sized_ok {p z : Int} {ds : List D} (hp : Pu φ_need_places [.int p] .non) (hb : Pu φ_is_between [.int z, .int 1, .int p] (.bl true)) (hn : Pu φ_need_sets [.int p, .lst ds] .non) (hz : ∀ d ∈ ds, fLen [d] = some (.int z)) : Pu φ_need_sized [.int p, .int z, .lst ds] .non := fun τ => by
  obtain ⟨e, h1⟩ := len_loop (p := p) hz τ
  refine runB_nx (N := 5) (m := m_need_sized) (e := e) ?_
  refine (seq_nx (drop_fn (cons_ok rfl rfl) rfl hp)).trans ?_
  refine (seq_nx (e := [some (.val (.int p)), some (.val (.int z)), some (.val (.lst ds)), none, none]) (τ1 := τ) ?_).trans ?_
  · exact (if_f rfl (notT_ok (tst_ok (fn_ok (cons_ok rfl (cons_ok rfl (cons_ok rfl rfl))) rfl hb) rfl))).trans rfl
  refine (seq_nx (drop_fn (cons_ok rfl (cons_ok rfl rfl)) rfl hn)).trans ?_
  exact (seq_nx ((for_ok (enum_ok rfl)).trans h1)).trans rfl
theorem need_pairs_ok {p : Int} {ds : List D} (hl : ds.length ≤ 24) (hs : ∀ d ∈ ds, Pu φ_is_pair [.int p, d] (.bl true)) (hd : Dist ds) : Pu φ_need_pairs [.int p, .lst ds] .non := fun τ => by
  obtain ⟨e, h1, _⟩ := for_enum (i := 2) (j := 3) (τ := τ) (ds := ds) (env := [some (.val (.int p)), some (.val (.lst ds)), none, none]) (b := mSeq (mIfS (mOrT (mNotT (mTst (mFn 2 φ_is_pair [] (mCons (mVar 0) (mCons (mVar 3) (mNil)))))) (mBl (m2 (dIn false) (mVar 3) (mSl (mLst (mCallF fList (mCons (mVar 1) (mNil)))) (mNoP) (mPart (mVar 2)))))) (mSeq (mNo) (mNext)) (mNext)) (mNext))
    (fun _ env => ∃ x y, env = [some (.val (.int p)), some (.val (.lst ds)), x, y]) ⟨_, _, rfl⟩ fun k d env hk ⟨x, y, e⟩ => by
      subst e
      have hi := (List.getElem?_eq_some_iff.mp hk).1
      refine ⟨[some (.val (.int p)), some (.val (.lst ds)), some (.val (.int (k : Int))), some (.val d)], ?_, _, _, rfl⟩
      refine (seq_nx (e := [some (.val (.int p)), some (.val (.lst ds)), some (.val (.int (k : Int))), some (.val d)]) (τ1 := τ) ?_).trans rfl
      refine (if_f rfl ?_).trans rfl
      refine (or_f (notT_ok (tst_ok (fn_ok (cons_ok rfl (cons_ok rfl rfl)) rfl (hs d (List.mem_of_getElem? hk))) rfl))).trans ?_
      refine bl_ok (m2_ok (y := .lst (ds.take k)) rfl ?_ (take_in hd hk))
      show R.of (dSl (.lst ds) none (some (k : Int))) τ = _
      rw [cut_to (by omega)]; rfl
  refine runB_nx (N := 4) (m := m_need_pairs) (e := e) ?_
  refine (seq_nx (e := [some (.val (.int p)), some (.val (.lst ds)), none, none]) (τ1 := τ) ?_).trans ?_
  · refine (if_f rfl ?_).trans rfl
    refine (or_f (notT_ok (tst_ok (fn_ok (cons_ok rfl rfl) rfl (is_list_ok ds)) rfl))).trans ?_
    exact bl_ok (m2_ok (call_ok (cons_ok rfl rfl) rfl) rfl (lenGt hl))
  · exact (seq_nx ((for_ok (enum_ok rfl)).trans h1)).trans rfl
/-- a family of these pairs -/
abbrev famD (p : Int) (ds : List D) : D := .ins 0 [.int p, .tup ds]
theorem ido_fn {n : Nat} {φ : Fn} {ms : M (List D)} {env : Z.Env} {xs : List D} {d : D} {τ : Tape} (hm : ms env τ = .ok xs τ) (hn : (xs ++ []).length = n) (h : Pu φ xs d) : iDo (mFn n φ [] ms) env τ = .ok env τ := by
  unfold iDo
  rw [fn_ok hm hn h]; rfl
theorem iseq {a b : IM} {env e : Z.Env} {τ τ1 : Tape} (h : a env τ = .ok e τ1) : iSeq2 a b env τ = b e τ1 := by
  unfold iSeq2; rw [h]; rfl
theorem init_ok {p : Int} {ds : List D} (hp : Pu φ_need_places [.int p] .non) (hn : Pu φ_need_pairs [.int p, .lst ds] .non) : Pu φ_Family___init__ [.int p, .lst ds] (famD p ds) := fun τ => by
  show (m_Family___init__ [some (.own (.ins 0 [])), some (.val (.int p)), some (.val (.lst ds))] τ).bind _ = _
  have e : m_Family___init__ [some (.own (.ins 0 [])), some (.val (.int p)), some (.val (.lst ds))] τ = .ok [some (.own (famD p ds)), some (.val (.int p)), some (.val (.lst ds))] τ := by
    refine (iseq (ido_fn (cons_ok rfl rfl) rfl hp)).trans ?_
    refine (iseq (ido_fn (cons_ok rfl (cons_ok rfl rfl)) rfl hn)).trans ?_
    rfl
  rw [e]
  rfl
theorem sets_family_ok {p : Int} {ds : List D} {o : D → D} (hn : Pu φ_need_sets [.int p, .lst ds] .non) (hl : ds.length ≤ 24) (ho : ∀ d ∈ ds, Pu φ_others_of [.int p, d] (o d)) (hi : Pu φ_Family___init__ [.int p, .lst (ds.map fun d => .tup [d, o d])] (famD p (ds.map fun d => .tup [d, o d]))) : Pu φ_sets_family [.int p, .lst ds] (famD p (ds.map fun d => .tup [d, o d])) := fun τ => by
  refine runB_ret (N := 3) (m := m_sets_family) ?_
  refine (seq_nx (drop_fn (cons_ok rfl (cons_ok rfl rfl)) rfl hn)).trans ?_
  refine seq_ret (ret_ok rfl ?_)
  refine fn_ok (cons_ok rfl (cons_ok (lst_ok (lc_ok (items_ok rfl rfl) (Nat.le_trans hl (by decide)) (lc_map (f := fun d => .tup [d, o d]) fun d hd => ?_))) rfl)) rfl hi
  exact tup_ok (cons_ok rfl (cons_ok (fn_ok (cons_ok rfl (cons_ok rfl rfl)) rfl (ho d hd)) rfl)) (show 2 ≤ 1000000 by decide)
theorem is_antichain_ok {p : Int} {ds ks : List D} (hn : Pu φ_need_sets [.int p, .lst ds] .non) (hk : Pu φ_unlike_keys [.int (ds.length : Int)] (.lst ks)) (hl : ks.length ≤ line) (hw : ∀ k ∈ ks, ∃ (i j : Nat) (c d : D), k = .tup [.int (i : Int), .int (j : Int)] ∧ ds[i]? = some c ∧ ds[j]? = some d ∧ Pu φ_is_within_side [c, d] (.bl false)) : Pu φ_is_antichain [.int p, .lst ds] (.bl true) := fun τ => by
  refine runB_ret (N := 4) (m := m_is_antichain) ?_
  refine (seq_nx (drop_fn (cons_ok rfl (cons_ok rfl rfl)) rfl hn)).trans ?_
  refine seq_ret (ret_ok rfl ?_)
  refine not_ok (d := .bl false) (b := false) (call_ok (cons_ok (lst_ok (lc_ok (ds := ks) (ys := (ks.filter fun _ => true).map fun _ => .bl false) (items_ok (fn_ok (cons_ok (call_ok (cons_ok rfl rfl) rfl) rfl) rfl hk) rfl) hl (lcGo_pure (p := fun _ => true) (f := fun _ => .bl false) fun k hk => ?_))) rfl) ?_) rfl
  · obtain ⟨i, j, c, d, rfl, hi, hj, h⟩ := hw k hk
    refine ⟨_, rfl, rfl, fun _ => ?_⟩
    exact fn_ok (cons_ok (m2_ok rfl rfl (dIx_nat hi)) (cons_ok (m2_ok rfl rfl (dIx_nat hj)) rfl)) rfl h
  · refine any_bl fun d hd => ?_
    obtain ⟨_, _, e⟩ := List.mem_map.mp hd
    exact e.symm
end LK
end
section
set_option Elab.async false
set_option linter.all false
set_option maxRecDepth 100000
set_option maxHeartbeats 0
namespace LK
open PySem Z
theorem lc_two {i : Nat} {me : Z.M D} {env : Z.Env} {x y x' y' : D} {τ : Tape} (h1 : me (env.set i (some (.val x))) τ = .ok x' τ) (h2 : me (env.set i (some (.val y))) τ = .ok y' τ) : lcGo (.nm i) (mRet true) me env [x, y] τ = .ok [x', y'] τ := by
  unfold lcGo
  show ((me (env.set i (some (.val x))) τ).nx.bind _) = _
  rw [h1]
  unfold lcGo
  show (((me (env.set i (some (.val y))) τ).nx.bind _).bind _) = _
  rw [h2]
  rfl
theorem fam_pairs (p : Int) (ds : List D) : Pu φ_Family_pairs [famD p ds] (.tup ds) := fun τ => rfl
theorem fam_many (p : Int) (ds : List D) : Pu φ_Family_many [famD p ds] (.int (ds.length : Int)) := fun τ => rfl
theorem fam_places (p : Int) (ds : List D) : Pu φ_Family_places [famD p ds] (.int p) := fun τ => rfl
theorem need_fk (p : Int) (ds : List D) : Pu φ_need_family_kind [famD p ds, .str "both"] .non := fun τ => by kernel_rfl
theorem fnOf1_ok {φ : Fn} {ma : Z.M D} {env : Z.Env} {p : Int} {ds : List D} {d : D} {τ : Tape} (ha : ma env τ = .ok (famD p ds) τ) (h : Pu φ [famD p ds] d) : fnOf1 0 φ ma env τ = .ok d τ := by
  unfold fnOf1
  rw [ha]
  exact h τ
theorem methD_ok {φ : Fn} {ma : Z.M D} {env : Z.Env} {p : Int} {ds : List D} {d : D} {τ : Tape} (ha : ma env τ = .ok (famD p ds) τ) (h : Pu φ [famD p ds] d) : mMeth 0 1 φ ma (mRet []) env τ = .ok d τ := by
  unfold mMeth
  rw [ha]
  exact h τ
theorem right_places_ok {p : Int} {ds : List D} {i j : Nat} {a b c d x : D} (hi : ds[i]? = some (.tup [a, b])) (hj : ds[j]? = some (.tup [c, d])) (hc : Pu φ_common_of [a, d] x) : Pu φ_right_places [famD p ds, .str "both", .tup [.int (i : Int), .int (j : Int)]] x := fun τ => by
  refine runB_ret (N := 7) (m := m_right_places) ?_
  refine (seq_nx (e := [some (.val (famD p ds)), some (.val (.str "both")), some (.val (.tup [.int (i : Int), .int (j : Int)])), some (.val (.tup [a, b])), some (.val (.tup [c, d])), none, none]) (τ1 := τ) (set_ok (d := .lst [.tup [a, b], .tup [c, d]]) (lst_ok (lc_ok (items_ok rfl rfl) (by exact (show 2 ≤ 1000000 by decide)) (lc_two ?_ ?_))) rfl)).trans ?_
  · exact m2_ok (fnOf1_ok rfl (fam_pairs p ds)) rfl (dIx_natT hi)
  · exact m2_ok (fnOf1_ok rfl (fam_pairs p ds)) rfl (dIx_natT hj)
  refine (seq_nx (set_ok (fn_ok (cons_ok rfl (cons_ok rfl rfl)) rfl hc) rfl)).trans ?_
  exact seq_ret (ret_ok (d := x) (τ1 := τ) rfl (by kernel_rfl))
theorem is_of_kind_ok {p : Int} {ds ks : List D} (hk : Pu φ_keys_of [.int (ds.length : Int), .str "both"] (.lst ks)) (hw : ∀ k ∈ ks, ∃ x xs, Pu φ_right_places [famD p ds, .str "both", k] (.tup (x :: xs)) ∧ okD 60 (.tup (x :: xs)) = true) : Pu φ_is_of_kind [famD p ds, .str "both"] (.bl true) := fun τ => by
  refine runB_ret (N := 2) (m := m_is_of_kind) ?_
  refine (seq_nx (drop_fn (cons_ok rfl (cons_ok rfl rfl)) rfl (need_fk p ds))).trans ?_
  refine seq_ret (ret_ok rfl (m2_ok (fn_ok (cons_ok rfl (cons_ok rfl rfl)) rfl (d := .non) ?_) rfl rfl))
  intro τ
  refine runB_ret (N := 3) (m := m_first_failing) ?_
  obtain ⟨e, h1, x, rfl⟩ := forGo_keep (t := .nm 2) (τ := τ) (ds := ks) (env := [some (.val (famD p ds)), some (.val (.str "both")), none]) (b := mSeq (mIfS (mBl (m2 dEq (mFn 3 φ_right_places [] (mCons (mVar 0) (mCons (mVar 1) (mCons (mVar 2) (mNil))))) (mTup (mNil)))) (mSeq (mRetS (mVar 2)) (mNext)) (mNext)) (mNext))
    (I := fun env => ∃ x : Option D, env = [some (.val (famD p ds)), some (.val (.str "both")), x.map Slot.val]) ⟨none, rfl⟩ fun k hk env ⟨x, e⟩ => by
      subst e
      obtain ⟨x, xs, h, ho⟩ := hw k hk
      refine ⟨[some (.val (famD p ds)), some (.val (.str "both")), some (.val k)], [some (.val (famD p ds)), some (.val (.str "both")), some (.val k)], rfl, ?_, some k, rfl⟩
      refine (seq_nx (e := [some (.val (famD p ds)), some (.val (.str "both")), some (.val k)]) (τ1 := τ) ?_).trans rfl
      refine (if_f rfl ?_).trans rfl
      exact bl_ok (m2_ok (fn_ok (cons_ok rfl (cons_ok rfl (cons_ok rfl rfl))) rfl h) rfl (dEq_ok ho rfl))
  refine (seq_nx ((for_ok (items_ok (fn_ok (cons_ok (methD_ok rfl (fam_many p ds)) (cons_ok rfl rfl)) rfl hk) rfl)).trans h1)).trans ?_
  refine seq_ret (ret_ok ?_ rfl)
  cases x <;> rfl
theorem arcs_among_ok {p z : Int} {ds ar : List D} {o : D} (hn : Pu φ_need_arcs [.int p, .int z, .lst ds] .non) (hr : Pu φ_is_round [.int p, o] (.bl true)) (ha : Pu φ_arcs_by [o, .int z] (.lst ar)) (hl : ds.length ≤ 24) (h60 : ∀ d ∈ ds, okD 60 d = true) (hk : okDs 59 ar = true) : Pu φ_arcs_among [.int p, .int z, .lst ds, o] (.tup (idx (fun d => memD d ar) 0 ds)) := fun τ => by
  refine runB_ret (N := 7) (m := m_arcs_among) ?_
  refine (seq_nx (drop_fn (cons_ok rfl (cons_ok rfl (cons_ok rfl rfl))) rfl hn)).trans ?_
  refine (seq_nx (e := [some (.val (.int p)), some (.val (.int z)), some (.val (.lst ds)), some (.val o), none, none, none]) (τ1 := τ) ?_).trans ?_
  · exact (if_f rfl (notT_ok (tst_ok (fn_ok (cons_ok rfl (cons_ok rfl rfl)) rfl hr) rfl))).trans rfl
  refine (seq_nx (set_ok (fn_ok (cons_ok rfl (cons_ok rfl rfl)) rfl ha) rfl)).trans ?_
  refine seq_ret (ret_ok rfl ?_)
  refine call_ok (cons_ok (lst_ok (lc_ok (enum_ok rfl) (by rw [enumD_length]; exact Nat.le_trans hl (by decide)) (lc_enum fun k d hd => ⟨?_, rfl⟩))) rfl) rfl
  exact bl_ok (m2_ok rfl rfl (dIn_ok (h60 d hd) hk))
theorem parted_by_ok {p : Int} {ds : List D} {o : D} {q : D → Bool} (hr : Pu φ_need_order [.int p, o] .non) (hl : ds.length ≤ 24) (hq : ∀ d ∈ ds, Pu φ_parts_by [o, d] (.bl (q d))) : Pu φ_parted_by [famD p ds, o] (.tup (idx q 0 ds)) := fun τ => by
  refine runB_ret (N := 4) (m := m_parted_by) ?_
  refine (seq_nx (e := [some (.val (famD p ds)), some (.val o), none, none]) (τ1 := τ) rfl).trans ?_
  refine (seq_nx (drop_fn (cons_ok (fnOf1_ok rfl (fam_places p ds)) (cons_ok rfl rfl)) rfl hr)).trans ?_
  refine seq_ret (ret_ok rfl ?_)
  refine call_ok (cons_ok (lst_ok (lc_ok (ofL_ok0 (xs := [.tup ds]) (cons_ok (fnOf1_ok rfl (fam_pairs p ds)) rfl) rfl) (by rw [enumD_length]; exact Nat.le_trans hl (by decide)) (lc_enum fun k d hd => ⟨?_, rfl⟩))) rfl) rfl
  exact tst_ok (fn_ok (cons_ok rfl (cons_ok rfl rfl)) rfl (hq d hd)) rfl
abbrev bMA : SM := mSeq (mSet (.nm 5) (mFn 2 φ_arcs_by [] (mCons (mVar 4) (mCons (mVar 1) (mNil))))) (mSeq (mSet (.nm 3) (mCall fMax2 (mCons (mVar 3) (mCons (mCall fLen (mCons (mLst (mLc [6] (mItems (mVar 2)) (.nm 6) (mBl (m2 (dIn false) (mVar 6) (mVar 5))) (mVar 6))) (mNil))) (mNil))))) (mNext))
theorem most_arcs_ok {p z B : Int} {ds os : List D} (hB : 0 ≤ B) (hn : Pu φ_need_arcs [.int p, .int z, .lst ds] .non) (ho : Pu φ_round_orders_by [.int p] (.lst os)) (hl : ds.length ≤ 24) (h60 : ∀ d ∈ ds, okD 60 d = true) (h : ∀ o ∈ os, ∃ ar, Pu φ_arcs_by [o, .int z] (.lst ar) ∧ okDs 59 ar = true ∧ ((ds.filter fun d => memD d ar).length : Int) ≤ B) (τ : Tape) : ∃ m : Int, m ≤ B ∧ φ_most_arcs [.int p, .int z, .lst ds] τ = .ok (.int m) τ := by
  obtain ⟨e, h1, m, x, y, hm, rfl⟩ := forGo_keep (t := .nm 4) (τ := τ) (ds := os) (env := [some (.val (.int p)), some (.val (.int z)), some (.val (.lst ds)), some (.val (.int 0)), none, none, none]) (b := bMA)
    (I := fun env => ∃ (m : Int) (x y : Option D), m ≤ B ∧ env = [some (.val (.int p)), some (.val (.int z)), some (.val (.lst ds)), some (.val (.int m)), x.map Slot.val, y.map Slot.val, none]) ⟨0, none, none, hB, rfl⟩ fun o hoo env ⟨m, x, y, hm, e⟩ => by
      subst e
      obtain ⟨ar, ha, hk, hc⟩ := h o hoo
      refine ⟨[some (.val (.int p)), some (.val (.int z)), some (.val (.lst ds)), some (.val (.int m)), some (.val o), y.map Slot.val, none], [some (.val (.int p)), some (.val (.int z)), some (.val (.lst ds)), some (.val (.int (if ((ds.filter fun d => memD d ar).length : Int) > m then ((ds.filter fun d => memD d ar).length : Int) else m))), some (.val o), some (.val (.lst ar)), none], rfl, ?_, _, some o, some (.lst ar), ?_, rfl⟩
      · refine (seq_nx (e := [some (.val (.int p)), some (.val (.int z)), some (.val (.lst ds)), some (.val (.int m)), some (.val o), some (.val (.lst ar)), none]) (τ1 := τ) (set_ok (fn_ok (cons_ok rfl (cons_ok rfl rfl)) rfl ha) rfl)).trans ?_
        refine (seq_nx (set_ok (call_ok (cons_ok rfl (cons_ok (call_ok (cons_ok (lst_ok (lc_ok (ys := ds.filter fun d => memD d ar) (items_ok rfl rfl) (Nat.le_trans hl (by decide)) (lc_filter fun d hd => ⟨?_, rfl⟩))) rfl) rfl) rfl)) rfl) rfl)).trans rfl
        exact bl_ok (m2_ok rfl rfl (dIn_ok (h60 d hd) hk))
      · split <;> assumption
  refine ⟨m, hm, runB_ret (N := 7) (m := m_most_arcs) ?_⟩
  refine (seq_nx (drop_fn (cons_ok rfl (cons_ok rfl (cons_ok rfl rfl))) rfl hn)).trans ?_
  refine (seq_nx (set_ok (d := .int 0) (e := [some (.val (.int p)), some (.val (.int z)), some (.val (.lst ds)), some (.val (.int 0)), none, none, none]) (τ1 := τ) rfl rfl)).trans ?_
  refine (seq_nx ((for_ok (items_ok (fn_ok (cons_ok rfl rfl) rfl ho) rfl)).trans h1)).trans ?_
  refine seq_ret (ret_ok ?_ ?_)
  · cases x <;> cases y <;> rfl
  · cases x <;> cases y <;> rfl
end LK
end
section
set_option Elab.async false
set_option linter.all false
set_option maxRecDepth 100000
set_option maxHeartbeats 0
namespace LK
open PySem Z
abbrev bMeet : SM := mSeq (mSet (.nm 6) (mFn 2 φ_common_of [] (mCons (m2 dIx (mVar 2) (mVar 4)) (mCons (m2 dIx (mVar 2) (mVar 5)) (mNil))))) (mSeq (mIfS (mBl (m2 dEq (mVar 6) (mTup (mNil)))) (mSeq (mRetS (mTup (mCons (mRet (.str "apart")) (mCons (mVar 4) (mCons (mVar 5) (mCons (mFn 3 φ_round_with [] (mCons (mVar 0) (mCons (m2 dIx (mVar 2) (mVar 4)) (mCons (m2 dIx (mVar 2) (mVar 5)) (mNil))))) (mNil))))))) (mNext)) (mNext)) (mSeq (mSetK 3 (mTupN (mCons (mVar 4) (mCons (mVar 5) (mNil)))) (m2 dIx (mVar 6) (mRet (.int 0)))) (mNext)))
theorem putD_dic (ks vs : List D) (k v : D) : ∃ ks' vs', putD ks vs k v = .dic ks' vs' ∧ ks'.length ≤ ks.length + 1 := by
  unfold putD
  split
  · exact ⟨_, _, rfl, by omega⟩
  · exact ⟨_, _, rfl, by simp⟩
theorem meeting_ok {p z : Int} {ds ks : List D} {com : D → D → List Int} {rnd : D → D → D} (hn : Pu φ_need_arcs [.int p, .int z, .lst ds] .non) (hk : Pu φ_rising_keys [.int (ds.length : Int)] (.lst ks)) (hl : ks.length ≤ 1000)
    (hc : ∀ k ∈ ks, ∃ (i j : Nat) (c d : D), k = .tup [.int (i : Int), .int (j : Int)] ∧ ds[i]? = some c ∧ ds[j]? = some d ∧ Pu φ_common_of [c, d] (T (com c d)) ∧ (com c d = [] → Pu φ_round_with [.int p, c, d] (rnd c d))) (τ : Tape) :
    (∃ ks' vs', φ_meeting_paper [.int p, .int z, .lst ds] τ = .ok (.tup [.str "meet", .dic ks' vs']) τ ∧ ∀ k ∈ ks, ∃ (i j : Nat) (c d : D), k = .tup [.int (i : Int), .int (j : Int)] ∧ ds[i]? = some c ∧ ds[j]? = some d ∧ com c d ≠ []) ∨
    (∃ (i j : Nat) (c d : D), D.tup [.int (i : Int), .int (j : Int)] ∈ ks ∧ ds[i]? = some c ∧ ds[j]? = some d ∧ com c d = [] ∧ φ_meeting_paper [.int p, .int z, .lst ds] τ = .ok (.tup [.str "apart", .int (i : Int), .int (j : Int), rnd c d]) τ) := by
  have L := forGo_ret (t := .tp [.nm 4, .nm 5]) (b := bMeet) (τ := τ) (fun n env => ∃ ks' vs' x y w, ks'.length ≤ n ∧ env = [some (.val (.int p)), some (.val (.int z)), some (.val (.lst ds)), some (.own (.dic ks' vs')), Option.map Slot.val x, Option.map Slot.val y, Option.map Slot.val w])
    (fun k => ∃ (i j : Nat) (c d : D), k = .tup [.int (i : Int), .int (j : Int)] ∧ ds[i]? = some c ∧ ds[j]? = some d ∧ com c d ≠ [])
    (fun k r => ∃ (i j : Nat) (c d : D), k = .tup [.int (i : Int), .int (j : Int)] ∧ ds[i]? = some c ∧ ds[j]? = some d ∧ com c d = [] ∧ r = .tup [.str "apart", .int (i : Int), .int (j : Int), rnd c d]) 1000 ks 0
    [some (.val (.int p)), some (.val (.int z)), some (.val (.lst ds)), some (.own (.dic [] [])), none, none, none] ⟨[], [], none, none, none, Nat.le_refl _, rfl⟩ (by omega) fun k hk n env hN ⟨ks', vs', x, y, w, hks, e⟩ => by
      subst e
      obtain ⟨i, j, c, d, rfl, hi, hj, hcm, hr⟩ := hc k hk
      refine ⟨[some (.val (.int p)), some (.val (.int z)), some (.val (.lst ds)), some (.own (.dic ks' vs')), some (.val (.int (i : Int))), some (.val (.int (j : Int))), Option.map Slot.val w], rfl, ?_⟩
      have s1 : mSet (.nm 6) (mFn 2 φ_common_of [] (mCons (m2 dIx (mVar 2) (mVar 4)) (mCons (m2 dIx (mVar 2) (mVar 5)) (mNil)))) [some (.val (.int p)), some (.val (.int z)), some (.val (.lst ds)), some (.own (.dic ks' vs')), some (.val (.int (i : Int))), some (.val (.int (j : Int))), Option.map Slot.val w] τ = .ok (.nx [some (.val (.int p)), some (.val (.int z)), some (.val (.lst ds)), some (.own (.dic ks' vs')), some (.val (.int (i : Int))), some (.val (.int (j : Int))), some (.val (T (com c d)))]) τ :=
        set_ok (fn_ok (cons_ok (m2_ok rfl rfl (dIx_nat hi)) (cons_ok (m2_ok rfl rfl (dIx_nat hj)) rfl)) rfl hcm) rfl
      have q : dEq (T (com c d)) (.tup []) = some (.bl (decide (com c d = []))) := by
        rw [dEq_ok (ok_T 59 _) rfl, show D.tup [] = T [] from rfl, deq_T]
      by_cases he : com c d = []
      · refine .inr ⟨.tup [.str "apart", .int (i : Int), .int (j : Int), rnd c d], ?_, i, j, c, d, rfl, hi, hj, he, rfl⟩
        refine (seq_nx s1).trans ?_
        refine seq_ret ?_
        refine (if_t rfl (bl_ok (m2_ok rfl rfl (by rw [q, decide_eq_true he])))).trans ?_
        refine seq_ret (ret_ok rfl ?_)
        refine tup_ok (cons_ok rfl (cons_ok rfl (cons_ok rfl (cons_ok (fn_ok (cons_ok rfl (cons_ok (m2_ok rfl rfl (dIx_nat hi)) (cons_ok (m2_ok rfl rfl (dIx_nat hj)) rfl))) rfl (hr he)) rfl)))) (show 4 ≤ 1000000 by decide)
      · cases hm : com c d with
        | nil => exact absurd hm he
        | cons m ms =>
          obtain ⟨ks2, vs2, hp, hl2⟩ := putD_dic ks' vs' (.tup [.int (i : Int), .int (j : Int)]) (.int m)
          refine .inl ⟨[some (.val (.int p)), some (.val (.int z)), some (.val (.lst ds)), some (.own (.dic ks2 vs2)), some (.val (.int (i : Int))), some (.val (.int (j : Int))), some (.val (T (com c d)))], ?_, ⟨ks2, vs2, some _, some _, some _, by omega, rfl⟩, i, j, c, d, rfl, hi, hj, by rw [hm]; exact fun h => nomatch h⟩
          refine (seq_nx s1).trans ?_
          refine (seq_nx (e := [some (.val (.int p)), some (.val (.int z)), some (.val (.lst ds)), some (.own (.dic ks' vs')), some (.val (.int (i : Int))), some (.val (.int (j : Int))), some (.val (T (com c d)))]) (τ1 := τ) ((if_f rfl (bl_ok (m2_ok rfl rfl (by rw [q, decide_eq_false he])))).trans rfl)).trans ?_
          refine (seq_nx (e := [some (.val (.int p)), some (.val (.int z)), some (.val (.lst ds)), some (.own (.dic ks2 vs2)), some (.val (.int (i : Int))), some (.val (.int (j : Int))), some (.val (T (com c d)))]) (τ1 := τ) ?_).trans rfl
          refine (setK_ok (d := .int m) (k := [.int (i : Int), .int (j : Int)]) rfl (m2_ok (x := T (com c d)) (y := .int 0) rfl rfl (by rw [hm]; exact dIx_natT (xs := (m :: ms).map D.int) (k := 0) rfl)) (tupN_ok (cons_ok rfl (cons_ok rfl rfl)) (show 2 ≤ 1000000 by decide)) rfl (Nat.le_trans (by omega : ks'.length ≤ 1000) (by decide))).trans ?_
          rw [hp]; rfl
  have hf : mFor (mItems (mFn 1 φ_rising_keys [] (mCons (mCall fLen (mCons (mVar 2) (mNil))) (mNil)))) (.tp [.nm 4, .nm 5]) bMeet [some (.val (.int p)), some (.val (.int z)), some (.val (.lst ds)), some (.own (.dic [] [])), none, none, none] τ = forGo (.tp [.nm 4, .nm 5]) bMeet ks [some (.val (.int p)), some (.val (.int z)), some (.val (.lst ds)), some (.own (.dic [] [])), none, none, none] τ :=
    for_ok (items_ok (fn_ok (cons_ok (call_ok (cons_ok rfl rfl) rfl) rfl) rfl hk) rfl)
  have pre : m_meeting_paper [some (.val (.int p)), some (.val (.int z)), some (.val (.lst ds)), none, none, none, none] τ = (mSeq (mFor (mItems (mFn 1 φ_rising_keys [] (mCons (mCall fLen (mCons (mVar 2) (mNil))) (mNil)))) (.tp [.nm 4, .nm 5]) bMeet) (mSeq (mRetS (mTup (mCons (mRet (.str "meet")) (mCons (mVar 3) (mNil))))) (mNext))) [some (.val (.int p)), some (.val (.int z)), some (.val (.lst ds)), some (.own (.dic [] [])), none, none, none] τ :=
    (seq_nx (drop_fn (cons_ok rfl (cons_ok rfl (cons_ok rfl rfl))) rfl hn)).trans (seq_nx (e := [some (.val (.int p)), some (.val (.int z)), some (.val (.lst ds)), some (.own (.dic [] [])), none, none, none]) (τ1 := τ) rfl)
  rcases L with ⟨e, h1, ⟨ks', vs', x, y, w, _, rfl⟩, h2⟩ | ⟨k, hkm, r, h1, i, j, c, d, rfl, hi, hj, he, rfl⟩
  · refine .inl ⟨ks', vs', runB_ret (N := 7) (m := m_meeting_paper) ?_, h2⟩
    refine pre.trans ((seq_nx (hf.trans h1)).trans ?_)
    refine seq_ret (ret_ok ?_ ?_)
    · cases x <;> cases y <;> cases w <;> rfl
    · exact tup_ok (cons_ok rfl (cons_ok rfl rfl)) (show 2 ≤ 1000000 by decide)
  · refine .inr ⟨i, j, c, d, hkm, hi, hj, he, runB_ret (N := 7) (m := m_meeting_paper) ?_⟩
    exact pre.trans (seq_ret (hf.trans h1))
abbrev bSh : SM := mSeq (mSetK 1 (mKey (mLst (mLc [4] (mItems (mVar 2)) (.nm 4) (mBl (m2 dNe (mVar 4) (mVar 3))) (mVar 4)))) (mRet .non)) (mNext)
theorem dNe_int (x y : Int) : dNe (.int x) (.int y) = some (.bl (x != y)) := by
  simp [dNe, okD, deq, bne]
theorem filter_ints (x : Int) (l : List Int) : (l.map D.int).filter (fun d => match d with | .int y => y != x | _ => false) = (l.filter (· != x)).map D.int := by
  rw [List.filter_map]; rfl
abbrev keyF (l : List Int) (K : List (List Int)) : List (List Int) := l.foldl (fun K x => addK K (l.filter (· != x))) K
theorem sh_inner {ds : List D} {l : List Int} {τ : Tape} (hl : l.length ≤ 5) : ∀ (xs : List Int) (K : List (List Int)) (vs : List D) (x3 : Option D), K.length + xs.length ≤ 1000 → ∃ vs' x3', forGo (.nm 3) bSh (xs.map .int) [some (.val (.lst ds)), some (.own (.dic (K.map T) vs)), some (.val (T l)), Option.map Slot.val x3, none] τ = .ok (.nx [some (.val (.lst ds)), some (.own (.dic ((xs.foldl (fun K x => addK K (l.filter (· != x))) K).map T) vs')), some (.val (T l)), Option.map Slot.val x3', none]) τ
  | [], K, vs, x3, _ => ⟨vs, x3, rfl⟩
  | x :: xs, K, vs, x3, h => by
    rw [List.length_cons] at h
    obtain ⟨vs1, e1⟩ := put_T K vs (l.filter (· != x)) .non
    have hk := addK_len K (l.filter (· != x))
    obtain ⟨vs', x3', h2⟩ := sh_inner (ds := ds) (τ := τ) hl xs (addK K (l.filter (· != x))) vs1 (some (.int x)) (by omega)
    refine ⟨vs', x3', (forGo_step (t := .nm 3) (d := .int x) (ds := xs.map D.int) (env1 := [some (.val (.lst ds)), some (.own (.dic (K.map T) vs)), some (.val (T l)), some (.val (.int x)), none]) (τ1 := τ) rfl ?_).trans h2⟩
    refine (seq_nx (e := [some (.val (.lst ds)), some (.own (.dic ((addK K (l.filter (· != x))).map T) vs1)), some (.val (T l)), some (.val (.int x)), none]) (τ1 := τ) ?_).trans rfl
    refine (setK_ok (d := .non) (k := (l.filter (· != x)).map D.int) rfl rfl (key_ok (lst_ok (lc_ok (ds := l.map D.int) (items_ok rfl rfl) (by rw [List.length_map]; exact Nat.le_trans hl (by decide)) ?_))) (toKey_ints _) (by rw [List.length_map]; exact Nat.le_trans (by omega : K.length ≤ 1000) (by decide))).trans ?_
    · rw [← filter_ints]
      refine lc_filter fun d hd => ?_
      obtain ⟨y, _, rfl⟩ := List.mem_map.mp hd
      exact ⟨bl_ok (m2_ok rfl rfl (dNe_int y x)), rfl⟩
    · show R.ok (Out.nx [some (.val (.lst ds)), some (.own (putD (K.map T) vs (T (l.filter (· != x))) .non)), some (.val (T l)), some (.val (.int x)), none]) τ = _
      rw [e1]
theorem sh_outer {ds : List D} {τ : Tape} : ∀ (S : List (List Int)) (K : List (List Int)) (vs : List D) (x2 x3 : Option D), (∀ l ∈ S, l.length ≤ 5) → K.length + 5 * S.length ≤ 1000 → ∃ vs' x2' x3', forGo (.nm 2) (mSeq (mFor (mItems (mVar 2)) (.nm 3) bSh) (mNext)) (S.map T) [some (.val (.lst ds)), some (.own (.dic (K.map T) vs)), Option.map Slot.val x2, Option.map Slot.val x3, none] τ = .ok (.nx [some (.val (.lst ds)), some (.own (.dic ((S.foldl (fun K l => keyF l K) K).map T) vs')), Option.map Slot.val x2', Option.map Slot.val x3', none]) τ
  | [], K, vs, x2, x3, _, _ => ⟨vs, x2, x3, rfl⟩
  | l :: S, K, vs, x2, x3, hl, h => by
    rw [List.length_cons] at h
    have hl5 := hl l List.mem_cons_self
    have hk : (keyF l K).length ≤ K.length + l.length := foldK_len (f := fun x => l.filter (· != x)) (l := l) (K := K)
    obtain ⟨vs1, x31, h1⟩ := sh_inner (ds := ds) (τ := τ) hl5 l K vs x3 (by omega)
    obtain ⟨vs', x2', x3', h2⟩ := sh_outer (ds := ds) (τ := τ) S (keyF l K) vs1 (some (T l)) x31 (fun l h => hl l (List.mem_cons_of_mem _ h)) (by show (keyF l K).length + _ ≤ _; omega)
    refine ⟨vs', x2', x3', (forGo_step (t := .nm 2) (d := T l) (ds := S.map T) (env1 := [some (.val (.lst ds)), some (.own (.dic (K.map T) vs)), some (.val (T l)), Option.map Slot.val x3, none]) (τ1 := τ) rfl ?_).trans h2⟩
    exact (seq_nx ((for_ok (items_ok rfl rfl)).trans h1)).trans rfl
def keysOf (S : List (List Int)) : List (List Int) := S.foldl (fun K l => keyF l K) []
theorem shadow_ok {p z : Int} {S : List (List Int)} (hn : Pu φ_need_sized [.int p, .int z, .lst (S.map T)] .non) (hS : S.length ≤ 100) (hl : ∀ l ∈ S, l.length ≤ 5) (hs : sortOk ((keysOf S).map T) = true) : Pu φ_shadow [.int p, .int z, .lst (S.map T)] (.lst (isort dle ((keysOf S).map T))) := fun τ => by
  refine runB_ret (N := 3) (m := m_shadow) ?_
  refine (seq_nx (drop_fn (cons_ok rfl (cons_ok rfl (cons_ok rfl rfl))) rfl hn)).trans ?_
  refine seq_ret (ret_ok rfl (fn_ok (cons_ok rfl rfl) rfl ?_))
  intro τ
  obtain ⟨vs', x2, x3, h⟩ := sh_outer (ds := S.map T) (τ := τ) S [] [] none none hl (by show 0 + _ ≤ _; omega)
  refine runB_ret (N := 5) (m := m_shadow_by) ?_
  refine (seq_nx (e := [some (.val (.lst (S.map T))), some (.own (.dic [] [])), none, none, none]) (τ1 := τ) rfl).trans ?_
  refine (seq_nx ((for_ok (items_ok rfl rfl)).trans h)).trans ?_
  refine seq_ret (ret_ok (by cases x2 <;> cases x3 <;> rfl) (lst_ok ?_))
  show (if sortOk ((keysOf S).map T) = true then _ else _) = _
  rw [if_pos hs]; rfl
end LK
end
section
set_option Elab.async false
set_option linter.all false
set_option maxRecDepth 100000
set_option maxHeartbeats 0
namespace LK
open PySem Z
theorem log2_small {n : Nat} (h : n < 2 ^ 200) : n.log2 < 200 := by
  by_cases h0 : n = 0
  · subst h0; decide
  · exact (Nat.log2_lt h0).2 h
theorem mul_ok {i j : Int} (hi : i.natAbs < 2 ^ 200) (hj : j.natAbs < 2 ^ 200) : dMul (.int i) (.int j) = some (.int (i * j)) := by
  have h1 := log2_small hi
  have h2 := log2_small hj
  show (if i.natAbs.log2 + j.natAbs.log2 < 1000000 then some (D.int (i * j)) else none) = _
  rw [if_pos (by omega)]
theorem mod_ok {i j : Int} (hj : 0 < j) : dMod (.int i) (.int j) = some (.int (i % j)) := by
  show (if decide (0 < j) then some (D.int (i % j)) else none) = _
  rw [decide_eq_true hj]; rfl
theorem fdiv_ok {i j : Int} (hj : 0 < j) (h : j < 1073741824) : dFdiv (.int i) (.int j) = some (.int (i / j)) := by
  show (if (decide (0 < j) && decide (j < 1073741824)) then some (D.int (i / j)) else none) = _
  rw [decide_eq_true hj, decide_eq_true h]; rfl
theorem pow5_ok {i : Int} (h : i.natAbs < 2 ^ 64) : dPow (.int i) (.int 5) = some (.int (i ^ 5)) := by
  show (if (decide ((0 : Int) ≤ 5) && (decide ((5 : Int) ≤ 1000000) && decide (i.natAbs < 2 ^ 64))) then some (D.int (i ^ (5 : Int).toNat)) else none) = _
  rw [decide_eq_true h]; rfl
theorem small31 {b g : Int} (h0 : 0 ≤ b) (h1 : b < g) (hg : g < 2147483648) : b.natAbs < 2 ^ 64 ∧ b.natAbs < 2 ^ 200 := by
  have : b.natAbs < 2 ^ 64 := by omega
  exact ⟨this, Nat.lt_of_lt_of_le this (Nat.pow_le_pow_right (by decide) (by decide))⟩
abbrev bInner : SM := mSeq (mSet (.nm 4) (m2 dMod (m2 dAdd (m2 dMul (mVar 4) (mRet (.int 48271))) (mCall fInt (mCons (mVar 5) (mNil)))) (mVar 3))) (mNext)
theorem blend_inner {τ : Tape} {tn f gr : Int} (hg : 0 < gr) (hg2 : gr < 2147483648) : ∀ (cs : List Int) (b : Int) (x : Option Z.Slot), 0 ≤ b → b < gr → ∃ b' x', forGo (.nm 5) bInner (cs.map D.int) [some (.val .tape), some (.val (.int tn)), some (.val (.int f)), some (.val (.int gr)), some (.val (.int b)), x] τ = .ok (.nx [some (.val .tape), some (.val (.int tn)), some (.val (.int f)), some (.val (.int gr)), some (.val (.int b')), x']) τ ∧ 0 ≤ b' ∧ b' < gr ∧ (∀ d, x' = some (.own d) → x = some (.own d))
  | [], b, x, h0, h1 => ⟨b, x, rfl, h0, h1, fun d h => h⟩
  | c :: cs, b, x, h0, h1 => by
    have e : (m2 dMod (m2 dAdd (m2 dMul (mVar 4) (mRet (.int 48271))) (mCall fInt (mCons (mVar 5) (mNil)))) (mVar 3)) [some (.val .tape), some (.val (.int tn)), some (.val (.int f)), some (.val (.int gr)), some (.val (.int b)), some (.val (.int c))] τ = .ok (.int ((b * 48271 + c) % gr)) τ := by
      have q1 := mul_ok (i := b) (j := 48271) (small31 h0 h1 hg2).2 (by decide)
      have q2 := mod_ok (i := b * 48271 + c) hg
      simp only [m2, mVar, mRet, R.bind, List.getElem?_cons_succ, List.getElem?_cons_zero, q1, R.of]
      show ((R.of (dMod (.int (b * 48271 + c)) (.int gr)) τ)) = _
      rw [q2]; rfl
    obtain ⟨b', x', h3, h4, h5, h6⟩ := blend_inner (τ := τ) (tn := tn) (f := f) hg hg2 cs ((b * 48271 + c) % gr) (some (.val (.int c))) (Int.emod_nonneg _ (by omega)) (Int.emod_lt_of_pos _ hg)
    refine ⟨b', x', ?_, h4, h5, fun d h => nomatch (h6 d h)⟩
    rw [List.map_cons]
    unfold forGo
    show ((bInner [some (.val .tape), some (.val (.int tn)), some (.val (.int f)), some (.val (.int gr)), some (.val (.int b)), some (.val (.int c))] τ).bind _) = _
    rw [show bInner [some (.val .tape), some (.val (.int tn)), some (.val (.int f)), some (.val (.int gr)), some (.val (.int b)), some (.val (.int c))] τ = .ok (.nx [some (.val .tape), some (.val (.int tn)), some (.val (.int f)), some (.val (.int gr)), some (.val (.int ((b * 48271 + c) % gr))), some (.val (.int c))]) τ from by
      exact (seq_nx (set_ok e rfl)).trans rfl]
    exact h3
abbrev bOuter : SM := mSeq (mSet (.nm 4) (m2 dMod (m2 dAdd (m2 dMul (mVar 1) (mRet (.int 69621))) (m2 dFdiv (mVar 3) (mRet (.int 7)))) (mVar 3))) (mSeq (mFor (mItems (mTget .cells (mVar 0))) (.nm 5) bInner) (mSeq (mSet (.nm 2) (m2 dAdd (m2 dMul (mVar 2) (mRet (.int 2147483647))) (m2 dMod (m2 dPow (mVar 4) (mRet (.int 5))) (mVar 3)))) (mNext)))
theorem blend_step {τ : Tape} {tn f gr : Int} (x4 x5 : Option Z.Slot) (ht : 0 ≤ tn ∧ tn ≤ 1000000) (hf : f.natAbs < 2 ^ 100) (hg : 0 < gr) (hg2 : gr < 2147483648) :
    ∃ b' x' y, bOuter [some (.val .tape), some (.val (.int tn)), some (.val (.int f)), some (.val (.int gr)), x4, x5] τ = .ok (.nx [some (.val .tape), some (.val (.int tn)), some (.val (.int (f * 2147483647 + y))), some (.val (.int gr)), some (.val (.int b')), x']) τ ∧ 0 ≤ y ∧ y < 2147483648 ∧ (∀ d, x' = some (.own d) → x5 = some (.own d)) := by
  have q1 := mul_ok (i := tn) (j := 69621) (Nat.lt_of_lt_of_le (show tn.natAbs < 2 ^ 64 by omega) (Nat.pow_le_pow_right (by decide) (by decide))) (by decide)
  have q2 := fdiv_ok (i := gr) (j := 7) (by decide) (by decide)
  have q3 := mod_ok (i := tn * 69621 + gr / 7) hg
  have e : (m2 dMod (m2 dAdd (m2 dMul (mVar 1) (mRet (.int 69621))) (m2 dFdiv (mVar 3) (mRet (.int 7)))) (mVar 3)) [some (.val .tape), some (.val (.int tn)), some (.val (.int f)), some (.val (.int gr)), x4, x5] τ = .ok (.int ((tn * 69621 + gr / 7) % gr)) τ := by
    simp only [m2, mVar, mRet, R.bind, List.getElem?_cons_succ, List.getElem?_cons_zero, q1, q2, R.of]
    show ((R.of (dMod (.int (tn * 69621 + gr / 7)) (.int gr)) τ)) = _
    rw [q3]; rfl
  obtain ⟨b', x', h3, h4, h5, h6⟩ := blend_inner (τ := τ) (tn := tn) (f := f) hg hg2 τ.cells ((tn * 69621 + gr / 7) % gr) x5 (Int.emod_nonneg _ (by omega)) (Int.emod_lt_of_pos _ hg)
  have sm := small31 h4 h5 hg2
  have q4 := mul_ok (i := f) (j := 2147483647) (Nat.lt_of_lt_of_le hf (Nat.pow_le_pow_right (by decide) (by decide))) (by decide)
  have q5 := pow5_ok (i := b') sm.1
  have q6 := mod_ok (i := b' ^ 5) hg
  have e2 : (m2 dAdd (m2 dMul (mVar 2) (mRet (.int 2147483647))) (m2 dMod (m2 dPow (mVar 4) (mRet (.int 5))) (mVar 3))) [some (.val .tape), some (.val (.int tn)), some (.val (.int f)), some (.val (.int gr)), some (.val (.int b')), x'] τ = .ok (.int (f * 2147483647 + b' ^ 5 % gr)) τ := by
    simp only [m2, mVar, mRet, R.bind, List.getElem?_cons_succ, List.getElem?_cons_zero, q4, q5, R.of]
    rw [q6]; rfl
  refine ⟨b', x', b' ^ 5 % gr, ?_, Int.emod_nonneg _ (by omega), Int.lt_trans (Int.emod_lt_of_pos _ hg) hg2, h6⟩
  refine (seq_nx (set_ok e rfl)).trans ?_
  refine (seq_nx ((for_ok rfl).trans h3)).trans ?_
  exact (seq_nx (set_ok e2 rfl)).trans rfl
theorem blend_ok (τ : Tape) (ht : 0 ≤ τ.turn ∧ τ.turn + 1 ≤ 1000000) : ∃ v, 0 ≤ v ∧ φ__law_blend [.tape] τ = .ok (.int v) { τ with turn := τ.turn + 1 } := by
  obtain ⟨b1, x1, y1, e1, p1, q1, n1⟩ := blend_step (τ := { τ with turn := τ.turn + 1 }) (tn := τ.turn + 1) (f := 0) (gr := 2147483629) none none (by omega) (by decide) (by decide) (by decide)
  obtain ⟨b2, x2, y2, e2, p2, q2, n2⟩ := blend_step (τ := { τ with turn := τ.turn + 1 }) (tn := τ.turn + 1) (f := 0 * 2147483647 + y1) (gr := 2147483587) (some (.val (.int b1))) x1 (by omega) (by omega) (by decide) (by decide)
  obtain ⟨b3, x3, y3, e3, p3, q3, n3⟩ := blend_step (τ := { τ with turn := τ.turn + 1 }) (tn := τ.turn + 1) (f := (0 * 2147483647 + y1) * 2147483647 + y2) (gr := 2147483579) (some (.val (.int b2))) x2 (by omega) (by omega) (by decide) (by decide)
  refine ⟨((0 * 2147483647 + y1) * 2147483647 + y2) * 2147483647 + y3, by omega, ?_⟩
  refine runB_ret (N := 6) (m := m__law_blend) ?_
  have f1 : forGo (.nm 3) bOuter [D.int 2147483629, D.int 2147483587, D.int 2147483579] [some (.val .tape), some (.val (.int (τ.turn + 1))), some (.val (.int 0)), none, none, none] { τ with turn := τ.turn + 1 } = .ok (.nx [some (.val .tape), some (.val (.int (τ.turn + 1))), some (.val (.int (((0 * 2147483647 + y1) * 2147483647 + y2) * 2147483647 + y3))), some (.val (.int 2147483579)), some (.val (.int b3)), x3]) { τ with turn := τ.turn + 1 } := by
    unfold forGo
    show (bOuter [some (.val .tape), some (.val (.int (τ.turn + 1))), some (.val (.int 0)), some (.val (.int 2147483629)), none, none] { τ with turn := τ.turn + 1 }).bind _ = _
    rw [e1]
    unfold forGo
    show (bOuter [some (.val .tape), some (.val (.int (τ.turn + 1))), some (.val (.int (0 * 2147483647 + y1))), some (.val (.int 2147483587)), some (.val (.int b1)), x1] { τ with turn := τ.turn + 1 }).bind _ = _
    rw [e2]
    unfold forGo
    show (bOuter [some (.val .tape), some (.val (.int (τ.turn + 1))), some (.val (.int ((0 * 2147483647 + y1) * 2147483647 + y2))), some (.val (.int 2147483579)), some (.val (.int b2)), x2] { τ with turn := τ.turn + 1 }).bind _ = _
    rw [e3]
    rfl
  unfold m__law_blend
  refine (seq_nx (τ1 := { τ with turn := τ.turn + 1 }) (e := [some (.val .tape), none, none, none, none, none]) rfl).trans ?_
  refine (seq_nx (τ1 := { τ with turn := τ.turn + 1 }) (e := [some (.val .tape), some (.val (.int (τ.turn + 1))), some (.val (.int 0)), none, none, none]) rfl).trans ?_
  refine (seq_nx ((for_ok rfl).trans f1)).trans ?_
  generalize ((0 * 2147483647 + y1) * 2147483647 + y2) * 2147483647 + y3 = v
  have w : ∀ a b c d e : D, wholeE [some (.val a), some (.val b), some (.val c), some (.val d), some (.val e), x3] = true := fun a b c d e => by
    cases x3 with
    | none => rfl
    | some s => cases s with
      | val d => rfl
      | own d => exact nomatch n1 d (n2 d (n3 d rfl))
  exact seq_ret (ret_ok (w _ _ _ _ _) rfl)
end LK
end
section
set_option Elab.async false
set_option linter.all false
set_option maxRecDepth 100000
set_option maxHeartbeats 0
namespace LK
open PySem Z
/-- so many draws more are fine -/
def Fit (k : Nat) (τ : Tape) : Prop := 0 ≤ τ.turn ∧ τ.turn + k ≤ 1000000
theorem Fit.mono {j k : Nat} {τ : Tape} (h : Fit k τ) (l : j ≤ k) : Fit j τ := ⟨h.1, by have := h.2; omega⟩
theorem tset_ok {ma : Z.M D} {env : Z.Env} {i : Int} {τ τ1 : Tape} (ha : ma env τ = .ok (.int i) τ1) (h : env[(0 : Nat)]? = some (some (.val .tape))) : mTset .rest (mVar 0) ma env τ = .ok (.nx env) { τ1 with rest := i } := by
  unfold mTset
  rw [ha]
  show (mVar 0 env τ1).bind _ = _
  unfold mVar
  rw [h]; rfl
theorem lendV_ok {a : Z.M D} {env : Z.Env} {d : D} {τ τ1 : Tape} (hw : wholeE env = true) (h : a (unown env) τ = .ok d τ1) (ha : atom d = true) : mLend a env τ = .ok d τ1 := by
  unfold mLend
  rw [if_pos hw, h]
  show (if atom d = true then _ else _) = _
  rw [if_pos ha]
theorem draw_end {n : Int} (h0 : 0 < n) (h1 : n ≤ 1000) (x : Option Z.Slot) (τ : Tape) : ∃ v, 0 ≤ v ∧ v < n ∧ (mSeq (mSet (.nm 2) (m2 dMod (mCall fInt (mCons (mTget .rest (mVar 0)) (mNil))) (mVar 1))) (mSeq (mTset .rest (mVar 0) (m2 dFdiv (mCall fInt (mCons (mTget .rest (mVar 0)) (mNil))) (mVar 1))) (mSeq (mRetS (mVar 2)) (mNext)))) [some (.val .tape), some (.val (.int n)), none] τ = .ok (.ret (.int v)) { τ with rest := τ.rest / n } := by
  refine ⟨τ.rest % n, Int.emod_nonneg _ (by omega), Int.emod_lt_of_pos _ h0, ?_⟩
  refine (seq_nx (set_ok (m2_ok (x := .int τ.rest) (y := .int n) rfl rfl (mod_ok h0)) rfl)).trans ?_
  refine (seq_nx (e := [some (.val .tape), some (.val (.int n)), some (.val (.int (τ.rest % n)))]) (τ1 := { τ with rest := τ.rest / n }) ?_).trans ?_
  · exact tset_ok (m2_ok (x := .int τ.rest) (y := .int n) rfl rfl (fdiv_ok h0 (by omega))) rfl
  · exact seq_ret (ret_ok rfl rfl)
theorem draw_ok {n : Int} {k : Nat} {τ : Tape} (h0 : 0 < n) (h1 : n ≤ 1000) (f : Fit (k + 1) τ) : ∃ v τ', 0 ≤ v ∧ v < n ∧ φ__law_draw [.tape, .int n] τ = .ok (.int v) τ' ∧ Fit k τ' := by
  have f' : Fit k τ := f.mono (by omega)
  obtain ⟨lg, rs, cl, tn⟩ := τ
  have q : (m2 dEq (mTget .rest (mVar 0)) (mRet (.int 0))) [some (.val .tape), some (.val (.int n)), none] ⟨lg, rs, cl, tn⟩ = .ok (.bl (rs == 0)) ⟨lg, rs, cl, tn⟩ := m2_ok (x := .int rs) (y := .int 0) rfl rfl (by rw [dEq_ok rfl rfl]; rfl)
  have hd : ∀ τ1, Fit k τ1 → (mIfS (mBl (m2 dEq (mTget .rest (mVar 0)) (mRet (.int 0)))) (mSeq (mTset .rest (mVar 0) (mIf (mLgNe (mVar 0)) (mLgPop (mVar 0)) (mFn 1 φ__law_blend [] (mCons (mVar 0) (mNil))))) (mNext)) (mNext)) [some (.val .tape), some (.val (.int n)), none] ⟨lg, rs, cl, tn⟩ = .ok (.nx [some (.val .tape), some (.val (.int n)), none]) τ1 → ∃ v τ', 0 ≤ v ∧ v < n ∧ φ__law_draw [.tape, .int n] ⟨lg, rs, cl, tn⟩ = .ok (.int v) τ' ∧ Fit k τ' := fun τ1 f1 h => by
    obtain ⟨v, v0, v1, e⟩ := draw_end h0 h1 none τ1
    exact ⟨v, _, v0, v1, runB_ret (N := 3) (m := m__law_draw) ((seq_nx h).trans e), f1⟩
  by_cases hr : rs = 0
  · have qt : (mBl (m2 dEq (mTget .rest (mVar 0)) (mRet (.int 0)))) [some (.val .tape), some (.val (.int n)), none] ⟨lg, rs, cl, tn⟩ = .ok true ⟨lg, rs, cl, tn⟩ := bl_ok (q.trans (by rw [hr]; rfl))
    cases lg with
    | nil =>
      obtain ⟨v, v0, e⟩ := blend_ok ⟨[], rs, cl, tn⟩ ⟨f.1, by have := f.2; show tn + 1 ≤ _; have : tn + ((k + 1 : Nat) : Int) ≤ 1000000 := f.2; omega⟩
      refine hd { large := [], rest := v, cells := cl, turn := tn + 1 } ⟨by have : 0 ≤ tn := f.1; show 0 ≤ tn + 1; omega, by have : tn + ((k + 1 : Nat) : Int) ≤ 1000000 := f.2; show tn + 1 + (k : Int) ≤ 1000000; omega⟩ ?_
      refine (if_t rfl qt).trans ?_
      refine (seq_nx ?_).trans rfl
      have e2 : (mIf (mLgNe (mVar 0)) (mLgPop (mVar 0)) (mFn 1 φ__law_blend [] (mCons (mVar 0) (mNil)))) [some (.val .tape), some (.val (.int n)), none] ⟨[], rs, cl, tn⟩ = .ok (.int v) { large := [], rest := rs, cells := cl, turn := tn + 1 } := e
      unfold mTset
      rw [e2]
      rfl
    | cons x lg =>
      refine hd { large := lg, rest := x, cells := cl, turn := tn } f' ?_
      refine (if_t rfl qt).trans ?_
      refine (seq_nx ?_).trans rfl
      rfl
  · have qf : (mBl (m2 dEq (mTget .rest (mVar 0)) (mRet (.int 0)))) [some (.val .tape), some (.val (.int n)), none] ⟨lg, rs, cl, tn⟩ = .ok false ⟨lg, rs, cl, tn⟩ := bl_ok (q.trans (by rw [show (rs == 0) = false from by simpa using hr]))
    exact hd _ f' ((if_f rfl qf).trans rfl)
theorem pick_ok {ds : List D} {k : Nat} {τ : Tape} (h0 : 0 < ds.length) (h1 : ds.length ≤ 1000) (f : Fit (k + 1) τ) : ∃ d τ', d ∈ ds ∧ φ__law_pick [.tape, .lst ds] τ = .ok d τ' ∧ Fit k τ' := by
  obtain ⟨v, τ', v0, v1, e, f'⟩ := draw_ok (n := (ds.length : Int)) (by omega) (by omega) f
  obtain ⟨i, rfl⟩ := Int.eq_ofNat_of_zero_le v0
  have hi : i < ds.length := by omega
  refine ⟨ds[i], τ', List.getElem_mem _, runB_ret (N := 2) (m := m__law_pick) (seq_ret (ret_ok rfl (m2_ok rfl ?_ (dIx_nat (List.getElem?_eq_getElem hi))))), f'⟩
  unfold mFn
  rw [show (mCons (mVar 0) (mCons (mCall fLen (mCons (mVar 1) (mNil))) (mNil))) (unown (env0 2 [.tape, .lst ds])) τ = .ok [.tape, .int (ds.length : Int)] τ from rfl]
  exact e
theorem perm_erase {α : Type} : ∀ {l : List α} {i : Nat} (h : i < l.length), (l[i] :: l.eraseIdx i).Perm l
  | x :: l, 0, _ => List.Perm.refl _
  | x :: l, i + 1, h => by
    show (l[i]'(by simpa using h) :: x :: l.eraseIdx i).Perm (x :: l)
    exact (List.Perm.swap _ _ _).trans ((perm_erase (l := l) (i := i) (by simpa using h)).cons x)
theorem shuffle_go {ds0 : List D} : ∀ (n fuel : Nat) (left found : List D) (k : Nat) (τ : Tape), left.length = n → n < fuel → found.length + left.length ≤ 1000 → okDs 59 left = true → Fit (k + n) τ → ∃ out τ', whileGo (mBl (m2 dNe (mVar 2) (mLst (mDisp (mNil))))) (mSeq (mAppPop 3 2 (mFn 2 φ__law_draw [] (mCons (mVar 0) (mCons (mCall fLen (mCons (mVar 2) (mNil))) (mNil))))) (mNext)) fuel [some (.val .tape), some (.val (.lst ds0)), some (.own (.lst left)), some (.own (.lst found))] τ = .ok (.nx [some (.val .tape), some (.val (.lst ds0)), some (.own (.lst [])), some (.own (.lst out))]) τ' ∧ out.Perm (found ++ left) ∧ Fit k τ'
  | n, 0, _, _, _, _, _, h, _, _, _ => absurd h (Nat.not_lt_zero _)
  | n, fuel + 1, left, found, k, τ, hn, hf, hl, hk, f => by
    have c : mLendT (mBl (m2 dNe (mVar 2) (mLst (mDisp (mNil))))) [some (.val .tape), some (.val (.lst ds0)), some (.own (.lst left)), some (.own (.lst found))] τ = .ok (!left.isEmpty) τ := by
      refine lend_ok rfl (bl_ok (m2_ok (x := .lst left) (y := .lst []) rfl rfl ?_))
      rw [dNe_ok (by rw [okDs_lst hk]) rfl]
      cases left <;> rfl
    cases left with
    | nil =>
      refine ⟨found, τ, ?_, by rw [List.append_nil], f.mono (by omega)⟩
      unfold whileGo
      rw [c]; rfl
    | cons x left =>
      cases n with
      | zero => simp at hn
      | succ n =>
        have hn' : left.length = n := by simpa using hn
        rw [List.length_cons] at hl
        obtain ⟨v, τ1, v0, v1, e, f1⟩ := draw_ok (n := ((x :: left).length : Int)) (k := k + n) (by rw [List.length_cons]; omega) (by rw [List.length_cons]; omega) f
        obtain ⟨i, rfl⟩ := Int.eq_ofNat_of_zero_le v0
        have hi : i < (x :: left).length := by omega
        have pe := perm_erase hi
        have lx : ((x :: left).eraseIdx i).length = n := by rw [List.length_eraseIdx_of_lt hi, List.length_cons]; omega
        obtain ⟨out, τ', h1, h2, h3⟩ := shuffle_go (ds0 := ds0) n fuel ((x :: left).eraseIdx i) (found ++ [(x :: left)[i]]) k τ1 lx (by omega) (by rw [List.length_append, lx]; simp; omega) (okDs_of fun d hd => okDs_mem hk (List.mem_of_mem_eraseIdx hd)) f1
        refine ⟨out, τ', ?_, ?_, h3⟩
        · have b : (mSeq (mAppPop 3 2 (mFn 2 φ__law_draw [] (mCons (mVar 0) (mCons (mCall fLen (mCons (mVar 2) (mNil))) (mNil))))) (mNext)) [some (.val .tape), some (.val (.lst ds0)), some (.own (.lst (x :: left))), some (.own (.lst found))] τ = .ok (.nx [some (.val .tape), some (.val (.lst ds0)), some (.own (.lst ((x :: left).eraseIdx i))), some (.own (.lst (found ++ [(x :: left)[i]])))]) τ1 := by
            refine (seq_nx ?_).trans rfl
            have el : mLend (mFn 2 φ__law_draw [] (mCons (mVar 0) (mCons (mCall fLen (mCons (mVar 2) (mNil))) (mNil)))) [some (.val .tape), some (.val (.lst ds0)), some (.own (.lst (x :: left))), some (.own (.lst found))] τ = .ok (.int (i : Int)) τ1 := lendV_ok rfl e rfl
            show (if (3 : Nat) = 2 then R.fail else (mLend _ _ τ).bind _) = _
            rw [if_neg (by decide), el]
            show (if found.length ≤ line ∧ 0 ≤ (i : Int) ∧ (i : Int) ≤ 1000000 then _ else _) = _
            rw [if_pos ⟨Nat.le_trans (by omega : found.length ≤ 1000) (by decide), by omega, by omega⟩]
            rw [show ((i : Int)).toNat = i from Int.toNat_natCast i]
            rw [List.getElem?_eq_getElem hi]
            rfl
          unfold whileGo
          rw [c]
          show (((mSeq _ _) _ τ).bind _) = _
          rw [b]
          exact h1
        · refine h2.trans ?_
          rw [List.append_assoc]
          exact (List.Perm.append_left found pe)
theorem shuffled_ok {ds : List D} {k n : Nat} {τ : Tape} (hn : ds.length = n) (hl : n ≤ 500) (hk : okDs 59 ds = true) (f : Fit (k + n) τ) : ∃ out τ', φ__law_shuffled [.tape, .lst ds] τ = .ok (.lst out) τ' ∧ out.Perm ds ∧ Fit k τ' := by
  obtain ⟨out, τ', h1, h2, h3⟩ := shuffle_go (ds0 := ds) n 1000 ds [] k τ hn (by omega) (by simp; omega) hk f
  refine ⟨out, τ', runB_ret (N := 4) (m := m__law_shuffled) ?_, by simpa using h2, h3⟩
  refine (seq_nx (e := [some (.val .tape), some (.val (.lst ds)), some (.own (.lst ds)), some (.own (.lst []))]) (τ1 := τ) rfl).trans ?_
  refine (seq_nx h1).trans ?_
  exact seq_ret (ret_ok rfl rfl)
end LK
end
section
set_option Elab.async false
set_option linter.all false
set_option maxRecDepth 100000
set_option maxHeartbeats 0
namespace LK
open PySem Z
def cm (a b : List Int) : List Int := a.filter fun x => decide (x ∈ b)
def rg (p : Int) : List Int := (List.range p.toNat).map Int.ofNat
def oth (p : Int) (l : List Int) : List Int := (rg p).filter fun x => decide (x ∉ l)
def srt (l : List Int) : List Int := isort (fun a b => decide (a ≤ b)) l
def ac (z : Int) (o : List Int) : List (List Int) := (List.range o.length).map fun s => srt (((o ++ o).drop s).take z.toNat)
def rot (l : List Int) : List Int := l.drop (l.idxOf 0) ++ l.take (l.idxOf 0)
def rnd (p : Int) (a b : List Int) : List Int := rot (a ++ b ++ (rg p).filter fun x => decide (x ∉ a) && decide (x ∉ b))
def pt (z : Int) (o l : List Int) : Bool := decide (srt (o.take z.toNat) = l)
def rk (n : Nat) : List (Nat × Nat) := (List.range n).flatMap fun i => ((List.range n).filter fun j => decide (i < j)).map fun j => (i, j)
def uk (n : Nat) : List (Nat × Nat) := (List.range n).flatMap fun i => ((List.range n).filter fun j => decide (i ≠ j)).map fun j => (i, j)
def kD2 (k : Nat × Nat) : D := .tup [.int (k.1 : Int), .int (k.2 : Int)]
def unI : D → Int
  | .int i => i
  | _ => 0
def unT : D → List Int
  | .tup ds => ds.map unI
  | _ => []
theorem unT_T (l : List Int) : unT (T l) = l := by
  show (l.map D.int).map unI = l
  rw [List.map_map]
  exact List.map_id l
def subs {α : Type} : List α → List (List α)
  | [] => [[]]
  | a :: l => subs l ++ (subs l).map (a :: ·)
theorem subs_filter {α : Type} (q : α → Bool) : ∀ l : List α, l.filter q ∈ subs l
  | [] => by simp [subs]
  | a :: l => by
    unfold subs
    rw [List.filter_cons]
    split
    · exact List.mem_append.mpr (.inr (List.mem_map.mpr ⟨_, subs_filter q l, rfl⟩))
    · exact List.mem_append.mpr (.inl (subs_filter q l))
abbrev pairD (a b : List Int) : D := .lst [.tup [T a, .tup []], .tup [.tup [], T b]]
abbrev pairDs (a b : List Int) : List D := [.tup [T a, .tup []], .tup [.tup [], T b]]
def okC (z : Int) (M : Nat) (os : List (List Int)) (s : List (List Int)) : Bool :=
  !(s.all fun a => s.all fun b => decide (a = b) || !(cm a b).isEmpty) || (decide (s.length ≤ M) && os.all fun o => decide (((s.filter fun l => decide (l ∈ ac z o)).length : Int) ≤ z))
structure Ctx (p z : Int) (L os : List (List Int)) (M : Nat) (ls : Nat → Nat) : Prop where
  np : Pu φ_need_places [.int p] .non
  na : Pu φ_need_arc_size [.int p, .int z] .non
  bz : Pu φ_is_between [.int z, .int 1, .int p] (.bl true)
  p6 : 0 < p ∧ p ≤ 6
  z0 : 0 ≤ z ∧ z ≤ 5
  ll : L.length ≤ 24
  nd : L.Nodup
  side : ∀ l ∈ L, Pu φ_is_side [.int p, T l] (.bl true)
  len : ∀ l ∈ L, (l.length : Int) = z ∧ l.length ≤ 5
  com : ∀ a ∈ L, ∀ b ∈ L, Pu φ_common_of [T a, T b] (T (cm a b))
  lcom : ∀ a ∈ L, ∀ b ∈ L, Pu φ__law_common [T a, T b] (T (cm a b))
  rnd : ∀ a ∈ L, ∀ b ∈ L, cm a b = [] → Pu φ_round_with [.int p, T a, T b] (T (rnd p a b)) ∧ LK.rnd p a b ∈ os ∧ a ∈ ac z (LK.rnd p a b) ∧ b ∈ ac z (LK.rnd p a b)
  ros : Pu φ_round_orders_by [.int p] (.lst (os.map T))
  ros2 : Pu φ_round_orders [.int p] (.lst (os.map T))
  osl : 0 < os.length ∧ os.length ≤ 500
  arc : ∀ o ∈ os, Pu φ_arcs_by [T o, .int z] (.lst ((ac z o).map T))
  isr : ∀ o ∈ os, Pu φ_is_round [.int p, T o] (.bl true)
  nor : ∀ o ∈ os, Pu φ_need_order [.int p, T o] .non
  oth : ∀ l ∈ L, Pu φ_others_of [.int p, T l] (T (oth p l))
  isp : ∀ l ∈ L, Pu φ_is_pair [.int p, .tup [T l, T (LK.oth p l)]] (.bl true)
  crs : ∀ a ∈ L, ∀ b ∈ L, a ≠ b → Pu φ_common_of [T a, T (LK.oth p b)] (T (cm a (LK.oth p b))) ∧ cm a (LK.oth p b) ≠ []
  fam : ∀ a ∈ L, ∀ b ∈ L, Pu φ_Family___init__ [.int p, pairD a b] (famD p (pairDs a b))
  c01 : ∀ a ∈ L, ∀ b ∈ L, Pu φ_crosses [famD p (pairDs a b), .int 0, .int 1] (.bl (!(cm a b).isEmpty))
  c10 : ∀ a ∈ L, ∀ b ∈ L, Pu φ_crosses [famD p (pairDs a b), .int 1, .int 0] (.bl false)
  wit : ∀ a ∈ L, ∀ b ∈ L, a ≠ b → Pu φ_is_within_side [T a, T b] (.bl false)
  par : ∀ o ∈ os, ∀ l ∈ L, Pu φ_parts_by [T o, .tup [T l, T (LK.oth p l)]] (.bl (pt z o l))
  parc : ∀ o ∈ os, srt (o.take z.toNat) ∈ ac z o
  star : ∀ k ∈ rg p, Pu φ_star [.int p, .int z, .int k] (.lst ((L.filter fun l => decide (k ∈ l)).map T))
  ssum : ∀ k ∈ rg p, ((os.map fun o => (((L.filter fun l => decide (k ∈ l)).filter fun l => decide (l ∈ ac z o)).length : Int)).sum) = z * (os.length : Int)
  mm : Pu φ_most_meeting [.int p, .int z] (.int (M : Int))
  lss : ∀ n ∈ List.range 7, Pu φ_least_shadow [.int (n : Int), .int z] (.int (ls n : Int))
  comb : ∀ s ∈ subs L, okC z M os s = true
  shad : ∀ s ∈ subs L, s.length ≤ 6 → ls s.length ≤ (keysOf s).length
  srt : ∀ s : List (List Int), (∀ l ∈ s, l ∈ L) → sortOk ((keysOf s).map T) = true
theorem pu_of {φ : Fn} {xs : List D} {d : D} (h : (fun τ => φ xs τ) = fun τ => R.ok d τ) : Pu φ xs d := fun τ => congrFun h τ
theorem tab_rk : ∀ n ∈ List.range 7, Pu φ_rising_keys [.int (n : Int)] (.lst ((rk n).map kD2)) := fun n hn => pu_of (all_of_map (L := List.range 7) (f := fun n τ => φ_rising_keys [.int ((n : Nat) : Int)] τ) (g := fun n τ => R.ok (.lst ((rk n).map kD2)) τ) (by kernel_rfl) n hn)
theorem tab_lk : ∀ n ∈ List.range 7, Pu φ__law_keys [.int (n : Int)] (.lst ((rk n).map kD2)) := fun n hn => pu_of (all_of_map (L := List.range 7) (f := fun n τ => φ__law_keys [.int ((n : Nat) : Int)] τ) (g := fun n τ => R.ok (.lst ((rk n).map kD2)) τ) (by kernel_rfl) n hn)
theorem tab_uk : ∀ n ∈ List.range 7, Pu φ_unlike_keys [.int (n : Int)] (.lst ((uk n).map kD2)) := fun n hn => pu_of (all_of_map (L := List.range 7) (f := fun n τ => φ_unlike_keys [.int ((n : Nat) : Int)] τ) (g := fun n τ => R.ok (.lst ((uk n).map kD2)) τ) (by kernel_rfl) n hn)
theorem tab_ko : ∀ n ∈ List.range 7, Pu φ_keys_of [.int (n : Int), .str "both"] (.lst ((uk n).map kD2)) := fun n hn => pu_of (all_of_map (L := List.range 7) (f := fun n τ => φ_keys_of [.int ((n : Nat) : Int), .str "both"] τ) (g := fun n τ => R.ok (.lst ((uk n).map kD2)) τ) (by kernel_rfl) n hn)
theorem rk_in : ∀ n ∈ List.range 7, (∀ k ∈ rk n, k.1 < k.2 ∧ k.2 < n) ∧ (rk n).length ≤ 24 := by decide +kernel
theorem rk_all : ∀ n ∈ List.range 7, ∀ j ∈ List.range n, ∀ i ∈ List.range j, (i, j) ∈ rk n := by decide +kernel
theorem uk_in : ∀ n ∈ List.range 7, (∀ k ∈ uk n, k.1 < n ∧ k.2 < n ∧ k.1 ≠ k.2) ∧ (uk n).length ≤ 100 := by decide +kernel
end LK
end
section
set_option Elab.async false
set_option linter.all false
set_option maxRecDepth 100000
namespace LK
open PySem Z
theorem keysOf_gen {x : List Int} : ∀ {S : List (List Int)} {K : List (List Int)}, x ∈ S.foldl (fun K l => keyF l K) K ↔ x ∈ K ∨ ∃ l ∈ S, ∃ y ∈ l, x = l.filter (· != y)
  | [], K => by simp
  | l :: S, K => by
    rw [List.foldl_cons, keysOf_gen, foldK_mem (f := fun y => l.filter (· != y))]
    simp [or_assoc]
theorem keysOf_mem {x : List Int} {S : List (List Int)} : x ∈ keysOf S ↔ ∃ l ∈ S, ∃ y ∈ l, x = l.filter (· != y) := by
  unfold keysOf; rw [keysOf_gen]; simp
theorem keysOf_ndg : ∀ {S : List (List Int)} {K : List (List Int)}, K.Nodup → (S.foldl (fun K l => keyF l K) K).Nodup
  | [], K, h => h
  | l :: S, K, h => keysOf_ndg (S := S) (foldK_nodup (f := fun y => l.filter (· != y)) h)
theorem keysOf_nodup (S : List (List Int)) : (keysOf S).Nodup := keysOf_ndg List.nodup_nil
end LK
end
section
set_option Elab.async false
set_option linter.all false
set_option maxRecDepth 100000
set_option maxHeartbeats 0
namespace LK
open PySem Z
theorem not_take {α : Type} {S : List α} (h : S.Nodup) {k : Nat} {l : α} (hk : S[k]? = some l) : l ∉ S.take k := by
  have e : S.take k ++ S.drop k = S := List.take_append_drop k S
  rw [← e] at h
  rw [List.nodup_append] at h
  intro hm
  refine h.2.2 l hm l ?_ rfl
  rw [List.mem_iff_getElem?]
  exact ⟨0, by rw [List.getElem?_drop]; simpa using hk⟩
theorem nd_inj {α : Type} {S : List α} (h : S.Nodup) {i j : Nat} {l : α} (hi : S[i]? = some l) (hj : S[j]? = some l) : i = j := by
  rcases Nat.lt_trichotomy i j with q | q | q
  · exact absurd (List.mem_iff_getElem?.mpr ⟨i, by rw [List.getElem?_take_of_lt q]; exact hi⟩) (not_take h hj)
  · exact q
  · exact absurd (List.mem_iff_getElem?.mpr ⟨j, by rw [List.getElem?_take_of_lt q]; exact hj⟩) (not_take h hi)
abbrev prD (p : Int) (l : List Int) : D := .tup [T l, T (oth p l)]
theorem dist_T {S : List (List Int)} (h : S.Nodup) : Dist (S.map T) where
  ok := fun d hd => by obtain ⟨l, _, rfl⟩ := List.mem_map.mp hd; exact ok_T 57 l
  ok59 := fun d hd => by obtain ⟨l, _, rfl⟩ := List.mem_map.mp hd; exact ok_T 58 l
  ok60 := fun d hd => by obtain ⟨l, _, rfl⟩ := List.mem_map.mp hd; exact ok_T 59 l
  no := fun k d hk => by
    rw [List.getElem?_map] at hk
    cases e : S[k]? with
    | none => rw [e] at hk; cases hk
    | some l =>
      rw [e] at hk; cases hk
      rw [← List.map_take]
      refine memD_false fun d hd => ?_
      obtain ⟨a, ha, rfl⟩ := List.mem_map.mp hd
      rw [deq_T, decide_eq_false_iff_not]
      intro q; exact not_take h e (q ▸ ha)
theorem ok_pr (n : Nat) (p : Int) (l : List Int) : okD (n + 2) (prD p l) = true := by
  show okDs (n + 1) [T l, T (oth p l)] = true
  simp only [okDs, ok_T, Bool.and_self]
theorem dist_pr {S : List (List Int)} (p : Int) (h : S.Nodup) : Dist (S.map (prD p)) where
  ok := fun d hd => by obtain ⟨l, _, rfl⟩ := List.mem_map.mp hd; exact ok_pr 56 p l
  ok59 := fun d hd => by obtain ⟨l, _, rfl⟩ := List.mem_map.mp hd; exact ok_pr 57 p l
  ok60 := fun d hd => by obtain ⟨l, _, rfl⟩ := List.mem_map.mp hd; exact ok_pr 58 p l
  no := fun k d hk => by
    rw [List.getElem?_map] at hk
    cases e : S[k]? with
    | none => rw [e] at hk; cases hk
    | some l =>
      rw [e] at hk; cases hk
      rw [← List.map_take]
      refine memD_false fun d hd => ?_
      obtain ⟨a, ha, rfl⟩ := List.mem_map.mp hd
      show (deq (T a) (T l) && _) = false
      rw [deq_T, decide_eq_false fun q : a = l => not_take h e (q ▸ ha)]
      rfl
section
variable {p z : Int} {L os : List (List Int)} {M : Nat} {ls : Nat → Nat} {S : List (List Int)}
theorem fLen_T (l : List Int) : fLen [T l] = some (.int (l.length : Int)) := by
  show some (D.int ((l.map D.int).length : Int)) = _
  rw [List.length_map]
theorem Ctx.ns (C : Ctx p z L os M ls) (hn : S.Nodup) (hs : ∀ l ∈ S, l ∈ L) (h6 : S.length ≤ 24) : Pu φ_need_sets [.int p, .lst (S.map T)] .non :=
  need_sets_ok C.np (by rw [List.length_map]; omega) (fun d hd => by obtain ⟨l, hl, rfl⟩ := List.mem_map.mp hd; exact C.side l (hs l hl)) (dist_T hn)
theorem Ctx.nz (C : Ctx p z L os M ls) (hs : ∀ l ∈ S, l ∈ L) : ∀ d ∈ S.map T, fLen [d] = some (.int z) := fun d hd => by
  obtain ⟨l, hl, rfl⟩ := List.mem_map.mp hd
  rw [fLen_T, (C.len l (hs l hl)).1]
theorem Ctx.nar (C : Ctx p z L os M ls) (hn : S.Nodup) (hs : ∀ l ∈ S, l ∈ L) (h6 : S.length ≤ 24) : Pu φ_need_arcs [.int p, .int z, .lst (S.map T)] .non :=
  need_arcs_ok C.na (C.ns hn hs h6) (C.nz hs)
theorem Ctx.nsz (C : Ctx p z L os M ls) (hn : S.Nodup) (hs : ∀ l ∈ S, l ∈ L) (h6 : S.length ≤ 24) : Pu φ_need_sized [.int p, .int z, .lst (S.map T)] .non :=
  need_sized_ok C.np C.bz (C.ns hn hs h6) (C.nz hs)
theorem Ctx.sf (C : Ctx p z L os M ls) (hn : S.Nodup) (hs : ∀ l ∈ S, l ∈ L) (h6 : S.length ≤ 6) : Pu φ_sets_family [.int p, .lst (S.map T)] (famD p (S.map (prD p))) := by
  have e : ((S.map T).map fun d => D.tup [d, T (LK.oth p (unT d))]) = S.map (prD p) := by
    rw [List.map_map]
    exact List.map_congr_left fun l _ => by show D.tup [T l, T (LK.oth p (unT (T l)))] = _; rw [unT_T]
  rw [← e]
  refine sets_family_ok (o := fun d => T (LK.oth p (unT d))) (C.ns hn hs (by omega)) (by rw [List.length_map]; omega) (fun d hd => ?_) ?_
  · obtain ⟨l, hl, rfl⟩ := List.mem_map.mp hd
    rw [unT_T]; exact C.oth l (hs l hl)
  · rw [e]
    exact init_ok C.np (need_pairs_ok (by rw [List.length_map]; omega) (fun d hd => by obtain ⟨l, hl, rfl⟩ := List.mem_map.mp hd; exact C.isp l (hs l hl)) (dist_pr p hn))
theorem r7 (h6 : S.length ≤ 6) : S.length ∈ List.range 7 := List.mem_range.mpr (by omega)
theorem uk_get (h6 : S.length ≤ 6) {k : D} (hk : k ∈ (uk S.length).map kD2) : ∃ (i j : Nat) (a b : List Int), k = kD2 (i, j) ∧ S[i]? = some a ∧ S[j]? = some b ∧ i ≠ j := by
  obtain ⟨⟨i, j⟩, hm, rfl⟩ := List.mem_map.mp hk
  obtain ⟨h1, h2, h3⟩ := (uk_in _ (r7 h6)).1 _ hm
  exact ⟨i, j, S[i], S[j], rfl, List.getElem?_eq_getElem h1, List.getElem?_eq_getElem h2, h3⟩
theorem rk_get (h6 : S.length ≤ 6) {k : D} (hk : k ∈ (rk S.length).map kD2) : ∃ (i j : Nat) (a b : List Int), k = kD2 (i, j) ∧ S[i]? = some a ∧ S[j]? = some b ∧ i ≠ j := by
  obtain ⟨⟨i, j⟩, hm, rfl⟩ := List.mem_map.mp hk
  obtain ⟨h1, h2⟩ := (rk_in _ (r7 h6)).1 _ hm
  exact ⟨i, j, S[i]'(by simp at h1 h2; omega), S[j], rfl, List.getElem?_eq_getElem _, List.getElem?_eq_getElem h2, by simp at h1; omega⟩
theorem getT {i : Nat} {a : List Int} {f : List Int → D} (h : S[i]? = some a) : (S.map f)[i]? = some (f a) := by rw [List.getElem?_map, h]; rfl
theorem Ctx.anti (C : Ctx p z L os M ls) (hn : S.Nodup) (hs : ∀ l ∈ S, l ∈ L) (h6 : S.length ≤ 6) : Pu φ_is_antichain [.int p, .lst (S.map T)] (.bl true) := by
  refine is_antichain_ok (ks := (uk S.length).map kD2) (C.ns hn hs (by omega)) (by rw [List.length_map]; exact tab_uk _ (r7 h6)) (by rw [List.length_map]; exact Nat.le_trans (uk_in _ (r7 h6)).2 (by decide)) fun k hk => ?_
  obtain ⟨i, j, a, b, rfl, ha, hb, ne⟩ := uk_get h6 hk
  exact ⟨i, j, T a, T b, rfl, getT ha, getT hb, C.wit a (hs a (List.mem_of_getElem? ha)) b (hs b (List.mem_of_getElem? hb)) fun q => ne (nd_inj hn ha (q ▸ hb))⟩
theorem Ctx.kind (C : Ctx p z L os M ls) (hn : S.Nodup) (hs : ∀ l ∈ S, l ∈ L) (h6 : S.length ≤ 6) : Pu φ_is_of_kind [famD p (S.map (prD p)), .str "both"] (.bl true) := by
  refine is_of_kind_ok (ks := (uk S.length).map kD2) (by rw [List.length_map]; exact tab_ko _ (r7 h6)) fun k hk => ?_
  obtain ⟨i, j, a, b, rfl, ha, hb, ne⟩ := uk_get h6 hk
  obtain ⟨h1, h2⟩ := C.crs a (hs a (List.mem_of_getElem? ha)) b (hs b (List.mem_of_getElem? hb)) fun q => ne (nd_inj hn ha (q ▸ hb))
  have h3 := right_places_ok (p := p) (getT (f := prD p) ha) (getT (f := prD p) hb) h1
  have ok := ok_T 59 (cm a (LK.oth p b))
  cases e : cm a (LK.oth p b) with
  | nil => exact absurd e h2
  | cons x xs =>
    rw [e] at h3 ok
    exact ⟨.int x, xs.map D.int, h3, ok⟩
theorem memD_T (l : List Int) (A : List (List Int)) : memD (T l) (A.map T) = decide (l ∈ A) := by
  by_cases h : l ∈ A
  · rw [decide_eq_true h]
    exact memD_true (List.mem_map.mpr ⟨l, h, rfl⟩) (by rw [deq_T]; simp)
  · rw [decide_eq_false h]
    refine memD_false fun d hd => ?_
    obtain ⟨a, ha, rfl⟩ := List.mem_map.mp hd
    rw [deq_T, decide_eq_false_iff_not]
    intro q; exact h (q ▸ ha)
abbrev inA (A : List (List Int)) (d : D) : Bool := memD d (A.map T)
theorem okT59 (A : List (List Int)) : okDs 59 (A.map T) = true := okDs_of fun d hd => by obtain ⟨l, _, rfl⟩ := List.mem_map.mp hd; exact ok_T 58 l
theorem filt_T (A : List (List Int)) : ((S.map T).filter (inA A)).length = (S.filter fun l => decide (l ∈ A)).length := by
  rw [List.filter_map, List.length_map]
  congr 1
  exact List.filter_congr fun l _ => memD_T l A
theorem Ctx.among (C : Ctx p z L os M ls) (hn : S.Nodup) (hs : ∀ l ∈ S, l ∈ L) (h6 : S.length ≤ 24) {o : List Int} (ho : o ∈ os) : Pu φ_arcs_among [.int p, .int z, .lst (S.map T), T o] (.tup (idx (inA (ac z o)) 0 (S.map T))) :=
  arcs_among_ok (C.nar hn hs h6) (C.isr o ho) (C.arc o ho) (by rw [List.length_map]; omega) (dist_T hn).ok60 (okT59 _)
/-- as a partL of L in its sequence -/
abbrev partL (L S : List (List Int)) : List (List Int) := L.filter fun l => decide (l ∈ S)
theorem part_len (hL : L.Nodup) (hn : S.Nodup) (hs : ∀ l ∈ S, l ∈ L) (q : List Int → Bool) : ((partL L S).filter q).length = (S.filter q).length := by
  refine Nat.le_antisymm (nodup_le ((hL.filter _).filter _) fun x hx => ?_) (nodup_le (hn.filter _) fun x hx => ?_)
  · obtain ⟨h1, h2⟩ := List.mem_filter.mp hx
    exact List.mem_filter.mpr ⟨by simpa using (List.mem_filter.mp h1).2, h2⟩
  · obtain ⟨h1, h2⟩ := List.mem_filter.mp hx
    exact List.mem_filter.mpr ⟨List.mem_filter.mpr ⟨hs x h1, by simpa using h1⟩, h2⟩
theorem part_len0 (hL : L.Nodup) (hn : S.Nodup) (hs : ∀ l ∈ S, l ∈ L) : (partL L S).length = S.length := by
  refine Nat.le_antisymm (nodup_le (hL.filter _) fun x hx => ?_) (nodup_le hn fun x hx => ?_)
  · simpa using (List.mem_filter.mp hx).2
  · exact List.mem_filter.mpr ⟨hs x hx, by simpa using hx⟩
theorem Ctx.meet (C : Ctx p z L os M ls) (hn : S.Nodup) (hs : ∀ l ∈ S, l ∈ L) (hm : ∀ a ∈ S, ∀ b ∈ S, a ≠ b → cm a b ≠ []) : S.length ≤ M ∧ ∀ o ∈ os, ((S.filter fun l => decide (l ∈ ac z o)).length : Int) ≤ z := by
  have h := C.comb (partL L S) (subs_filter _ L)
  unfold okC at h
  have ha : ((partL L S).all fun a => (partL L S).all fun b => decide (a = b) || !(cm a b).isEmpty) = true := by
    refine List.all_eq_true.mpr fun a ha => List.all_eq_true.mpr fun b hb => ?_
    have ha' : a ∈ S := by simpa using (List.mem_filter.mp ha).2
    have hb' : b ∈ S := by simpa using (List.mem_filter.mp hb).2
    by_cases q : a = b
    · rw [decide_eq_true q]; rfl
    · have := hm a ha' b hb' q
      rw [decide_eq_false q]
      cases e : cm a b with
      | nil => exact absurd e this
      | cons _ _ => rfl
  rw [ha] at h
  simp only [Bool.not_true, Bool.false_or, Bool.and_eq_true, decide_eq_true_eq, List.all_eq_true] at h
  refine ⟨by rw [← part_len0 C.nd hn hs]; exact h.1, fun o ho => ?_⟩
  rw [← part_len C.nd hn hs]; exact h.2 o ho
end
end LK
end
section
set_option Elab.async false
set_option linter.all false
set_option maxRecDepth 100000
set_option maxHeartbeats 0
namespace LK
open PySem Z
section
variable {p z : Int} {L os : List (List Int)} {M : Nat} {ls : Nat → Nat} {S : List (List Int)}
theorem Ctx.shade (C : Ctx p z L os M ls) (hn : S.Nodup) (hs : ∀ l ∈ S, l ∈ L) (h6 : S.length ≤ 6) : ∃ ds, Pu φ_shadow [.int p, .int z, .lst (S.map T)] (.lst ds) ∧ ls S.length ≤ ds.length := by
  refine ⟨_, shadow_ok (C.nsz hn hs (by omega)) (by omega) (fun l hl => (C.len l (hs l hl)).2) (C.srt S hs), ?_⟩
  rw [isort_len, List.length_map]
  have h := C.shad (partL L S) (subs_filter _ L) (by rw [part_len0 C.nd hn hs]; exact h6)
  rw [part_len0 C.nd hn hs] at h
  refine Nat.le_trans h (nodup_le (keysOf_nodup _) fun x hx => ?_)
  obtain ⟨l, hl, y, hy, rfl⟩ := keysOf_mem.mp hx
  exact keysOf_mem.mpr ⟨l, by simpa using (List.mem_filter.mp hl).2, y, hy, rfl⟩
theorem Ctx.paper (C : Ctx p z L os M ls) (hn : S.Nodup) (hs : ∀ l ∈ S, l ∈ L) (h6 : S.length ≤ 6) (τ : Tape) :
    (∃ ks' vs', φ_meeting_paper [.int p, .int z, .lst (S.map T)] τ = .ok (.tup [.str "meet", .dic ks' vs']) τ ∧ ∀ a ∈ S, ∀ b ∈ S, a ≠ b → cm a b ≠ []) ∨
    (∃ (i j : Nat) (a b o : List Int), S[i]? = some a ∧ S[j]? = some b ∧ o ∈ os ∧ a ∈ ac z o ∧ b ∈ ac z o ∧ φ_meeting_paper [.int p, .int z, .lst (S.map T)] τ = .ok (.tup [.str "apart", .int (i : Int), .int (j : Int), T o]) τ) := by
  have h := meeting_ok (com := fun c d => cm (unT c) (unT d)) (rnd := fun c d => T (LK.rnd p (unT c) (unT d))) (ks := (rk S.length).map kD2) (C.nar hn hs (by omega)) (by rw [List.length_map]; exact tab_rk _ (r7 h6)) (by rw [List.length_map]; exact Nat.le_trans (rk_in _ (r7 h6)).2 (by decide)) (fun k hk => by
    obtain ⟨i, j, a, b, rfl, ha, hb, ne⟩ := rk_get h6 hk
    have la := hs a (List.mem_of_getElem? ha)
    have lb := hs b (List.mem_of_getElem? hb)
    refine ⟨i, j, T a, T b, rfl, getT ha, getT hb, ?_, ?_⟩
    · rw [unT_T, unT_T]; exact C.com a la b lb
    · rw [unT_T, unT_T]; exact fun e => (C.rnd a la b lb e).1) τ
  rcases h with ⟨ks', vs', h1, h2⟩ | ⟨i, j, c, d, hk, hi, hj, he, h1⟩
  · refine .inl ⟨ks', vs', h1, ?_⟩
    have key : ∀ i j : Nat, i < j → j < S.length → ∀ a b, S[i]? = some a → S[j]? = some b → cm a b ≠ [] := fun i j hij hj a b ha hb => by
      have hm := rk_all _ (r7 h6) j (List.mem_range.mpr hj) i (List.mem_range.mpr hij)
      obtain ⟨i', j', c, d, e, hc, hd, ne⟩ := h2 _ (List.mem_map.mpr ⟨_, hm, rfl⟩)
      have ei : i = i' ∧ j = j' := by
        have e' : D.tup [.int (i : Int), .int (j : Int)] = .tup [.int (i' : Int), .int (j' : Int)] := e
        injection e' with e'
        injection e' with e1 e'
        injection e' with e2 e'
        injection e1 with e1
        injection e2 with e2
        exact ⟨by omega, by omega⟩
      obtain ⟨rfl, rfl⟩ := ei
      rw [getT ha] at hc
      rw [getT hb] at hd
      cases hc; cases hd
      have ne' : cm (unT (T a)) (unT (T b)) ≠ [] := ne
      rwa [unT_T, unT_T] at ne'
    intro a ha b hb ne
    obtain ⟨i, hi⟩ := List.mem_iff_getElem?.mp ha
    obtain ⟨j, hj⟩ := List.mem_iff_getElem?.mp hb
    have li := (List.getElem?_eq_some_iff.mp hi).1
    have lj := (List.getElem?_eq_some_iff.mp hj).1
    rcases Nat.lt_trichotomy i j with q | q | q
    · exact key i j q lj a b hi hj
    · subst q; rw [hi] at hj; cases hj; exact absurd rfl ne
    · have h := key j i q li b a hj hi
      intro e
      apply h
      unfold cm at e ⊢
      rw [List.filter_eq_nil_iff] at e ⊢
      intro x hx
      simp only [decide_eq_true_eq]
      intro hxa
      exact e x hxa (by simpa using hx)
  · rw [List.getElem?_map] at hi hj
    cases ea : S[i]? with
    | none => rw [ea] at hi; cases hi
    | some a =>
      cases eb : S[j]? with
      | none => rw [eb] at hj; cases hj
      | some b =>
        rw [ea] at hi; rw [eb] at hj
        cases hi; cases hj
        have he' : cm a b = [] := by
          have : cm (unT (T a)) (unT (T b)) = [] := he
          rwa [unT_T, unT_T] at this
        have h1' : φ_meeting_paper [.int p, .int z, .lst (S.map T)] τ = .ok (.tup [.str "apart", .int (i : Int), .int (j : Int), T (LK.rnd p (unT (T a)) (unT (T b)))]) τ := h1
        rw [unT_T, unT_T] at h1'
        obtain ⟨_, r2, r3, r4⟩ := C.rnd a (hs a (List.mem_of_getElem? ea)) b (hs b (List.mem_of_getElem? eb)) he'
        exact .inr ⟨i, j, a, b, LK.rnd p a b, ea, eb, r2, r3, r4, h1'⟩
theorem Ctx.most (C : Ctx p z L os M ls) (hn : S.Nodup) (hs : ∀ l ∈ S, l ∈ L) (h6 : S.length ≤ 6) (hm : ∀ o ∈ os, ((S.filter fun l => decide (l ∈ ac z o)).length : Int) ≤ z) (τ : Tape) : ∃ m : Int, m ≤ z ∧ φ_most_arcs [.int p, .int z, .lst (S.map T)] τ = .ok (.int m) τ := by
  refine most_arcs_ok C.z0.1 (C.nar hn hs (by omega)) C.ros (by rw [List.length_map]; omega) (dist_T hn).ok60 (fun d hd => ?_) τ
  obtain ⟨o, ho, rfl⟩ := List.mem_map.mp hd
  exact ⟨(ac z o).map T, C.arc o ho, okT59 _, by rw [filt_T]; exact hm o ho⟩
def qp (z : Int) (o : List Int) : D → Bool
  | .tup [a, _] => pt z o (unT a)
  | _ => false
theorem qp_pr (z p : Int) (o l : List Int) : qp z o (prD p l) = pt z o l := by
  show pt z o (unT (T l)) = _
  rw [unT_T]
theorem Ctx.parted (C : Ctx p z L os M ls) (hn : S.Nodup) (hs : ∀ l ∈ S, l ∈ L) (h6 : S.length ≤ 6) {o : List Int} (ho : o ∈ os) : ∃ xs, Pu φ_parted_by [famD p (S.map (prD p)), T o] (.tup xs) ∧ xs.length < 2 ∧ ∀ x ∈ xs, ∃ i : Nat, x = .int (i : Int) ∧ x ∈ idx (inA (ac z o)) 0 (S.map T) := by
  refine ⟨_, parted_by_ok (q := qp z o) (C.nor o ho) (by rw [List.length_map]; omega) (fun d hd => ?_), ?_, fun x hx => ?_⟩
  · obtain ⟨l, hl, rfl⟩ := List.mem_map.mp hd
    rw [qp_pr]; exact C.par o ho l (hs l hl)
  · rw [idx_len, List.filter_map, List.length_map]
    refine Nat.lt_of_le_of_lt (nodup_le (ys := [LK.srt (o.take z.toNat)]) (hn.filter _) fun x hx => ?_) (by exact (by decide : 1 < 2))
    have := (List.mem_filter.mp hx).2
    have h2 : pt z o x = true := by rw [← qp_pr z p o x]; exact this
    unfold pt at h2
    rw [decide_eq_true_eq] at h2
    exact List.mem_singleton.mpr h2.symm
  · obtain ⟨i, d, h1, h2, rfl⟩ := idx_mem.mp hx
    rw [List.getElem?_map] at h1
    cases e : S[i]? with
    | none => rw [e] at h1; cases h1
    | some l =>
      rw [e] at h1; cases h1
      rw [qp_pr] at h2
      unfold pt at h2
      rw [decide_eq_true_eq] at h2
      refine ⟨i, by rw [Nat.zero_add], idx_mem.mpr ⟨i, T l, getT e, ?_, rfl⟩⟩
      show memD (T l) ((ac z o).map T) = true
      rw [memD_T, decide_eq_true_eq, ← h2]
      exact C.parc o ho
end
end LK
end
section
set_option Elab.async false
set_option linter.all false
set_option maxRecDepth 100000
set_option maxHeartbeats 0
namespace LK
open PySem Z
abbrev E13 (p z : Int) (ds : List D) (t : D) (x5 x6 x7 x9 x10 x11 x12 : Option D) : Z.Env := [some (.val .tape), some (.val (.int p)), some (.val (.int z)), some (.val (.lst ds)), some (.val t), Option.map Slot.val x5, Option.map Slot.val x6, Option.map Slot.val x7, none, Option.map Slot.val x9, Option.map Slot.val x10, Option.map Slot.val x11, Option.map Slot.val x12]
theorem whole_ev : ∀ l : List (Option D), wholeE (l.map (Option.map Slot.val)) = true
  | [] => rfl
  | none :: l => by
    show (true && wholeE (l.map (Option.map Slot.val))) = true
    rw [whole_ev l]; rfl
  | some d :: l => by
    show (true && wholeE (l.map (Option.map Slot.val))) = true
    rw [whole_ev l]; rfl
theorem w13 (p z : Int) (ds : List D) (t : D) (x5 x6 x7 x9 x10 x11 x12 : Option D) : wholeE (E13 p z ds t x5 x6 x7 x9 x10 x11 x12) = true :=
  whole_ev [some .tape, some (.int p), some (.int z), some (.lst ds), some t, x5, x6, x7, none, x9, x10, x11, x12]
theorem fn_okT {n : Nat} {φ : Fn} {ms : Z.M (List D)} {env : Z.Env} {xs : List D} {d : D} {τ τ0 τ1 : Tape} (hm : ms env τ = .ok xs τ0) (hn : (xs ++ []).length = n) (h : φ xs τ0 = .ok d τ1) : mFn n φ [] ms env τ = .ok d τ1 := by
  unfold mFn
  rw [hm]
  show (if (xs ++ []).length = n then φ (xs ++ []) τ0 else .fail) = _
  rw [if_pos hn, List.append_nil]; exact h
theorem disp_ok {ms : Z.M (List D)} {env : Z.Env} {xs : List D} {τ τ1 : Tape} (ha : ms env τ = .ok xs τ1) (hl : xs.length ≤ line) : mDisp ms env τ = .ok xs τ1 := by
  unfold mDisp; rw [ha]
  show (if xs.length ≤ line then _ else _) = _
  rw [if_pos hl]
theorem and_ok {a b : Z.M D} {env : Z.Env} {x : D} {τ τ1 : Tape} (ha : a env τ = .ok x τ1) (h : dTru x = some true) : mAnd a b env τ = b env τ1 := by
  unfold mAnd; rw [ha]
  show ((R.of (dTru x) τ1).bind _) = _
  rw [h]; rfl
theorem par_vv {i j : Nat} {a b : Z.M D} {env : Z.Env} {x y : D} {τ τ1 τ2 : Tape} (ha : a env τ = .ok x τ1) (hb : b env τ1 = .ok y τ2) : mPar i j (.v a) (.v b) env τ = .ok (.nx ((env.set i (some (.val x))).set j (some (.val y)))) τ2 := by
  unfold mPar
  show ((((a env τ).bind fun d τ1 => R.ok (Slot.val d) τ1)).bind _) = _
  rw [ha]
  show ((((b env τ1).bind fun d τ1 => R.ok (Slot.val d) τ1)).bind _) = _
  rw [hb]; rfl
theorem dInT_ok {neg : Bool} {x : D} {ds : List D} (hx : okD 60 x = true) (hd : okDs 59 ds = true) : dIn neg x (.tup ds) = some (.bl (if neg then !memD x ds else memD x ds)) := by
  show (if (okD 60 x && okDs 59 ds) = true then some (D.bl (if neg then !memD x ds else memD x ds)) else none) = _
  rw [hx, hd]; rfl
theorem idx_ok (q : D → Bool) (ds : List D) : okDs 59 (idx q 0 ds) = true := okDs_of fun d hd => by
  obtain ⟨i, _, _, _, rfl⟩ := idx_mem.mp hd
  rfl
/-- an index that is among some is not "not in" -/
theorem notin {q : D → Bool} {ds : List D} {i : Nat} (h : D.int (i : Int) ∈ idx q 0 ds) : dIn true (.int (i : Int)) (.tup (idx q 0 ds)) = some (.bl false) := by
  rw [dInT_ok rfl (idx_ok q ds), memD_true h (by show ((i : Int) == (i : Int)) = true; simp)]
  rfl
theorem filter_no {ds : List D} : ds.filter (fun _ => false) = [] := List.filter_eq_nil_iff.mpr fun _ _ h => nomatch h
abbrev bKeys : SM := mSeq (mSet (.nm 7) (mFn 2 φ_Family___init__ [] (mCons (mVar 1) (mCons (mLst (mDisp (mCons (mTup (mCons (m2 dIx (mVar 3) (mVar 5)) (mCons (mTup (mNil)) (mNil)))) (mCons (mTup (mCons (mTup (mNil)) (mCons (m2 dIx (mVar 3) (mVar 6)) (mNil)))) (mNil))))) (mNil))))) (mSeq (mIfS (mOrT (mBl (m2 dNe (mFn 3 φ_crosses [] (mCons (mVar 7) (mCons (mRet (.int 0)) (mCons (mRet (.int 1)) (mNil))))) (m2 dNe (mFn 2 φ__law_common [] (mCons (m2 dIx (mVar 3) (mVar 5)) (mCons (m2 dIx (mVar 3) (mVar 6)) (mNil)))) (mTup (mNil))))) (mBl (m2 (dIs true) (mFn 3 φ_crosses [] (mCons (mVar 7) (mCons (mRet (.int 1)) (mCons (mRet (.int 0)) (mNil))))) (mRet (.bl false))))) (mSeq (mRetS (mRet (.bl false))) (mNext)) (mNext)) (mNext))
section
variable {p z : Int} {L os : List (List Int)} {M : Nat} {ls : Nat → Nat} {S : List (List Int)}
theorem Ctx.keys (C : Ctx p z L os M ls) (hs : ∀ l ∈ S, l ∈ L) (h6 : S.length ≤ 6) (t : D) (τ : Tape) : ∃ x5 x6 x7, forGo (.tp [.nm 5, .nm 6]) bKeys ((rk S.length).map kD2) (E13 p z (S.map T) t none none none none none none none) τ = .ok (.nx (E13 p z (S.map T) t x5 x6 x7 none none none none)) τ := by
  obtain ⟨e, h1, x5, x6, x7, rfl⟩ := forGo_keep (t := .tp [.nm 5, .nm 6]) (τ := τ) (ds := (rk S.length).map kD2) (env := E13 p z (S.map T) t none none none none none none none) (b := bKeys)
    (I := fun env => ∃ x5 x6 x7, env = E13 p z (S.map T) t x5 x6 x7 none none none none) ⟨none, none, none, rfl⟩ fun k hk env ⟨x5, x6, x7, e⟩ => by
      subst e
      obtain ⟨i, j, a, b, rfl, ha, hb, ne⟩ := rk_get h6 hk
      have la := hs a (List.mem_of_getElem? ha)
      have lb := hs b (List.mem_of_getElem? hb)
      refine ⟨E13 p z (S.map T) t (some (.int (i : Int))) (some (.int (j : Int))) x7 none none none none, E13 p z (S.map T) t (some (.int (i : Int))) (some (.int (j : Int))) (some (famD p (pairDs a b))) none none none none, rfl, ?_, _, _, _, rfl⟩
      refine (seq_nx (e := E13 p z (S.map T) t (some (.int (i : Int))) (some (.int (j : Int))) (some (famD p (pairDs a b))) none none none none) (τ1 := τ) (set_ok (fn_ok (xs := [.int p, pairD a b]) (cons_ok rfl (cons_ok (lst_ok (disp_ok (cons_ok (tup_ok (cons_ok (m2_ok rfl rfl (dIx_nat (getT ha))) rfl) (by exact (by decide : 2 ≤ 1000000))) (cons_ok (tup_ok (cons_ok rfl (cons_ok (m2_ok rfl rfl (dIx_nat (getT hb))) rfl)) (by exact (by decide : 2 ≤ 1000000))) rfl)) (by exact (by decide : 2 ≤ 1000000)))) rfl)) rfl (C.fam a la b lb)) rfl)).trans ?_
      refine (seq_nx (e := E13 p z (S.map T) t (some (.int (i : Int))) (some (.int (j : Int))) (some (famD p (pairDs a b))) none none none none) (τ1 := τ) ?_).trans rfl
      refine (if_f (w13 _ _ _ _ _ _ _ _ _ _ _) ?_).trans rfl
      refine (or_f (bl_ok (m2_ok (x := .bl (!(cm a b).isEmpty)) (y := .bl (!decide (cm a b = []))) (fn_ok (cons_ok rfl (cons_ok rfl (cons_ok rfl rfl))) rfl (C.c01 a la b lb)) (m2_ok (x := T (cm a b)) (y := T []) (fn_ok (cons_ok (m2_ok rfl rfl (dIx_nat (getT ha))) (cons_ok (m2_ok rfl rfl (dIx_nat (getT hb))) rfl)) rfl (C.lcom a la b lb)) rfl ?_) ?_))).trans ?_
      · rw [dNe_ok (ok_T 59 _) (ok_T 59 _), deq_T]
      · cases cm a b <;> rfl
      · exact bl_ok (m2_ok (fn_ok (cons_ok rfl (cons_ok rfl (cons_ok rfl rfl))) rfl (C.c10 a la b lb)) rfl rfl)
  exact ⟨x5, x6, x7, h1⟩
abbrev c4 : Z.M Bool := mAndT (mBl (m2 dEq (m2 dIx (mVar 4) (mRet (.int 0))) (mRet (.str "meet")))) (mOrT (mBl (m2 dGt (mCall fLen (mCons (mVar 3) (mNil))) (mFn 2 φ_most_meeting [] (mCons (mVar 1) (mCons (mVar 2) (mNil)))))) (mBl (m2 dGt (mFn 3 φ_most_arcs [] (mCons (mVar 1) (mCons (mVar 2) (mCons (mVar 3) (mNil))))) (mVar 2))))
abbrev c5 : Z.M Bool := mAndT (mBl (m2 dEq (m2 dIx (mVar 4) (mRet (.int 0))) (mRet (.str "apart")))) (mBl (m2 dNe (mLst (mLc [8] (mItems (mSl (mVar 4) (mPart (mRet (.int 1))) (mPart (mRet (.int 3))))) (.nm 8) (mBl (m2 (dIn true) (mVar 8) (mFn 4 φ_arcs_among [] (mCons (mVar 1) (mCons (mVar 2) (mCons (mVar 3) (mCons (m2 dIx (mVar 4) (mRet (.int 3))) (mNil)))))))) (mVar 8))) (mLst (mDisp (mNil)))))
theorem str1 : dEq (.str "meet") (.str "meet") = some (.bl true) := by kernel_rfl
theorem str2 : dEq (.str "apart") (.str "meet") = some (.bl false) := by kernel_rfl
theorem str3 : dEq (.str "meet") (.str "apart") = some (.bl false) := by kernel_rfl
theorem str4 : dEq (.str "apart") (.str "apart") = some (.bl true) := by kernel_rfl
theorem gt_f {i j : Int} (h : i ≤ j) : dGt (.int i) (.int j) = some (.bl false) := by
  show some (D.bl (decide (j < i))) = _
  rw [decide_eq_false (by omega)]
theorem lt_f {i j : Int} (h : j ≤ i) : dLt (.int i) (.int j) = some (.bl false) := by
  show some (D.bl (decide (i < j))) = _
  rw [decide_eq_false (by omega)]
theorem lt_t {i j : Int} (h : i < j) : dLt (.int i) (.int j) = some (.bl true) := by
  show some (D.bl (decide (i < j))) = _
  rw [decide_eq_true h]
theorem cut13 (a b c d : D) : dSl (.tup [a, b, c, d]) (some 1) (some 3) = some (.tup [b, c]) := rfl
theorem Ctx.told (C : Ctx p z L os M ls) (hn : S.Nodup) (hs : ∀ l ∈ S, l ∈ L) (h6 : S.length ≤ 6) (τ : Tape) : ∃ r, φ_meeting_paper [.int p, .int z, .lst (S.map T)] τ = .ok r τ ∧ ∀ x5 x6 x7,
    c4 (unown (E13 p z (S.map T) r x5 x6 x7 none none none none)) τ = .ok false τ ∧ c5 (unown (E13 p z (S.map T) r x5 x6 x7 none none none none)) τ = .ok false τ := by
  rcases C.paper hn hs h6 τ with ⟨ks', vs', h1, h2⟩ | ⟨i, j, a, b, o, ha, hb, ho, ia, ib, h1⟩
  · obtain ⟨m1, m2⟩ := C.meet hn hs h2
    obtain ⟨m, hm, h3⟩ := C.most hn hs h6 m2 τ
    refine ⟨_, h1, fun x5 x6 x7 => ⟨?_, and_f (bl_ok (m2_ok (x := .str "meet") (y := .str "apart") rfl rfl str3))⟩⟩
    refine (and_t (bl_ok (m2_ok (x := .str "meet") (y := .str "meet") rfl rfl str1))).trans ?_
    refine (or_f (bl_ok (m2_ok (x := .int (S.length : Int)) (call_ok (cons_ok rfl rfl) (by show some (D.int ((S.map T).length : Int)) = _; rw [List.length_map])) (fn_ok (cons_ok rfl (cons_ok rfl rfl)) rfl C.mm) (gt_f (by omega))))).trans ?_
    exact bl_ok (m2_ok (fn_okT (cons_ok rfl (cons_ok rfl (cons_ok rfl rfl))) rfl h3) rfl (gt_f hm))
  · refine ⟨_, h1, fun x5 x6 x7 => ⟨and_f (bl_ok (m2_ok (x := .str "apart") (y := .str "meet") rfl rfl str2)), ?_⟩⟩
    refine (and_t (bl_ok (m2_ok (x := .str "apart") (y := .str "apart") rfl rfl str4))).trans ?_
    have hin : ∀ d ∈ [D.int (i : Int), D.int (j : Int)], dIn true d (.tup (idx (inA (ac z o)) 0 (S.map T))) = some (.bl false) := fun d hd => by
      have one : ∀ (k : Nat) (c : List Int), S[k]? = some c → c ∈ ac z o → dIn true (.int (k : Int)) (.tup (idx (inA (ac z o)) 0 (S.map T))) = some (.bl false) := fun k c hk hc =>
        notin (idx_mem.mpr ⟨k, T c, getT hk, by show memD (T c) ((ac z o).map T) = true; rw [memD_T, decide_eq_true_eq]; exact hc, by rw [Nat.zero_add]⟩)
      rcases List.mem_cons.mp hd with rfl | hd
      · exact one i a ha ia
      · rcases List.mem_singleton.mp hd with rfl
        exact one j b hb ib
    refine bl_ok (m2_ok (x := .lst []) (y := .lst []) (lst_ok (lc_ok (ds := [.int (i : Int), .int (j : Int)]) (items_ok (d := .tup [.int (i : Int), .int (j : Int)]) rfl rfl) (by exact (by decide : 2 ≤ 1000000)) ?_)) rfl rfl)
    rw [← filter_no (ds := [D.int (i : Int), D.int (j : Int)])]
    exact lc_filter fun d hd => ⟨bl_ok (m2_ok rfl (fn_ok (cons_ok rfl (cons_ok rfl (cons_ok rfl (cons_ok rfl rfl)))) rfl (C.among hn hs (by omega) ho)) (hin d hd)), rfl⟩
abbrev bTot : SM := mSeq (mSet (.nm 10) (m2 dAdd (mVar 10) (mCall fLen (mCons (mFn 4 φ_arcs_among [] (mCons (mVar 1) (mCons (mVar 2) (mCons (mFn 3 φ_star [] (mCons (mVar 1) (mCons (mVar 2) (mCons (mVar 9) (mNil))))) (mCons (mVar 11) (mNil)))))) (mNil))))) (mNext)
theorem Ctx.total (C : Ctx p z L os M ls) {ds : List D} {r : D} {x5 x6 x7 : Option D} {k : Int} (hk : k ∈ rg p) (τ : Tape) : ∀ (os' : List (List Int)), (∀ o ∈ os', o ∈ os) → ∀ (t : Int) (x11 : Option D), ∃ x11', forGo (.nm 11) bTot (os'.map T) (E13 p z ds r x5 x6 x7 (some (.int k)) (some (.int t)) x11 none) τ = .ok (.nx (E13 p z ds r x5 x6 x7 (some (.int k)) (some (.int (t + (os'.map fun o => (((L.filter fun l => decide (k ∈ l)).filter fun l => decide (l ∈ ac z o)).length : Int)).sum))) x11' none)) τ
  | [], _, t, x11 => ⟨x11, by show R.ok (Out.nx (E13 p z ds r x5 x6 x7 (some (.int k)) (some (.int t)) x11 none)) τ = R.ok (Out.nx (E13 p z ds r x5 x6 x7 (some (.int k)) (some (.int (t + 0))) x11 none)) τ; rw [Int.add_zero]⟩
  | o :: os', ho, t, x11 => by
    obtain ⟨x11', h⟩ := C.total hk τ os' (fun o h => ho o (List.mem_cons_of_mem _ h)) (ds := ds) (r := r) (x5 := x5) (x6 := x6) (x7 := x7) (t + (((L.filter fun l => decide (k ∈ l)).filter fun l => decide (l ∈ ac z o)).length : Int)) (some (T o))
    refine ⟨x11', ?_⟩
    rw [List.map_cons (f := fun o => (((L.filter fun l => decide (k ∈ l)).filter fun l => decide (l ∈ ac z o)).length : Int)), List.sum_cons, ← Int.add_assoc]
    refine (forGo_step (t := .nm 11) (d := T o) (ds := os'.map T) (env1 := E13 p z ds r x5 x6 x7 (some (.int k)) (some (.int t)) (some (T o)) none) (τ1 := τ) rfl ?_).trans h
    refine (seq_nx (set_ok (m2_ok (x := .int t) (y := .int (((L.filter fun l => decide (k ∈ l)).filter fun l => decide (l ∈ ac z o)).length : Int)) rfl (call_ok (cons_ok (fn_ok (cons_ok rfl (cons_ok rfl (cons_ok (fn_ok (cons_ok rfl (cons_ok rfl (cons_ok rfl rfl))) rfl (C.star k hk)) (cons_ok rfl rfl)))) rfl (C.among (S := L.filter fun l => decide (k ∈ l)) (C.nd.filter _) (fun l hl => (List.mem_filter.mp hl).1) (Nat.le_trans (List.length_filter_le _ _) C.ll) (ho o List.mem_cons_self))) rfl) ?_) rfl) rfl)).trans rfl
    show some (D.int ((idx _ 0 _).length : Int)) = _
    rw [idx_len, filt_T]
end
end LK
end
section
set_option Elab.async false
set_option linter.all false
set_option maxRecDepth 100000
set_option maxHeartbeats 0
namespace LK
open PySem Z
section
variable {p z : Int} {L os : List (List Int)} {M : Nat} {ls : Nat → Nat} {S : List (List Int)}
theorem Ctx.right (C : Ctx p z L os M ls) (hn : S.Nodup) (hs : ∀ l ∈ S, l ∈ L) (h6 : S.length ≤ 6) {k : Nat} {τ : Tape} (f : Fit (k + 2) τ) : ∃ τ', φ__law_sets_right [.tape, .int p, .int z, .lst (S.map T)] τ = .ok (.bl true) τ' ∧ Fit k τ' := by
  obtain ⟨r, hr, hc⟩ := C.told hn hs h6 τ
  obtain ⟨x5, x6, x7, hkeys⟩ := C.keys hs h6 r τ
  obtain ⟨c4f, c5f⟩ := hc x5 x6 x7
  obtain ⟨sd, hsd, hsl⟩ := C.shade hn hs h6
  obtain ⟨v, τ1, v0, v1, hdraw, f1⟩ := draw_ok (n := p) (k := k + 1) C.p6.1 (by have := C.p6.2; omega) f
  have hv : v ∈ rg p := List.mem_map.mpr ⟨v.toNat, List.mem_range.mpr (by omega), by show ((v.toNat : Nat) : Int) = v; omega⟩
  obtain ⟨x11, htot⟩ := C.total (ds := S.map T) (r := r) (x5 := x5) (x6 := x6) (x7 := x7) hv τ1 os (fun o h => h) 0 none
  rw [Int.zero_add, C.ssum v hv] at htot
  obtain ⟨d, τ2, hd, hpick, f2⟩ := pick_ok (ds := os.map T) (k := k) (τ := τ1) (by rw [List.length_map]; exact C.osl.1) (by rw [List.length_map]; have := C.osl.2; omega) f1
  obtain ⟨o, ho, rfl⟩ := List.mem_map.mp hd
  obtain ⟨xs, hx, hxl, hxi⟩ := C.parted hn hs h6 ho
  refine ⟨τ2, runB_ret (N := 13) (m := m__law_sets_right) ?_, f2⟩
  refine (seq_nx (e := E13 p z (S.map T) r none none none none none none none) (τ1 := τ) (set_ok (fn_okT (cons_ok rfl (cons_ok rfl (cons_ok rfl rfl))) rfl hr) rfl)).trans ?_
  refine (seq_nx (e := E13 p z (S.map T) r x5 x6 x7 none none none none) (τ1 := τ) ((for_ok (items_ok (fn_ok (cons_ok (call_ok (z := .int (S.length : Int)) (cons_ok rfl rfl) (by show some (D.int ((S.map T).length : Int)) = _; rw [List.length_map])) rfl) rfl (tab_lk _ (r7 h6))) rfl)).trans hkeys)).trans ?_
  refine (seq_nx (e := E13 p z (S.map T) r x5 x6 x7 none none none none) (τ1 := τ) ?_).trans ?_
  · refine (if_f (w13 _ _ _ _ _ _ _ _ _ _ _) ?_).trans rfl
    refine (or_f (bl_ok (m2_ok (x := .bl true) (y := .bl true) (fn_ok (cons_ok rfl (cons_ok rfl rfl)) rfl (C.anti hn hs h6)) rfl rfl))).trans ?_
    exact bl_ok (m2_ok (x := .bl true) (y := .bl true) (fn_ok (cons_ok (fn_ok (cons_ok rfl (cons_ok rfl rfl)) rfl (C.sf hn hs h6)) (cons_ok rfl rfl)) rfl (C.kind hn hs h6)) rfl rfl)
  refine (seq_nx (e := E13 p z (S.map T) r x5 x6 x7 none none none none) (τ1 := τ) ((if_f (w13 _ _ _ _ _ _ _ _ _ _ _) c4f).trans rfl)).trans ?_
  refine (seq_nx (e := E13 p z (S.map T) r x5 x6 x7 none none none none) (τ1 := τ) ((if_f (w13 _ _ _ _ _ _ _ _ _ _ _) c5f).trans rfl)).trans ?_
  refine (seq_nx (e := E13 p z (S.map T) r x5 x6 x7 none none none none) (τ1 := τ) ((if_f (w13 _ _ _ _ _ _ _ _ _ _ _) ?_).trans rfl)).trans ?_
  · exact bl_ok (m2_ok (x := .int (sd.length : Int)) (y := .int (ls S.length : Int)) (call_ok (cons_ok (fn_ok (cons_ok rfl (cons_ok rfl (cons_ok rfl rfl))) rfl hsd) rfl) rfl) (fn_ok (cons_ok (call_ok (z := .int (S.length : Int)) (cons_ok rfl rfl) (by show some (D.int ((S.map T).length : Int)) = _; rw [List.length_map])) (cons_ok rfl rfl)) rfl (C.lss _ (r7 h6))) (lt_f (by omega)))
  refine (seq_nx (e := E13 p z (S.map T) r x5 x6 x7 (some (.int v)) (some (.int 0)) none none) (τ1 := τ1) ((par_vv (fn_okT (cons_ok rfl (cons_ok rfl rfl)) rfl hdraw) rfl).trans rfl)).trans ?_
  refine (seq_nx (e := E13 p z (S.map T) r x5 x6 x7 (some (.int v)) (some (.int (z * (os.length : Int)))) x11 none) (τ1 := τ1) ((for_ok (items_ok (fn_ok (cons_ok rfl rfl) rfl C.ros2) rfl)).trans htot)).trans ?_
  refine (seq_nx (e := E13 p z (S.map T) r x5 x6 x7 (some (.int v)) (some (.int (z * (os.length : Int)))) x11 none) (τ1 := τ1) ((if_f (w13 _ _ _ _ _ _ _ _ _ _ _) ?_).trans rfl)).trans ?_
  · refine bl_ok (m2_ok (x := .int (z * (os.length : Int))) (y := .int (z * (os.length : Int))) rfl (m2_ok (x := .int z) (y := .int (os.length : Int)) rfl (call_ok (cons_ok (fn_ok (cons_ok rfl rfl) rfl C.ros2) rfl) (by show some (D.int ((os.map T).length : Int)) = _; rw [List.length_map])) (mul_ok ?_ ?_)) (dNe_self _))
    · have := C.z0
      exact Nat.lt_of_lt_of_le (show z.natAbs < 2 ^ 64 by omega) (Nat.pow_le_pow_right (by decide) (by decide))
    · have := C.osl.2
      exact Nat.lt_of_lt_of_le (show (os.length : Int).natAbs < 2 ^ 64 by omega) (Nat.pow_le_pow_right (by decide) (by decide))
  refine (seq_nx (e := E13 p z (S.map T) r x5 x6 x7 (some (.int v)) (some (.int (z * (os.length : Int)))) (some (T o)) none) (τ1 := τ2) (set_ok (fn_okT (cons_ok rfl (cons_ok (fn_ok (cons_ok rfl rfl) rfl C.ros2) rfl)) rfl hpick) rfl)).trans ?_
  refine (seq_nx (e := E13 p z (S.map T) r x5 x6 x7 (some (.int v)) (some (.int (z * (os.length : Int)))) (some (T o)) (some (.lst xs))) (τ1 := τ2) (set_ok (lst_ok (lc_ok (ds := xs) (ys := xs) (items_ok (fn_ok (cons_ok (fn_ok (cons_ok rfl (cons_ok rfl rfl)) rfl (C.sf hn hs h6)) (cons_ok rfl rfl)) rfl hx) rfl) (Nat.le_trans (by omega : xs.length ≤ 2) (by decide)) ?_)) rfl)).trans ?_
  · have := lc_map (i := 8) (me := mVar 8) (env := wipeE (E13 p z (S.map T) r x5 x6 x7 (some (.int v)) (some (.int (z * (os.length : Int)))) (some (T o)) none) [8]) (f := id) (τ := τ2) (ds := xs) fun d _ => rfl
    rwa [List.map_id] at this
  refine seq_ret (ret_ok (w13 _ _ _ _ _ _ _ _ _ _ _) ?_)
  refine (and_ok (x := .bl true) (m2_ok (x := .lst []) (y := .lst []) (lst_ok (lc_ok (ds := xs) (items_ok rfl rfl) (Nat.le_trans (by omega : xs.length ≤ 2) (by decide)) ?_)) rfl rfl) rfl).trans ?_
  · have h := lc_filter (i := 8) (mt := mBl (m2 (dIn true) (mVar 8) (mFn 4 φ_arcs_among [] (mCons (mVar 1) (mCons (mVar 2) (mCons (mVar 3) (mCons (mVar 11) (mNil)))))))) (me := mVar 8) (env := wipeE (unown (E13 p z (S.map T) r x5 x6 x7 (some (.int v)) (some (.int (z * (os.length : Int)))) (some (T o)) (some (.lst xs)))) [8]) (q := fun _ => false) (τ := τ2) (ds := xs) fun d hd => ⟨by
      obtain ⟨i, rfl, hi⟩ := hxi d hd
      exact bl_ok (m2_ok rfl (fn_ok (cons_ok rfl (cons_ok rfl (cons_ok rfl (cons_ok rfl rfl)))) rfl (C.among hn hs (by omega) ho)) (notin hi)), rfl⟩
    rw [filter_no] at h
    exact h
  · exact m2_ok (x := .int (xs.length : Int)) (y := .int 2) (call_ok (cons_ok rfl rfl) rfl) rfl (lt_t (by omega))
end
end LK
end
section
set_option Elab.async false
set_option linter.all false
set_option maxRecDepth 100000
set_option maxHeartbeats 0
namespace LK
open PySem Z
def prs {α : Type} (L : List α) : List (α × α) := L.flatMap fun a => L.map fun b => (a, b)
theorem prs_mem {α : Type} {L : List α} {a b : α} (ha : a ∈ L) (hb : b ∈ L) : (a, b) ∈ prs L := List.mem_flatMap.mpr ⟨a, ha, List.mem_map.mpr ⟨b, hb, rfl⟩⟩
def prs2 {α β : Type} (L : List α) (M : List β) : List (α × β) := L.flatMap fun a => M.map fun b => (a, b)
theorem prs2_mem {α β : Type} {L : List α} {M : List β} {a : α} {b : β} (ha : a ∈ L) (hb : b ∈ M) : (a, b) ∈ prs2 L M := List.mem_flatMap.mpr ⟨a, ha, List.mem_map.mpr ⟨b, hb, rfl⟩⟩
theorem srt_of {L U : List (List Int)} (hU : ∀ l ∈ L, ∀ y ∈ l, l.filter (· != y) ∈ U) (hl : U.length ≤ 1000) (ha : ∀ u ∈ U, ∀ v ∈ U, PySem.W.alike (toP (T u)) (toP (T v)) = true) (h : (∀ u ∈ U, tup1 (T u) = true) ∨ U = [[]]) : ∀ s : List (List Int), (∀ l ∈ s, l ∈ L) → sortOk ((keysOf s).map T) = true := by
  intro s hs
  have hin : ∀ x ∈ keysOf s, x ∈ U := fun x hx => by
    obtain ⟨l, hl, y, hy, rfl⟩ := keysOf_mem.mp hx
    exact hU l (hs l hl) y hy
  have hn := nodup_le (keysOf_nodup s) hin
  refine sortOk_of (fun d hd => ?_) ?_ (fun d hd e he => ?_) ?_
  · obtain ⟨u, _, rfl⟩ := List.mem_map.mp hd
    exact ok_T 57 u
  · rw [List.length_map]; exact Nat.le_trans (by omega : (keysOf s).length ≤ 1000) (by decide)
  · obtain ⟨u, hu, rfl⟩ := List.mem_map.mp hd
    obtain ⟨v, hv, rfl⟩ := List.mem_map.mp he
    exact ha u (hin u hu) v (hin v hv)
  · rcases h with h | h
    · refine .inl fun d hd => ?_
      obtain ⟨u, hu, rfl⟩ := List.mem_map.mp hd
      exact h u (hin u hu)
    · refine .inr ⟨?_, fun d hd => ?_⟩
      · rw [List.length_map]; rw [h] at hn; exact hn
      · obtain ⟨u, hu, rfl⟩ := List.mem_map.mp hd
        rfl
def L21 : List (List Int) := [[0], [1]]
def U21 : List (List Int) := [[]]
def O21 : List (List Int) := [[0, 1]]
def S21 (n : Nat) : Nat := [0, 1, 1, 1, 1, 1, 1].getD n 0
theorem C21 : Ctx 2 1 L21 O21 1 S21 where
  np := pu_of (by kernel_rfl)
  na := pu_of (by kernel_rfl)
  bz := pu_of (by kernel_rfl)
  p6 := by decide
  z0 := by decide
  ll := by decide
  nd := by decide +kernel
  side := fun l hl => pu_of (all_of_map (L := L21) (f := fun l τ => φ_is_side [.int 2, T l] τ) (g := fun l τ => R.ok (.bl true) τ) (by kernel_rfl) l hl)
  len := by decide +kernel
  com := fun a ha b hb => pu_of (all_of_map (L := prs L21) (f := fun ab τ => φ_common_of [T ab.1, T ab.2] τ) (g := fun ab τ => R.ok (T (cm ab.1 ab.2)) τ) (by kernel_rfl) (a, b) (prs_mem ha hb))
  lcom := fun a ha b hb => pu_of (all_of_map (L := prs L21) (f := fun ab τ => φ__law_common [T ab.1, T ab.2] τ) (g := fun ab τ => R.ok (T (cm ab.1 ab.2)) τ) (by kernel_rfl) (a, b) (prs_mem ha hb))
  rnd := fun a ha b hb hn => ⟨pu_of (all_of_map (L := (prs L21).filter fun ab => decide (cm ab.1 ab.2 = [])) (f := fun ab τ => φ_round_with [.int 2, T ab.1, T ab.2] τ) (g := fun ab τ => R.ok (T (rnd 2 ab.1 ab.2)) τ) (by kernel_rfl) (a, b) (List.mem_filter.mpr ⟨prs_mem ha hb, by simpa using hn⟩)), (show ∀ ab ∈ (prs L21).filter fun ab => decide (cm ab.1 ab.2 = []), rnd 2 ab.1 ab.2 ∈ O21 ∧ ab.1 ∈ ac 1 (rnd 2 ab.1 ab.2) ∧ ab.2 ∈ ac 1 (rnd 2 ab.1 ab.2) from by decide +kernel) (a, b) (List.mem_filter.mpr ⟨prs_mem ha hb, by simpa using hn⟩)⟩
  ros := pu_of (by kernel_rfl)
  ros2 := pu_of (by kernel_rfl)
  osl := by decide +kernel
  arc := fun l hl => pu_of (all_of_map (L := O21) (f := fun l τ => φ_arcs_by [T l, .int 1] τ) (g := fun l τ => R.ok (.lst ((ac 1 l).map T)) τ) (by kernel_rfl) l hl)
  isr := fun l hl => pu_of (all_of_map (L := O21) (f := fun l τ => φ_is_round [.int 2, T l] τ) (g := fun l τ => R.ok (.bl true) τ) (by kernel_rfl) l hl)
  nor := fun l hl => pu_of (all_of_map (L := O21) (f := fun l τ => φ_need_order [.int 2, T l] τ) (g := fun l τ => R.ok (.non) τ) (by kernel_rfl) l hl)
  oth := fun l hl => pu_of (all_of_map (L := L21) (f := fun l τ => φ_others_of [.int 2, T l] τ) (g := fun l τ => R.ok (T (oth 2 l)) τ) (by kernel_rfl) l hl)
  isp := fun l hl => pu_of (all_of_map (L := L21) (f := fun l τ => φ_is_pair [.int 2, .tup [T l, T (oth 2 l)]] τ) (g := fun l τ => R.ok (.bl true) τ) (by kernel_rfl) l hl)
  crs := fun a ha b hb hn => ⟨pu_of (all_of_map (L := (prs L21).filter fun ab => decide (ab.1 ≠ ab.2)) (f := fun ab τ => φ_common_of [T ab.1, T (oth 2 ab.2)] τ) (g := fun ab τ => R.ok (T (cm ab.1 (oth 2 ab.2))) τ) (by kernel_rfl) (a, b) (List.mem_filter.mpr ⟨prs_mem ha hb, by simpa using hn⟩)), (show ∀ ab ∈ (prs L21).filter fun ab => decide (ab.1 ≠ ab.2), cm ab.1 (oth 2 ab.2) ≠ [] from by decide +kernel) (a, b) (List.mem_filter.mpr ⟨prs_mem ha hb, by simpa using hn⟩)⟩
  fam := fun a ha b hb => pu_of (all_of_map (L := prs L21) (f := fun ab τ => φ_Family___init__ [.int 2, pairD ab.1 ab.2] τ) (g := fun ab τ => R.ok (famD 2 (pairDs ab.1 ab.2)) τ) (by kernel_rfl) (a, b) (prs_mem ha hb))
  c01 := fun a ha b hb => pu_of (all_of_map (L := prs L21) (f := fun ab τ => φ_crosses [famD 2 (pairDs ab.1 ab.2), .int 0, .int 1] τ) (g := fun ab τ => R.ok (.bl (!(cm ab.1 ab.2).isEmpty)) τ) (by kernel_rfl) (a, b) (prs_mem ha hb))
  c10 := fun a ha b hb => pu_of (all_of_map (L := prs L21) (f := fun ab τ => φ_crosses [famD 2 (pairDs ab.1 ab.2), .int 1, .int 0] τ) (g := fun ab τ => R.ok (.bl false) τ) (by kernel_rfl) (a, b) (prs_mem ha hb))
  wit := fun a ha b hb hn => pu_of (all_of_map (L := (prs L21).filter fun ab => decide (ab.1 ≠ ab.2)) (f := fun ab τ => φ_is_within_side [T ab.1, T ab.2] τ) (g := fun ab τ => R.ok (.bl false) τ) (by kernel_rfl) (a, b) (List.mem_filter.mpr ⟨prs_mem ha hb, by simpa using hn⟩))
  par := fun o ho l hl => pu_of (all_of_map (L := prs2 O21 L21) (f := fun ab τ => φ_parts_by [T ab.1, .tup [T ab.2, T (oth 2 ab.2)]] τ) (g := fun ab τ => R.ok (.bl (pt 1 ab.1 ab.2)) τ) (by kernel_rfl) (o, l) (prs2_mem ho hl))
  parc := by decide +kernel
  star := fun l hl => pu_of (all_of_map (L := rg 2) (f := fun l τ => φ_star [.int 2, .int 1, .int l] τ) (g := fun l τ => R.ok (.lst ((L21.filter fun x => decide (l ∈ x)).map T)) τ) (by kernel_rfl) l hl)
  ssum := by decide +kernel
  mm := pu_of (by kernel_rfl)
  lss := fun l hl => pu_of (all_of_map (L := List.range 7) (f := fun l τ => φ_least_shadow [.int ((l : Nat) : Int), .int 1] τ) (g := fun l τ => R.ok (.int ((S21 l : Nat) : Int)) τ) (by kernel_rfl) l hl)
  comb := by decide +kernel
  shad := by decide +kernel
  srt := srt_of (U := U21) (by decide +kernel) (by decide +kernel) (by decide +kernel) (.inr rfl)
theorem Z21 : Pu φ__law_sized [.int 2, .int 1] (.lst (L21.map T)) := pu_of (by kernel_rfl)
def L31 : List (List Int) := [[0], [1], [2]]
def U31 : List (List Int) := [[]]
def O31 : List (List Int) := [[0, 1, 2], [0, 2, 1]]
def S31 (n : Nat) : Nat := [0, 1, 1, 1, 1, 1, 1].getD n 0
theorem C31 : Ctx 3 1 L31 O31 1 S31 where
  np := pu_of (by kernel_rfl)
  na := pu_of (by kernel_rfl)
  bz := pu_of (by kernel_rfl)
  p6 := by decide
  z0 := by decide
  ll := by decide
  nd := by decide +kernel
  side := fun l hl => pu_of (all_of_map (L := L31) (f := fun l τ => φ_is_side [.int 3, T l] τ) (g := fun l τ => R.ok (.bl true) τ) (by kernel_rfl) l hl)
  len := by decide +kernel
  com := fun a ha b hb => pu_of (all_of_map (L := prs L31) (f := fun ab τ => φ_common_of [T ab.1, T ab.2] τ) (g := fun ab τ => R.ok (T (cm ab.1 ab.2)) τ) (by kernel_rfl) (a, b) (prs_mem ha hb))
  lcom := fun a ha b hb => pu_of (all_of_map (L := prs L31) (f := fun ab τ => φ__law_common [T ab.1, T ab.2] τ) (g := fun ab τ => R.ok (T (cm ab.1 ab.2)) τ) (by kernel_rfl) (a, b) (prs_mem ha hb))
  rnd := fun a ha b hb hn => ⟨pu_of (all_of_map (L := (prs L31).filter fun ab => decide (cm ab.1 ab.2 = [])) (f := fun ab τ => φ_round_with [.int 3, T ab.1, T ab.2] τ) (g := fun ab τ => R.ok (T (rnd 3 ab.1 ab.2)) τ) (by kernel_rfl) (a, b) (List.mem_filter.mpr ⟨prs_mem ha hb, by simpa using hn⟩)), (show ∀ ab ∈ (prs L31).filter fun ab => decide (cm ab.1 ab.2 = []), rnd 3 ab.1 ab.2 ∈ O31 ∧ ab.1 ∈ ac 1 (rnd 3 ab.1 ab.2) ∧ ab.2 ∈ ac 1 (rnd 3 ab.1 ab.2) from by decide +kernel) (a, b) (List.mem_filter.mpr ⟨prs_mem ha hb, by simpa using hn⟩)⟩
  ros := pu_of (by kernel_rfl)
  ros2 := pu_of (by kernel_rfl)
  osl := by decide +kernel
  arc := fun l hl => pu_of (all_of_map (L := O31) (f := fun l τ => φ_arcs_by [T l, .int 1] τ) (g := fun l τ => R.ok (.lst ((ac 1 l).map T)) τ) (by kernel_rfl) l hl)
  isr := fun l hl => pu_of (all_of_map (L := O31) (f := fun l τ => φ_is_round [.int 3, T l] τ) (g := fun l τ => R.ok (.bl true) τ) (by kernel_rfl) l hl)
  nor := fun l hl => pu_of (all_of_map (L := O31) (f := fun l τ => φ_need_order [.int 3, T l] τ) (g := fun l τ => R.ok (.non) τ) (by kernel_rfl) l hl)
  oth := fun l hl => pu_of (all_of_map (L := L31) (f := fun l τ => φ_others_of [.int 3, T l] τ) (g := fun l τ => R.ok (T (oth 3 l)) τ) (by kernel_rfl) l hl)
  isp := fun l hl => pu_of (all_of_map (L := L31) (f := fun l τ => φ_is_pair [.int 3, .tup [T l, T (oth 3 l)]] τ) (g := fun l τ => R.ok (.bl true) τ) (by kernel_rfl) l hl)
  crs := fun a ha b hb hn => ⟨pu_of (all_of_map (L := (prs L31).filter fun ab => decide (ab.1 ≠ ab.2)) (f := fun ab τ => φ_common_of [T ab.1, T (oth 3 ab.2)] τ) (g := fun ab τ => R.ok (T (cm ab.1 (oth 3 ab.2))) τ) (by kernel_rfl) (a, b) (List.mem_filter.mpr ⟨prs_mem ha hb, by simpa using hn⟩)), (show ∀ ab ∈ (prs L31).filter fun ab => decide (ab.1 ≠ ab.2), cm ab.1 (oth 3 ab.2) ≠ [] from by decide +kernel) (a, b) (List.mem_filter.mpr ⟨prs_mem ha hb, by simpa using hn⟩)⟩
  fam := fun a ha b hb => pu_of (all_of_map (L := prs L31) (f := fun ab τ => φ_Family___init__ [.int 3, pairD ab.1 ab.2] τ) (g := fun ab τ => R.ok (famD 3 (pairDs ab.1 ab.2)) τ) (by kernel_rfl) (a, b) (prs_mem ha hb))
  c01 := fun a ha b hb => pu_of (all_of_map (L := prs L31) (f := fun ab τ => φ_crosses [famD 3 (pairDs ab.1 ab.2), .int 0, .int 1] τ) (g := fun ab τ => R.ok (.bl (!(cm ab.1 ab.2).isEmpty)) τ) (by kernel_rfl) (a, b) (prs_mem ha hb))
  c10 := fun a ha b hb => pu_of (all_of_map (L := prs L31) (f := fun ab τ => φ_crosses [famD 3 (pairDs ab.1 ab.2), .int 1, .int 0] τ) (g := fun ab τ => R.ok (.bl false) τ) (by kernel_rfl) (a, b) (prs_mem ha hb))
  wit := fun a ha b hb hn => pu_of (all_of_map (L := (prs L31).filter fun ab => decide (ab.1 ≠ ab.2)) (f := fun ab τ => φ_is_within_side [T ab.1, T ab.2] τ) (g := fun ab τ => R.ok (.bl false) τ) (by kernel_rfl) (a, b) (List.mem_filter.mpr ⟨prs_mem ha hb, by simpa using hn⟩))
  par := fun o ho l hl => pu_of (all_of_map (L := prs2 O31 L31) (f := fun ab τ => φ_parts_by [T ab.1, .tup [T ab.2, T (oth 3 ab.2)]] τ) (g := fun ab τ => R.ok (.bl (pt 1 ab.1 ab.2)) τ) (by kernel_rfl) (o, l) (prs2_mem ho hl))
  parc := by decide +kernel
  star := fun l hl => pu_of (all_of_map (L := rg 3) (f := fun l τ => φ_star [.int 3, .int 1, .int l] τ) (g := fun l τ => R.ok (.lst ((L31.filter fun x => decide (l ∈ x)).map T)) τ) (by kernel_rfl) l hl)
  ssum := by decide +kernel
  mm := pu_of (by kernel_rfl)
  lss := fun l hl => pu_of (all_of_map (L := List.range 7) (f := fun l τ => φ_least_shadow [.int ((l : Nat) : Int), .int 1] τ) (g := fun l τ => R.ok (.int ((S31 l : Nat) : Int)) τ) (by kernel_rfl) l hl)
  comb := by decide +kernel
  shad := by decide +kernel
  srt := srt_of (U := U31) (by decide +kernel) (by decide +kernel) (by decide +kernel) (.inr rfl)
theorem Z31 : Pu φ__law_sized [.int 3, .int 1] (.lst (L31.map T)) := pu_of (by kernel_rfl)
def L41 : List (List Int) := [[0], [1], [2], [3]]
def U41 : List (List Int) := [[]]
def O41 : List (List Int) := [[0, 1, 2, 3], [0, 1, 3, 2], [0, 2, 1, 3], [0, 2, 3, 1], [0, 3, 1, 2], [0, 3, 2, 1]]
def S41 (n : Nat) : Nat := [0, 1, 1, 1, 1, 1, 1].getD n 0
theorem C41 : Ctx 4 1 L41 O41 1 S41 where
  np := pu_of (by kernel_rfl)
  na := pu_of (by kernel_rfl)
  bz := pu_of (by kernel_rfl)
  p6 := by decide
  z0 := by decide
  ll := by decide
  nd := by decide +kernel
  side := fun l hl => pu_of (all_of_map (L := L41) (f := fun l τ => φ_is_side [.int 4, T l] τ) (g := fun l τ => R.ok (.bl true) τ) (by kernel_rfl) l hl)
  len := by decide +kernel
  com := fun a ha b hb => pu_of (all_of_map (L := prs L41) (f := fun ab τ => φ_common_of [T ab.1, T ab.2] τ) (g := fun ab τ => R.ok (T (cm ab.1 ab.2)) τ) (by kernel_rfl) (a, b) (prs_mem ha hb))
  lcom := fun a ha b hb => pu_of (all_of_map (L := prs L41) (f := fun ab τ => φ__law_common [T ab.1, T ab.2] τ) (g := fun ab τ => R.ok (T (cm ab.1 ab.2)) τ) (by kernel_rfl) (a, b) (prs_mem ha hb))
  rnd := fun a ha b hb hn => ⟨pu_of (all_of_map (L := (prs L41).filter fun ab => decide (cm ab.1 ab.2 = [])) (f := fun ab τ => φ_round_with [.int 4, T ab.1, T ab.2] τ) (g := fun ab τ => R.ok (T (rnd 4 ab.1 ab.2)) τ) (by kernel_rfl) (a, b) (List.mem_filter.mpr ⟨prs_mem ha hb, by simpa using hn⟩)), (show ∀ ab ∈ (prs L41).filter fun ab => decide (cm ab.1 ab.2 = []), rnd 4 ab.1 ab.2 ∈ O41 ∧ ab.1 ∈ ac 1 (rnd 4 ab.1 ab.2) ∧ ab.2 ∈ ac 1 (rnd 4 ab.1 ab.2) from by decide +kernel) (a, b) (List.mem_filter.mpr ⟨prs_mem ha hb, by simpa using hn⟩)⟩
  ros := pu_of (by kernel_rfl)
  ros2 := pu_of (by kernel_rfl)
  osl := by decide +kernel
  arc := fun l hl => pu_of (all_of_map (L := O41) (f := fun l τ => φ_arcs_by [T l, .int 1] τ) (g := fun l τ => R.ok (.lst ((ac 1 l).map T)) τ) (by kernel_rfl) l hl)
  isr := fun l hl => pu_of (all_of_map (L := O41) (f := fun l τ => φ_is_round [.int 4, T l] τ) (g := fun l τ => R.ok (.bl true) τ) (by kernel_rfl) l hl)
  nor := fun l hl => pu_of (all_of_map (L := O41) (f := fun l τ => φ_need_order [.int 4, T l] τ) (g := fun l τ => R.ok (.non) τ) (by kernel_rfl) l hl)
  oth := fun l hl => pu_of (all_of_map (L := L41) (f := fun l τ => φ_others_of [.int 4, T l] τ) (g := fun l τ => R.ok (T (oth 4 l)) τ) (by kernel_rfl) l hl)
  isp := fun l hl => pu_of (all_of_map (L := L41) (f := fun l τ => φ_is_pair [.int 4, .tup [T l, T (oth 4 l)]] τ) (g := fun l τ => R.ok (.bl true) τ) (by kernel_rfl) l hl)
  crs := fun a ha b hb hn => ⟨pu_of (all_of_map (L := (prs L41).filter fun ab => decide (ab.1 ≠ ab.2)) (f := fun ab τ => φ_common_of [T ab.1, T (oth 4 ab.2)] τ) (g := fun ab τ => R.ok (T (cm ab.1 (oth 4 ab.2))) τ) (by kernel_rfl) (a, b) (List.mem_filter.mpr ⟨prs_mem ha hb, by simpa using hn⟩)), (show ∀ ab ∈ (prs L41).filter fun ab => decide (ab.1 ≠ ab.2), cm ab.1 (oth 4 ab.2) ≠ [] from by decide +kernel) (a, b) (List.mem_filter.mpr ⟨prs_mem ha hb, by simpa using hn⟩)⟩
  fam := fun a ha b hb => pu_of (all_of_map (L := prs L41) (f := fun ab τ => φ_Family___init__ [.int 4, pairD ab.1 ab.2] τ) (g := fun ab τ => R.ok (famD 4 (pairDs ab.1 ab.2)) τ) (by kernel_rfl) (a, b) (prs_mem ha hb))
  c01 := fun a ha b hb => pu_of (all_of_map (L := prs L41) (f := fun ab τ => φ_crosses [famD 4 (pairDs ab.1 ab.2), .int 0, .int 1] τ) (g := fun ab τ => R.ok (.bl (!(cm ab.1 ab.2).isEmpty)) τ) (by kernel_rfl) (a, b) (prs_mem ha hb))
  c10 := fun a ha b hb => pu_of (all_of_map (L := prs L41) (f := fun ab τ => φ_crosses [famD 4 (pairDs ab.1 ab.2), .int 1, .int 0] τ) (g := fun ab τ => R.ok (.bl false) τ) (by kernel_rfl) (a, b) (prs_mem ha hb))
  wit := fun a ha b hb hn => pu_of (all_of_map (L := (prs L41).filter fun ab => decide (ab.1 ≠ ab.2)) (f := fun ab τ => φ_is_within_side [T ab.1, T ab.2] τ) (g := fun ab τ => R.ok (.bl false) τ) (by kernel_rfl) (a, b) (List.mem_filter.mpr ⟨prs_mem ha hb, by simpa using hn⟩))
  par := fun o ho l hl => pu_of (all_of_map (L := prs2 O41 L41) (f := fun ab τ => φ_parts_by [T ab.1, .tup [T ab.2, T (oth 4 ab.2)]] τ) (g := fun ab τ => R.ok (.bl (pt 1 ab.1 ab.2)) τ) (by kernel_rfl) (o, l) (prs2_mem ho hl))
  parc := by decide +kernel
  star := fun l hl => pu_of (all_of_map (L := rg 4) (f := fun l τ => φ_star [.int 4, .int 1, .int l] τ) (g := fun l τ => R.ok (.lst ((L41.filter fun x => decide (l ∈ x)).map T)) τ) (by kernel_rfl) l hl)
  ssum := by decide +kernel
  mm := pu_of (by kernel_rfl)
  lss := fun l hl => pu_of (all_of_map (L := List.range 7) (f := fun l τ => φ_least_shadow [.int ((l : Nat) : Int), .int 1] τ) (g := fun l τ => R.ok (.int ((S41 l : Nat) : Int)) τ) (by kernel_rfl) l hl)
  comb := by decide +kernel
  shad := by decide +kernel
  srt := srt_of (U := U41) (by decide +kernel) (by decide +kernel) (by decide +kernel) (.inr rfl)
theorem Z41 : Pu φ__law_sized [.int 4, .int 1] (.lst (L41.map T)) := pu_of (by kernel_rfl)
def L42 : List (List Int) := [[0, 1], [0, 2], [0, 3], [1, 2], [1, 3], [2, 3]]
def U42 : List (List Int) := [[0], [1], [2], [3]]
def O42 : List (List Int) := [[0, 1, 2, 3], [0, 1, 3, 2], [0, 2, 1, 3], [0, 2, 3, 1], [0, 3, 1, 2], [0, 3, 2, 1]]
def S42 (n : Nat) : Nat := [0, 2, 3, 3, 4, 4, 4].getD n 0
theorem C42 : Ctx 4 2 L42 O42 3 S42 where
  np := pu_of (by kernel_rfl)
  na := pu_of (by kernel_rfl)
  bz := pu_of (by kernel_rfl)
  p6 := by decide
  z0 := by decide
  ll := by decide
  nd := by decide +kernel
  side := fun l hl => pu_of (all_of_map (L := L42) (f := fun l τ => φ_is_side [.int 4, T l] τ) (g := fun l τ => R.ok (.bl true) τ) (by kernel_rfl) l hl)
  len := by decide +kernel
  com := fun a ha b hb => pu_of (all_of_map (L := prs L42) (f := fun ab τ => φ_common_of [T ab.1, T ab.2] τ) (g := fun ab τ => R.ok (T (cm ab.1 ab.2)) τ) (by kernel_rfl) (a, b) (prs_mem ha hb))
  lcom := fun a ha b hb => pu_of (all_of_map (L := prs L42) (f := fun ab τ => φ__law_common [T ab.1, T ab.2] τ) (g := fun ab τ => R.ok (T (cm ab.1 ab.2)) τ) (by kernel_rfl) (a, b) (prs_mem ha hb))
  rnd := fun a ha b hb hn => ⟨pu_of (all_of_map (L := (prs L42).filter fun ab => decide (cm ab.1 ab.2 = [])) (f := fun ab τ => φ_round_with [.int 4, T ab.1, T ab.2] τ) (g := fun ab τ => R.ok (T (rnd 4 ab.1 ab.2)) τ) (by kernel_rfl) (a, b) (List.mem_filter.mpr ⟨prs_mem ha hb, by simpa using hn⟩)), (show ∀ ab ∈ (prs L42).filter fun ab => decide (cm ab.1 ab.2 = []), rnd 4 ab.1 ab.2 ∈ O42 ∧ ab.1 ∈ ac 2 (rnd 4 ab.1 ab.2) ∧ ab.2 ∈ ac 2 (rnd 4 ab.1 ab.2) from by decide +kernel) (a, b) (List.mem_filter.mpr ⟨prs_mem ha hb, by simpa using hn⟩)⟩
  ros := pu_of (by kernel_rfl)
  ros2 := pu_of (by kernel_rfl)
  osl := by decide +kernel
  arc := fun l hl => pu_of (all_of_map (L := O42) (f := fun l τ => φ_arcs_by [T l, .int 2] τ) (g := fun l τ => R.ok (.lst ((ac 2 l).map T)) τ) (by kernel_rfl) l hl)
  isr := fun l hl => pu_of (all_of_map (L := O42) (f := fun l τ => φ_is_round [.int 4, T l] τ) (g := fun l τ => R.ok (.bl true) τ) (by kernel_rfl) l hl)
  nor := fun l hl => pu_of (all_of_map (L := O42) (f := fun l τ => φ_need_order [.int 4, T l] τ) (g := fun l τ => R.ok (.non) τ) (by kernel_rfl) l hl)
  oth := fun l hl => pu_of (all_of_map (L := L42) (f := fun l τ => φ_others_of [.int 4, T l] τ) (g := fun l τ => R.ok (T (oth 4 l)) τ) (by kernel_rfl) l hl)
  isp := fun l hl => pu_of (all_of_map (L := L42) (f := fun l τ => φ_is_pair [.int 4, .tup [T l, T (oth 4 l)]] τ) (g := fun l τ => R.ok (.bl true) τ) (by kernel_rfl) l hl)
  crs := fun a ha b hb hn => ⟨pu_of (all_of_map (L := (prs L42).filter fun ab => decide (ab.1 ≠ ab.2)) (f := fun ab τ => φ_common_of [T ab.1, T (oth 4 ab.2)] τ) (g := fun ab τ => R.ok (T (cm ab.1 (oth 4 ab.2))) τ) (by kernel_rfl) (a, b) (List.mem_filter.mpr ⟨prs_mem ha hb, by simpa using hn⟩)), (show ∀ ab ∈ (prs L42).filter fun ab => decide (ab.1 ≠ ab.2), cm ab.1 (oth 4 ab.2) ≠ [] from by decide +kernel) (a, b) (List.mem_filter.mpr ⟨prs_mem ha hb, by simpa using hn⟩)⟩
  fam := fun a ha b hb => pu_of (all_of_map (L := prs L42) (f := fun ab τ => φ_Family___init__ [.int 4, pairD ab.1 ab.2] τ) (g := fun ab τ => R.ok (famD 4 (pairDs ab.1 ab.2)) τ) (by kernel_rfl) (a, b) (prs_mem ha hb))
  c01 := fun a ha b hb => pu_of (all_of_map (L := prs L42) (f := fun ab τ => φ_crosses [famD 4 (pairDs ab.1 ab.2), .int 0, .int 1] τ) (g := fun ab τ => R.ok (.bl (!(cm ab.1 ab.2).isEmpty)) τ) (by kernel_rfl) (a, b) (prs_mem ha hb))
  c10 := fun a ha b hb => pu_of (all_of_map (L := prs L42) (f := fun ab τ => φ_crosses [famD 4 (pairDs ab.1 ab.2), .int 1, .int 0] τ) (g := fun ab τ => R.ok (.bl false) τ) (by kernel_rfl) (a, b) (prs_mem ha hb))
  wit := fun a ha b hb hn => pu_of (all_of_map (L := (prs L42).filter fun ab => decide (ab.1 ≠ ab.2)) (f := fun ab τ => φ_is_within_side [T ab.1, T ab.2] τ) (g := fun ab τ => R.ok (.bl false) τ) (by kernel_rfl) (a, b) (List.mem_filter.mpr ⟨prs_mem ha hb, by simpa using hn⟩))
  par := fun o ho l hl => pu_of (all_of_map (L := prs2 O42 L42) (f := fun ab τ => φ_parts_by [T ab.1, .tup [T ab.2, T (oth 4 ab.2)]] τ) (g := fun ab τ => R.ok (.bl (pt 2 ab.1 ab.2)) τ) (by kernel_rfl) (o, l) (prs2_mem ho hl))
  parc := by decide +kernel
  star := fun l hl => pu_of (all_of_map (L := rg 4) (f := fun l τ => φ_star [.int 4, .int 2, .int l] τ) (g := fun l τ => R.ok (.lst ((L42.filter fun x => decide (l ∈ x)).map T)) τ) (by kernel_rfl) l hl)
  ssum := by decide +kernel
  mm := pu_of (by kernel_rfl)
  lss := fun l hl => pu_of (all_of_map (L := List.range 7) (f := fun l τ => φ_least_shadow [.int ((l : Nat) : Int), .int 2] τ) (g := fun l τ => R.ok (.int ((S42 l : Nat) : Int)) τ) (by kernel_rfl) l hl)
  comb := by decide +kernel
  shad := by decide +kernel
  srt := srt_of (U := U42) (by decide +kernel) (by decide +kernel) (by decide +kernel) (.inl (by decide +kernel))
theorem Z42 : Pu φ__law_sized [.int 4, .int 2] (.lst (L42.map T)) := pu_of (by kernel_rfl)
def L51 : List (List Int) := [[0], [1], [2], [3], [4]]
def U51 : List (List Int) := [[]]
def O51 : List (List Int) := [[0, 1, 2, 3, 4], [0, 1, 2, 4, 3], [0, 1, 3, 2, 4], [0, 1, 3, 4, 2], [0, 1, 4, 2, 3], [0, 1, 4, 3, 2], [0, 2, 1, 3, 4], [0, 2, 1, 4, 3], [0, 2, 3, 1, 4], [0, 2, 3, 4, 1], [0, 2, 4, 1, 3], [0, 2, 4, 3, 1], [0, 3, 1, 2, 4], [0, 3, 1, 4, 2], [0, 3, 2, 1, 4], [0, 3, 2, 4, 1], [0, 3, 4, 1, 2], [0, 3, 4, 2, 1], [0, 4, 1, 2, 3], [0, 4, 1, 3, 2], [0, 4, 2, 1, 3], [0, 4, 2, 3, 1], [0, 4, 3, 1, 2], [0, 4, 3, 2, 1]]
def S51 (n : Nat) : Nat := [0, 1, 1, 1, 1, 1, 1].getD n 0
theorem C51 : Ctx 5 1 L51 O51 1 S51 where
  np := pu_of (by kernel_rfl)
  na := pu_of (by kernel_rfl)
  bz := pu_of (by kernel_rfl)
  p6 := by decide
  z0 := by decide
  ll := by decide
  nd := by decide +kernel
  side := fun l hl => pu_of (all_of_map (L := L51) (f := fun l τ => φ_is_side [.int 5, T l] τ) (g := fun l τ => R.ok (.bl true) τ) (by kernel_rfl) l hl)
  len := by decide +kernel
  com := fun a ha b hb => pu_of (all_of_map (L := prs L51) (f := fun ab τ => φ_common_of [T ab.1, T ab.2] τ) (g := fun ab τ => R.ok (T (cm ab.1 ab.2)) τ) (by kernel_rfl) (a, b) (prs_mem ha hb))
  lcom := fun a ha b hb => pu_of (all_of_map (L := prs L51) (f := fun ab τ => φ__law_common [T ab.1, T ab.2] τ) (g := fun ab τ => R.ok (T (cm ab.1 ab.2)) τ) (by kernel_rfl) (a, b) (prs_mem ha hb))
  rnd := fun a ha b hb hn => ⟨pu_of (all_of_map (L := (prs L51).filter fun ab => decide (cm ab.1 ab.2 = [])) (f := fun ab τ => φ_round_with [.int 5, T ab.1, T ab.2] τ) (g := fun ab τ => R.ok (T (rnd 5 ab.1 ab.2)) τ) (by kernel_rfl) (a, b) (List.mem_filter.mpr ⟨prs_mem ha hb, by simpa using hn⟩)), (show ∀ ab ∈ (prs L51).filter fun ab => decide (cm ab.1 ab.2 = []), rnd 5 ab.1 ab.2 ∈ O51 ∧ ab.1 ∈ ac 1 (rnd 5 ab.1 ab.2) ∧ ab.2 ∈ ac 1 (rnd 5 ab.1 ab.2) from by decide +kernel) (a, b) (List.mem_filter.mpr ⟨prs_mem ha hb, by simpa using hn⟩)⟩
  ros := pu_of (by kernel_rfl)
  ros2 := pu_of (by kernel_rfl)
  osl := by decide +kernel
  arc := fun l hl => pu_of (all_of_map (L := O51) (f := fun l τ => φ_arcs_by [T l, .int 1] τ) (g := fun l τ => R.ok (.lst ((ac 1 l).map T)) τ) (by kernel_rfl) l hl)
  isr := fun l hl => pu_of (all_of_map (L := O51) (f := fun l τ => φ_is_round [.int 5, T l] τ) (g := fun l τ => R.ok (.bl true) τ) (by kernel_rfl) l hl)
  nor := fun l hl => pu_of (all_of_map (L := O51) (f := fun l τ => φ_need_order [.int 5, T l] τ) (g := fun l τ => R.ok (.non) τ) (by kernel_rfl) l hl)
  oth := fun l hl => pu_of (all_of_map (L := L51) (f := fun l τ => φ_others_of [.int 5, T l] τ) (g := fun l τ => R.ok (T (oth 5 l)) τ) (by kernel_rfl) l hl)
  isp := fun l hl => pu_of (all_of_map (L := L51) (f := fun l τ => φ_is_pair [.int 5, .tup [T l, T (oth 5 l)]] τ) (g := fun l τ => R.ok (.bl true) τ) (by kernel_rfl) l hl)
  crs := fun a ha b hb hn => ⟨pu_of (all_of_map (L := (prs L51).filter fun ab => decide (ab.1 ≠ ab.2)) (f := fun ab τ => φ_common_of [T ab.1, T (oth 5 ab.2)] τ) (g := fun ab τ => R.ok (T (cm ab.1 (oth 5 ab.2))) τ) (by kernel_rfl) (a, b) (List.mem_filter.mpr ⟨prs_mem ha hb, by simpa using hn⟩)), (show ∀ ab ∈ (prs L51).filter fun ab => decide (ab.1 ≠ ab.2), cm ab.1 (oth 5 ab.2) ≠ [] from by decide +kernel) (a, b) (List.mem_filter.mpr ⟨prs_mem ha hb, by simpa using hn⟩)⟩
  fam := fun a ha b hb => pu_of (all_of_map (L := prs L51) (f := fun ab τ => φ_Family___init__ [.int 5, pairD ab.1 ab.2] τ) (g := fun ab τ => R.ok (famD 5 (pairDs ab.1 ab.2)) τ) (by kernel_rfl) (a, b) (prs_mem ha hb))
  c01 := fun a ha b hb => pu_of (all_of_map (L := prs L51) (f := fun ab τ => φ_crosses [famD 5 (pairDs ab.1 ab.2), .int 0, .int 1] τ) (g := fun ab τ => R.ok (.bl (!(cm ab.1 ab.2).isEmpty)) τ) (by kernel_rfl) (a, b) (prs_mem ha hb))
  c10 := fun a ha b hb => pu_of (all_of_map (L := prs L51) (f := fun ab τ => φ_crosses [famD 5 (pairDs ab.1 ab.2), .int 1, .int 0] τ) (g := fun ab τ => R.ok (.bl false) τ) (by kernel_rfl) (a, b) (prs_mem ha hb))
  wit := fun a ha b hb hn => pu_of (all_of_map (L := (prs L51).filter fun ab => decide (ab.1 ≠ ab.2)) (f := fun ab τ => φ_is_within_side [T ab.1, T ab.2] τ) (g := fun ab τ => R.ok (.bl false) τ) (by kernel_rfl) (a, b) (List.mem_filter.mpr ⟨prs_mem ha hb, by simpa using hn⟩))
  par := fun o ho l hl => pu_of (all_of_map (L := prs2 O51 L51) (f := fun ab τ => φ_parts_by [T ab.1, .tup [T ab.2, T (oth 5 ab.2)]] τ) (g := fun ab τ => R.ok (.bl (pt 1 ab.1 ab.2)) τ) (by kernel_rfl) (o, l) (prs2_mem ho hl))
  parc := by decide +kernel
  star := fun l hl => pu_of (all_of_map (L := rg 5) (f := fun l τ => φ_star [.int 5, .int 1, .int l] τ) (g := fun l τ => R.ok (.lst ((L51.filter fun x => decide (l ∈ x)).map T)) τ) (by kernel_rfl) l hl)
  ssum := by decide +kernel
  mm := pu_of (by kernel_rfl)
  lss := fun l hl => pu_of (all_of_map (L := List.range 7) (f := fun l τ => φ_least_shadow [.int ((l : Nat) : Int), .int 1] τ) (g := fun l τ => R.ok (.int ((S51 l : Nat) : Int)) τ) (by kernel_rfl) l hl)
  comb := by decide +kernel
  shad := by decide +kernel
  srt := srt_of (U := U51) (by decide +kernel) (by decide +kernel) (by decide +kernel) (.inr rfl)
theorem Z51 : Pu φ__law_sized [.int 5, .int 1] (.lst (L51.map T)) := pu_of (by kernel_rfl)
def L52 : List (List Int) := [[0, 1], [0, 2], [0, 3], [0, 4], [1, 2], [1, 3], [1, 4], [2, 3], [2, 4], [3, 4]]
def U52 : List (List Int) := [[0], [1], [2], [3], [4]]
def O52 : List (List Int) := [[0, 1, 2, 3, 4], [0, 1, 2, 4, 3], [0, 1, 3, 2, 4], [0, 1, 3, 4, 2], [0, 1, 4, 2, 3], [0, 1, 4, 3, 2], [0, 2, 1, 3, 4], [0, 2, 1, 4, 3], [0, 2, 3, 1, 4], [0, 2, 3, 4, 1], [0, 2, 4, 1, 3], [0, 2, 4, 3, 1], [0, 3, 1, 2, 4], [0, 3, 1, 4, 2], [0, 3, 2, 1, 4], [0, 3, 2, 4, 1], [0, 3, 4, 1, 2], [0, 3, 4, 2, 1], [0, 4, 1, 2, 3], [0, 4, 1, 3, 2], [0, 4, 2, 1, 3], [0, 4, 2, 3, 1], [0, 4, 3, 1, 2], [0, 4, 3, 2, 1]]
def S52 (n : Nat) : Nat := [0, 2, 3, 3, 4, 4, 4].getD n 0
theorem C52 : Ctx 5 2 L52 O52 4 S52 where
  np := pu_of (by kernel_rfl)
  na := pu_of (by kernel_rfl)
  bz := pu_of (by kernel_rfl)
  p6 := by decide
  z0 := by decide
  ll := by decide
  nd := by decide +kernel
  side := fun l hl => pu_of (all_of_map (L := L52) (f := fun l τ => φ_is_side [.int 5, T l] τ) (g := fun l τ => R.ok (.bl true) τ) (by kernel_rfl) l hl)
  len := by decide +kernel
  com := fun a ha b hb => pu_of (all_of_map (L := prs L52) (f := fun ab τ => φ_common_of [T ab.1, T ab.2] τ) (g := fun ab τ => R.ok (T (cm ab.1 ab.2)) τ) (by kernel_rfl) (a, b) (prs_mem ha hb))
  lcom := fun a ha b hb => pu_of (all_of_map (L := prs L52) (f := fun ab τ => φ__law_common [T ab.1, T ab.2] τ) (g := fun ab τ => R.ok (T (cm ab.1 ab.2)) τ) (by kernel_rfl) (a, b) (prs_mem ha hb))
  rnd := fun a ha b hb hn => ⟨pu_of (all_of_map (L := (prs L52).filter fun ab => decide (cm ab.1 ab.2 = [])) (f := fun ab τ => φ_round_with [.int 5, T ab.1, T ab.2] τ) (g := fun ab τ => R.ok (T (rnd 5 ab.1 ab.2)) τ) (by kernel_rfl) (a, b) (List.mem_filter.mpr ⟨prs_mem ha hb, by simpa using hn⟩)), (show ∀ ab ∈ (prs L52).filter fun ab => decide (cm ab.1 ab.2 = []), rnd 5 ab.1 ab.2 ∈ O52 ∧ ab.1 ∈ ac 2 (rnd 5 ab.1 ab.2) ∧ ab.2 ∈ ac 2 (rnd 5 ab.1 ab.2) from by decide +kernel) (a, b) (List.mem_filter.mpr ⟨prs_mem ha hb, by simpa using hn⟩)⟩
  ros := pu_of (by kernel_rfl)
  ros2 := pu_of (by kernel_rfl)
  osl := by decide +kernel
  arc := fun l hl => pu_of (all_of_map (L := O52) (f := fun l τ => φ_arcs_by [T l, .int 2] τ) (g := fun l τ => R.ok (.lst ((ac 2 l).map T)) τ) (by kernel_rfl) l hl)
  isr := fun l hl => pu_of (all_of_map (L := O52) (f := fun l τ => φ_is_round [.int 5, T l] τ) (g := fun l τ => R.ok (.bl true) τ) (by kernel_rfl) l hl)
  nor := fun l hl => pu_of (all_of_map (L := O52) (f := fun l τ => φ_need_order [.int 5, T l] τ) (g := fun l τ => R.ok (.non) τ) (by kernel_rfl) l hl)
  oth := fun l hl => pu_of (all_of_map (L := L52) (f := fun l τ => φ_others_of [.int 5, T l] τ) (g := fun l τ => R.ok (T (oth 5 l)) τ) (by kernel_rfl) l hl)
  isp := fun l hl => pu_of (all_of_map (L := L52) (f := fun l τ => φ_is_pair [.int 5, .tup [T l, T (oth 5 l)]] τ) (g := fun l τ => R.ok (.bl true) τ) (by kernel_rfl) l hl)
  crs := fun a ha b hb hn => ⟨pu_of (all_of_map (L := (prs L52).filter fun ab => decide (ab.1 ≠ ab.2)) (f := fun ab τ => φ_common_of [T ab.1, T (oth 5 ab.2)] τ) (g := fun ab τ => R.ok (T (cm ab.1 (oth 5 ab.2))) τ) (by kernel_rfl) (a, b) (List.mem_filter.mpr ⟨prs_mem ha hb, by simpa using hn⟩)), (show ∀ ab ∈ (prs L52).filter fun ab => decide (ab.1 ≠ ab.2), cm ab.1 (oth 5 ab.2) ≠ [] from by decide +kernel) (a, b) (List.mem_filter.mpr ⟨prs_mem ha hb, by simpa using hn⟩)⟩
  fam := fun a ha b hb => pu_of (all_of_map (L := prs L52) (f := fun ab τ => φ_Family___init__ [.int 5, pairD ab.1 ab.2] τ) (g := fun ab τ => R.ok (famD 5 (pairDs ab.1 ab.2)) τ) (by kernel_rfl) (a, b) (prs_mem ha hb))
  c01 := fun a ha b hb => pu_of (all_of_map (L := prs L52) (f := fun ab τ => φ_crosses [famD 5 (pairDs ab.1 ab.2), .int 0, .int 1] τ) (g := fun ab τ => R.ok (.bl (!(cm ab.1 ab.2).isEmpty)) τ) (by kernel_rfl) (a, b) (prs_mem ha hb))
  c10 := fun a ha b hb => pu_of (all_of_map (L := prs L52) (f := fun ab τ => φ_crosses [famD 5 (pairDs ab.1 ab.2), .int 1, .int 0] τ) (g := fun ab τ => R.ok (.bl false) τ) (by kernel_rfl) (a, b) (prs_mem ha hb))
  wit := fun a ha b hb hn => pu_of (all_of_map (L := (prs L52).filter fun ab => decide (ab.1 ≠ ab.2)) (f := fun ab τ => φ_is_within_side [T ab.1, T ab.2] τ) (g := fun ab τ => R.ok (.bl false) τ) (by kernel_rfl) (a, b) (List.mem_filter.mpr ⟨prs_mem ha hb, by simpa using hn⟩))
  par := fun o ho l hl => pu_of (all_of_map (L := prs2 O52 L52) (f := fun ab τ => φ_parts_by [T ab.1, .tup [T ab.2, T (oth 5 ab.2)]] τ) (g := fun ab τ => R.ok (.bl (pt 2 ab.1 ab.2)) τ) (by kernel_rfl) (o, l) (prs2_mem ho hl))
  parc := by decide +kernel
  star := fun l hl => pu_of (all_of_map (L := rg 5) (f := fun l τ => φ_star [.int 5, .int 2, .int l] τ) (g := fun l τ => R.ok (.lst ((L52.filter fun x => decide (l ∈ x)).map T)) τ) (by kernel_rfl) l hl)
  ssum := by decide +kernel
  mm := pu_of (by kernel_rfl)
  lss := fun l hl => pu_of (all_of_map (L := List.range 7) (f := fun l τ => φ_least_shadow [.int ((l : Nat) : Int), .int 2] τ) (g := fun l τ => R.ok (.int ((S52 l : Nat) : Int)) τ) (by kernel_rfl) l hl)
  comb := by decide +kernel
  shad := by decide +kernel
  srt := srt_of (U := U52) (by decide +kernel) (by decide +kernel) (by decide +kernel) (.inl (by decide +kernel))
theorem Z52 : Pu φ__law_sized [.int 5, .int 2] (.lst (L52.map T)) := pu_of (by kernel_rfl)
end LK
end
section
set_option Elab.async false
set_option linter.all false
set_option maxRecDepth 100000
set_option maxHeartbeats 0
namespace LK
open PySem Z
structure Inst (p z : Int) (L os : List (List Int)) (M : Nat) (ls : Nat → Nat) : Prop where
  ctx : Ctx p z L os M ls
  sized : Pu φ__law_sized [.int p, .int z] (.lst (L.map T))
theorem inst {v u : Int} (v0 : 0 ≤ v) (v1 : v < 4) (u0 : 0 ≤ u) (u1 : u < (2 + v) / 2) : ∃ L os M ls, Inst (2 + v) (1 + u) L os M ls := by
  have hv : v = 0 ∨ v = 1 ∨ v = 2 ∨ v = 3 := by omega
  have hu : u = 0 ∨ (u = 1 ∧ (v = 2 ∨ v = 3)) := by omega
  rcases hv with rfl | rfl | rfl | rfl <;> rcases hu with rfl | ⟨rfl, h⟩
  · exact ⟨_, _, _, _, C21, Z21⟩
  · omega
  · exact ⟨_, _, _, _, C31, Z31⟩
  · omega
  · exact ⟨_, _, _, _, C41, Z41⟩
  · exact ⟨_, _, _, _, C42, Z42⟩
  · exact ⟨_, _, _, _, C51, Z51⟩
  · exact ⟨_, _, _, _, C52, Z52⟩
abbrev E7 (ns : List Int) (x2 x3 x4 x5 x6 : Option D) : Z.Env := [some (.val (.scr ns)), some (.val .tape), Option.map Slot.val x2, Option.map Slot.val x3, Option.map Slot.val x4, Option.map Slot.val x5, Option.map Slot.val x6]
theorem w7 (ns : List Int) (x2 x3 x4 x5 x6 : Option D) : wholeE (E7 ns x2 x3 x4 x5 x6) = true := whole_ev [some (.scr ns), some .tape, x2, x3, x4, x5, x6]
theorem mif_ok {α : Type} {c : Z.M Bool} {a b : Z.M α} {env : Z.Env} {k : Bool} {τ τ1 : Tape} (h : c env τ = .ok k τ1) : mIf c a b env τ = if k then a env τ1 else b env τ1 := by
  unfold mIf; rw [h]; rfl
theorem sl_to {a b : Z.M D} {env : Z.Env} {ds : List D} {k : Nat} {τ τ1 τ2 : Tape} (ha : a env τ = .ok (.lst ds) τ1) (hb : b env τ1 = .ok (.int (k : Int)) τ2) : mSl a mNoP (mPart b) env τ = .ok (.lst (ds.take (min k ds.length))) τ2 := by
  unfold mSl; rw [ha]
  show (mPart b env τ1).bind _ = _
  unfold mPart; rw [hb]
  show R.ok (D.lst ((ds.drop 0).take (HT.sIx ds.length ds.length (some (k : Int)) - 0))) τ2 = _
  rw [HT.sIx_nat]; rfl
theorem mOr0 {a : Z.M D} {i : Int} {env : Z.Env} {τ τ1 : Tape} (h : a env τ = .ok (.int i) τ1) : (mBl (m2 dEq a (mRet (.int 0)))) env τ = .ok (i == 0) τ1 :=
  bl_ok (m2_ok h rfl (by rw [dEq_ok rfl rfl]; rfl))
abbrev tRight : Z.M D := mFn 4 φ__law_sets_right [] (mCons (mVar 1) (mCons (mVar 3) (mCons (mVar 4) (mCons (mSl (mFn 2 φ__law_shuffled [] (mCons (mVar 1) (mCons (mVar 6) (mNil)))) (mNoP) (mPart (mFn 2 φ__law_draw [] (mCons (mVar 1) (mCons (mRet (.int 7)) (mNil)))))) (mNil)))))
abbrev bLap : SM := mSeq (mSet (.nm 3) (m2 dAdd (mRet (.int 2)) (mFn 2 φ__law_draw [] (mCons (mVar 1) (mCons (mRet (.int 4)) (mNil)))))) (mSeq (mPar 4 5 (.v (m2 dAdd (mRet (.int 1)) (mFn 2 φ__law_draw [] (mCons (mVar 1) (mCons (mCall fInt (mCons (m2 dFdiv (mVar 3) (mRet (.int 2))) (mNil))) (mNil)))))) (.v (mFn 2 φ__law_draw [] (mCons (mVar 1) (mCons (mVar 3) (mNil)))))) (mSeq (mSet (.nm 6) (mIf (mBl (m2 dEq (mFn 2 φ__law_draw [] (mCons (mVar 1) (mCons (mRet (.int 2)) (mNil)))) (mRet (.int 0)))) (mFn 2 φ__law_sized [] (mCons (mVar 3) (mCons (mVar 4) (mNil)))) (mFn 3 φ_star [] (mCons (mVar 3) (mCons (mVar 4) (mCons (mVar 5) (mNil))))))) (mSeq (mIfS (mNotT (mTst tRight)) (mSeq (mRetS (mRet (.bl false))) (mNext)) (mNext)) (mNext))))
/-- a drawn beginning of some sides in a drawn sequence -/
theorem some_right {p z : Int} {L os : List (List Int)} {M : Nat} {ls : Nat → Nat} (C : Ctx p z L os M ls) {A : List (List Int)} (hA : A.Nodup) (hs : ∀ l ∈ A, l ∈ L) (h24 : A.length ≤ 24) {k : Nat} {τ : Tape} (f : Fit (k + 30) τ) (ns : List Int) (x2 x5 : Option D) : ∃ τ', tRight (E7 ns x2 (some (.int p)) (some (.int z)) x5 (some (.lst (A.map T)))) τ = .ok (.bl true) τ' ∧ Fit k τ' := by
  obtain ⟨out, τ1, h1, hp, f1⟩ := shuffled_ok (ds := A.map T) (k := k + 6) (n := A.length) (by rw [List.length_map]) (by omega) (okT59 A) (f.mono (by omega) : Fit (k + 6 + A.length) τ)
  obtain ⟨v, τ2, v0, v1, h2, f2⟩ := draw_ok (n := 7) (k := k + 5) (by decide) (by decide) f1
  obtain ⟨m, rfl⟩ := Int.eq_ofNat_of_zero_le v0
  have e : (out.map unT).map T = out := by
    rw [List.map_map]
    have : ∀ d ∈ out, (T ∘ unT) d = d := fun d hd => by
      obtain ⟨l, _, rfl⟩ := List.mem_map.mp (hp.mem_iff.mp hd)
      show T (unT (T l)) = _
      rw [unT_T]
    rw [List.map_congr_left this]; exact List.map_id out
  have hq : (out.map unT).Perm A := by
    have := hp.map unT
    have eA : A.map (unT ∘ T) = A := by
      rw [show (unT ∘ T) = id from funext fun l => unT_T l]; exact List.map_id A
    rwa [List.map_map, eA] at this
  have hl : out.length = (out.map unT).length := by rw [List.length_map]
  obtain ⟨τ3, h3, f3⟩ := C.right (S := (out.map unT).take (min m out.length)) (k := k) (τ := τ2) ((List.take_sublist _ _).nodup (hq.nodup_iff.mpr hA)) (fun l h => hs l (hq.mem_iff.mp (List.mem_of_mem_take h))) (by rw [List.length_take]; omega) (f2.mono (by omega))
  rw [List.map_take, e] at h3
  refine ⟨τ3, fn_okT (cons_ok rfl (cons_ok rfl (cons_ok rfl (cons_ok (sl_to (fn_okT (cons_ok rfl (cons_ok rfl rfl)) rfl h1) (fn_okT (cons_ok rfl (cons_ok rfl rfl)) rfl h2)) rfl)))) rfl h3, f3⟩
theorem lap_ok {k : Nat} {τ : Tape} (f : Fit (k + 40) τ) (ns : List Int) (x2 x3 x4 x5 x6 : Option D) : ∃ x3' x4' x5' x6' τ', bLap (E7 ns x2 x3 x4 x5 x6) τ = .ok (.nx (E7 ns x2 x3' x4' x5' x6')) τ' ∧ Fit k τ' := by
  obtain ⟨v, τ1, v0, v1, h1, f1⟩ := draw_ok (n := 4) (k := k + 39) (by decide) (by decide) f
  obtain ⟨u, τ2, u0, u1, h2, f2⟩ := draw_ok (n := (2 + v) / 2) (k := k + 38) (by omega) (by omega) f1
  obtain ⟨g, τ3, g0, g1, h3, f3⟩ := draw_ok (n := 2 + v) (k := k + 37) (by omega) (by omega) f2
  obtain ⟨c, τ4, c0, c1, h4, f4⟩ := draw_ok (n := 2) (k := k + 36) (by decide) (by decide) f3
  obtain ⟨L, os, M, ls, C, hz⟩ := inst v0 v1 u0 u1
  have hg : g ∈ rg (2 + v) := List.mem_map.mpr ⟨g.toNat, List.mem_range.mpr (by omega), by show ((g.toNat : Nat) : Int) = g; omega⟩
  have fin : ∀ A : List (List Int), A.Nodup → (∀ l ∈ A, l ∈ L) → A.length ≤ 24 → (mIf (mBl (m2 dEq (mFn 2 φ__law_draw [] (mCons (mVar 1) (mCons (mRet (.int 2)) (mNil)))) (mRet (.int 0)))) (mFn 2 φ__law_sized [] (mCons (mVar 3) (mCons (mVar 4) (mNil)))) (mFn 3 φ_star [] (mCons (mVar 3) (mCons (mVar 4) (mCons (mVar 5) (mNil)))))) (E7 ns x2 (some (.int (2 + v))) (some (.int (1 + u))) (some (.int g)) x6) τ3 = .ok (.lst (A.map T)) τ4 → ∃ x3' x4' x5' x6' τ', bLap (E7 ns x2 x3 x4 x5 x6) τ = .ok (.nx (E7 ns x2 x3' x4' x5' x6')) τ' ∧ Fit k τ' := fun A hA hs h24 hm => by
    obtain ⟨τ5, h5, f5⟩ := some_right C hA hs h24 (k := k) (τ := τ4) (f4.mono (by omega)) ns x2 (some (.int g))
    refine ⟨some (.int (2 + v)), some (.int (1 + u)), some (.int g), some (.lst (A.map T)), τ5, ?_, f5⟩
    refine (seq_nx (e := E7 ns x2 (some (.int (2 + v))) x4 x5 x6) (τ1 := τ1) (set_ok (m2_ok rfl (fn_okT (cons_ok rfl (cons_ok rfl rfl)) rfl h1) rfl) rfl)).trans ?_
    refine (seq_nx (e := E7 ns x2 (some (.int (2 + v))) (some (.int (1 + u))) (some (.int g)) x6) (τ1 := τ3) ((par_vv (m2_ok rfl (fn_okT (cons_ok rfl (cons_ok (call_ok (cons_ok (m2_ok (x := .int (2 + v)) (y := .int 2) rfl rfl (fdiv_ok (by decide) (by decide))) rfl) rfl) rfl)) rfl h2) rfl) (fn_okT (cons_ok rfl (cons_ok rfl rfl)) rfl h3)).trans rfl)).trans ?_
    refine (seq_nx (e := E7 ns x2 (some (.int (2 + v))) (some (.int (1 + u))) (some (.int g)) (some (.lst (A.map T)))) (τ1 := τ4) (set_ok hm rfl)).trans ?_
    refine (seq_nx (e := E7 ns x2 (some (.int (2 + v))) (some (.int (1 + u))) (some (.int g)) (some (.lst (A.map T)))) (τ1 := τ5) ((if_f (w7 _ _ _ _ _ _) (notT_ok (tst_ok h5 rfl))).trans rfl)).trans rfl
  by_cases hc : c = 0
  · refine fin L C.nd (fun l h => h) C.ll ?_
    refine (mif_ok (mOr0 (fn_okT (cons_ok rfl (cons_ok rfl rfl)) rfl h4))).trans ?_
    rw [show (c == 0) = true from by simpa using hc]
    exact fn_ok (cons_ok rfl (cons_ok rfl rfl)) rfl hz
  · refine fin (L.filter fun l => decide (g ∈ l)) (C.nd.filter _) (fun l h => (List.mem_filter.mp h).1) (Nat.le_trans (List.length_filter_le _ _) C.ll) ?_
    refine (mif_ok (mOr0 (fn_okT (cons_ok rfl (cons_ok rfl rfl)) rfl h4))).trans ?_
    rw [show (c == 0) = false from by simpa using hc]
    exact fn_ok (cons_ok rfl (cons_ok rfl (cons_ok rfl rfl))) rfl (C.star g hg)
theorem laps_ok (ns : List Int) : ∀ (ds : List D) (k : Nat) (τ : Tape) (x2 x3 x4 x5 x6 : Option D), Fit (k + 40 * ds.length) τ → ∃ x2' x3' x4' x5' x6' τ', forGo (.nm 2) bLap ds (E7 ns x2 x3 x4 x5 x6) τ = .ok (.nx (E7 ns x2' x3' x4' x5' x6')) τ' ∧ Fit k τ'
  | [], k, τ, x2, x3, x4, x5, x6, f => ⟨x2, x3, x4, x5, x6, τ, rfl, f⟩
  | d :: ds, k, τ, x2, x3, x4, x5, x6, f => by
    obtain ⟨y3, y4, y5, y6, τ1, h1, f1⟩ := lap_ok (k := k + 40 * ds.length) (τ := τ) (f.mono (by rw [List.length_cons]; omega)) ns (some d) x3 x4 x5 x6
    obtain ⟨z2, z3, z4, z5, z6, τ2, h2, f2⟩ := laps_ok ns ds k τ1 (some d) y3 y4 y5 y6 f1
    exact ⟨z2, z3, z4, z5, z6, τ2, (forGo_step (t := .nm 2) (d := d) (ds := ds) (env1 := E7 ns (some d) x3 x4 x5 x6) (τ1 := τ1) rfl h1).trans h2, f2⟩
theorem rangeD_len : ∀ (n : Nat) (i : Int), (rangeD i n).length = n
  | 0, _ => rfl
  | n + 1, i => by show (rangeD (i + 1) n).length + 1 = _; rw [rangeD_len n]
abbrev tEnd : Z.M D := mAnd (mFn 4 φ__law_sets_right [] (mCons (mVar 1) (mCons (mRet (.int 4)) (mCons (mRet (.int 2)) (mCons (mLst (mDisp (mCons (mTup (mCons (mRet (.int 0)) (mCons (mRet (.int 1)) (mNil)))) (mCons (mTup (mCons (mRet (.int 1)) (mCons (mRet (.int 2)) (mNil)))) (mCons (mTup (mCons (mRet (.int 0)) (mCons (mRet (.int 2)) (mNil)))) (mNil)))))) (mNil)))))) (mAnd (mFn 4 φ__law_sets_right [] (mCons (mVar 1) (mCons (mRet (.int 5)) (mCons (mRet (.int 2)) (mCons (mLst (mDisp (mCons (mTup (mCons (mRet (.int 0)) (mCons (mRet (.int 1)) (mNil)))) (mCons (mTup (mCons (mRet (.int 2)) (mCons (mRet (.int 3)) (mNil)))) (mNil))))) (mNil)))))) (mNot (m1 fIsNo (mVar 1))))
theorem hm (ns : List Int) (h63 : ns.length ≤ 63) : ∃ τ, m_law (envL 7 ns) (begunT ns) = .ok (.ret (.bl true)) τ := by
  have f0 : Fit (4 + 480) (begunT ns) := ⟨by show (0 : Int) ≤ 0; decide, by show (0 : Int) + _ ≤ _; decide⟩
  let m : Int := 5 + (if (7 : Int) < (ns.length : Int) then 7 else (ns.length : Int))
  have hm1 : 0 ≤ m ∧ m ≤ 12 := by
    show 0 ≤ 5 + (if (7 : Int) < (ns.length : Int) then 7 else (ns.length : Int)) ∧ 5 + (if (7 : Int) < (ns.length : Int) then 7 else (ns.length : Int)) ≤ 12
    split <;> omega
  have hr : (mOfL fRange1 (mCons (m2 dAdd (mRet (.int 5)) (mCall fMin2 (mCons (mCall fLen (mCons (mVar 0) (mNil))) (mCons (mRet (.int 7)) (mNil))))) (mNil))) (envL 7 ns) (begunT ns) = .ok (rangeD 0 m.toNat) (begunT ns) := by
    refine ofL_ok0 (xs := [.int m]) (cons_ok (m2_ok (x := .int 5) (y := .int (if (7 : Int) < (ns.length : Int) then 7 else (ns.length : Int))) rfl (call_ok (xs := [.int (ns.length : Int), .int 7]) rfl rfl) rfl) rfl) ?_
    show (if -1000000 ≤ m ∧ m ≤ 1000000 then _ else _) = _
    rw [if_pos (by omega)]
  obtain ⟨x2, x3, x4, x5, x6, τ1, h1, f1⟩ := laps_ok ns (rangeD 0 m.toNat) 4 (begunT ns) none none none none none (f0.mono (by rw [rangeD_len]; omega))
  obtain ⟨τ2, h2, f2⟩ := C42.right (S := [[0, 1], [1, 2], [0, 2]]) (k := 2) (τ := τ1) (by decide +kernel) (by decide +kernel) (by decide) f1
  obtain ⟨τ3, h3, f3⟩ := C52.right (S := [[0, 1], [2, 3]]) (k := 0) (τ := τ2) (by decide +kernel) (by decide +kernel) (by decide) f2
  refine ⟨τ3, ?_⟩
  refine (seq_nx ((for_ok hr).trans h1)).trans ?_
  refine seq_ret (ret_ok (w7 _ _ _ _ _ _) ?_)
  show tEnd _ _ = _
  refine (and_ok (x := .bl true) (fn_okT (xs := [.tape, .int 4, .int 2, .lst ([[0, 1], [1, 2], [0, 2]].map T)]) rfl rfl h2) rfl).trans ?_
  refine (and_ok (x := .bl true) (fn_okT (xs := [.tape, .int 5, .int 2, .lst ([[0, 1], [2, 3]].map T)]) rfl rfl h3) rfl).trans ?_
  exact not_ok (d := .bl false) (m1_ok (x := .tape) rfl rfl) rfl
end LK
end
section
set_option Elab.async false
set_option linter.all false
set_option maxRecDepth 100000
set_option maxHeartbeats 0
namespace LK
open PySem PySem.Spec PyProof.Rows L2 Z He
theorem bind_need_family {K : PySem.W.Frag} {f : Addr} {fd : FuncData} (F : FunD K "need_family" "need_family" (defArgs (top 28)) (defBody (top 28)) (defScope (top 28)) [.non] [] f fd) : ∃ ds, Vals [.non] ds ∧ Binds K fd ["family", "part"] ds :=
  F.binds1 1 0 (List.cons_ne_nil _ _) rfl fun T kV doc pm an cdv ct us its h1 h2 => match us, its, h1, h2 with | [_], [_], _, _ => ⟨_, rfl, rfl⟩
def gs (K : PySem.W.Frag) : Gs := ⟨K, fun c => if c = 0 then ga K "Family" else 0, fun _ => 0⟩
theorem facts {P : Program} {w : World} {K : PySem.W.Frag} {h : Heap} {mg : Str → Option Value} {f : Addr} (X : K.In h) (G : h.Ns mainGlobals mg) (hfa : mg ("law" : Str) = some (.ref f)) (c : SaysZ fa fn pn exb K) (hm : ∀ ns : List Int, ns.length ≤ 63 → ∃ τ, m_law (envL 7 ns) (begunT ns) = .ok (.ret (.bl true)) τ) :
    ∃ fd : FuncData, (∀ (s : Shared) (v : Value), BindsTo s fd ⟨[v], []⟩ [("script", v)]) ∧ ∀ base : Heap, K.In base → base.Ns mainGlobals mg → FnOk P w K mg base CX0 10 f fd ["script"] (spLaw K) := by
  have cd := c.d
  obtain ⟨fd__law_begun, F__law_begun⟩ := cd.def_ 0 (d := d__law_begun) rfl
  obtain ⟨fd_is_number, F_is_number⟩ := cd.def_ 1 (d := d_is_number) rfl
  obtain ⟨fd_is_between, F_is_between⟩ := cd.def_ 2 (d := d_is_between) rfl
  obtain ⟨fd_need_places, F_need_places⟩ := cd.def_ 3 (d := d_need_places) rfl
  obtain ⟨fd_need_arc_size, F_need_arc_size⟩ := cd.def_ 4 (d := d_need_arc_size) rfl
  obtain ⟨fd_is_list, F_is_list⟩ := cd.def_ 5 (d := d_is_list) rfl
  obtain ⟨fd_is_rising, F_is_rising⟩ := cd.def_ 6 (d := d_is_rising) rfl
  obtain ⟨fd_is_side, F_is_side⟩ := cd.def_ 7 (d := d_is_side) rfl
  obtain ⟨fd_need_sets, F_need_sets⟩ := cd.def_ 8 (d := d_need_sets) rfl
  obtain ⟨fd_need_arcs, F_need_arcs⟩ := cd.def_ 9 (d := d_need_arcs) rfl
  obtain ⟨fd_rising_keys, F_rising_keys⟩ := cd.def_ 10 (d := d_rising_keys) rfl
  obtain ⟨fd_common_of, F_common_of⟩ := cd.def_ 11 (d := d_common_of) rfl
  obtain ⟨fd_round_with, F_round_with⟩ := cd.def_ 12 (d := d_round_with) rfl
  obtain ⟨fd_meeting_paper, F_meeting_paper⟩ := cd.def_ 13 (d := d_meeting_paper) rfl
  obtain ⟨fd__law_keys, F__law_keys⟩ := cd.def_ 14 (d := d__law_keys) rfl
  obtain ⟨fd_orders_by, F_orders_by⟩ := cd.def_ 15 (d := d_orders_by) rfl
  obtain ⟨fd_round_orders_by, F_round_orders_by⟩ := cd.def_ 16 (d := d_round_orders_by) rfl
  obtain ⟨fd_round_orders, F_round_orders⟩ := cd.def_ 17 (d := d_round_orders) rfl
  obtain ⟨fd__law_blend, F__law_blend⟩ := cd.def_ 18 (d := d__law_blend) rfl
  obtain ⟨fd__law_draw, F__law_draw⟩ := cd.def_ 19 (d := d__law_draw) rfl
  obtain ⟨fd__law_pick, F__law_pick⟩ := cd.def_ 20 (d := d__law_pick) rfl
  obtain ⟨fd_meets, F_meets⟩ := cd.def_ 21 (d := d_meets) rfl
  obtain ⟨fd_is_pair, F_is_pair⟩ := cd.def_ 22 (d := d_is_pair) rfl
  obtain ⟨fd_need_pairs, F_need_pairs⟩ := cd.def_ 23 (d := d_need_pairs) rfl
  obtain ⟨fd_Family___init__, F_Family___init__⟩ := cd.def_ 24 (d := d_Family___init__) rfl
  obtain ⟨fd_need_many, F_need_many⟩ := cd.def_ 25 (d := d_need_many) rfl
  obtain ⟨fd_picks, F_picks⟩ := cd.def_ 26 (d := d_picks) rfl
  obtain ⟨fd_greatest_top, F_greatest_top⟩ := cd.def_ 27 (d := d_greatest_top) rfl
  obtain ⟨fd_cascade_by, F_cascade_by⟩ := cd.def_ 28 (d := d_cascade_by) rfl
  obtain ⟨fd_least_shadow, F_least_shadow⟩ := cd.def_ 29 (d := d_least_shadow) rfl
  obtain ⟨fd_is_within_side, F_is_within_side⟩ := cd.def_ 30 (d := d_is_within_side) rfl
  obtain ⟨fd_unlike_keys, F_unlike_keys⟩ := cd.def_ 31 (d := d_unlike_keys) rfl
  obtain ⟨fd_is_antichain, F_is_antichain⟩ := cd.def_ 32 (d := d_is_antichain) rfl
  obtain ⟨fd_need_family, F_need_family⟩ := cd.def_ 33 (d := d_need_family) rfl
  obtain ⟨fd_is_kind, F_is_kind⟩ := cd.def_ 34 (d := d_is_kind) rfl
  obtain ⟨fd_need_kind, F_need_kind⟩ := cd.def_ 35 (d := d_need_kind) rfl
  obtain ⟨fd_need_family_kind, F_need_family_kind⟩ := cd.def_ 36 (d := d_need_family_kind) rfl
  obtain ⟨fd_keys_of, F_keys_of⟩ := cd.def_ 37 (d := d_keys_of) rfl
  obtain ⟨fd_Family_many, F_Family_many⟩ := cd.def_ 38 (d := d_Family_many) rfl
  obtain ⟨fd_right_places, F_right_places⟩ := cd.def_ 39 (d := d_right_places) rfl
  obtain ⟨fd_first_failing, F_first_failing⟩ := cd.def_ 40 (d := d_first_failing) rfl
  obtain ⟨fd_is_of_kind, F_is_of_kind⟩ := cd.def_ 41 (d := d_is_of_kind) rfl
  obtain ⟨fd_need_sized, F_need_sized⟩ := cd.def_ 42 (d := d_need_sized) rfl
  obtain ⟨fd_shadow_by, F_shadow_by⟩ := cd.def_ 43 (d := d_shadow_by) rfl
  obtain ⟨fd_shadow, F_shadow⟩ := cd.def_ 44 (d := d_shadow) rfl
  obtain ⟨fd_is_order, F_is_order⟩ := cd.def_ 45 (d := d_is_order) rfl
  obtain ⟨fd_need_order, F_need_order⟩ := cd.def_ 46 (d := d_need_order) rfl
  obtain ⟨fd_parts_by, F_parts_by⟩ := cd.def_ 47 (d := d_parts_by) rfl
  obtain ⟨fd_parted_by, F_parted_by⟩ := cd.def_ 48 (d := d_parted_by) rfl
  obtain ⟨fd_need_index, F_need_index⟩ := cd.def_ 49 (d := d_need_index) rfl
  obtain ⟨fd_crosses_by, F_crosses_by⟩ := cd.def_ 50 (d := d_crosses_by) rfl
  obtain ⟨fd_crosses, F_crosses⟩ := cd.def_ 51 (d := d_crosses) rfl
  obtain ⟨fd_others_of, F_others_of⟩ := cd.def_ 52 (d := d_others_of) rfl
  obtain ⟨fd_sets_family, F_sets_family⟩ := cd.def_ 53 (d := d_sets_family) rfl
  obtain ⟨fd_most_meeting, F_most_meeting⟩ := cd.def_ 54 (d := d_most_meeting) rfl
  obtain ⟨fd_arcs_by, F_arcs_by⟩ := cd.def_ 55 (d := d_arcs_by) rfl
  obtain ⟨fd_most_arcs, F_most_arcs⟩ := cd.def_ 56 (d := d_most_arcs) rfl
  obtain ⟨fd_is_round, F_is_round⟩ := cd.def_ 57 (d := d_is_round) rfl
  obtain ⟨fd_arcs_among, F_arcs_among⟩ := cd.def_ 58 (d := d_arcs_among) rfl
  obtain ⟨fd__law_common, F__law_common⟩ := cd.def_ 59 (d := d__law_common) rfl
  obtain ⟨fd_need_place, F_need_place⟩ := cd.def_ 60 (d := d_need_place) rfl
  obtain ⟨fd_sides_by, F_sides_by⟩ := cd.def_ 61 (d := d_sides_by) rfl
  obtain ⟨fd_sides_of, F_sides_of⟩ := cd.def_ 62 (d := d_sides_of) rfl
  obtain ⟨fd_star, F_star⟩ := cd.def_ 63 (d := d_star) rfl
  obtain ⟨fd__law_sets_right, F__law_sets_right⟩ := cd.def_ 64 (d := d__law_sets_right) rfl
  obtain ⟨fd__law_sets, F__law_sets⟩ := cd.def_ 65 (d := d__law_sets) rfl
  obtain ⟨fd__law_sized, F__law_sized⟩ := cd.def_ 66 (d := d__law_sized) rfl
  obtain ⟨fd__law_shuffled, F__law_shuffled⟩ := cd.def_ 67 (d := d__law_shuffled) rfl
  obtain ⟨fd_law, F_law⟩ := cd.def_ 68 (d := d_law) rfl
  obtain ⟨fd_Family_pairs, F_Family_pairs⟩ := c.pr 0 (d := p_Family_pairs) rfl
  obtain ⟨fd_Family_places, F_Family_places⟩ := c.pr 1 (d := p_Family_places) rfl
  have g__law_begun := glo_ok X G (x := "_law_begun") (cd.fact 0 (f := .glo "_law_begun") rfl)
  have g_is_number := glo_ok X G (x := "is_number") (cd.fact 1 (f := .glo "is_number") rfl)
  have g_is_between := glo_ok X G (x := "is_between") (cd.fact 2 (f := .glo "is_between") rfl)
  have g_need_places := glo_ok X G (x := "need_places") (cd.fact 3 (f := .glo "need_places") rfl)
  have g_need_arc_size := glo_ok X G (x := "need_arc_size") (cd.fact 4 (f := .glo "need_arc_size") rfl)
  have g_is_list := glo_ok X G (x := "is_list") (cd.fact 5 (f := .glo "is_list") rfl)
  have g_is_rising := glo_ok X G (x := "is_rising") (cd.fact 6 (f := .glo "is_rising") rfl)
  have g_is_side := glo_ok X G (x := "is_side") (cd.fact 7 (f := .glo "is_side") rfl)
  have g_need_sets := glo_ok X G (x := "need_sets") (cd.fact 8 (f := .glo "need_sets") rfl)
  have g_need_arcs := glo_ok X G (x := "need_arcs") (cd.fact 9 (f := .glo "need_arcs") rfl)
  have g_rising_keys := glo_ok X G (x := "rising_keys") (cd.fact 10 (f := .glo "rising_keys") rfl)
  have g_common_of := glo_ok X G (x := "common_of") (cd.fact 11 (f := .glo "common_of") rfl)
  have g_round_with := glo_ok X G (x := "round_with") (cd.fact 12 (f := .glo "round_with") rfl)
  have g_meeting_paper := glo_ok X G (x := "meeting_paper") (cd.fact 13 (f := .glo "meeting_paper") rfl)
  have g__law_keys := glo_ok X G (x := "_law_keys") (cd.fact 14 (f := .glo "_law_keys") rfl)
  have g_orders_by := glo_ok X G (x := "orders_by") (cd.fact 15 (f := .glo "orders_by") rfl)
  have g_round_orders_by := glo_ok X G (x := "round_orders_by") (cd.fact 16 (f := .glo "round_orders_by") rfl)
  have g_round_orders := glo_ok X G (x := "round_orders") (cd.fact 17 (f := .glo "round_orders") rfl)
  have g__law_blend := glo_ok X G (x := "_law_blend") (cd.fact 18 (f := .glo "_law_blend") rfl)
  have g__law_draw := glo_ok X G (x := "_law_draw") (cd.fact 19 (f := .glo "_law_draw") rfl)
  have g__law_pick := glo_ok X G (x := "_law_pick") (cd.fact 20 (f := .glo "_law_pick") rfl)
  have g_meets := glo_ok X G (x := "meets") (cd.fact 21 (f := .glo "meets") rfl)
  have g_is_pair := glo_ok X G (x := "is_pair") (cd.fact 22 (f := .glo "is_pair") rfl)
  have g_need_pairs := glo_ok X G (x := "need_pairs") (cd.fact 23 (f := .glo "need_pairs") rfl)
  have g_need_many := glo_ok X G (x := "need_many") (cd.fact 24 (f := .glo "need_many") rfl)
  have g_picks := glo_ok X G (x := "picks") (cd.fact 25 (f := .glo "picks") rfl)
  have g_greatest_top := glo_ok X G (x := "greatest_top") (cd.fact 26 (f := .glo "greatest_top") rfl)
  have g_cascade_by := glo_ok X G (x := "cascade_by") (cd.fact 27 (f := .glo "cascade_by") rfl)
  have g_least_shadow := glo_ok X G (x := "least_shadow") (cd.fact 28 (f := .glo "least_shadow") rfl)
  have g_is_within_side := glo_ok X G (x := "is_within_side") (cd.fact 29 (f := .glo "is_within_side") rfl)
  have g_unlike_keys := glo_ok X G (x := "unlike_keys") (cd.fact 30 (f := .glo "unlike_keys") rfl)
  have g_is_antichain := glo_ok X G (x := "is_antichain") (cd.fact 31 (f := .glo "is_antichain") rfl)
  have g_need_family := glo_ok X G (x := "need_family") (cd.fact 32 (f := .glo "need_family") rfl)
  have g_is_kind := glo_ok X G (x := "is_kind") (cd.fact 33 (f := .glo "is_kind") rfl)
  have g_need_kind := glo_ok X G (x := "need_kind") (cd.fact 34 (f := .glo "need_kind") rfl)
  have g_need_family_kind := glo_ok X G (x := "need_family_kind") (cd.fact 35 (f := .glo "need_family_kind") rfl)
  have g_keys_of := glo_ok X G (x := "keys_of") (cd.fact 36 (f := .glo "keys_of") rfl)
  have g_right_places := glo_ok X G (x := "right_places") (cd.fact 37 (f := .glo "right_places") rfl)
  have g_first_failing := glo_ok X G (x := "first_failing") (cd.fact 38 (f := .glo "first_failing") rfl)
  have g_is_of_kind := glo_ok X G (x := "is_of_kind") (cd.fact 39 (f := .glo "is_of_kind") rfl)
  have g_need_sized := glo_ok X G (x := "need_sized") (cd.fact 40 (f := .glo "need_sized") rfl)
  have g_shadow_by := glo_ok X G (x := "shadow_by") (cd.fact 41 (f := .glo "shadow_by") rfl)
  have g_shadow := glo_ok X G (x := "shadow") (cd.fact 42 (f := .glo "shadow") rfl)
  have g_is_order := glo_ok X G (x := "is_order") (cd.fact 43 (f := .glo "is_order") rfl)
  have g_need_order := glo_ok X G (x := "need_order") (cd.fact 44 (f := .glo "need_order") rfl)
  have g_parts_by := glo_ok X G (x := "parts_by") (cd.fact 45 (f := .glo "parts_by") rfl)
  have g_parted_by := glo_ok X G (x := "parted_by") (cd.fact 46 (f := .glo "parted_by") rfl)
  have g_need_index := glo_ok X G (x := "need_index") (cd.fact 47 (f := .glo "need_index") rfl)
  have g_crosses_by := glo_ok X G (x := "crosses_by") (cd.fact 48 (f := .glo "crosses_by") rfl)
  have g_crosses := glo_ok X G (x := "crosses") (cd.fact 49 (f := .glo "crosses") rfl)
  have g_others_of := glo_ok X G (x := "others_of") (cd.fact 50 (f := .glo "others_of") rfl)
  have g_sets_family := glo_ok X G (x := "sets_family") (cd.fact 51 (f := .glo "sets_family") rfl)
  have g_most_meeting := glo_ok X G (x := "most_meeting") (cd.fact 52 (f := .glo "most_meeting") rfl)
  have g_arcs_by := glo_ok X G (x := "arcs_by") (cd.fact 53 (f := .glo "arcs_by") rfl)
  have g_most_arcs := glo_ok X G (x := "most_arcs") (cd.fact 54 (f := .glo "most_arcs") rfl)
  have g_is_round := glo_ok X G (x := "is_round") (cd.fact 55 (f := .glo "is_round") rfl)
  have g_arcs_among := glo_ok X G (x := "arcs_among") (cd.fact 56 (f := .glo "arcs_among") rfl)
  have g__law_common := glo_ok X G (x := "_law_common") (cd.fact 57 (f := .glo "_law_common") rfl)
  have g_need_place := glo_ok X G (x := "need_place") (cd.fact 58 (f := .glo "need_place") rfl)
  have g_sides_by := glo_ok X G (x := "sides_by") (cd.fact 59 (f := .glo "sides_by") rfl)
  have g_sides_of := glo_ok X G (x := "sides_of") (cd.fact 60 (f := .glo "sides_of") rfl)
  have g_star := glo_ok X G (x := "star") (cd.fact 61 (f := .glo "star") rfl)
  have g__law_sets_right := glo_ok X G (x := "_law_sets_right") (cd.fact 62 (f := .glo "_law_sets_right") rfl)
  have g__law_sets := glo_ok X G (x := "_law_sets") (cd.fact 63 (f := .glo "_law_sets") rfl)
  have g__law_sized := glo_ok X G (x := "_law_sized") (cd.fact 64 (f := .glo "_law_sized") rfl)
  have g__law_shuffled := glo_ok X G (x := "_law_shuffled") (cd.fact 65 (f := .glo "_law_shuffled") rfl)
  have g_law := glo_ok X G (x := "law") (cd.fact 66 (f := .glo "law") rfl)
  have fr_abs := free_ok X G (x := "abs") (cd.fact 67 (f := .free "abs") rfl)
  have fr_isinstance := free_ok X G (x := "isinstance") (cd.fact 68 (f := .free "isinstance") rfl)
  have fr_bool := free_ok X G (x := "bool") (cd.fact 69 (f := .free "bool") rfl)
  have fr_int := free_ok X G (x := "int") (cd.fact 70 (f := .free "int") rfl)
  obtain ⟨t_MOST_PLACES, k_MOST_PLACES⟩ := int_ok X G (x := "MOST_PLACES") (cd.fact 71 (f := .int "MOST_PLACES" 6) rfl)
  have fr_list := free_ok X G (x := "list") (cd.fact 72 (f := .free "list") rfl)
  have fr_tuple := free_ok X G (x := "tuple") (cd.fact 73 (f := .free "tuple") rfl)
  have fr_zip := free_ok X G (x := "zip") (cd.fact 74 (f := .free "zip") rfl)
  have fr_all := free_ok X G (x := "all") (cd.fact 75 (f := .free "all") rfl)
  have fr_len := free_ok X G (x := "len") (cd.fact 76 (f := .free "len") rfl)
  obtain ⟨t_MOST_PAIRS, k_MOST_PAIRS⟩ := int_ok X G (x := "MOST_PAIRS") (cd.fact 77 (f := .int "MOST_PAIRS" 24) rfl)
  have fr_enumerate := free_ok X G (x := "enumerate") (cd.fact 78 (f := .free "enumerate") rfl)
  have fr_range := free_ok X G (x := "range") (cd.fact 79 (f := .free "range") rfl)
  obtain ⟨t_MOST_SETS, k_MOST_SETS⟩ := int_ok X G (x := "MOST_SETS") (cd.fact 82 (f := .int "MOST_SETS" 1000000000) rfl)
  have fr_sum := free_ok X G (x := "sum") (cd.fact 83 (f := .free "sum") rfl)
  have fr_any := free_ok X G (x := "any") (cd.fact 84 (f := .free "any") rfl)
  have fr_str := free_ok X G (x := "str") (cd.fact 86 (f := .free "str") rfl)
  obtain ⟨t_BOTH, k_BOTH⟩ := str_ok X G (x := "BOTH") (cd.fact 87 (f := .str "BOTH" "both") rfl)
  obtain ⟨t_ONE, k_ONE⟩ := str_ok X G (x := "ONE") (cd.fact 88 (f := .str "ONE" "one") rfl)
  have fr_sorted := free_ok X G (x := "sorted") (cd.fact 89 (f := .free "sorted") rfl)
  have fr_max := free_ok X G (x := "max") (cd.fact 92 (f := .free "max") rfl)
  have fr_min := free_ok X G (x := "min") (cd.fact 93 (f := .free "min") rfl)
  have gc_Family := glo_ok X G (x := "Family") (cd.fact 95 (f := .glo "Family") rfl)
  have c_0 : Cls (gs K).K ((gs K).clsA 0) := cls_ok (x := "Family") (cd.fact 96 (f := .cls "Family") rfl)
  have e0 := c.exo
  obtain ⟨x0, e1⟩ := ba (show (insB K "Family" && (tupB K "KINDS" [.str "both", .str "line", .str "one"] && (propB K "Family" "pairs" && (propB K "Family" "places" && (notB K (ga K "PairError")))))) = true from e0)
  obtain ⟨x1, e2⟩ := ba (show (tupB K "KINDS" [.str "both", .str "line", .str "one"] && (propB K "Family" "pairs" && (propB K "Family" "places" && (notB K (ga K "PairError"))))) = true from e1)
  obtain ⟨x2, e3⟩ := ba (show (propB K "Family" "pairs" && (propB K "Family" "places" && (notB K (ga K "PairError")))) = true from e2)
  obtain ⟨x3, e4⟩ := ba (show (propB K "Family" "places" && (notB K (ga K "PairError"))) = true from e3)
  have x4 : (notB K (ga K "PairError")) = true := e4
  have n_own_pairs : NoAttr (gs K).K ((gs K).clsA 0) "own_pairs" := noat_ok (x := "Family") (cd.fact 80 (f := .noat "Family" "own_pairs") rfl)
  have n_own_places : NoAttr (gs K).K ((gs K).clsA 0) "own_places" := noat_ok (x := "Family") (cd.fact 81 (f := .noat "Family" "own_places") rfl)
  have i_Family : IsC (gs K).K mg 0 "Family" (gs K).clsA := insB_ok rfl gc_Family c_0 x0
  have k_KINDS : mg "KINDS" = some (.ref (ga K "KINDS")) ∧ ∀ H, SqT (gs K).K H (ga K "KINDS") [.str "both", .str "line", .str "one"] := ⟨glo_ok X G (x := "KINDS") (cd.fact 85 (f := .glo "KINDS") rfl), fun H => tupB_ok x1 H⟩
  have i_PairError : IsN (gs K).K mg "PairError" := ⟨_, glo_ok X G (x := "PairError") (cd.fact 94 (f := .glo "PairError") rfl), notB_ok x4⟩
  have e := hfa.symm.trans g_law
  cases e
  have b := FunD.bindsA (ps := ["script"]) F_law fun _ _ _ _ _ _ us hl => match us, hl with | [_], _ => rfl
  refine ⟨fd_law, fun s v => b s [v] rfl, fun base hKb hGb => ?_⟩
  have bB : Binds (gs K).K fd__law_begun ["script"] [] := FunD.bindsN (ps := ["script"]) F__law_begun fun _ _ _ _ _ _ us hl => match us, hl with | [_], _ => rfl
  have h_is_number := fun T L C : Addr => ok_is_number (P := P) (w := w) (mg := mg) (base := base) (s := gs K) (T := T) (L := L) (C := C) F_is_number g_is_number fr_isinstance fr_bool fr_int
  have h_is_between := fun T L C : Addr => ok_is_between (P := P) (w := w) (mg := mg) (base := base) (s := gs K) (T := T) (L := L) (C := C) F_is_between g_is_between (h_is_number T L C)
  have h_need_places := fun T L C : Addr => ok_need_places (P := P) (w := w) (mg := mg) (base := base) (s := gs K) (T := T) (L := L) (C := C) F_need_places g_need_places k_MOST_PLACES (h_is_between T L C)
  have h_need_arc_size := fun T L C : Addr => ok_need_arc_size (P := P) (w := w) (mg := mg) (base := base) (s := gs K) (T := T) (L := L) (C := C) F_need_arc_size g_need_arc_size (h_need_places T L C) (h_is_between T L C)
  have h_is_list := fun T L C : Addr => ok_is_list (P := P) (w := w) (mg := mg) (base := base) (s := gs K) (T := T) (L := L) (C := C) F_is_list g_is_list fr_isinstance fr_list fr_tuple
  have h_is_rising := fun T L C : Addr => ok_is_rising (P := P) (w := w) (mg := mg) (base := base) (s := gs K) (T := T) (L := L) (C := C) F_is_rising g_is_rising fr_zip fr_all
  have h_is_side := fun T L C : Addr => ok_is_side (P := P) (w := w) (mg := mg) (base := base) (s := gs K) (T := T) (L := L) (C := C) F_is_side g_is_side (h_is_between T L C) fr_all fr_isinstance fr_tuple (h_is_rising T L C)
  have h_need_sets := fun T L C : Addr => ok_need_sets (P := P) (w := w) (mg := mg) (base := base) (s := gs K) (T := T) (L := L) (C := C) F_need_sets g_need_sets (h_need_places T L C) fr_len k_MOST_PAIRS (h_is_list T L C) fr_enumerate fr_list (h_is_side T L C)
  have h_need_arcs := fun T L C : Addr => ok_need_arcs (P := P) (w := w) (mg := mg) (base := base) (s := gs K) (T := T) (L := L) (C := C) F_need_arcs g_need_arcs (h_need_arc_size T L C) (h_need_sets T L C) fr_enumerate fr_len
  have h_rising_keys := fun T L C : Addr => ok_rising_keys (P := P) (w := w) (mg := mg) (base := base) (s := gs K) (T := T) (L := L) (C := C) F_rising_keys g_rising_keys fr_range
  have h_common_of := fun T L C : Addr => ok_common_of (P := P) (w := w) (mg := mg) (base := base) (s := gs K) (T := T) (L := L) (C := C) F_common_of g_common_of fr_tuple
  have h_round_with := fun T L C : Addr => ok_round_with (P := P) (w := w) (mg := mg) (base := base) (s := gs K) (T := T) (L := L) (C := C) F_round_with g_round_with fr_range fr_tuple
  have h_meeting_paper := fun T L C : Addr => ok_meeting_paper (P := P) (w := w) (mg := mg) (base := base) (s := gs K) (T := T) (L := L) (C := C) F_meeting_paper g_meeting_paper (h_need_arcs T L C) fr_len (h_rising_keys T L C) (h_common_of T L C) (h_round_with T L C)
  have h__law_keys := fun T L C : Addr => ok__law_keys (P := P) (w := w) (mg := mg) (base := base) (s := gs K) (T := T) (L := L) (C := C) F__law_keys g__law_keys fr_range
  have h_orders_by := fun T L C : Addr => ok_orders_by (P := P) (w := w) (mg := mg) (base := base) (s := gs K) (T := T) (L := L) (C := C) F_orders_by g_orders_by fr_range
  have h_round_orders_by := fun T L C : Addr => ok_round_orders_by (P := P) (w := w) (mg := mg) (base := base) (s := gs K) (T := T) (L := L) (C := C) F_round_orders_by g_round_orders_by (h_orders_by T L C)
  have h_round_orders := fun T L C : Addr => ok_round_orders (P := P) (w := w) (mg := mg) (base := base) (s := gs K) (T := T) (L := L) (C := C) F_round_orders g_round_orders (h_need_places T L C) (h_round_orders_by T L C)
  have h__law_blend := fun T L C : Addr => ok__law_blend (P := P) (w := w) (mg := mg) (base := base) (s := gs K) (T := T) (L := L) (C := C) F__law_blend g__law_blend fr_int
  have h__law_draw := fun T L C : Addr => ok__law_draw (P := P) (w := w) (mg := mg) (base := base) (s := gs K) (T := T) (L := L) (C := C) F__law_draw g__law_draw (h__law_blend T L C) fr_int
  have h__law_pick := fun T L C : Addr => ok__law_pick (P := P) (w := w) (mg := mg) (base := base) (s := gs K) (T := T) (L := L) (C := C) F__law_pick g__law_pick fr_len (h__law_draw T L C)
  have h_meets := fun T L C : Addr => ok_meets (P := P) (w := w) (mg := mg) (base := base) (s := gs K) (T := T) (L := L) (C := C) F_meets g_meets (h_common_of T L C)
  have h_is_pair := fun T L C : Addr => ok_is_pair (P := P) (w := w) (mg := mg) (base := base) (s := gs K) (T := T) (L := L) (C := C) F_is_pair g_is_pair (h_is_side T L C) fr_all fr_len fr_isinstance fr_tuple (h_meets T L C)
  have h_need_pairs := fun T L C : Addr => ok_need_pairs (P := P) (w := w) (mg := mg) (base := base) (s := gs K) (T := T) (L := L) (C := C) F_need_pairs g_need_pairs fr_len k_MOST_PAIRS (h_is_list T L C) fr_enumerate fr_list (h_is_pair T L C)
  have h_Family___init__ := fun T L C : Addr => ok_Family___init__ (P := P) (w := w) (mg := mg) (base := base) (s := gs K) (T := T) (L := L) (C := C) F_Family___init__ (mkr_ok (x := "Family") (cd.fact 91 (f := .mkr "Family") rfl)) gc_Family fr_tuple c_0 n_own_pairs n_own_places (h_need_pairs T L C) (h_need_places T L C)
  have h_need_many := fun T L C : Addr => ok_need_many (P := P) (w := w) (mg := mg) (base := base) (s := gs K) (T := T) (L := L) (C := C) F_need_many g_need_many k_MOST_SETS (h_is_between T L C)
  have h_picks := fun T L C : Addr => ok_picks (P := P) (w := w) (mg := mg) (base := base) (s := gs K) (T := T) (L := L) (C := C) F_picks g_picks fr_range
  have h_greatest_top := fun T L C : Addr => ok_greatest_top (P := P) (w := w) (mg := mg) (base := base) (s := gs K) (T := T) (L := L) (C := C) F_greatest_top g_greatest_top (h_picks T L C)
  have h_cascade_by := fun T L C : Addr => ok_cascade_by (P := P) (w := w) (mg := mg) (base := base) (s := gs K) (T := T) (L := L) (C := C) F_cascade_by g_cascade_by (h_greatest_top T L C) (h_picks T L C) fr_tuple
  have h_least_shadow := fun T L C : Addr => ok_least_shadow (P := P) (w := w) (mg := mg) (base := base) (s := gs K) (T := T) (L := L) (C := C) F_least_shadow g_least_shadow (h_need_many T L C) (h_cascade_by T L C) (h_picks T L C) fr_sum
  have h_is_within_side := fun T L C : Addr => ok_is_within_side (P := P) (w := w) (mg := mg) (base := base) (s := gs K) (T := T) (L := L) (C := C) F_is_within_side g_is_within_side fr_all
  have h_unlike_keys := fun T L C : Addr => ok_unlike_keys (P := P) (w := w) (mg := mg) (base := base) (s := gs K) (T := T) (L := L) (C := C) F_unlike_keys g_unlike_keys fr_range
  have h_is_antichain := fun T L C : Addr => ok_is_antichain (P := P) (w := w) (mg := mg) (base := base) (s := gs K) (T := T) (L := L) (C := C) F_is_antichain g_is_antichain (h_need_sets T L C) fr_len (h_unlike_keys T L C) (h_is_within_side T L C) fr_any
  obtain ⟨ds_need_family, hd_need_family, hb_need_family⟩ := bind_need_family F_need_family
  have h_need_family_1 := fun T L C : Addr => ok_need_family (P := P) (w := w) (mg := mg) (base := base) (s := gs K) (T := T) (L := L) (C := C) F_need_family g_need_family hb_need_family hd_need_family fr_isinstance i_Family
  have h_is_kind := fun T L C : Addr => ok_is_kind (P := P) (w := w) (mg := mg) (base := base) (s := gs K) (T := T) (L := L) (C := C) F_is_kind g_is_kind k_KINDS fr_isinstance fr_str
  have h_need_kind := fun T L C : Addr => ok_need_kind (P := P) (w := w) (mg := mg) (base := base) (s := gs K) (T := T) (L := L) (C := C) F_need_kind g_need_kind (h_is_kind T L C)
  have h_need_family_kind := fun T L C : Addr => ok_need_family_kind (P := P) (w := w) (mg := mg) (base := base) (s := gs K) (T := T) (L := L) (C := C) F_need_family_kind g_need_family_kind (h_need_family_1 T L C) (h_need_kind T L C)
  have h_keys_of := fun T L C : Addr => ok_keys_of (P := P) (w := w) (mg := mg) (base := base) (s := gs K) (T := T) (L := L) (C := C) F_keys_of g_keys_of fr_range k_BOTH
  have h_Family_many := fun T L C : Addr => ok_Family_many (P := P) (w := w) (mg := mg) (base := base) (s := gs K) (T := T) (L := L) (C := C) F_Family_many (meth_ok (x := "Family") (m := "many") (cd.fact 90 (f := .meth "Family" "many") rfl)) c_0 c_0 n_own_pairs fr_len
  have h_Family_pairs := fun T L C : Addr => ok_Family_pairs (P := P) (w := w) (mg := mg) (base := base) (s := gs K) (T := T) (L := L) (C := C) F_Family_pairs (propB_ok x2) c_0 c_0 n_own_pairs
  have h_right_places := fun T L C : Addr => ok_right_places (P := P) (w := w) (mg := mg) (base := base) (s := gs K) (T := T) (L := L) (C := C) F_right_places g_right_places (h_Family_pairs T L C) (h_common_of T L C) k_ONE fr_sorted fr_tuple
  have h_first_failing := fun T L C : Addr => ok_first_failing (P := P) (w := w) (mg := mg) (base := base) (s := gs K) (T := T) (L := L) (C := C) F_first_failing g_first_failing (h_Family_many T L C) (h_keys_of T L C) (h_right_places T L C)
  have h_is_of_kind := fun T L C : Addr => ok_is_of_kind (P := P) (w := w) (mg := mg) (base := base) (s := gs K) (T := T) (L := L) (C := C) F_is_of_kind g_is_of_kind (h_need_family_kind T L C) (h_first_failing T L C)
  have h_need_sized := fun T L C : Addr => ok_need_sized (P := P) (w := w) (mg := mg) (base := base) (s := gs K) (T := T) (L := L) (C := C) F_need_sized g_need_sized (h_need_places T L C) (h_is_between T L C) (h_need_sets T L C) fr_enumerate fr_len
  have h_shadow_by := fun T L C : Addr => ok_shadow_by (P := P) (w := w) (mg := mg) (base := base) (s := gs K) (T := T) (L := L) (C := C) F_shadow_by g_shadow_by fr_tuple fr_sorted
  have h_shadow := fun T L C : Addr => ok_shadow (P := P) (w := w) (mg := mg) (base := base) (s := gs K) (T := T) (L := L) (C := C) F_shadow g_shadow (h_need_sized T L C) (h_shadow_by T L C)
  have h_is_order := fun T L C : Addr => ok_is_order (P := P) (w := w) (mg := mg) (base := base) (s := gs K) (T := T) (L := L) (C := C) F_is_order g_is_order (h_is_between T L C) fr_all (h_is_list T L C) fr_sorted fr_list fr_range
  have h_need_order := fun T L C : Addr => ok_need_order (P := P) (w := w) (mg := mg) (base := base) (s := gs K) (T := T) (L := L) (C := C) F_need_order g_need_order (h_is_order T L C)
  have h_Family_places := fun T L C : Addr => ok_Family_places (P := P) (w := w) (mg := mg) (base := base) (s := gs K) (T := T) (L := L) (C := C) F_Family_places (propB_ok x3) c_0 c_0 n_own_places
  have h_parts_by := fun T L C : Addr => ok_parts_by (P := P) (w := w) (mg := mg) (base := base) (s := gs K) (T := T) (L := L) (C := C) F_parts_by g_parts_by fr_enumerate
  have h_parted_by := fun T L C : Addr => ok_parted_by (P := P) (w := w) (mg := mg) (base := base) (s := gs K) (T := T) (L := L) (C := C) F_parted_by g_parted_by (h_need_family_1 T L C) (h_Family_places T L C) (h_need_order T L C) (h_Family_pairs T L C) fr_enumerate (h_parts_by T L C) fr_tuple
  have h_need_index := fun T L C : Addr => ok_need_index (P := P) (w := w) (mg := mg) (base := base) (s := gs K) (T := T) (L := L) (C := C) F_need_index g_need_index (h_Family_many T L C) (h_is_between T L C)
  have h_crosses_by := fun T L C : Addr => ok_crosses_by (P := P) (w := w) (mg := mg) (base := base) (s := gs K) (T := T) (L := L) (C := C) F_crosses_by g_crosses_by (h_meets T L C)
  have h_crosses := fun T L C : Addr => ok_crosses (P := P) (w := w) (mg := mg) (base := base) (s := gs K) (T := T) (L := L) (C := C) F_crosses g_crosses (h_need_family_1 T L C) (h_need_index T L C) (h_Family_pairs T L C) (h_crosses_by T L C)
  have h_others_of := fun T L C : Addr => ok_others_of (P := P) (w := w) (mg := mg) (base := base) (s := gs K) (T := T) (L := L) (C := C) F_others_of g_others_of fr_range fr_tuple
  have h_sets_family := fun T L C : Addr => ok_sets_family (P := P) (w := w) (mg := mg) (base := base) (s := gs K) (T := T) (L := L) (C := C) F_sets_family g_sets_family (h_need_sets T L C) (h_others_of T L C) (h_Family___init__ T L C)
  have h_most_meeting := fun T L C : Addr => ok_most_meeting (P := P) (w := w) (mg := mg) (base := base) (s := gs K) (T := T) (L := L) (C := C) F_most_meeting g_most_meeting (h_need_arc_size T L C) (h_picks T L C)
  have h_arcs_by := fun T L C : Addr => ok_arcs_by (P := P) (w := w) (mg := mg) (base := base) (s := gs K) (T := T) (L := L) (C := C) F_arcs_by g_arcs_by fr_len fr_range fr_sorted fr_tuple
  have h_most_arcs := fun T L C : Addr => ok_most_arcs (P := P) (w := w) (mg := mg) (base := base) (s := gs K) (T := T) (L := L) (C := C) F_most_arcs g_most_arcs (h_need_arcs T L C) (h_round_orders_by T L C) (h_arcs_by T L C) fr_len fr_max
  have h_is_round := fun T L C : Addr => ok_is_round (P := P) (w := w) (mg := mg) (base := base) (s := gs K) (T := T) (L := L) (C := C) F_is_round g_is_round (h_is_order T L C)
  have h_arcs_among := fun T L C : Addr => ok_arcs_among (P := P) (w := w) (mg := mg) (base := base) (s := gs K) (T := T) (L := L) (C := C) F_arcs_among g_arcs_among (h_need_arcs T L C) (h_is_round T L C) (h_arcs_by T L C) fr_enumerate fr_tuple
  have h__law_common := fun T L C : Addr => ok__law_common (P := P) (w := w) (mg := mg) (base := base) (s := gs K) (T := T) (L := L) (C := C) F__law_common g__law_common fr_tuple
  have h_need_place := fun T L C : Addr => ok_need_place (P := P) (w := w) (mg := mg) (base := base) (s := gs K) (T := T) (L := L) (C := C) F_need_place g_need_place (h_is_between T L C)
  have h_sides_by := fun T L C : Addr => ok_sides_by (P := P) (w := w) (mg := mg) (base := base) (s := gs K) (T := T) (L := L) (C := C) F_sides_by g_sides_by fr_range fr_len fr_sorted
  have h_sides_of := fun T L C : Addr => ok_sides_of (P := P) (w := w) (mg := mg) (base := base) (s := gs K) (T := T) (L := L) (C := C) F_sides_of g_sides_of (h_sides_by T L C) fr_len
  have h_star := fun T L C : Addr => ok_star (P := P) (w := w) (mg := mg) (base := base) (s := gs K) (T := T) (L := L) (C := C) F_star g_star (h_need_arc_size T L C) (h_need_place T L C) (h_sides_of T L C)
  have h__law_sets_right := fun T L C : Addr => ok__law_sets_right (P := P) (w := w) (mg := mg) (base := base) (s := gs K) (T := T) (L := L) (C := C) F__law_sets_right g__law_sets_right (h_meeting_paper T L C) fr_len (h__law_keys T L C) (h_Family___init__ T L C) (h_crosses T L C) (h__law_common T L C) (h_sets_family T L C) (h_is_of_kind T L C) (h_is_antichain T L C) (h_most_arcs T L C) (h_most_meeting T L C) (h_arcs_among T L C) (h_shadow T L C) (h_least_shadow T L C) (h__law_draw T L C) (h_round_orders T L C) (h_star T L C) (h__law_pick T L C) (h_parted_by T L C)
  have h__law_sets := fun T L C : Addr => ok__law_sets (P := P) (w := w) (mg := mg) (base := base) (s := gs K) (T := T) (L := L) (C := C) F__law_sets g__law_sets fr_range fr_len fr_sorted
  have h__law_sized := fun T L C : Addr => ok__law_sized (P := P) (w := w) (mg := mg) (base := base) (s := gs K) (T := T) (L := L) (C := C) F__law_sized g__law_sized (h__law_sets T L C) fr_len
  have h__law_shuffled := fun T L C : Addr => ok__law_shuffled (P := P) (w := w) (mg := mg) (base := base) (s := gs K) (T := T) (L := L) (C := C) F__law_shuffled g__law_shuffled fr_list fr_len (h__law_draw T L C)
  exact ok_law (P := P) (w := w) (mg := mg) (base := base) (s := gs K) F_law (ok__law_begun fr_abs F__law_begun) g__law_begun F__law_begun.kp bB fr_len fr_min fr_range h__law_draw fr_int h__law_sized h_star h__law_shuffled h__law_sets_right fr_isinstance i_PairError hm
end LK
end
set_option Elab.async false
set_option linter.all false
set_option maxRecDepth 100000
set_option maxHeartbeats 0
open PySem PySem.W PySem.Calls PyProof.Rows
theorem PySem.Challenge.cw_copygraphs_k88_across_sets_that_meet_and_holds : PySem.Challenge.rw_copygraphs_k88_across_sets_that_meet_and.Holds := by
  w_on; o_law
  refine HandSHeadRun.head_any (r := OpenLaw.row PySem.Challenge.rw_copygraphs_k88_across_sets_that_meet_and) (q := view (OpenLaw.row PySem.Challenge.rw_copygraphs_k88_across_sets_that_meet_and).prog [96]) (H := LK.hk) (ob := LK.ob) (M := 6000) (loose := LK.loose) (d := HandSHeadRun.topDef (OpenLaw.row PySem.Challenge.rw_copygraphs_k88_across_sets_that_meet_and).prog 96) (kwd := []) LK.ob_eq
    (by kernel_rfl) (fun s => by kernel_rfl) LK.run (by kernel_rfl) (by kernel_rfl) (by kernel_rfl) (by rfl) (by first | assumption | decide +kernel) (by decide +kernel) ⟨rfl, rfl, rfl, rfl, rfl, by decide +kernel⟩ ?hw ?hc
  case hw => w_witness2
  case hc =>
    refine L2.walk_ofE (l := PySem.Challenge.rw_copygraphs_k88_across_sets_that_meet_and) (n := 63) (k := 10) (x := "script") (CX := L2.CX0) rfl (by decide) (by kernel_rfl) ⟨rfl, by decide, by decide⟩ ?F (fun _ _ _ _ z => z)
    intro w mg fa h Y G hmg0
    obtain ⟨K, KX, c⟩ := Y
    have hmg : mg ("law" : PySem.Str) = some (.ref fa) := by
      have e : (HandSHeadRun.topDef (OpenLaw.row PySem.Challenge.rw_copygraphs_k88_across_sets_that_meet_and).prog 96).name = ("law" : PySem.Str) := by kernel_rfl
      rw [← e]
      exact hmg0
    obtain ⟨fd, hb, hF⟩ := LK.facts (P := (PySem.Challenge.rw_copygraphs_k88_across_sets_that_meet_and).prog) (w := w) KX G hmg c LK.hm
    exact ⟨K, fd, Z.spLaw K, KX, hb, fun H a ns hl _ hS => ⟨a, ns, rfl, hS, hl, fun _ => rfl⟩, hF⟩
