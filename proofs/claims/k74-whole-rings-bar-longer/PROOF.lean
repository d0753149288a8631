import PyProof.Rows.All
import Wide.All
import OpenK.AllK
import Wide.FinOn
import KE.KStateDown
import HandS.Head0
import HandS.Head1
import HandS.Head2
import HandS.HeadEnd
import HandS.HeadHook1
import HandS.HeadHook2
import HandS.ExcInit
import HandS.Defaults
import HandS.Words
import HandS.ClsMeth
import HandS.HeadHook3
import HandS.HeadHook4
import HandS.HeadWalk
import HandS.EndTab
import HandS.ForMost
import HandS.ForExc
import HandS.ExcField
import HandS.IsInst
import HandS.Flow
import HandS.Deep
import HandS.TupAny
import HandS.Evl
import HandS.Walk
import HandS.BoundDict
import HandS.DictComp
import KE.GoesMore
import PyProof.DictUpdate
import KE.DataMinMax
import HandS.Zip
import HandS.Strs
import HandS.More
import HandS.TupMul
import HandS.Style
import PyProof.EqAt
import KE.SortData
import KE.KDictWalk
import KE.KDictSum
import PyProof.DictMoreH
import HandS.OwnEq
import PyProof.EqKinds
import HandS.TupLe
import KE.KxIndex
import HandS.Lambda
import HandS.SortKw
import KE.SortKeyHeap
import KE.KSortKey
import HandS.Small
import PyProof.SeqRoads2
import PySem.Challenge.RW_openlines_k74_whole_rings_bar_longer_lis
section
set_option Elab.async false
set_option linter.all false
set_option maxRecDepth 100000
set_option maxHeartbeats 2000000
namespace Hx
open PySem PySem.Spec PyProof.Rows L2
abbrev Te := PySem.W.Frag → Bool
def okF (K : PySem.W.Frag) (d : He.FnD) : Bool := (He.Fa.code d.at_ d.qual).ok K && PySem.W.keepIn K (.ref (He.fAd K d.at_))
abbrev Ax : Type := Bool × List He.FnV
def obsX (fx : List (List Te)) (fn : List He.FnD) (K : PySem.W.Frag) : Ax :=
  ((fx.all fun l => l.all fun p => p K) && fn.all (okF K), fn.map fun d => He.fnObs K d.at_)
def valX (fn : List He.FnD) : Ax := (true, fn.map He.FnD.val)
def SaysX (fx : List (List Te)) (fn : List He.FnD) (K : PySem.W.Frag) : Prop := obsX fx fn K = valX fn
theorem SaysX.def_ {fx : List (List Te)} {fn : List He.FnD} {K : PySem.W.Frag} (c : SaysX fx fn K) (i : Nat) {d : He.FnD} (h : fn[i]? = some d) :
    ∃ oc od osl kV doc pm an cdv ct, K.lookup (He.fAd K d.at_) = some ⟨oc, od, .func (PySem.W.fnOf d.name d.qual d.params d.body d.scope .none kV doc pm an cdv ct), osl⟩ ∧ PySem.W.codeIn K cdv d.qual = true ∧ PySem.W.keepIn K (.ref (He.fAd K d.at_)) = true := by
  have c2 := (Bool.and_eq_true_iff.mp (show ((fx.all fun l => l.all fun p => p K) && fn.all (okF K)) = true from congrArg (fun z : Ax => z.1) c)).2
  have e : fn.map (fun d => He.fnObs K d.at_) = fn.map He.FnD.val := congrArg (fun z : Ax => z.2) c
  have e2 : (fn.map fun d => He.fnObs K d.at_)[i]? = (fn.map He.FnD.val)[i]? := by rw [e]
  rw [List.getElem?_map, List.getElem?_map, h] at e2
  obtain ⟨h1, h2⟩ := Bool.and_eq_true_iff.mp (List.all_eq_true.mp c2 d (List.mem_of_getElem? h))
  obtain ⟨oc, od, osl, kV, doc, pm, an, cdv, ct, h3, h4⟩ := He.fn_ok (Option.some.inj e2) h1
  exact ⟨oc, od, osl, kV, doc, pm, an, cdv, ct, h3, h4, h2⟩
end Hx
end
section
set_option Elab.async false
set_option linter.all false
set_option maxRecDepth 100000
set_option maxHeartbeats 2000000
namespace Hy
open PySem PySem.Spec PyProof.Rows L2
def clsIntB (K : PySem.W.Frag) (C : Addr) (f : Str) (n : Int) : Bool := match PySem.W.findCls K (.ref C) (.type "type") f with
  | some (.val (.int i _)) => decide (i = n)
  | _ => false
def exB (fx : List (List Hx.Te)) (K : PySem.W.Frag) : Bool := fx.all fun l => l.all fun p => p K
theorem exB_fact {fx : List (List Hx.Te)} {K : PySem.W.Frag} (c : exB fx K = true) (i j : Nat) {l : List Hx.Te} {p : Hx.Te} (h : fx[i]? = some l) (h' : l[j]? = some p) : p K = true :=
  List.all_eq_true.mp (List.all_eq_true.mp c l (List.mem_of_getElem? h)) p (List.mem_of_getElem? h')
/-- what an object names: not the fields of code objects -/
def refsY (o : Obj) : List Addr := He.refV o.cls ++ match o.data with
  | .seq its _ => its.toList.flatMap He.refV
  | .dict es _ => es.toList.flatMap fun e => He.refV e.val
  | .func fd => He.refV fd.code ++ He.refV fd.defaults
  | .cls cd => cd.ns :: cd.mro.flatMap He.refV
  | _ => []
/-- what the module's names reach in n steps: the new ones alone are looked at again -/
def asY (g : Addr → Option Obj) : Nat → List Addr → List Addr → List Addr
  | 0, _, all => all
  | n + 1, new, all => (fun nw => asY g n nw (nw ++ all)) (((new.flatMap fun a => match g a with
      | some o => refsY o
      | none => []).eraseDups).filter fun a => !all.contains a)
structure SaysY (fn : List He.DefD) (tf : List He.Defn) (ex : PySem.W.Frag → Bool) (h : Heap) (K : PySem.W.Frag) : Prop where
  d : He.SaysD [] fn K
  more : ex K = true
  hd : ∀ p ∈ tf, PySem.W.codeHdIn K (He.cT K p).1 (He.cT K p).2 = true
  out : ∀ p ∈ tf, K.lookup (He.cT K p).2 = none
  empty : ∀ p ∈ tf, h.get? (He.cT K p).2 = some { cls := .none, data := .fields #[] }
abbrev AlY : Type := He.AlD × Bool
def obsK (fn : List He.DefD) (tf : List He.Defn) (ex : PySem.W.Frag → Bool) (g : Addr → Option Obj) (K : PySem.W.Frag) : AlY := (He.obsD [] fn K, ex K && He.tabsB g tf K)
def obsY (n : Nat) (fn : List He.DefD) (tf : List He.Defn) (ex : PySem.W.Frag → Bool) (g : Addr → Option Obj) : AlY := obsK fn tf ex g (He.frT g (asY g n [mainGlobals] [mainGlobals, PySem.cStatics]))
def valY (fn : List He.DefD) : AlY := (He.valD fn, true)
theorem saysY_of {n : Nat} {fn : List He.DefD} {tf : List He.Defn} {ex : PySem.W.Frag → Bool} {h : Heap} (e : obsY n fn tf ex h.get? = valY fn) : SaysY fn tf ex h (He.frT h.get? (asY h.get? n [mainGlobals] [mainGlobals, PySem.cStatics])) := by
  have e1 : He.obsD [] fn (He.frT h.get? (asY h.get? n [mainGlobals] [mainGlobals, PySem.cStatics])) = He.valD fn := congrArg (fun z : AlY => z.1) e
  have e2 : (ex (He.frT h.get? (asY h.get? n [mainGlobals] [mainGlobals, PySem.cStatics])) && He.tabsB h.get? tf (He.frT h.get? (asY h.get? n [mainGlobals] [mainGlobals, PySem.cStatics]))) = true := congrArg (fun z : AlY => z.2) e
  obtain ⟨h1, h2⟩ := Bool.and_eq_true_iff.mp e2
  have key : ∀ p ∈ tf, PySem.W.codeHdIn (He.frT h.get? (asY h.get? n [mainGlobals] [mainGlobals, PySem.cStatics])) (He.cT (He.frT h.get? (asY h.get? n [mainGlobals] [mainGlobals, PySem.cStatics])) p).1 (He.cT (He.frT h.get? (asY h.get? n [mainGlobals] [mainGlobals, PySem.cStatics])) p).2 = true ∧ ∃ o, h.get? (He.cT (He.frT h.get? (asY h.get? n [mainGlobals] [mainGlobals, PySem.cStatics])) p).2 = some o ∧ He.emptyTab o = true := fun p hp => by
    obtain ⟨h3, h4⟩ := Bool.and_eq_true_iff.mp (List.all_eq_true.mp h2 p hp)
    refine ⟨h3, ?_⟩
    cases q : h.get? (He.cT (He.frT h.get? (asY h.get? n [mainGlobals] [mainGlobals, PySem.cStatics])) p).2 with
    | none =>
      rw [q] at h4
      cases h4
    | some o =>
      rw [q] at h4
      exact ⟨o, rfl, h4⟩
  exact ⟨e1, h1, fun p hp => (key p hp).1, fun p hp => by
    obtain ⟨_, o, q, z⟩ := key p hp
    exact He.frT_none q z, fun p hp => by
    obtain ⟨_, o, q, z⟩ := key p hp
    rw [q, He.emptyTab_eq z]⟩
def hookY (n : Nat) (fn : List He.DefD) (tf : List He.Defn) (ex : PySem.W.Frag → Bool) : PySem.W.Hook where
  α := AlY
  obs := fun s => obsY n fn tf ex s.heap.get?
  val := fun _ => valY fn
  says := fun _ h => ∃ K : PySem.W.Frag, K.In h ∧ SaysY fn tf ex h K
  of := fun _ _ e => ⟨_, He.frT_in, saysY_of e⟩
  keeps := fun _ _ _ ⟨K, hK, c⟩ k => ⟨K, PySem.W.Frag.In.keeps hK k, ⟨c.d, c.more, c.hd, c.out, fun p hp => k _ _ (c.empty p hp)⟩⟩
theorem obsY_eq {n : Nat} {fn : List He.DefD} {tf : List He.Defn} {ex : PySem.W.Frag → Bool} {g : Addr → Option Obj} {s : Shared} (h : ∀ a, g a = s.heap.get? a) : obsY n fn tf ex g = (hookY n fn tf ex).obs s := by
  have e : g = s.heap.get? := funext h
  rw [e] <;> rfl
end Hy
end
section
set_option Elab.async false
set_option linter.all false
set_option maxRecDepth 100000
set_option maxHeartbeats 8000000
namespace WR
open PySem L2 PyProof.Rows
def top (i : Nat) : Stmt := PySem.Challenge.pw_openlines_k74_whole_rings_bar_longer_lis.main.body.getD i (.Pass ⟨0, 0, 0, 0⟩)
abbrev s_next_name : Stmt := top 15
abbrev s_earliest_demands : Stmt := top 16
abbrev s_distances_to : Stmt := top 17
abbrev s_least_road : Stmt := top 18
abbrev s_least_ring : Stmt := top 19
abbrev s_merge_or_none : Stmt := top 20
abbrev s_merge_or_ring : Stmt := top 21
abbrev s_is_name : Stmt := top 29
abbrev s_look_kind : Stmt := top 35
abbrev s_bad_item : Stmt := top 37
abbrev s_bad_bases : Stmt := top 38
abbrev s_look_bases : Stmt := top 39
abbrev s_lists_for : Stmt := top 41
abbrev s_in_order : Stmt := top 55
abbrev s_outdated : Stmt := top 56
abbrev s_lined : Stmt := top 72
abbrev s_Registry___init__ : Stmt := inClass (top 73) 1
abbrev s_Registry_has : Stmt := inClass (top 73) 8
abbrev s_Registry_remember : Stmt := inClass (top 73) 9
abbrev s_Registry_look_bases : Stmt := inClass (top 73) 11
abbrev s_Registry_add : Stmt := inClass (top 73) 12
abbrev s_is_future_list : Stmt := top 75
abbrev s_parts_of : Stmt := top 76
abbrev s_kept : Stmt := top 77
abbrev s__law_bag : Stmt := top 79
abbrev s__law_take : Stmt := top 80
abbrev s__law_names : Stmt := top 81
abbrev s__law_merge : Stmt := top 82
abbrev s__law_some : Stmt := top 83
abbrev s__law_kinds : Stmt := top 84
abbrev s__law_set : Stmt := top 85
abbrev s__law_bases : Stmt := top 86
abbrev s_law : Stmt := top 87
end WR
namespace K74
open PySem L2 PyProof.Rows
def fx0 : List Hx.Te := [
  fun K => decide (PySem.W.nsIn K mainGlobals "next_name" = some (some (.ref (He.ga K "next_name")))),
  fun K => decide (PySem.W.nsIn K mainGlobals "merge_or_none" = some (some (.ref (He.ga K "merge_or_none")))),
  fun K => decide (PySem.W.nsIn K mainGlobals "earliest_demands" = some (some (.ref (He.ga K "earliest_demands")))),
  fun K => decide (PySem.W.nsIn K mainGlobals "distances_to" = some (some (.ref (He.ga K "distances_to")))),
  fun K => decide (PySem.W.nsIn K mainGlobals "least_road" = some (some (.ref (He.ga K "least_road")))),
  fun K => decide (PySem.W.nsIn K mainGlobals "least_ring" = some (some (.ref (He.ga K "least_ring")))),
  fun K => decide (PySem.W.nsIn K mainGlobals "merge_or_ring" = some (some (.ref (He.ga K "merge_or_ring")))),
  fun K => decide (PySem.W.nsIn K mainGlobals "is_name" = some (some (.ref (He.ga K "is_name")))),
  fun K => decide (PySem.W.nsIn K mainGlobals "look_kind" = some (some (.ref (He.ga K "look_kind")))),
  fun K => decide (PySem.W.nsIn K mainGlobals "bad_item" = some (some (.ref (He.ga K "bad_item")))),
  fun K => decide (PySem.W.nsIn K mainGlobals "bad_bases" = some (some (.ref (He.ga K "bad_bases")))),
  fun K => decide (PySem.W.nsIn K mainGlobals "look_bases" = some (some (.ref (He.ga K "look_bases")))),
  fun K => decide (PySem.W.nsIn K mainGlobals "in_order" = some (some (.ref (He.ga K "in_order")))),
  fun K => decide (PySem.W.nsIn K mainGlobals "outdated" = some (some (.ref (He.ga K "outdated")))),
  fun K => decide (PySem.W.nsIn K mainGlobals "lined" = some (some (.ref (He.ga K "lined")))),
  fun K => decide (PySem.W.nsIn K mainGlobals "lists_for" = some (some (.ref (He.ga K "lists_for")))),
  fun K => decide (PySem.W.nsIn K mainGlobals "is_future_list" = some (some (.ref (He.ga K "is_future_list")))),
  fun K => decide (PySem.W.nsIn K mainGlobals "parts_of" = some (some (.ref (He.ga K "parts_of")))),
  fun K => decide (PySem.W.nsIn K mainGlobals "kept" = some (some (.ref (He.ga K "kept")))),
  fun K => decide (PySem.W.nsIn K mainGlobals "_law_bag" = some (some (.ref (He.ga K "_law_bag")))),
  fun K => decide (PySem.W.nsIn K mainGlobals "_law_take" = some (some (.ref (He.ga K "_law_take")))),
  fun K => decide (PySem.W.nsIn K mainGlobals "_law_names" = some (some (.ref (He.ga K "_law_names")))),
  fun K => decide (PySem.W.nsIn K mainGlobals "_law_some" = some (some (.ref (He.ga K "_law_some")))),
  fun K => decide (PySem.W.nsIn K mainGlobals "_law_merge" = some (some (.ref (He.ga K "_law_merge")))),
  fun K => decide (PySem.W.nsIn K mainGlobals "_law_kinds" = some (some (.ref (He.ga K "_law_kinds"))))]
def fx1 : List Hx.Te := [
  fun K => decide (PySem.W.nsIn K mainGlobals "_law_set" = some (some (.ref (He.ga K "_law_set")))),
  fun K => decide (PySem.W.nsIn K mainGlobals "_law_bases" = some (some (.ref (He.ga K "_law_bases")))),
  fun K => decide (PySem.W.nsIn K mainGlobals "law" = some (some (.ref (He.ga K "law")))),
  fun K => decide (PySem.W.nsIn K mainGlobals "Registry" = some (some (.ref (He.ga K "Registry")))),
  fun K => decide (PySem.W.findIn K (.ref (He.ga K "Registry")) "__init__" = some (some (.ref (He.ma K (He.ga K "Registry") "__init__")))),
  fun K => decide (PySem.W.isFn K (.ref (He.ma K (He.ga K "Registry") "__init__")) = true),
  fun K => decide (PySem.W.findIn K (.ref (He.ga K "Registry")) "has" = some (some (.ref (He.ma K (He.ga K "Registry") "has")))),
  fun K => decide (PySem.W.isFn K (.ref (He.ma K (He.ga K "Registry") "has")) = true),
  fun K => decide (PySem.W.findIn K (.ref (He.ga K "Registry")) "look_bases" = some (some (.ref (He.ma K (He.ga K "Registry") "look_bases")))),
  fun K => decide (PySem.W.isFn K (.ref (He.ma K (He.ga K "Registry") "look_bases")) = true),
  fun K => decide (PySem.W.findIn K (.ref (He.ga K "Registry")) "remember" = some (some (.ref (He.ma K (He.ga K "Registry") "remember")))),
  fun K => decide (PySem.W.isFn K (.ref (He.ma K (He.ga K "Registry") "remember")) = true),
  fun K => decide (PySem.W.findIn K (.ref (He.ga K "Registry")) "add" = some (some (.ref (He.ma K (He.ga K "Registry") "add")))),
  fun K => decide (PySem.W.isFn K (.ref (He.ma K (He.ga K "Registry") "add")) = true),
  fun K => decide (PySem.W.plainGet K (He.ga K "Registry") Str.empty = true),
  fun K => decide (PySem.W.hasDictIn K (He.ga K "Registry") = true),
  fun K => decide (PySem.W.plainOver K (He.ga K "Registry") = true),
  fun K => decide (PySem.W.findIn K (.ref (He.ga K "Registry")) "__setattr__" = some (some (.builtin "object.__setattr__"))),
  fun K => decide (PySem.W.makesIn K (He.ga K "Registry") = true),
  fun K => decide (PySem.W.keepIn K (.ref (He.ga K "Registry")) = true),
  fun K => decide (PySem.W.findIn K (.ref (He.ga K "Registry")) "kind_bases" = some none),
  fun K => decide (PySem.W.findIn K (.ref (He.ga K "Registry")) "lines" = some none),
  fun K => decide (PySem.W.findIn K (.ref (He.ga K "Registry")) "bodies" = some none),
  fun K => decide (PySem.W.findIn K (.ref (He.ga K "Registry")) "cache" = some none),
  fun K => decide (PySem.W.findIn K (.ref (He.ga K "Registry")) "things" = some none)]
def fx2 : List Hx.Te := [
  fun K => decide (PySem.W.findIn K (.ref (He.ga K "Registry")) "opened_by_number" = some none),
  fun K => decide (PySem.W.findIn K (.ref (He.ga K "Registry")) "made" = some none),
  fun K => decide (PySem.W.findIn K (.ref (He.ga K "Registry")) "begun" = some none),
  fun K => decide (PySem.W.findIn K (.ref (He.ga K "Registry")) "past" = some none),
  fun K => decide (PySem.W.readsIn K (He.ga K "Registry") (.type "type") = true),
  fun K => decide (PySem.W.specialIn K (.ref (He.ga K "Registry")) "__getattribute__" = some (some (.builtin "type.__getattribute__"))),
  fun K => decide (Hy.clsIntB K (He.ga K "Registry") "MOST_KINDS" 10 = true),
  fun K => decide (PySem.W.nsIn K mainGlobals "is_name_rows" = some (some (.ref (He.ga K "is_name")))),
  fun K => decide (PySem.W.nsIn K mainGlobals "any" = some none),
  fun K => decide (PySem.W.nsIn K mainGlobals "all" = some none),
  fun K => decide (PySem.W.nsIn K mainGlobals "len" = some none),
  fun K => decide (PySem.W.nsIn K mainGlobals "min" = some none),
  fun K => decide (PySem.W.nsIn K mainGlobals "max" = some none),
  fun K => decide (PySem.W.nsIn K mainGlobals "abs" = some none),
  fun K => decide (PySem.W.nsIn K mainGlobals "isinstance" = some none),
  fun K => decide (PySem.W.nsIn K mainGlobals "tuple" = some none),
  fun K => decide (PySem.W.nsIn K mainGlobals "list" = some none),
  fun K => decide (PySem.W.nsIn K mainGlobals "sorted" = some none),
  fun K => decide (PySem.W.nsIn K mainGlobals "sum" = some none),
  fun K => decide (PySem.W.nsIn K mainGlobals "str" = some none),
  fun K => decide (PySem.W.nsIn K mainGlobals "int" = some none),
  fun K => decide (PySem.W.nsIn K mainGlobals "bool" = some none),
  fun K => decide (PySem.W.nsIn K mainGlobals "range" = some none),
  fun K => decide (PySem.W.nsIn K mainGlobals "enumerate" = some none),
  fun K => decide (PySem.W.nsIn K mainGlobals "zip" = some none)]
def fx3 : List Hx.Te := [
  fun K => decide (PySem.W.nsIn K mainGlobals "dict" = some none),
  fun K => (He.Fa.str "LETTERS" "abcdefghijklmnopqrstuvwxyz").ok K,
  fun K => (He.Fa.int "MOST_LETTERS" 8).ok K,
  fun K => (He.Fa.int "MOST_KINDS" 10).ok K]
def fx : List (List Hx.Te) := [fx0, fx1, fx2, fx3]
def qd0 : He.DefD := ⟨("next_name", none), "next_name", "next_name", defArgs WR.s_next_name, defBody WR.s_next_name, defScope WR.s_next_name, [], []⟩
def qd1 : He.DefD := ⟨("merge_or_none", none), "merge_or_none", "merge_or_none", defArgs WR.s_merge_or_none, defBody WR.s_merge_or_none, defScope WR.s_merge_or_none, [], []⟩
def qd2 : He.DefD := ⟨("earliest_demands", none), "earliest_demands", "earliest_demands", defArgs WR.s_earliest_demands, defBody WR.s_earliest_demands, defScope WR.s_earliest_demands, [], []⟩
def qd3 : He.DefD := ⟨("distances_to", none), "distances_to", "distances_to", defArgs WR.s_distances_to, defBody WR.s_distances_to, defScope WR.s_distances_to, [], []⟩
def qd4 : He.DefD := ⟨("least_road", none), "least_road", "least_road", defArgs WR.s_least_road, defBody WR.s_least_road, defScope WR.s_least_road, [], []⟩
def qd5 : He.DefD := ⟨("least_ring", none), "least_ring", "least_ring", defArgs WR.s_least_ring, defBody WR.s_least_ring, defScope WR.s_least_ring, [], []⟩
def qd6 : He.DefD := ⟨("merge_or_ring", none), "merge_or_ring", "merge_or_ring", defArgs WR.s_merge_or_ring, defBody WR.s_merge_or_ring, defScope WR.s_merge_or_ring, [], []⟩
def qd7 : He.DefD := ⟨("is_name", none), "is_name", "is_name", defArgs WR.s_is_name, defBody WR.s_is_name, defScope WR.s_is_name, [], []⟩
def qd8 : He.DefD := ⟨("look_kind", none), "look_kind", "look_kind", defArgs WR.s_look_kind, defBody WR.s_look_kind, defScope WR.s_look_kind, [], []⟩
def qd9 : He.DefD := ⟨("bad_item", none), "bad_item", "bad_item", defArgs WR.s_bad_item, defBody WR.s_bad_item, defScope WR.s_bad_item, [], []⟩
def qd10 : He.DefD := ⟨("bad_bases", none), "bad_bases", "bad_bases", defArgs WR.s_bad_bases, defBody WR.s_bad_bases, defScope WR.s_bad_bases, [], []⟩
def qd11 : He.DefD := ⟨("look_bases", none), "look_bases", "look_bases", defArgs WR.s_look_bases, defBody WR.s_look_bases, defScope WR.s_look_bases, [], []⟩
def qd12 : He.DefD := ⟨("in_order", none), "in_order", "in_order", defArgs WR.s_in_order, defBody WR.s_in_order, defScope WR.s_in_order, [], []⟩
def qd13 : He.DefD := ⟨("outdated", none), "outdated", "outdated", defArgs WR.s_outdated, defBody WR.s_outdated, defScope WR.s_outdated, [], []⟩
def qd14 : He.DefD := ⟨("lined", none), "lined", "lined", defArgs WR.s_lined, defBody WR.s_lined, defScope WR.s_lined, [], []⟩
def qd15 : He.DefD := ⟨("lists_for", none), "lists_for", "lists_for", defArgs WR.s_lists_for, defBody WR.s_lists_for, defScope WR.s_lists_for, [], []⟩
def qd16 : He.DefD := ⟨("is_future_list", none), "is_future_list", "is_future_list", defArgs WR.s_is_future_list, defBody WR.s_is_future_list, defScope WR.s_is_future_list, [], []⟩
def qd17 : He.DefD := ⟨("parts_of", none), "parts_of", "parts_of", defArgs WR.s_parts_of, defBody WR.s_parts_of, defScope WR.s_parts_of, [], []⟩
def qd18 : He.DefD := ⟨("kept", none), "kept", "kept", defArgs WR.s_kept, defBody WR.s_kept, defScope WR.s_kept, [], []⟩
def qd19 : He.DefD := ⟨("_law_bag", none), "_law_bag", "_law_bag", defArgs WR.s__law_bag, defBody WR.s__law_bag, defScope WR.s__law_bag, [], []⟩
def qd20 : He.DefD := ⟨("_law_take", none), "_law_take", "_law_take", defArgs WR.s__law_take, defBody WR.s__law_take, defScope WR.s__law_take, [], []⟩
def qd21 : He.DefD := ⟨("_law_names", none), "_law_names", "_law_names", defArgs WR.s__law_names, defBody WR.s__law_names, defScope WR.s__law_names, [], []⟩
def qd22 : He.DefD := ⟨("_law_some", none), "_law_some", "_law_some", defArgs WR.s__law_some, defBody WR.s__law_some, defScope WR.s__law_some, [], []⟩
def qd23 : He.DefD := ⟨("_law_merge", none), "_law_merge", "_law_merge", defArgs WR.s__law_merge, defBody WR.s__law_merge, defScope WR.s__law_merge, [], []⟩
def qd24 : He.DefD := ⟨("_law_kinds", none), "_law_kinds", "_law_kinds", defArgs WR.s__law_kinds, defBody WR.s__law_kinds, defScope WR.s__law_kinds, [], []⟩
def qd25 : He.DefD := ⟨("_law_set", none), "_law_set", "_law_set", defArgs WR.s__law_set, defBody WR.s__law_set, defScope WR.s__law_set, [], []⟩
def qd26 : He.DefD := ⟨("_law_bases", none), "_law_bases", "_law_bases", defArgs WR.s__law_bases, defBody WR.s__law_bases, defScope WR.s__law_bases, [], []⟩
def qd27 : He.DefD := ⟨("law", none), "law", "law", defArgs WR.s_law, defBody WR.s_law, defScope WR.s_law, [], []⟩
def qmR0 : He.DefD := ⟨("Registry", some "__init__"), "__init__", "Registry.__init__", defArgs WR.s_Registry___init__, defBody WR.s_Registry___init__, defScope WR.s_Registry___init__, [], []⟩
def qmR1 : He.DefD := ⟨("Registry", some "has"), "has", "Registry.has", defArgs WR.s_Registry_has, defBody WR.s_Registry_has, defScope WR.s_Registry_has, [], []⟩
def qmR2 : He.DefD := ⟨("Registry", some "look_bases"), "look_bases", "Registry.look_bases", defArgs WR.s_Registry_look_bases, defBody WR.s_Registry_look_bases, defScope WR.s_Registry_look_bases, [], []⟩
def qmR3 : He.DefD := ⟨("Registry", some "remember"), "remember", "Registry.remember", defArgs WR.s_Registry_remember, defBody WR.s_Registry_remember, defScope WR.s_Registry_remember, [], []⟩
def qmR4 : He.DefD := ⟨("Registry", some "add"), "add", "Registry.add", defArgs WR.s_Registry_add, defBody WR.s_Registry_add, defScope WR.s_Registry_add, [.adr (He.dflAt ("Registry", some "add") 0)], []⟩
def fn : List He.DefD := [qd0, qd1, qd2, qd3, qd4, qd5, qd6, qd7, qd8, qd9, qd10, qd11, qd12, qd13, qd14, qd15, qd16, qd17, qd18, qd19, qd20, qd21, qd22, qd23, qd24, qd25, qd26, qd27, qmR0, qmR1, qmR2, qmR3, qmR4]
def tf : List He.Defn := [("in_order", none)]
def loose0 : List Str := [("_wall" : Str), ("NoName" : Str), ("NoBases" : Str), ("NoLine" : Str), ("NoCall" : Str), ("NoBody" : Str), ("NoKind" : Str), ("NoOpen" : Str), ("Taken" : Str), ("TooMany" : Str), ("TooLong" : Str), ("TooDeep" : Str), ("is_integer" : Str), ("next_name" : Str), ("earliest_demands" : Str), ("distances_to" : Str), ("least_road" : Str), ("least_ring" : Str), ("merge_or_none" : Str), ("merge_or_ring" : Str)]
def loose1 : List Str := [("LETTERS" : Str), ("MOST_LETTERS" : Str), ("MOST_ROWS" : Str), ("SAY" : Str), ("NEXT" : Str), ("CALL" : Str), ("is_name" : Str), ("is_name_rows" : Str), ("is_row" : Str), ("bad_row" : Str), ("MOST_KINDS" : Str), ("look_kind" : Str), ("look_call" : Str), ("bad_item" : Str), ("bad_bases" : Str), ("look_bases" : Str), ("lists_for" : Str), ("LOST" : Str), ("MOST_RUNS" : Str), ("found_in" : Str)]
def loose2 : List Str := [("found_behind" : Str), ("entered" : Str), ("wanted_by" : Str), ("begun_frames" : Str), ("events_from" : Str), ("events_of" : Str), ("answer_of" : Str), ("looked_up" : Str), ("in_order" : Str), ("outdated" : Str), ("ENTER" : Str), ("LEAVE" : Str), ("MOST_FRAMES" : Str), ("need_open" : Str), ("line_under" : Str), ("entering" : Str), ("stepped" : Str), ("step_call" : Str), ("stack_of" : Str), ("rest_on" : Str)]
def loose3 : List Str := [("rest_of" : Str), ("MOST_BODIES" : Str), ("MOST_DEFINERS" : Str), ("lined" : Str), ("Registry" : Str), ("is_future_list" : Str), ("parts_of" : Str), ("kept" : Str), ("_law_bag" : Str), ("_law_take" : Str), ("_law_names" : Str), ("_law_merge" : Str), ("_law_some" : Str), ("_law_kinds" : Str), ("_law_set" : Str), ("_law_bases" : Str)]
def loose : List Str := loose0 ++ loose1 ++ loose2 ++ loose3
abbrev Rr : PySem.W.OpenRow := PySem.W.OpenLaw.row PySem.Challenge.rw_openlines_k74_whole_rings_bar_longer_lis
abbrev hk : PySem.W.Hook := Hy.hookY 4 fn tf (Hy.exB fx)
def ob (s : PySem.W.SharedT) : Hy.AlY := Hy.obsY 4 fn tf (Hy.exB fx) (HandSHeadRun.getT s)
theorem ob_eq (s : PySem.W.SharedT) : ob s = hk.obs s.abs := Hy.obsY_eq (HandSHeadRun.getT_eq s)
theorem run (w : World) : HandSHeadRun.RunEq Rr (PySem.W.view Rr.prog [87]) hk ob 9000 loose w := by
  intro os
  kernel_rfl
end K74
end
section
set_option Elab.async false
set_option linter.all false
set_option maxRecDepth 100000
namespace D
open PySem L2
structure TEc (X : Cx) (e : Expr) (σ : L2.St) (H : Hp) (Q : VK) : Prop where
  run : ∀ pins s, Inv X pins σ H s → wpAny (model X.prog X.w) X.A (eval e X.env) (EP X pins σ Q) X.xe s
def tE (X : Cx) (e : Expr) : TE := fun σ H Q => TEc X e σ H Q
theorem pE {X : Cx} {e : Expr} : PE X e (tE X e) := ⟨fun pins s _ _ _ I h => TEc.run h pins s I⟩
theorem tE_of {X : Cx} {e : Expr} {t : TE} (h : PE X e t) {σ : L2.St} {H : Hp} {Q : VK} (q : t σ H Q) : tE X e σ H Q := ⟨fun pins s I => h.run pins s σ H Q I q⟩
structure TTc (X : Cx) (e : Expr) (σ : L2.St) (H : Hp) (Q : Bool → Hp → Prop) : Prop where
  run : ∀ pins s, Inv X pins σ H s → wpAny (model X.prog X.w) X.A (PySem.isTrue e X.env (eval e X.env)) (TP X pins σ Q) X.xe s
def tT (X : Cx) (e : Expr) : TT := fun σ H Q => TTc X e σ H Q
theorem pT {X : Cx} {e : Expr} : PT X e (tT X e) := ⟨fun pins s _ _ _ I h => TTc.run h pins s I⟩
theorem tT_of {X : Cx} {e : Expr} {t : TT} (h : PT X e t) {σ : L2.St} {H : Hp} {Q : Bool → Hp → Prop} (q : t σ H Q) : tT X e σ H Q := ⟨fun pins s I => h.run pins s σ H Q I q⟩
structure TAc (X : Cx) (es : List Expr) (σ : L2.St) (H : Hp) (Q : List V → Hp → Prop) : Prop where
  run : ∀ pos pins s, Inv X pins σ H s → wpAny (model X.prog X.w) X.A (spliced (backTo pos (starEach es X.env))) (AP X pins σ Q) X.xe s
def tAs (X : Cx) (es : List Expr) : TA := fun σ H Q => TAc X es σ H Q
theorem pAs {X : Cx} {es : List Expr} : PA X es (tAs X es) := ⟨fun pos pins s _ _ _ I h => TAc.run h pos pins s I⟩
theorem tAs_of {X : Cx} {es : List Expr} {t : TA} (h : PA X es t) {σ : L2.St} {H : Hp} {Q : List V → Hp → Prop} (q : t σ H Q) : tAs X es σ H Q := ⟨fun pos pins s I => h.run pos pins s σ H Q I q⟩
structure TSc (X : Cx) (st : Stmt) (D : Ends) (σ : L2.St) (H : Hp) : Prop where
  run : ∀ pins s, Inv X pins σ H s → wpAny (model X.prog X.w) X.A (exec st X.env) (SP X pins D) X.xe s
def tSt (X : Cx) (st : Stmt) : TS := fun D σ H => TSc X st D σ H
theorem pSt {X : Cx} {st : Stmt} : PS X st (tSt X st) := ⟨fun pins s _ _ _ I h => TSc.run h pins s I⟩
theorem tSt_of {X : Cx} {st : Stmt} {t : TS} (h : PS X st t) {D : Ends} {σ : L2.St} {H : Hp} (q : t D σ H) : tSt X st D σ H := ⟨fun pins s I => h.run pins s σ H D I q⟩
structure TSsc (X : Cx) (st : List Stmt) (D : Ends) (σ : L2.St) (H : Hp) : Prop where
  run : ∀ pins s, Inv X pins σ H s → wpAny (model X.prog X.w) X.A (execs st X.env) (SP X pins D) X.xe s
def tSts (X : Cx) (st : List Stmt) : TS := fun D σ H => TSsc X st D σ H
theorem pSts {X : Cx} {st : List Stmt} : PSs X st (tSts X st) := ⟨fun pins s _ _ _ I h => TSsc.run h pins s I⟩
theorem tSts_of {X : Cx} {st : List Stmt} {t : TS} (h : PSs X st t) {D : Ends} {σ : L2.St} {H : Hp} (q : t D σ H) : tSts X st D σ H := ⟨fun pins s I => h.run pins s σ H D I q⟩
def Ex (H H' : Hp) : Prop := ∀ a o, H a = some o → H' a = some o
theorem Ex.refl (H : Hp) : Ex H H := fun _ _ h => h
theorem Ex.trans {H H1 H2 : Hp} (a : Ex H H1) (b : Ex H1 H2) : Ex H H2 := fun x o h => b x o (a x o h)
def mask (M : List Addr) (H : Hp) : Hp := fun a => if a ∈ M then none else H a
theorem mask_in {M : List Addr} {H : Hp} {a : Addr} (h : a ∈ M) : mask M H a = none := if_pos h
theorem mask_out {M : List Addr} {H : Hp} {a : Addr} (h : a ∉ M) : mask M H a = H a := if_neg h
theorem of_mask {M : List Addr} {H : Hp} {a : Addr} {o : HO} (h : mask M H a = some o) : a ∉ M ∧ H a = some o := by
  by_cases q : a ∈ M
  · rw [mask_in q] at h; cases h
  · rw [mask_out q] at h; exact ⟨q, h⟩
theorem mask_ex (M : List Addr) (H : Hp) : Ex (mask M H) H := fun a o h => (of_mask h).2
inductive Dt where
  | non | bl (b : Bool) | int (i : Int) | str (s : Str) | lst (l : List Dt) | tup (l : List Dt) | par (l : List Dt) | dct (l : List (Key × Dt)) | dcu (l : List (List Key × Dt)) | fzl (l : List Dt) | exc (a dd : Addr) (fs : List (Str × Dt)) | obj (C : Addr) | lck (a : Addr) (l : List (Key × Dt)) | lcu (a : Addr) (l : List (List Key × Dt)) | raw (v : V)
/-- a tuple without a dict of its own -/
def SqF (K : PySem.W.Frag) (H : Hp) (a : Addr) (xs : List V) : Prop := (∃ o : Obj, H a = some (.frz o (.tup xs)) ∧ o.dict = none) ∨ (SqT K (fun _ => none) a xs ∧ ∃ o : Obj, K.lookup a = some o ∧ o.cls = .type "tuple" ∧ o.dict = none)
theorem SqF.t {K : PySem.W.Frag} {H : Hp} {a : Addr} {xs : List V} (h : SqF K H a xs) : SqT K H a xs := by
  rcases h with ⟨o, h, _⟩ | ⟨h, _⟩
  · exact .inl (.inr ⟨o, h⟩)
  · rcases h with h | h
    · rcases h with h | ⟨o, h⟩ <;> cases h
    · exact .inr h
theorem SqF.mono {K : PySem.W.Frag} {H H' : Hp} {a : Addr} {xs : List V} (h : SqF K H a xs) (e : Ex H H') : SqF K H' a xs := by
  rcases h with ⟨o, h, d⟩ | h
  · exact .inl ⟨o, e _ _ h, d⟩
  · exact .inr h
mutual
inductive DV (K : PySem.W.Frag) (H : Hp) : V → Dt → Prop
  | non : DV K H .non .non
  | bl (b : Bool) : DV K H (.bl b) (.bl b)
  | int (i : Int) : DV K H (.int i) (.int i)
  | str (s : Str) : DV K H (.str s) (.str s)
  | lst {a : Addr} {xs : List V} {l : List Dt} : H a = some (.lst xs) → DVs K H xs l → DV K H (.ref a) (.lst l)
  | tup {a : Addr} {xs : List V} {l : List Dt} : SqF K H a xs → DVs K H xs l → DV K H (.ref a) (.tup l)
  | par {a : Addr} {xs : List V} {l : List Dt} : H a = some (.tup xs) → DVs K H xs l → DV K H (.ref a) (.par l)
  | dct {a : Addr} {o : Obj} {xs : List (Key × V)} {l : List (Key × Dt)} : H a = some (.frz o (.dK xs)) → DVk K H xs l → DV K H (.ref a) (.dct l)
  | dcu {a : Addr} {o : Obj} {xs : List (List Key × V)} {l : List (List Key × Dt)} : H a = some (.frz o (.dT xs)) → DVu K H xs l → DV K H (.ref a) (.dcu l)
  | fzl {a : Addr} {xs : List V} {l : List Dt} : SqL K H a xs → DVs K H xs l → DV K H (.ref a) (.fzl l)
  | exc {a dd : Addr} {xs : List (Str × V)} {l : List (Str × Dt)} : H dd = some (.xd xs) → DVx K H xs l → DV K H (.ref a) (.exc a dd l)
  | obj {a C dx : Addr} {fs : List (Str × V)} : H a = some (.ins C dx fs) → DV K H (.ref a) (.obj C)
  | lck {a : Addr} {o : Obj} {xs : List (Key × V)} {l : List (Key × Dt)} : H a = some (.frz o (.dK xs)) → DVk K H xs l → DV K H (.ref a) (.lck a l)
  | lcu {a : Addr} {o : Obj} {xs : List (List Key × V)} {l : List (List Key × Dt)} : H a = some (.frz o (.dT xs)) → DVu K H xs l → DV K H (.ref a) (.lcu a l)
  | raw (v : V) : DV K H v (.raw v)
inductive DVs (K : PySem.W.Frag) (H : Hp) : List V → List Dt → Prop
  | nil : DVs K H [] []
  | cons {v : V} {vs : List V} {d : Dt} {ds : List Dt} : DV K H v d → DVs K H vs ds → DVs K H (v :: vs) (d :: ds)
inductive DVk (K : PySem.W.Frag) (H : Hp) : List (Key × V) → List (Key × Dt) → Prop
  | nil : DVk K H [] []
  | cons {k : Key} {v : V} {vs : List (Key × V)} {d : Dt} {ds : List (Key × Dt)} : DV K H v d → DVk K H vs ds → DVk K H ((k, v) :: vs) ((k, d) :: ds)
inductive DVu (K : PySem.W.Frag) (H : Hp) : List (List Key × V) → List (List Key × Dt) → Prop
  | nil : DVu K H [] []
  | cons {k : List Key} {v : V} {vs : List (List Key × V)} {d : Dt} {ds : List (List Key × Dt)} : DV K H v d → DVu K H vs ds → DVu K H ((k, v) :: vs) ((k, d) :: ds)
inductive DVx (K : PySem.W.Frag) (H : Hp) : List (Str × V) → List (Str × Dt) → Prop
  | nil : DVx K H [] []
  | cons {k : Str} {v : V} {vs : List (Str × V)} {d : Dt} {ds : List (Str × Dt)} : DV K H v d → DVx K H vs ds → DVx K H ((k, v) :: vs) ((k, d) :: ds)
end
theorem ex_rd {H H' : Hp} {a : Addr} {u : HO} (e : Ex H H') (h : Rd H a u) : Rd H' a u := by
  rcases h with h | ⟨o, h⟩
  · exact Or.inl (e a _ h)
  · exact Or.inr ⟨o, e a _ h⟩
theorem ex_t {K : PySem.W.Frag} {H H' : Hp} {a : Addr} {xs : List V} (e : Ex H H') (h : SqT K H a xs) : SqT K H' a xs := by
  rcases h with h | h
  · exact Or.inl (ex_rd e h)
  · exact Or.inr h
theorem ex_l {K : PySem.W.Frag} {H H' : Hp} {a : Addr} {xs : List V} (e : Ex H H') (h : SqL K H a xs) : SqL K H' a xs := by
  rcases h with h | h
  · exact Or.inl (ex_rd e h)
  · exact Or.inr h
mutual
theorem DV.mono {K : PySem.W.Frag} {H H' : Hp} (e : Ex H H') : ∀ {v : V} {d : Dt}, DV K H v d → DV K H' v d
  | _, _, .non => .non
  | _, _, .bl b => .bl b
  | _, _, .int b => .int b
  | _, _, .str b => .str b
  | _, _, .lst h t => .lst (e _ _ h) (DVs.mono e t)
  | _, _, .tup h t => .tup (h.mono e) (DVs.mono e t)
  | _, _, .par h t => .par (e _ _ h) (DVs.mono e t)
  | _, _, .dct h t => .dct (e _ _ h) (DVk.mono e t)
  | _, _, .dcu h t => .dcu (e _ _ h) (DVu.mono e t)
  | _, _, .fzl h t => .fzl (ex_l e h) (DVs.mono e t)
  | _, _, .exc h t => .exc (e _ _ h) (DVx.mono e t)
  | _, _, .obj h => .obj (e _ _ h)
  | _, _, .lck h t => .lck (e _ _ h) (DVk.mono e t)
  | _, _, .lcu h t => .lcu (e _ _ h) (DVu.mono e t)
  | _, _, .raw v => .raw v
theorem DVs.mono {K : PySem.W.Frag} {H H' : Hp} (e : Ex H H') : ∀ {v : List V} {d : List Dt}, DVs K H v d → DVs K H' v d
  | _, _, .nil => .nil
  | _, _, .cons h t => .cons (DV.mono e h) (DVs.mono e t)
theorem DVk.mono {K : PySem.W.Frag} {H H' : Hp} (e : Ex H H') : ∀ {v : List (Key × V)} {d : List (Key × Dt)}, DVk K H v d → DVk K H' v d
  | _, _, .nil => .nil
  | _, _, .cons h t => .cons (DV.mono e h) (DVk.mono e t)
theorem DVu.mono {K : PySem.W.Frag} {H H' : Hp} (e : Ex H H') : ∀ {v : List (List Key × V)} {d : List (List Key × Dt)}, DVu K H v d → DVu K H' v d
  | _, _, .nil => .nil
  | _, _, .cons h t => .cons (DV.mono e h) (DVu.mono e t)
theorem DVx.mono {K : PySem.W.Frag} {H H' : Hp} (e : Ex H H') : ∀ {v : List (Str × V)} {d : List (Str × Dt)}, DVx K H v d → DVx K H' v d
  | _, _, .nil => .nil
  | _, _, .cons h t => .cons (DV.mono e h) (DVx.mono e t)
end
theorem DVx.get {K : PySem.W.Frag} {H : Hp} {x : Str} {d : Dt} : ∀ {v : List (Str × V)} {l : List (Str × Dt)}, DVx K H v l → l.lookup x = some d → ∃ u, v.lookup x = some u ∧ DV K H u d
  | _, _, .nil, h => by cases h
  | _, _, .cons (k := k) h t, e => by
    rw [List.lookup_cons] at e ⊢
    cases q : x == k with
    | true => rw [q] at e; cases e; exact ⟨_, rfl, h⟩
    | false => rw [q] at e; exact DVx.get t e
theorem DVs.length {K : PySem.W.Frag} {H : Hp} : ∀ {v : List V} {d : List Dt}, DVs K H v d → v.length = d.length
  | _, _, .nil => rfl
  | _, _, .cons _ t => congrArg (· + 1) (DVs.length t)
theorem DVs.append {K : PySem.W.Frag} {H : Hp} : ∀ {v w : List V} {d f : List Dt}, DVs K H v d → DVs K H w f → DVs K H (v ++ w) (d ++ f)
  | _, _, _, _, .nil, t => t
  | _, _, _, _, .cons h t, u => .cons h (DVs.append t u)
theorem DVs.get {K : PySem.W.Frag} {H : Hp} : ∀ {v : List V} {d : List Dt} {i : Nat} {x : Dt}, DVs K H v d → d[i]? = some x → ∃ u, v[i]? = some u ∧ DV K H u x
  | _, _, _, _, .nil, e => by simp at e
  | _, _, 0, _, .cons h t, e => by simp at e; subst e; exact ⟨_, rfl, h⟩
  | _, _, i + 1, x, .cons h t, e => by
    obtain ⟨u, h1, h2⟩ := DVs.get (i := i) (x := x) t (by simpa using e)
    exact ⟨u, by simpa using h1, h2⟩
theorem DVs.getV {K : PySem.W.Frag} {H : Hp} : ∀ {v : List V} {d : List Dt} {i : Nat} {u : V}, DVs K H v d → v[i]? = some u → ∃ x, d[i]? = some x ∧ DV K H u x
  | _, _, _, _, .nil, e => by simp at e
  | _, _, 0, _, .cons h t, e => by simp at e; subst e; exact ⟨_, rfl, h⟩
  | _, _, i + 1, x, .cons h t, e => by
    obtain ⟨u, h1, h2⟩ := DVs.getV (i := i) (u := x) t (by simpa using e)
    exact ⟨u, by simpa using h1, h2⟩
theorem DVs.take {K : PySem.W.Frag} {H : Hp} : ∀ {v : List V} {d : List Dt} (n : Nat), DVs K H v d → DVs K H (v.take n) (d.take n)
  | _, _, 0, _ => .nil
  | _, _, _ + 1, .nil => .nil
  | _, _, n + 1, .cons h t => .cons h (DVs.take n t)
theorem DVs.drop {K : PySem.W.Frag} {H : Hp} : ∀ {v : List V} {d : List Dt} (n : Nat), DVs K H v d → DVs K H (v.drop n) (d.drop n)
  | _, _, 0, h => h
  | _, _, _ + 1, .nil => .nil
  | _, _, n + 1, .cons h t => DVs.drop n t
theorem DVs.set {K : PySem.W.Frag} {H : Hp} {u : V} {x : Dt} (hx : DV K H u x) : ∀ {v : List V} {d : List Dt} (n : Nat), DVs K H v d → DVs K H (v.set n u) (d.set n x)
  | _, _, _, .nil => .nil
  | _, _, 0, .cons h t => .cons hx t
  | _, _, n + 1, .cons h t => .cons h (DVs.set hx n t)
theorem DVs.eraseIdx {K : PySem.W.Frag} {H : Hp} : ∀ {v : List V} {d : List Dt} (n : Nat), DVs K H v d → DVs K H (v.eraseIdx n) (d.eraseIdx n)
  | _, _, _, .nil => .nil
  | _, _, 0, .cons h t => t
  | _, _, n + 1, .cons h t => .cons h (DVs.eraseIdx n t)
theorem DVs.strs {K : PySem.W.Frag} {H : Hp} : ∀ l : List Str, DVs K H (l.map V.str) (l.map Dt.str)
  | [] => .nil
  | s :: l => .cons (.str s) (DVs.strs l)
theorem DVs.ints {K : PySem.W.Frag} {H : Hp} : ∀ l : List Int, DVs K H (l.map V.int) (l.map Dt.int)
  | [] => .nil
  | s :: l => .cons (.int s) (DVs.ints l)
theorem DVs.of_strs {K : PySem.W.Frag} {H : Hp} : ∀ {l : List Str} {xs : List V}, DVs K H xs (l.map Dt.str) → xs = l.map V.str
  | [], _, .nil => rfl
  | s :: l, _, .cons (.str _) t => by rw [DVs.of_strs t]; rfl
theorem DVs.of_bls {K : PySem.W.Frag} {H : Hp} : ∀ {l : List Bool} {xs : List V}, DVs K H xs (l.map Dt.bl) → xs = l.map V.bl
  | [], _, .nil => rfl
  | s :: l, _, .cons (.bl _) t => by rw [DVs.of_bls t]; rfl
theorem DVs.of_ints {K : PySem.W.Frag} {H : Hp} : ∀ {l : List Int} {xs : List V}, DVs K H xs (l.map Dt.int) → xs = l.map V.int
  | [], _, .nil => rfl
  | s :: l, _, .cons (.int _) t => by rw [DVs.of_ints t]; rfl
mutual
def py : Dt → PyData
  | .non => .none
  | .bl b => .bool b
  | .int i => .int i
  | .str s => .str s
  | .lst l => .list (pys l)
  | .tup l => .tuple (pys l)
  | .par _ => .none
  | .dct _ => .none
  | .dcu _ => .none
  | .fzl _ => .none
  | .exc _ _ _ => .none
  | .obj _ => .none
  | .lck _ _ => .none
  | .lcu _ _ => .none
  | .raw _ => .none
def pys : List Dt → List PyData
  | [] => []
  | d :: l => py d :: pys l
end
mutual
def plain : Dt → Bool
  | .lst l => plains l
  | .tup l => plains l
  | .par _ => false
  | .dct _ => false
  | .dcu _ => false
  | .fzl _ => false
  | .exc _ _ _ => false
  | .obj _ => false
  | .lck _ _ => false
  | .lcu _ _ => false
  | .raw _ => false
  | _ => true
def plains : List Dt → Bool
  | [] => true
  | d :: l => plain d && plains l
end
mutual
theorem DV.dp {K : PySem.W.Frag} {H : Hp} : ∀ {v : V} {d : Dt}, DV K H v d → plain d = true → Dp K H v (py d)
  | _, _, .non, _ => .non
  | _, _, .bl b, _ => .bl b
  | _, _, .int b, _ => .int b
  | _, _, .str b, _ => .str b
  | _, _, .lst h t, p => .lst (.inl (.inl h)) (DVs.dp t p)
  | _, _, .tup h t, p => .tup h.t (DVs.dp t p)
  | _, _, .par h t, p => by cases p
  | _, _, .dct h t, p => by cases p
  | _, _, .dcu h t, p => by cases p
  | _, _, .fzl h t, p => by cases p
  | _, _, .exc h t, p => by cases p
  | _, _, .obj h, p => by cases p
  | _, _, .lck h t, p => by cases p
  | _, _, .lcu h t, p => by cases p
  | _, _, .raw v, p => by cases p
theorem DVs.dp {K : PySem.W.Frag} {H : Hp} : ∀ {v : List V} {d : List Dt}, DVs K H v d → plains d = true → DpAll K H v (pys d)
  | _, _, .nil, _ => .nil
  | _, _, .cons h t, p => by
    have p' := Bool.and_eq_true_iff.mp p
    exact .cons (DV.dp h p'.1) (DVs.dp t p'.2)
end
theorem pys_map : ∀ l : List Dt, pys l = l.map py
  | [] => rfl
  | d :: l => by rw [pys, pys_map l]; rfl
inductive Sl where
  | un | dat (d : Dt)
/-- what this frame, and nobody else, holds at an address -/
inductive Cel where
  | lst (l : List Dt)
  | dk (l : List (Key × Dt))
  | dt (l : List (List Key × Dt))
  | lk (o : Obj) (l : List (Key × Dt))
  | lt (o : Obj) (l : List (List Key × Dt))
  | ins (cls dx : Addr) (fs : List (Str × Dt))
  | bag (n : Nat)
  | grp (as : List Addr) (φ : Hp → Hp → Prop)
abbrev Cells := List (Addr × Cel)
def Cel.fp : Cel → List Addr
  | .grp as _ => as
  | _ => []
def addrs : Cells → List Addr
  | [] => []
  | p :: l => (p.1 :: p.2.fp) ++ addrs l
structure Fm where
  H0 : Hp
  M : List Addr
  W : List Addr
def hid (F : Fm) (C : Cells) : List Addr := addrs C ++ F.M
def BagAt (H : Hp) (b : Addr) (c : Nat) : Prop := ∃ d s k : Int, H b = some (.lst [.int d, .int s, .int k]) ∧ 0 ≤ d ∧ 0 ≤ s ∧ s < 2147483647 ∧ 0 ≤ k ∧ k ≤ (c : Int)
theorem BagAt.mono {H : Hp} {b : Addr} {c c' : Nat} (h : BagAt H b c) (l : c ≤ c') : BagAt H b c' := by
  obtain ⟨d, s, k, h1, h2, h3, h4, h5, h6⟩ := h
  exact ⟨d, s, k, h1, h2, h3, h4, h5, by omega⟩
/-- what is hidden stands, and is no tuple -/
def Lv (H : Hp) (a : Addr) : Prop := ∃ o, H a = some o ∧ ∀ xs, o ≠ .tup xs
theorem Lv.ex {H : Hp} {a : Addr} (h : Lv H a) : ∃ o, H a = some o := let ⟨o, e, _⟩ := h; ⟨o, e⟩
theorem Lv.of_eq {H H' : Hp} {a : Addr} (h : Lv H a) (e : H' a = H a) : Lv H' a := by obtain ⟨o, q, n⟩ := h; exact ⟨o, by rw [e]; exact q, n⟩
theorem Lv.mono {H H' : Hp} {a : Addr} (h : Lv H a) (e : ∀ o, H a = some o → H' a = some o) : Lv H' a := by obtain ⟨o, q, n⟩ := h; exact ⟨o, e o q, n⟩
theorem Lv.ne {H : Hp} {a : Addr} {xs : List V} (h : Lv H a) : H a ≠ some (.tup xs) := fun z => by obtain ⟨o, q, n⟩ := h; rw [z] at q; cases q; exact n _ rfl
def CelAt (K : PySem.W.Frag) (V H : Hp) (a : Addr) : Cel → Prop
  | .lst l => ∃ xs, H a = some (.lst xs) ∧ DVs K V xs l
  | .dk l => ∃ xs, H a = some (.dK xs) ∧ DVk K V xs l
  | .dt l => ∃ xs, H a = some (.dT xs) ∧ DVu K V xs l
  | .lk o l => ∃ xs, H a = some (.frz o (.dK xs)) ∧ DVk K V xs l
  | .lt o l => ∃ xs, H a = some (.frz o (.dT xs)) ∧ DVu K V xs l
  | .ins cls dx fs => ∃ xs, H a = some (.ins cls dx xs) ∧ DVx K V xs fs
  | .bag n => BagAt H a n
  | .grp as φ => (∀ x ∈ a :: as, Lv H x) ∧ ∀ V' H', Ex V V' → (∀ x ∈ a :: as, H' x = H x) → φ V' H'
theorem CelAt.live {K : PySem.W.Frag} {V H : Hp} {a : Addr} {q : Cel} (h : CelAt K V H a q) : ∀ x ∈ a :: q.fp, Lv H x := fun x hx => by
  cases q with
  | lst l => obtain ⟨xs, e, _⟩ := h; cases List.mem_singleton.mp hx; exact ⟨_, e, fun _ z => nomatch z⟩
  | dk l => obtain ⟨xs, e, _⟩ := h; cases List.mem_singleton.mp hx; exact ⟨_, e, fun _ z => nomatch z⟩
  | dt l => obtain ⟨xs, e, _⟩ := h; cases List.mem_singleton.mp hx; exact ⟨_, e, fun _ z => nomatch z⟩
  | lk o l => obtain ⟨xs, e, _⟩ := h; cases List.mem_singleton.mp hx; exact ⟨_, e, fun _ z => nomatch z⟩
  | lt o l => obtain ⟨xs, e, _⟩ := h; cases List.mem_singleton.mp hx; exact ⟨_, e, fun _ z => nomatch z⟩
  | ins c dx l => obtain ⟨xs, e, _⟩ := h; cases List.mem_singleton.mp hx; exact ⟨_, e, fun _ z => nomatch z⟩
  | bag n => obtain ⟨_, _, _, e, _⟩ := h; cases List.mem_singleton.mp hx; exact ⟨_, e, fun _ z => nomatch z⟩
  | grp as φ => exact h.1 x hx
theorem CelAt.mono {K : PySem.W.Frag} {V V' H H' : Hp} {a : Addr} {q : Cel} (h : CelAt K V H a q) (e : Ex V V') (k : ∀ x ∈ a :: q.fp, H' x = H x) : CelAt K V' H' a q := by
  have ka := k a (List.mem_cons_self ..)
  cases q with
  | lst l => obtain ⟨xs, h1, h2⟩ := h; exact ⟨xs, ka.trans h1, h2.mono e⟩
  | dk l => obtain ⟨xs, h1, h2⟩ := h; exact ⟨xs, ka.trans h1, h2.mono e⟩
  | dt l => obtain ⟨xs, h1, h2⟩ := h; exact ⟨xs, ka.trans h1, h2.mono e⟩
  | lk o l => obtain ⟨xs, h1, h2⟩ := h; exact ⟨xs, ka.trans h1, h2.mono e⟩
  | lt o l => obtain ⟨xs, h1, h2⟩ := h; exact ⟨xs, ka.trans h1, h2.mono e⟩
  | ins c dx l => obtain ⟨xs, h1, h2⟩ := h; exact ⟨xs, ka.trans h1, h2.mono e⟩
  | bag n => obtain ⟨d, s, m, h1, r⟩ := h; exact ⟨d, s, m, ka.trans h1, r⟩
  | grp as φ => exact ⟨fun x hx => (h.1 x hx).of_eq (k x hx), fun V2 H2 e2 k2 => h.2 V2 H2 (e.trans e2) fun x hx => (k2 x hx).trans (k x hx)⟩
theorem addrs_app : ∀ (C C' : Cells), addrs (C ++ C') = addrs C ++ addrs C'
  | [], _ => rfl
  | p :: C, C' => by
    show (p.1 :: p.2.fp) ++ addrs (C ++ C') = ((p.1 :: p.2.fp) ++ addrs C) ++ addrs C'
    rw [addrs_app C C', List.append_assoc]
theorem mem_addrs {p : Addr × Cel} {x : Addr} : ∀ {C : Cells}, p ∈ C → x ∈ p.1 :: p.2.fp → x ∈ addrs C
  | [], h, _ => nomatch h
  | q :: C, h, hx => by
    rcases List.mem_cons.mp h with h | h
    · subst h; exact List.mem_append_left _ hx
    · exact List.mem_append_right _ (mem_addrs h hx)
theorem of_addrs {x : Addr} : ∀ {C : Cells}, x ∈ addrs C → ∃ p ∈ C, x ∈ p.1 :: p.2.fp
  | [], h => nomatch h
  | q :: C, h => by
    rcases List.mem_append.mp h with h | h
    · exact ⟨q, List.mem_cons_self .., h⟩
    · obtain ⟨p, h1, h2⟩ := of_addrs h
      exact ⟨p, List.mem_cons_of_mem _ h1, h2⟩
structure SI (K : PySem.W.Frag) (F : Fm) (Γ : List Sl) (C : Cells) (σ : L2.St) (H : Hp) : Prop where
  len : σ.length = Γ.length
  nd : (addrs C).Nodup
  sl : ∀ (i : Nat) (d : Dt), Γ[i]? = some (.dat d) → ∃ v, σ[i]? = some (some v) ∧ DV K (mask (hid F C) H) v d
  ce : ∀ p ∈ C, CelAt K (mask (hid F C) H) H p.1 p.2
  keep : Ex (mask F.W F.H0) (mask F.W H)
  fr : ∀ a ∈ addrs C, (a ∈ F.W ∨ F.H0 a = none) ∧ a ∉ F.M
  live : ∀ a ∈ F.M, Lv H a
  wl : ∀ a ∈ F.W, ∃ o, H a = some o
abbrev Vw (F : Fm) (C : Cells) (H : Hp) : Hp := mask (hid F C) H
def Kp (F : Fm) (H H' : Hp) : Prop := Ex H H'
section
variable {K : PySem.W.Frag} {F : Fm} {Γ : List Sl} {C C' : Cells} {σ : L2.St} {H H' : Hp}
theorem Kp.hid (e : Kp F H H') : Ex (Vw F C H) (Vw F C H') := fun a o q => by
  obtain ⟨n, q⟩ := of_mask q
  show mask _ _ _ = _
  rw [mask_out n]
  exact e a o q
theorem SI.cat (S : SI K F Γ C σ H) {j : Nat} {a : Addr} {q : Cel} (hj : C[j]? = some (a, q)) : CelAt K (Vw F C H) H a q := S.ce _ (List.mem_of_getElem? hj)
theorem SI.hlive (S : SI K F Γ C σ H) : ∀ x ∈ hid F C, Lv H x := fun x hx => by
  rcases List.mem_append.mp hx with z | z
  · obtain ⟨p, h1, h2⟩ := of_addrs z
    exact (S.ce p h1).live x h2
  · exact S.live x z
theorem SI.fresh (S : SI K F Γ C σ H) {p : Addr} (h : H p = none) : p ∉ hid F C := fun z => by
  obtain ⟨o, e, _⟩ := S.hlive p z
  rw [h] at e; cases e
theorem SI.h0 (S : SI K F Γ C σ H) {p : Addr} (h : H p = none) : F.H0 p = none := by
  cases e : F.H0 p with
  | none => rfl
  | some o =>
    have nw : p ∉ F.W := fun z => by
      obtain ⟨o, e⟩ := S.wl p z
      rw [h] at e; cases e
    have q := (of_mask (S.keep p o (by rw [mask_out nw]; exact e))).2
    rw [h] at q; cases q
/-- THE STEP: nothing is lost -/
theorem SI.step (S : SI K F Γ C σ H) (e : Ex H H') : SI K F Γ C σ H' := by
  have ev : Ex (Vw F C H) (Vw F C H') := Kp.hid (F := F) e
  refine ⟨S.len, S.nd, fun i d hi => ?_, fun p hp => ?_, fun a o q => ?_, S.fr, fun a ha => ?_, fun a ha => ?_⟩
  · obtain ⟨v, h1, h2⟩ := S.sl i d hi
    exact ⟨v, h1, h2.mono ev⟩
  · refine (S.ce p hp).mono ev fun x hx => ?_
    obtain ⟨o, h, _⟩ := (S.ce p hp).live x hx
    rw [h, e x o h]
  · have h1 := S.keep a o q
    obtain ⟨n, h1⟩ := of_mask h1
    rw [mask_out n]
    exact e a o h1
  · exact (S.live a ha).mono (e a)
  · obtain ⟨o, q⟩ := S.wl a ha; exact ⟨o, e a o q⟩
theorem Kp.new {p : Addr} {o : HO} (h : H p = none) : Kp F H (upd H p o) := fun a u q => by
  rw [upd_ne (ne_of_none q h)]
  exact q
theorem SI.new (S : SI K F Γ C σ H) {p : Addr} {o : HO} (h : H p = none) : SI K F Γ C σ (upd H p o) := S.step (Kp.new (F := F) h)
theorem SI.newL (S : SI K F Γ C σ H) {p : Addr} {xs : List V} {l : List Dt} (h : H p = none) (d : DVs K (mask (hid F C) H) xs l) : DV K (mask (hid F C) (upd H p (.lst xs))) (.ref p) (.lst l) :=
  .lst (by rw [mask_out (S.fresh h)]; exact upd_same) (d.mono (Kp.new (F := F) h).hid)
theorem SI.newT (S : SI K F Γ C σ H) {p : Addr} {xs : List V} {l : List Dt} {o : Obj} (h : H p = none) (ho : o.dict = none) (d : DVs K (mask (hid F C) H) xs l) : DV K (mask (hid F C) (upd H p (.frz o (.tup xs)))) (.ref p) (.tup l) :=
  .tup (.inl ⟨o, by rw [mask_out (S.fresh h)]; exact upd_same, ho⟩) (d.mono (Kp.new (F := F) h).hid)
theorem SI.newP (S : SI K F Γ C σ H) {p : Addr} {xs : List V} {l : List Dt} (h : H p = none) (d : DVs K (mask (hid F C) H) xs l) : DV K (mask (hid F C) (upd H p (.tup xs))) (.ref p) (.par l) :=
  .par (by rw [mask_out (S.fresh h)]; exact upd_same) (d.mono (Kp.new (F := F) h).hid)
theorem SI.setS (S : SI K F Γ C σ H) {i : Nat} {s : Sl} {o : Option V} (hok : ∀ d, s = .dat d → ∃ v, o = some v ∧ DV K (Vw F C H) v d) : SI K F (Γ.set i s) C (σ.set i o) H := by
  refine ⟨by rw [List.length_set, List.length_set]; exact S.len, S.nd, fun j d hj => ?_, S.ce, S.keep, S.fr, S.live, S.wl⟩
  by_cases hij : i = j
  · subst hij
    have hl : i < Γ.length := by
      have := (List.getElem?_eq_some_iff.mp hj).1
      rwa [List.length_set] at this
    rw [List.getElem?_set_self hl] at hj
    rw [List.getElem?_set_self (by rw [S.len]; exact hl)]
    obtain ⟨v, h1, h2⟩ := hok d (Option.some.inj hj)
    exact ⟨v, by rw [h1], h2⟩
  · rw [List.getElem?_set_ne hij] at hj
    rw [List.getElem?_set_ne hij]
    exact S.sl j d hj
theorem SI.setD (S : SI K F Γ C σ H) {i : Nat} {v : V} {d : Dt} (dv : DV K (Vw F C H) v d) : SI K F (Γ.set i (.dat d)) C (σ.set i (some v)) H :=
  S.setS fun d' e => by cases e; exact ⟨v, rfl, dv⟩
theorem addrs_set {a : Addr} {q q' : Cel} (hf : q'.fp = q.fp) : ∀ {C : Cells} {j : Nat}, C[j]? = some (a, q) → addrs (C.set j (a, q')) = addrs C
  | [], j, h => by simp at h
  | p :: C, 0, h => by
    simp at h
    subst h
    show (a :: q'.fp) ++ addrs C = (a :: q.fp) ++ addrs C
    rw [hf]
  | p :: C, j + 1, h => by
    show (p.1 :: p.2.fp) ++ addrs (C.set j (a, q')) = (p.1 :: p.2.fp) ++ addrs C
    rw [addrs_set hf (j := j) (by simpa using h)]
theorem addrs_apart {p : Addr × Cel} {a : Addr} {q : Cel} {x : Addr} : ∀ {C : Cells} {i j : Nat}, (addrs C).Nodup → C[j]? = some (a, q) → C[i]? = some p → i ≠ j → x ∈ a :: q.fp → x ∉ p.1 :: p.2.fp
  | [], i, j, _, h, _, _, _ => by simp at h
  | u :: C, 0, 0, _, _, _, n, _ => absurd rfl n
  | u :: C, 0, j + 1, nd, h1, h2, _, hx => by
    simp at h2; subst h2
    intro z
    exact (List.nodup_append.mp nd).2.2 x z x (mem_addrs (List.mem_of_getElem? (show C[j]? = some (a, q) by simpa using h1)) hx) rfl
  | u :: C, i + 1, 0, nd, h1, h2, _, hx => by
    simp at h1; subst h1
    intro z
    exact (List.nodup_append.mp nd).2.2 x hx x (mem_addrs (List.mem_of_getElem? (show C[i]? = some p by simpa using h2)) z) rfl
  | u :: C, i + 1, j + 1, nd, h1, h2, n, hx => addrs_apart (C := C) (i := i) (j := j) (List.nodup_append.mp nd).2.1 (by simpa using h1) (by simpa using h2) (by omega) hx
/-- the cell j changed, its addresses kept; only they change -/
theorem SI.chg (S : SI K F Γ C σ H) {j : Nat} {a : Addr} {q q' : Cel} (hj : C[j]? = some (a, q)) (hf : q'.fp = q.fp) (hk : ∀ x, x ∉ a :: q.fp → H' x = H x) (hq : CelAt K (Vw F C H) H' a q') :
    SI K F Γ (C.set j (a, q')) σ H' ∧ Ex (Vw F C H) (Vw F (C.set j (a, q')) H') := by
  have ha : ∀ x ∈ a :: q.fp, x ∈ addrs C := fun x hx => mem_addrs (List.mem_of_getElem? hj) hx
  have he : hid F (C.set j (a, q')) = hid F C := by unfold hid; rw [addrs_set hf hj]
  have ev : Vw F (C.set j (a, q')) H' = Vw F C H := by
    funext x
    show mask _ _ _ = mask _ _ _
    rw [he]
    by_cases hx : x ∈ hid F C
    · rw [mask_in hx, mask_in hx]
    · rw [mask_out hx, mask_out hx, hk x fun z => hx (List.mem_append_left _ (ha x z))]
  refine ⟨⟨S.len, by rw [addrs_set hf hj]; exact S.nd, fun i d hi => ?_, fun p hp => ?_, fun x o z => ?_, by rw [addrs_set hf hj]; exact S.fr, fun x hx => ?_, fun x hx => ?_⟩, by rw [ev]; exact Ex.refl _⟩
  · obtain ⟨v, h1, h2⟩ := S.sl i d hi
    exact ⟨v, h1, by rw [show mask (hid F (C.set j (a, q'))) H' = Vw F C H from ev]; exact h2⟩
  · rw [show mask (hid F (C.set j (a, q'))) H' = Vw F C H from ev]
    obtain ⟨i, hi⟩ := List.getElem?_of_mem hp
    have hl : j < C.length := (List.getElem?_eq_some_iff.mp hj).1
    by_cases hij : j = i
    · subst hij
      rw [List.getElem?_set_self hl] at hi
      cases hi
      exact hq
    · rw [List.getElem?_set_ne hij] at hi
      exact (S.ce p (List.mem_of_getElem? hi)).mono (Ex.refl _) fun x hx => hk x fun z => addrs_apart S.nd hj hi (fun e => hij e.symm) z hx
  · obtain ⟨n, h0⟩ := of_mask z
    have h1 := (of_mask (S.keep x o z)).2
    rw [mask_out n, hk x fun w => ?_]
    · exact h1
    · rcases (S.fr x (ha x w)).1 with f | f
      · exact n f
      · rw [h0] at f; cases f
  · exact (S.live x hx).of_eq (hk x fun w => (S.fr x (ha x w)).2 hx)
  · by_cases w : x ∈ a :: q.fp
    · exact (hq.live x (by rw [hf]; exact w)).ex
    · rw [hk x w]
      exact S.wl x hx
theorem SI.updC (S : SI K F Γ C σ H) {j : Nat} {a : Addr} {q q' : Cel} {o : HO} (hj : C[j]? = some (a, q)) (h0 : q.fp = []) (hf : q'.fp = []) (hq : CelAt K (Vw F C H) (upd H a o) a q') :
    SI K F Γ (C.set j (a, q')) σ (upd H a o) ∧ Ex (Vw F C H) (Vw F (C.set j (a, q')) (upd H a o)) :=
  S.chg hj (by rw [h0, hf]) (fun x hx => upd_ne fun z => hx (by rw [z]; exact List.mem_cons_self ..)) hq
/-- a new cell -/
theorem SI.addC (S : SI K F Γ C σ H) {p : Addr} {q : Cel} {o : HO} (h : H p = none) (hf : q.fp = []) (hq : CelAt K (Vw F C H) (upd H p o) p q) : SI K F Γ (C ++ [(p, q)]) σ (upd H p o) ∧ Ex (Vw F C H) (Vw F (C ++ [(p, q)]) (upd H p o)) := by
  have nh : p ∉ hid F C := S.fresh h
  have ea : addrs (C ++ [(p, q)]) = addrs C ++ [p] := by
    rw [addrs_app]
    show addrs C ++ ((p :: q.fp) ++ []) = _
    rw [hf]; rfl
  have ev : Ex (Vw F C H) (Vw F (C ++ [(p, q)]) (upd H p o)) := fun x u z => by
    obtain ⟨n, e⟩ := of_mask z
    have hx : x ≠ p := ne_of_none e h
    show mask _ _ _ = _
    rw [mask_out, upd_ne hx]
    · exact e
    · intro w
      unfold hid at w
      rw [ea] at w
      rcases List.mem_append.mp w with w | w
      · rcases List.mem_append.mp w with w | w
        · exact n (List.mem_append_left _ w)
        · exact hx (List.mem_singleton.mp w)
      · exact n (List.mem_append_right _ w)
  have np : p ∉ addrs C := fun z => nh (List.mem_append_left _ z)
  refine ⟨⟨S.len, ?_, fun i d hi => ?_, fun u hu => ?_, fun x u z => ?_, fun x hx => ?_, fun x hx => ?_, fun x hx => ?_⟩, ev⟩
  · rw [ea]
    exact List.nodup_append.mpr ⟨S.nd, by simp, fun x hx y hy e => np (by rw [List.mem_singleton.mp hy] at e; rw [← e]; exact hx)⟩
  · obtain ⟨v, h1, h2⟩ := S.sl i d hi
    exact ⟨v, h1, h2.mono ev⟩
  · rcases List.mem_append.mp hu with hu | hu
    · refine (S.ce u hu).mono ev fun x hx => upd_ne fun z => np (by rw [← z]; exact mem_addrs hu hx)
    · cases List.mem_singleton.mp hu
      exact hq.mono ev fun x hx => rfl
  · obtain ⟨n, h0⟩ := of_mask z
    have h1 := (of_mask (S.keep x u z)).2
    rw [mask_out n, upd_ne (ne_of_none h1 h)]
    exact h1
  · rw [ea] at hx
    rcases List.mem_append.mp hx with hx | hx
    · exact S.fr x hx
    · cases List.mem_singleton.mp hx
      exact ⟨.inr (S.h0 h), fun z => nh (List.mem_append_right _ z)⟩
  · exact (S.live x hx).mono fun u z => by rw [upd_ne (ne_of_none z h)]; exact z
  · obtain ⟨u, z⟩ := S.wl x hx
    exact ⟨u, by rw [upd_ne (ne_of_none z h)]; exact z⟩
theorem addrs_erase {p : Addr × Cel} : ∀ {C : Cells} {j : Nat}, C[j]? = some p → ∀ x, x ∈ addrs C ↔ x ∈ p.1 :: p.2.fp ∨ x ∈ addrs (C.eraseIdx j)
  | [], j, h, x => by simp at h
  | u :: C, 0, h, x => by
    simp at h
    subst h
    exact List.mem_append
  | u :: C, j + 1, h, x => by
    have q := addrs_erase (C := C) (j := j) (by simpa using h) x
    show x ∈ (u.1 :: u.2.fp) ++ addrs C ↔ _ ∨ x ∈ (u.1 :: u.2.fp) ++ addrs (C.eraseIdx j)
    rw [List.mem_append, List.mem_append, q]
    constructor
    · rintro (h | h | h)
      · exact .inr (.inl h)
      · exact .inl h
      · exact .inr (.inr h)
    · rintro (h | h | h)
      · exact .inr (.inl h)
      · exact .inl h
      · exact .inr (.inr h)
theorem nodup_erase {p : Addr × Cel} : ∀ {C : Cells} {j : Nat}, C[j]? = some p → (addrs C).Nodup → (addrs (C.eraseIdx j)).Nodup ∧ ∀ x ∈ p.1 :: p.2.fp, x ∉ addrs (C.eraseIdx j)
  | [], j, h, _ => by simp at h
  | u :: C, 0, h, nd => by
    simp at h
    subst h
    have q := List.nodup_append.mp nd
    exact ⟨q.2.1, fun x hx z => q.2.2 x hx x z rfl⟩
  | u :: C, j + 1, h, nd => by
    have h' : C[j]? = some p := by simpa using h
    have q := List.nodup_append.mp (show ((u.1 :: u.2.fp) ++ addrs C).Nodup from nd)
    obtain ⟨i1, i2⟩ := nodup_erase (C := C) (j := j) h' q.2.1
    refine ⟨List.nodup_append.mpr ⟨q.1, i1, fun x hx y hy e => q.2.2 x hx y ((addrs_erase h' y).mpr (.inr hy)) e⟩, fun x hx z => ?_⟩
    rcases List.mem_append.mp (show x ∈ (u.1 :: u.2.fp) ++ addrs (C.eraseIdx j) from z) with z | z
    · exact q.2.2 x z x ((addrs_erase h' x).mpr (.inl hx)) rfl
    · exact i2 x hx z
/-- the cell j is let go: what it holds may be seen from now on; a dict is frozen (H') -/
theorem SI.letGo (S : SI K F Γ C σ H) {j : Nat} {p : Addr × Cel} (hj : C[j]? = some p) (hk : ∀ x, x ∉ p.1 :: p.2.fp → H' x = H x) (hl : ∀ x ∈ p.1 :: p.2.fp, Lv H' x) :
    SI K F Γ (C.eraseIdx j) σ H' ∧ Ex (Vw F C H) (Vw F (C.eraseIdx j) H') ∧ ∀ x ∈ p.1 :: p.2.fp, Vw F (C.eraseIdx j) H' x = H' x := by
  obtain ⟨nd, np⟩ := nodup_erase hj S.nd
  have ha := addrs_erase hj
  have hp : ∀ x ∈ p.1 :: p.2.fp, x ∈ addrs C := fun x hx => (ha x).mpr (.inl hx)
  have ev : Ex (Vw F C H) (Vw F (C.eraseIdx j) H') := fun x u z => by
    obtain ⟨n, e⟩ := of_mask z
    show mask _ _ _ = _
    rw [mask_out, hk x fun w => n (List.mem_append_left _ (hp x w))]
    · exact e
    · intro w
      rcases List.mem_append.mp w with w | w
      · exact n (List.mem_append_left _ ((ha x).mpr (.inr w)))
      · exact n (List.mem_append_right _ w)
  refine ⟨⟨S.len, nd, fun i d hi => ?_, fun u hu => ?_, fun x u z => ?_, fun x hx => S.fr x ((ha x).mpr (.inr hx)), fun x hx => ?_, fun x hx => ?_⟩, ev, fun x hx => ?_⟩
  · obtain ⟨v, h1, h2⟩ := S.sl i d hi
    exact ⟨v, h1, h2.mono ev⟩
  · exact (S.ce u (List.mem_of_mem_eraseIdx hu)).mono ev fun x hx => hk x fun z => np x z (mem_addrs hu hx)
  · obtain ⟨n, h0⟩ := of_mask z
    have h1 := (of_mask (S.keep x u z)).2
    rw [mask_out n, hk x fun w => ?_]
    · exact h1
    · rcases (S.fr x (hp x w)).1 with f | f
      · exact n f
      · rw [h0] at f; cases f
  · exact (S.live x hx).of_eq (hk x fun w => (S.fr x (hp x w)).2 hx)
  · by_cases w : x ∈ p.1 :: p.2.fp
    · exact (hl x w).ex
    · rw [hk x w]; exact S.wl x hx
  · refine mask_out fun w => ?_
    rcases List.mem_append.mp w with w | w
    · exact np x hx w
    · exact (S.fr x (hp x hx)).2 w
/-- the same cells in another order -/
theorem addrs_perm {C C' : Cells} (h : C.Perm C') : (addrs C).Perm (addrs C') := by
  induction h with
  | nil => exact .nil
  | cons x _ ih => exact List.Perm.append_left _ ih
  | swap x y l =>
    show ((y.1 :: y.2.fp) ++ ((x.1 :: x.2.fp) ++ addrs l)).Perm ((x.1 :: x.2.fp) ++ ((y.1 :: y.2.fp) ++ addrs l))
    rw [← List.append_assoc, ← List.append_assoc]
    exact List.Perm.append_right _ List.perm_append_comm
  | trans _ _ h1 h2 => exact h1.trans h2
theorem vw_perm {C C' : Cells} (h : C.Perm C') : Vw F C' H = Vw F C H := by
  have ha := addrs_perm h
  funext x
  show mask _ _ _ = mask _ _ _
  have hx : x ∈ hid F C ↔ x ∈ hid F C' := by
    unfold hid
    rw [List.mem_append, List.mem_append, ha.mem_iff]
  by_cases z : x ∈ hid F C
  · rw [mask_in z, mask_in (hx.mp z)]
  · rw [mask_out z, mask_out fun w => z (hx.mpr w)]
theorem SI.perm (S : SI K F Γ C σ H) (h : C.Perm C') : SI K F Γ C' σ H := by
  have ha := addrs_perm h
  have ev : mask (hid F C') H = mask (hid F C) H := vw_perm h
  exact ⟨S.len, ha.nodup_iff.mp S.nd, fun i d hi => by rw [ev]; exact S.sl i d hi, fun p hp => by rw [ev]; exact S.ce p (h.mem_iff.mpr hp), S.keep, fun a h' => S.fr a (ha.mem_iff.mpr h'), S.live, S.wl⟩
end
end D
end
section
set_option Elab.async false
set_option linter.all false
set_option maxRecDepth 100000
namespace D
open PySem L2 PyProof.Rows
section
variable {X : Cx} {pins : List (Addr × Obj)} {σ : L2.St} {H : Hp} {s : Shared}
theorem laidF {h' : Heap} {t' : Nat} {xs : List V} {us : List Value} (I : Inv X pins σ H s) (k : ∀ b u, s.heap.get? b = some u → (h'.push { cls := .type "tuple", data := .seq us.toArray }).get? b = some u) (hp : s.heap.objs.size ≤ h'.objs.size) (z : xs.length ≤ sizeLine) (r : Vals xs us) :
    ∃ o : Obj, o.dict = none ∧ Inv X pins σ (upd H h'.objs.size (.frz o (.tup xs))) { s with heap := h'.push { cls := .type "tuple", data := .seq us.toArray }, toks := t' } :=
  ⟨{ cls := .type "tuple", data := .seq us.toArray }, rfl, I.laid (t' := t') k hp ⟨Heap.get?_push_size _ rfl, z, us, r, ⟨_, Heap.get?_push_size _ rfl, rfl, _, rfl⟩⟩⟩
end
section
variable {X : Cx} {pos : Pos}
def tTupF (t : TA) : TE := fun σ H Q => t σ H fun vs H1 => vs.length ≤ sizeLine ∧ ∀ p (o : Obj), H1 p = none → o.dict = none → Q (.ref p) (upd H1 p (.frz o (.tup vs)))
theorem pe_tupF {es : List Expr} {t : TA} {x1} (h : PA X es t) : PE X (.Tuple es x1 pos) (tTupF t) := ⟨fun pn sa sg HH QQ I hq => by
  refine wpAny_Tuple_spliced (thn (h.run pos pn sa sg HH _ I hq) fun us sb ⟨xs, Hb, Ib, r, z, q⟩ => ⟨by rw [← r.length]; exact z, ?_⟩)
  obtain ⟨o, ho, I2⟩ := laidF (t' := sb.toks) (h' := sb.heap) Ib (fun b u e => Heap.get?_push_of_some _ e) (Nat.le_refl _) z r
  exact ⟨.ref sb.heap.objs.size, _, I2, rfl, q _ o (Ib.hok.fresh (Nat.le_refl _)) ho⟩⟩
def rCatF (K : PySem.W.Frag) : R2 := fun x y H Q => ∃ a b xs ys, x = .ref a ∧ y = .ref b ∧ SqT K H a xs ∧ SqT K H b ys ∧ xs.length + ys.length ≤ sizeLine ∧
  (xs = [] → Q (.ref b) H) ∧ (xs ≠ [] → ys = [] → Q (.ref a) H) ∧ (xs ≠ [] → ys ≠ [] → ∀ p (o : Obj), H p = none → o.dict = none → Q (.ref p) (upd H p (.frz o (.tup (xs ++ ys)))))
theorem op_catF : OpR X (binaryOp .Add) (rCatF X.K) := fun pn sa sg HH x y v u QQ I rx ry ⟨a, b, xs, ys, ex, ey, ha, hb, hz, q0, q1, q2⟩ => by
  subst ex ey
  cases rx
  cases ry
  obtain ⟨its, r1, p1, _⟩ := I.tuple ha
  obtain ⟨its2, r2, p2, _⟩ := I.tuple hb
  by_cases hx : xs = []
  · subst hx
    cases r1
    exact cat_tup0 p1 p2 ⟨.ref b, HH, I, rfl, q0 rfl⟩
  · refine HT.cat_tup p1 p2 (fun z => hx (r1.nil_iff.mp z)) (fun z => ⟨.ref a, HH, I, rfl, q1 hx (r2.nil_iff.mp z)⟩) (fun z => ?_) (by rw [← r1.length, ← r2.length]; exact hz)
    obtain ⟨o, ho, I2⟩ := laidF (t' := sa.toks) (h' := sa.heap) (xs := xs ++ ys) (us := its ++ its2) I (fun b u e => Heap.get?_push_of_some _ e) (Nat.le_refl _) (by rw [List.length_append]; exact hz) (r1.append r2)
    exact ⟨.ref sa.heap.objs.size, _, I2, rfl, q2 hx (fun w => z (r2.nil_iff.mpr w)) _ o (I.hok.fresh (Nat.le_refl _)) ho⟩
def rSlF (K : PySem.W.Frag) : V → Option Int → Option Int → Hp → VK → Prop := fun x lo hi H Q => ∃ a xs, x = .ref a ∧ SqT K H a xs ∧
  (HT.sIx xs.length 0 lo = 0 ∧ HT.sIx xs.length xs.length hi = xs.length → Q (.ref a) H) ∧ (¬ (HT.sIx xs.length 0 lo = 0 ∧ HT.sIx xs.length xs.length hi = xs.length) → ∀ p (o : Obj), H p = none → o.dict = none → Q (.ref p) (upd H p (.frz o (.tup (cutV xs lo hi)))))
theorem sl_tupF : SlR X (rSlF X.K) := fun pn sa sg HH x v vl vu lo hi sl QQ I rx hs pl pu ⟨a, xs, ex, hx, q1, q2⟩ => by
  subst ex
  cases rx
  obtain ⟨its, r, ht, hz⟩ := I.tuple hx
  have hlen : its.toArray.size = xs.length := by rw [List.size_toArray]; exact r.length.symm
  refine ⟨"tuple", _, PyProof.Rows.slot_tuple_getitem.lookup, ht.typeIs, ?_⟩
  by_cases hw : HT.sIx xs.length 0 lo = 0 ∧ HT.sIx xs.length xs.length hi = xs.length
  · exact getItem_tuple_whole ht hs pl pu (by rw [hlen]; exact hw) ⟨.ref a, HH, I, rfl, q1 hw⟩
  · refine HT.getItem_tuple_cut ht hs pl pu (by rw [hlen]; exact hw) ?_ (by rw [hlen]; exact hz)
    rw [hlen]
    obtain ⟨o, ho, I2⟩ := laidF (t' := sa.toks) (h' := sa.heap) (xs := cutV xs lo hi) I (fun b u e => Heap.get?_push_of_some _ e) (Nat.le_refl _) (Nat.le_trans (cutV_length xs lo hi) hz) ((r.drop (HT.sIx xs.length 0 lo)).take (HT.sIx xs.length xs.length hi - HT.sIx xs.length 0 lo))
    exact ⟨.ref sa.heap.objs.size, _, I2, rfl, q2 hw _ o (I.hok.fresh (Nat.le_refl _)) ho⟩
def rTupF (K : PySem.W.Frag) : List V → Hp → VK → Prop := fun xs H Q => ∃ p ys, xs = [.ref p] ∧ ((SqL K H p ys ∧ ∀ l (o : Obj), H l = none → o.dict = none → Q (.ref l) (upd H l (.frz o (.tup ys)))) ∨ (SqT K H p ys ∧ Q (.ref p) H))
theorem call_tupleF : CallR X (.type "tuple") (rTupF X.K) := fun pn sa sg HH xs us QQ I r ⟨p, ys, ex, h⟩ => by
  subst ex
  obtain ⟨u, rfl, rx⟩ := vals1 r
  cases rx
  rcases h with ⟨hq, q⟩ | ⟨hq, q⟩
  · obtain ⟨its, r', pl, hz⟩ := I.list hq
    have hlen := r'.length
    refine call_tuple_list pl.isList (fun h' kp => ?_) (by simp only [List.size_toArray] <;> omega)
    have I1 : Inv X pn sg HH { sa with heap := h' } := I.kept (t' := sa.toks) kp
    obtain ⟨o, ho, I2⟩ := laidF (t' := sa.toks) (h' := h') (xs := ys) (us := its) I1 (fun b u e => Heap.get?_push_of_some _ e) (Nat.le_refl _) hz r'
    exact ⟨.ref h'.objs.size, _, I2, rfl, q _ o (I1.hok.fresh (Nat.le_refl _)) ho⟩
  · obtain ⟨its, r', pl, hz⟩ := I.tuple hq
    exact call_tuple_same pl ⟨.ref p, HH, I, rfl, q⟩
/-- a method of a tuple -/
theorem pe_tm {name : Str} {id : String} {o e : Expr} {es : List Expr} {apos cpos : Pos} {r : V → List V → Hp → VK → Prop} {to : TE} {t : TA} (slot : Slot "tuple" name id) (hty : typeOf (.builtin id) = pure (.type "method_descriptor")) (hm : MtR X id r) (ho : PE X o to) (ha : PA X (e :: es) t)
    (hbase : attributeBase o name X.env (eval o X.env) = eval o X.env := by rfl)
    (hfew : ((backTo cpos (starEach (e :: es) X.env)).all (fun x => !x.1) && (backToKw cpos (keywordEach [] X.env)).all (fun x => x.1.isSome)
      && decide ((e :: es).length + ([] : List Keyword).length + (if ([] : List Keyword).isEmpty then 0 else 1) < 30)) = true := by rfl)
    (hline : (apos.endLine == cpos.line) = true := by rfl) (hs : starEach (e :: es) X.env = (false, eval e X.env) :: starEach es X.env := by rfl) (hplain : (backTo cpos (starEach es X.env)).any (·.1) = false := by rfl) :
    PE X (.Call (.Attribute o name apos) (e :: es) [] cpos) (fun σ H Q => to σ H fun x H1 => ∃ a xs, x = .ref a ∧ SqF X.K H1 a xs ∧ t σ H1 fun vs H2 => r x vs H2 Q) := ⟨fun pn sa sg HH QQ I h => by
  refine wpAny_Call_method_late hbase hfew hline rfl (thn (ho.run pn sa sg HH _ I h) fun v sb ⟨x, Hb, Ib, rb, a, xs, ex, ty, qb⟩ => ?_)
  subst ex
  obtain rfl : v = Value.ref a := rb
  obtain ⟨its, _, ht, _⟩ := Ib.tuple ty.t
  have h2 : ∀ b, Value.ref a = .ref b → ∃ ob, sb.heap.get? b = some ob ∧ ob.dict = none := fun b e => by
    cases e
    rcases ty with ⟨ob, e1, e2⟩ | ⟨_, ob, e1, _, e2⟩
    · exact ⟨ob, (Ib.hok a _ e1).1, e2⟩
    · exact ⟨ob, Ib.kIn a ob e1, e2⟩
  refine ⟨"tuple", id, PySem.F.plainAttrs_tuple, slot, hty, ht.typeIs, h2, ?_⟩
  have hA := ha.run cpos pn sb sg Hb _ Ib qb
  rw [hs] at hA ⊢
  refine Calls.callWith_builtin (by show (false || (backTo cpos (starEach es X.env)).any (·.1)) = false; rw [hplain] <;> rfl) (Calls.evalArgs_plain ?_)
  exact thn hA fun us sc ⟨vs, Hc, Ic, rc, qc⟩ => hm pn sc sg Hc (.ref a) vs (.ref a) us QQ Ic rfl rc qc⟩
end
end D
end
section
set_option Elab.async false
set_option linter.all false
set_option maxRecDepth 100000
namespace D
open PySem L2
structure SE (F : Fm) (X : Cx) (Γ : List Sl) (c : Cells) (e : Expr) (P : Cells → Dt → Prop) : Prop where
  run : ∀ (σ : L2.St) (H : Hp) (Q : VK), SI X.K F Γ c σ H → (∀ v H' c' d, P c' d → SI X.K F Γ c' σ H' → Ex (Vw F c H) (Vw F c' H') → DV X.K (Vw F c' H') v d → Q v H') → tE X e σ H Q
instance {F : Fm} {X : Cx} {Γ : List Sl} {c : Cells} {e : Expr} {P : Cells → Dt → Prop} : CoeFun (SE F X Γ c e P) fun _ => ∀ (σ : L2.St) (H : Hp) (Q : VK), SI X.K F Γ c σ H → (∀ v H' c' d, P c' d → SI X.K F Γ c' σ H' → Ex (Vw F c H) (Vw F c' H') → DV X.K (Vw F c' H') v d → Q v H') → tE X e σ H Q := ⟨SE.run⟩
structure ST (F : Fm) (X : Cx) (Γ : List Sl) (c : Cells) (e : Expr) (P : Cells → Bool → Prop) : Prop where
  run : ∀ (σ : L2.St) (H : Hp) (Q : Bool → Hp → Prop), SI X.K F Γ c σ H → (∀ b H' c', P c' b → SI X.K F Γ c' σ H' → Ex (Vw F c H) (Vw F c' H') → Q b H') → tT X e σ H Q
instance {F : Fm} {X : Cx} {Γ : List Sl} {c : Cells} {e : Expr} {P : Cells → Bool → Prop} : CoeFun (ST F X Γ c e P) fun _ => ∀ (σ : L2.St) (H : Hp) (Q : Bool → Hp → Prop), SI X.K F Γ c σ H → (∀ b H' c', P c' b → SI X.K F Γ c' σ H' → Ex (Vw F c H) (Vw F c' H') → Q b H') → tT X e σ H Q := ⟨ST.run⟩
structure SA (F : Fm) (X : Cx) (Γ : List Sl) (c : Cells) (es : List Expr) (P : Cells → List Dt → Prop) : Prop where
  run : ∀ (σ : L2.St) (H : Hp) (Q : List V → Hp → Prop), SI X.K F Γ c σ H → (∀ vs H' c' ds, P c' ds → SI X.K F Γ c' σ H' → Ex (Vw F c H) (Vw F c' H') → DVs X.K (Vw F c' H') vs ds → Q vs H') → tAs X es σ H Q
instance {F : Fm} {X : Cx} {Γ : List Sl} {c : Cells} {es : List Expr} {P : Cells → List Dt → Prop} : CoeFun (SA F X Γ c es P) fun _ => ∀ (σ : L2.St) (H : Hp) (Q : List V → Hp → Prop), SI X.K F Γ c σ H → (∀ vs H' c' ds, P c' ds → SI X.K F Γ c' σ H' → Ex (Vw F c H) (Vw F c' H') → DVs X.K (Vw F c' H') vs ds → Q vs H') → tAs X es σ H Q := ⟨SA.run⟩
/-- an operation on values -/
def VR (K : PySem.W.Frag) (F : Fm) (Γ : List Sl) (c : Cells) (r : List V → Hp → VK → Prop) (ds : List Dt) (P : Cells → Dt → Prop) : Prop :=
  ∀ (σ : L2.St) (H : Hp) (vs : List V) (Q : VK), SI K F Γ c σ H → DVs K (Vw F c H) vs ds → (∀ v H' c' d, P c' d → SI K F Γ c' σ H' → Ex (Vw F c H) (Vw F c' H') → DV K (Vw F c' H') v d → Q v H') → r vs H Q
def rOp (X : Cx) (f : Value → Value → Sem Value) : R2 := fun x y H Q => ∃ r, OpR X f r ∧ r x y H Q
theorem opR {X : Cx} {f : Value → Value → Sem Value} : OpR X f (rOp X f) := fun pins s σ H x y v u Q I rx ry ⟨_, ho, q⟩ => ho pins s σ H x y v u Q I rx ry q
def rIxc (X : Cx) : R2 := fun x y H Q => ∃ r, IxR X r ∧ r x y H Q
theorem ixR {X : Cx} : IxR X (rIxc X) := fun value slice pins s σ H x y v u Q I rx ry ⟨_, ho, q⟩ hs => ho value slice pins s σ H x y v u Q I rx ry q hs
def rSlc (X : Cx) : V → Option Int → Option Int → Hp → VK → Prop := fun x l u H Q => ∃ r, SlR X r ∧ r x l u H Q
theorem slR {X : Cx} : SlR X (rSlc X) := fun pins s σ H x v vl vu lo hi sl Q I rx hs pl pu ⟨_, ho, q⟩ => ho pins s σ H x v vl vu lo hi sl Q I rx hs pl pu q
def rCl (X : Cx) (f : Value) : List V → Hp → VK → Prop := fun xs H Q => ∃ r, CallR X f r ∧ r xs H Q
theorem clR {X : Cx} {f : Value} : CallR X f (rCl X f) := fun pins s σ H xs us Q I rx ⟨_, ho, q⟩ => ho pins s σ H xs us Q I rx q
structure OpV (F : Fm) (X : Cx) (Γ : List Sl) (c : Cells) (f : Value → Value → Sem Value) (d1 d2 : Dt) (P : Cells → Dt → Prop) : Prop where
  run : VR X.K F Γ c (fun vs H Q => ∃ x y, vs = [x, y] ∧ rOp X f x y H Q) [d1, d2] P
instance {F : Fm} {X : Cx} {Γ : List Sl} {c : Cells} {f : Value → Value → Sem Value} {d1 d2 : Dt} {P : Cells → Dt → Prop} : CoeFun (OpV F X Γ c f d1 d2 P) fun _ => VR X.K F Γ c (fun vs H Q => ∃ x y, vs = [x, y] ∧ rOp X f x y H Q) [d1, d2] P := ⟨OpV.run⟩
structure IxV (F : Fm) (X : Cx) (Γ : List Sl) (c : Cells) (d1 d2 : Dt) (P : Cells → Dt → Prop) : Prop where
  run : VR X.K F Γ c (fun vs H Q => ∃ x y, vs = [x, y] ∧ rIxc X x y H Q) [d1, d2] P
instance {F : Fm} {X : Cx} {Γ : List Sl} {c : Cells} {d1 d2 : Dt} {P : Cells → Dt → Prop} : CoeFun (IxV F X Γ c d1 d2 P) fun _ => VR X.K F Γ c (fun vs H Q => ∃ x y, vs = [x, y] ∧ rIxc X x y H Q) [d1, d2] P := ⟨IxV.run⟩
structure ClV (F : Fm) (X : Cx) (Γ : List Sl) (c : Cells) (f : Value) (ds : List Dt) (P : Cells → Dt → Prop) : Prop where
  run : VR X.K F Γ c (rCl X f) ds P
instance {F : Fm} {X : Cx} {Γ : List Sl} {c : Cells} {f : Value} {ds : List Dt} {P : Cells → Dt → Prop} : CoeFun (ClV F X Γ c f ds P) fun _ => VR X.K F Γ c (rCl X f) ds P := ⟨ClV.run⟩
structure SlV (F : Fm) (X : Cx) (Γ : List Sl) (c : Cells) (lo hi : Option Int) (d : Dt) (P : Cells → Dt → Prop) : Prop where
  run : VR X.K F Γ c (fun vs H Q => ∃ x, vs = [x] ∧ rSlc X x lo hi H Q) [d] P
instance {F : Fm} {X : Cx} {Γ : List Sl} {c : Cells} {lo hi : Option Int} {d : Dt} {P : Cells → Dt → Prop} : CoeFun (SlV F X Γ c lo hi d P) fun _ => VR X.K F Γ c (fun vs H Q => ∃ x, vs = [x] ∧ rSlc X x lo hi H Q) [d] P := ⟨SlV.run⟩
section
variable {F : Fm} {X : Cx} {Γ : List Sl} {c : Cells} {P : Cells → Dt → Prop} {pos : Pos}
theorem SE.mono {e : Expr} {P' : Cells → Dt → Prop} (h : SE F X Γ c e P) (hp : ∀ c d, P c d → P' c d) : SE F X Γ c e P' := .mk fun σ H Q S k => h σ H Q S fun v H' c' d p => k v H' c' d (hp c' d p)
theorem SE.of {e : Expr} {t : TE} (hp : PE X e t) (h : ∀ (σ : L2.St) (H : Hp) (Q : VK), SI X.K F Γ c σ H → (∀ v H' c' d, P c' d → SI X.K F Γ c' σ H' → Ex (Vw F c H) (Vw F c' H') → DV X.K (Vw F c' H') v d → Q v H') → t σ H Q) : SE F X Γ c e P :=
  .mk fun σ H Q S k => tE_of hp (h σ H Q S k)
/-- a value that is there already -/
theorem SE.here {e : Expr} {v : V} {d : Dt} (hp : PE X e (tC v)) (hd : ∀ H, DV X.K H v d) (p : P c d) : SE F X Γ c e P := SE.of hp fun σ H Q S k => k v H c d p S (Ex.refl _) (hd _)
theorem se_int {i : Int} {j} (p : P c (.int i)) : SE F X Γ c (.Constant (.int i) j pos) P := SE.here pe_int (fun _ => .int i) p
theorem se_str {x : Str} {j} (p : P c (.str x)) : SE F X Γ c (.Constant (.str x) j pos) P := SE.here pe_str (fun _ => .str x) p
theorem se_bl {b : Bool} {j} (p : P c (.bl b)) : SE F X Γ c (.Constant (.bool b) j pos) P := SE.here pe_bl (fun _ => .bl b) p
theorem se_non {j} (p : P c .non) : SE F X Γ c (.Constant .none j pos) P := SE.here pe_non (fun _ => .non) p
/-- a global constant that is a flat value -/
theorem se_glob {x : Str} {u : Value} {v : V} {d : Dt} (hg : Gl X x) (hm : X.mg x = some u) (r : RelV v u) (hd : ∀ H, DV X.K H v d) (p : P c d) (hdb : (x == ("__debug__" : Str)) = false := by decide) : SE F X Γ c (.Name x pos) P :=
  SE.here (pe_glob hg hm r hdb) hd p
theorem se_gint {x : Str} {i : Int} {t : Tok} (hm : X.mg x = some (.int i t)) (p : P c (.int i)) (hg : Gl X x := by rfl) (hdb : (x == ("__debug__" : Str)) = false := by decide) : SE F X Γ c (.Name x pos) P := se_glob (v := .int i) hg hm ⟨_, rfl⟩ (fun _ => .int i) p hdb
theorem se_gstr {x : Str} {i : Str} {t : Tok} (hm : X.mg x = some (.str i t)) (p : P c (.str i)) (hg : Gl X x := by rfl) (hdb : (x == ("__debug__" : Str)) = false := by decide) : SE F X Γ c (.Name x pos) P := se_glob (v := .str i) hg hm ⟨_, rfl⟩ (fun _ => .str i) p hdb
/-- a slot's datum -/
theorem se_var (i : Nat) {x : Str} {d : Dt} (hs : Γ[i]? = some (.dat d)) (p : P c d) (hN : X.N[i]? = some x := by rfl) (hv : Vis X.env.scope x := by first | exact Or.inl rfl | exact Or.inr (Or.inl rfl) | exact Or.inr (Or.inr rfl))
    (hd : (x == ("__debug__" : Str)) = false := by decide) (hcd : (x == ("__classdict__" : Str)) = false := by decide) : SE F X Γ c (.Name x pos) P :=
  SE.of (pe_var hN hv hd hcd) fun σ H Q S k => by
    obtain ⟨v, h1, h2⟩ := S.sl i _ hs
    exact ⟨v, h1, k v H c d p S (Ex.refl _) h2⟩
theorem se_op2 {e a b : Expr} {r : R2} (hp : PE X e (tOp r (tE X a) (tE X b))) (h : SE F X Γ c a fun c1 d1 => SE F X Γ c1 b fun c2 d2 => VR X.K F Γ c2 (fun vs H Q => ∃ x y, vs = [x, y] ∧ r x y H Q) [d1, d2] P) : SE F X Γ c e P :=
  SE.of hp fun σ H Q S k => by
    refine h σ H _ S fun v H1 c1 d1 hb S1 k1 dv1 => ?_
    refine hb σ H1 _ S1 fun w H2 c2 d2 hr S2 k2 dv2 => ?_
    obtain ⟨x, y, e1, q⟩ := hr σ H2 [v, w] Q S2 (.cons (dv1.mono k2) (.cons dv2 .nil)) fun u H3 c3 d3 p S3 k3 dv3 => k u H3 c3 d3 p S3 ((k1.trans k2).trans k3) dv3
    cases e1
    exact q
theorem se_bin {a b : Expr} {op : Operator} (h : SE F X Γ c a fun c1 d1 => SE F X Γ c1 b fun c2 d2 => OpV F X Γ c2 (binaryOp op) d1 d2 P) : SE F X Γ c (.BinOp a op b pos) P := se_op2 (pe_op opR pE pE) (h.mono fun c1 d1 q => q.mono fun c2 d2 r => r.run)
theorem se_cmp {a b : Expr} {op : CmpOp} (h : SE F X Γ c a fun c1 d1 => SE F X Γ c1 b fun c2 d2 => OpV F X Γ c2 (compareOp op) d1 d2 P) (hm : behindInMarks op b = false := by first | exact nomark _ | rfl) : SE F X Γ c (.Compare a [op] [b] pos) P := se_op2 (pe_cmpR opR pE pE hm) (h.mono fun c1 d1 q => q.mono fun c2 d2 r => r.run)
theorem se_ix {a b : Expr} (h : SE F X Γ c a fun c1 d1 => SE F X Γ c1 b fun c2 d2 => IxV F X Γ c2 d1 d2 P) (hs : PlainIx b := by exact fun _ _ => rfl) : SE F X Γ c (.Subscript a b pos) P := se_op2 (pe_ix ixR pE pE hs) (h.mono fun c1 d1 q => q.mono fun c2 d2 r => r.run)
theorem st_cmp {a b : Expr} {op : CmpOp} {P : Cells → Bool → Prop} (h : SE F X Γ c a fun c1 d1 => SE F X Γ c1 b fun c2 d2 => OpV F X Γ c2 (compareOp op) d1 d2 fun c3 d => ∃ k, d = .bl k ∧ P c3 k) (hm : behindInMarks op b = false := by first | exact nomark _ | rfl) : ST F X Γ c (.Compare a [op] [b] pos) P := by
  refine .mk fun σ H Q S k => ?_
  refine tT_of (pt_cmpR opR pE pE hm) ?_
  refine h σ H _ S fun v H1 c1 d1 hb S1 k1 dv1 => ?_
  refine hb σ H1 _ S1 fun w H2 c2 d2 hr S2 k2 dv2 => ?_
  obtain ⟨x, y, e1, q⟩ := hr σ H2 [v, w] (fun z H' => ∃ k, z = .bl k ∧ Q k H') S2 (.cons (dv1.mono k2) (.cons dv2 .nil)) fun u H3 c3 d3 p S3 k3 dv3 => by
    obtain ⟨b, rfl, p⟩ := p
    cases dv3
    exact ⟨b, rfl, k b H3 c3 p S3 ((k1.trans k2).trans k3)⟩
  cases e1
  exact q
/-- a value that is a bool, as a test (a call, a name) -/
theorem st_val {e : Expr} {P : Cells → Bool → Prop} (h : SE F X Γ c e fun c1 d => ∃ k, d = .bl k ∧ P c1 k)
    (hw : ∀ whole : Sem Value, PySem.isTrue e X.env whole = (do let v ← whole; standAt e.pos; holding [v] (truthy v)) := by intro _; rfl) : ST F X Γ c e P := by
  refine .mk fun σ H Q S k => ?_
  refine tT_of (pt_val pE hw) ?_
  refine h σ H _ S fun v H1 c1 d1 p S1 k1 dv1 => ?_
  obtain ⟨b, rfl, p⟩ := p
  cases dv1
  exact ⟨b, rfl, k b H1 c1 p S1 k1⟩
theorem st_not {e : Expr} {P : Cells → Bool → Prop} (h : ST F X Γ c e fun c1 b => P c1 (!b)) : ST F X Γ c (.UnaryOp .Not e pos) P := by
  refine .mk fun σ H Q S k => ?_
  refine tT_of (pt_not pT) ?_
  exact h σ H _ S fun b H1 c1 p S1 k1 => k _ H1 c1 p S1 k1
/-- and, or as tests: a list of them -/
structure TWc (X : Cx) (e : Expr) (σ : L2.St) (H : Hp) (Q : Bool → Hp → Prop) : Prop where
  run : ∀ (whole : Sem Value) pins s, Inv X pins σ H s → wpAny (model X.prog X.w) X.A (PySem.isTrue e X.env whole) (TP X pins σ Q) X.xe s
def tW (X : Cx) (e : Expr) : TT := fun σ H Q => TWc X e σ H Q
structure SWt (F : Fm) (X : Cx) (Γ : List Sl) (c : Cells) (e : Expr) (P : Cells → Bool → Prop) : Prop where
  run : ∀ (σ : L2.St) (H : Hp) (Q : Bool → Hp → Prop), SI X.K F Γ c σ H → (∀ b H' c', P c' b → SI X.K F Γ c' σ H' → Ex (Vw F c H) (Vw F c' H') → Q b H') → tW X e σ H Q
instance {F : Fm} {X : Cx} {Γ : List Sl} {c : Cells} {e : Expr} {P : Cells → Bool → Prop} : CoeFun (SWt F X Γ c e P) fun _ => ∀ (σ : L2.St) (H : Hp) (Q : Bool → Hp → Prop), SI X.K F Γ c σ H → (∀ b H' c', P c' b → SI X.K F Γ c' σ H' → Ex (Vw F c H) (Vw F c' H') → Q b H') → tW X e σ H Q := ⟨SWt.run⟩
theorem pW {e : Expr} : PW X e (tW X e) := ⟨fun wh pins s _ _ _ I h => TWc.run h wh pins s I⟩
theorem st_w {e : Expr} {P : Cells → Bool → Prop} (h : SWt F X Γ c e P) : ST F X Γ c e P := .mk fun σ H Q S k => tT_of pW.pt (h σ H Q S k)
theorem sw_and1 {a : Expr} {P : Cells → Bool → Prop} (h : ST F X Γ c a P) : SWt F X Γ c (.BoolOp .And [a] pos) P := .mk fun σ H Q S k => ⟨fun wh pins s I => (pw_and1 pT).run wh pins s σ H Q I (h σ H Q S k)⟩
theorem sw_or1 {a : Expr} {P : Cells → Bool → Prop} (h : ST F X Γ c a P) : SWt F X Γ c (.BoolOp .Or [a] pos) P := .mk fun σ H Q S k => ⟨fun wh pins s I => (pw_or1 pT).run wh pins s σ H Q I (h σ H Q S k)⟩
theorem sw_and {a b : Expr} {rest : List Expr} {P : Cells → Bool → Prop} (h : ST F X Γ c a fun c1 k => if k = true then SWt F X Γ c1 (.BoolOp .And (b :: rest) pos) P else P c1 false) : SWt F X Γ c (.BoolOp .And (a :: b :: rest) pos) P := by
  refine .mk fun σ H Q S k => ?_
  refine ⟨fun wh pins s I => ?_⟩
  refine (pw_and pT pW).run wh pins s σ H Q I (h σ H _ S fun b1 H1 c1 p S1 k1 => ?_)
  cases b1 with
  | true => exact (show SWt F X Γ c1 _ P from p) σ H1 Q S1 fun b2 H2 c2 p2 S2 k2 => k b2 H2 c2 p2 S2 (k1.trans k2)
  | false => exact k false H1 c1 p S1 k1
theorem sw_or {a b : Expr} {rest : List Expr} {P : Cells → Bool → Prop} (h : ST F X Γ c a fun c1 k => if k = true then P c1 true else SWt F X Γ c1 (.BoolOp .Or (b :: rest) pos) P) : SWt F X Γ c (.BoolOp .Or (a :: b :: rest) pos) P := by
  refine .mk fun σ H Q S k => ?_
  refine ⟨fun wh pins s I => ?_⟩
  refine (pw_or pT pW).run wh pins s σ H Q I (h σ H _ S fun b1 H1 c1 p S1 k1 => ?_)
  cases b1 with
  | false => exact (show SWt F X Γ c1 _ P from p) σ H1 Q S1 fun b2 H2 c2 p2 S2 k2 => k b2 H2 c2 p2 S2 (k1.trans k2)
  | true => exact k true H1 c1 p S1 k1
/-- and, or as values of bools -/
theorem se_one {a : Expr} {op} (h : SE F X Γ c a P) : SE F X Γ c (.BoolOp op [a] pos) P := SE.of (pe_one pE) fun σ H Q S k => h σ H Q S k
theorem se_and {a b : Expr} {rest : List Expr} (h : SE F X Γ c a fun c1 d => ∃ k, d = .bl k ∧ if k = true then SE F X Γ c1 (.BoolOp .And (b :: rest) pos) P else P c1 (.bl false)) : SE F X Γ c (.BoolOp .And (a :: b :: rest) pos) P :=
  SE.of (pe_and pE pE) fun σ H Q S k => by
    refine h σ H _ S fun v H1 c1 d1 p S1 k1 dv1 => ?_
    obtain ⟨b1, rfl, p⟩ := p
    cases dv1
    refine ⟨b1, rfl, ?_⟩
    cases b1 with
    | true => exact (show SE F X Γ c1 _ P from p) σ H1 Q S1 fun b2 H2 c2 d2 p2 S2 k2 => k b2 H2 c2 d2 p2 S2 (k1.trans k2)
    | false => exact k _ H1 c1 _ p S1 k1 (.bl false)
theorem se_or {a b : Expr} {rest : List Expr} (h : SE F X Γ c a fun c1 d => ∃ k, d = .bl k ∧ if k = true then P c1 (.bl true) else SE F X Γ c1 (.BoolOp .Or (b :: rest) pos) P) : SE F X Γ c (.BoolOp .Or (a :: b :: rest) pos) P :=
  SE.of (pe_or pE pE) fun σ H Q S k => by
    refine h σ H _ S fun v H1 c1 d1 p S1 k1 dv1 => ?_
    obtain ⟨b1, rfl, p⟩ := p
    cases dv1
    refine ⟨b1, rfl, ?_⟩
    cases b1 with
    | false => exact (show SE F X Γ c1 _ P from p) σ H1 Q S1 fun b2 H2 c2 d2 p2 S2 k2 => k b2 H2 c2 d2 p2 S2 (k1.trans k2)
    | true => exact k _ H1 c1 _ p S1 k1 (.bl true)
theorem se_not {a : Expr} (h : SE F X Γ c a fun c1 d => ∃ k, d = .bl k ∧ P c1 (.bl (!k))) : SE F X Γ c (.UnaryOp .Not a pos) P :=
  SE.of (pe_not pE) fun σ H Q S k => by
    refine h σ H _ S fun v H1 c1 d1 p S1 k1 dv1 => ?_
    obtain ⟨b1, rfl, p⟩ := p
    cases dv1
    exact ⟨b1, rfl, k _ H1 c1 _ p S1 k1 (.bl _)⟩
theorem se_if {t a b : Expr} (h : ST F X Γ c t fun c1 k => if k = true then SE F X Γ c1 a P else SE F X Γ c1 b P) : SE F X Γ c (.IfExp t a b pos) P :=
  SE.of (pe_ifExp pT pE pE) fun σ H Q S k => by
    refine h σ H _ S fun b1 H1 c1 p S1 k1 => ?_
    cases b1 with
    | true => exact (show SE F X Γ c1 _ P from p) σ H1 Q S1 fun b2 H2 c2 d2 p2 S2 k2 => k b2 H2 c2 d2 p2 S2 (k1.trans k2)
    | false => exact (show SE F X Γ c1 _ P from p) σ H1 Q S1 fun b2 H2 c2 d2 p2 S2 k2 => k b2 H2 c2 d2 p2 S2 (k1.trans k2)
theorem se_chain {a b e : Expr} {op op' : CmpOp} (h : SE F X Γ c a fun c1 d1 => SE F X Γ c1 b fun c2 d2 => OpV F X Γ c2 (compareOp op) d1 d2 fun c3 d => ∃ k, d = .bl k ∧ if k = true then SE F X Γ c3 e (fun c4 d4 => OpV F X Γ c4 (compareOp op') d2 d4 P) else P c3 (.bl false))
    (hm : lastMarks [op, op'] [b, e] = false := by with_unfolding_all rfl) : SE F X Γ c (.Compare a [op, op'] [b, e] pos) P :=
  SE.of (pe_chain opR opR pE pE pE hm) fun σ H Q S k => by
    refine h σ H _ S fun v H1 c1 d1 hb S1 k1 dv1 => ?_
    refine hb σ H1 _ S1 fun w H2 c2 d2 hr S2 k2 dv2 => ?_
    obtain ⟨x, y, e1, q⟩ := hr σ H2 [v, w] (fun z H3 => ∃ k, z = .bl k ∧ (if k = true then tE X e σ H3 fun w' H4 => rOp X (compareOp op') w w' H4 Q else Q (.bl false) H3)) S2 (.cons (dv1.mono k2) (.cons dv2 .nil)) fun u H3 c3 d3 p S3 k3 dv3 => by
      obtain ⟨b1, rfl, p⟩ := p
      cases dv3
      refine ⟨b1, rfl, ?_⟩
      cases b1 with
      | false => exact k _ H3 c3 _ p S3 ((k1.trans k2).trans k3) (.bl false)
      | true =>
        refine (show SE F X Γ c3 e _ from p) σ H3 _ S3 fun w' H4 c4 d4 hr' S4 k4 dv4 => ?_
        obtain ⟨x', y', e2, q⟩ := hr' σ H4 [w, w'] Q S4 (.cons (dv2.mono (k3.trans k4)) (.cons dv4 .nil)) fun u H5 c5 d5 p5 S5 k5 dv5 => k u H5 c5 d5 p5 S5 ((((k1.trans k2).trans k3).trans k4).trans k5) dv5
        cases e2
        exact q
    cases e1
    exact q
theorem chain_core {a b e : Expr} {op op' : CmpOp} (h : SE F X Γ c a fun c1 d1 => SE F X Γ c1 b fun c2 d2 => OpV F X Γ c2 (compareOp op) d1 d2 fun c3 d => ∃ k, d = .bl k ∧ if k = true then SE F X Γ c3 e (fun c4 d4 => OpV F X Γ c4 (compareOp op') d2 d4 P) else P c3 (.bl false)) (σ : L2.St) (H : Hp) (Q : VK) (S : SI X.K F Γ c σ H) (k : ∀ v H' c' d, P c' d → SI X.K F Γ c' σ H' → Ex (Vw F c H) (Vw F c' H') → DV X.K (Vw F c' H') v d → Q v H') :
    tChain (rOp X (compareOp op)) (rOp X (compareOp op')) (tE X a) (tE X b) (tE X e) σ H Q := by
    refine h σ H _ S fun v H1 c1 d1 hb S1 k1 dv1 => ?_
    refine hb σ H1 _ S1 fun w H2 c2 d2 hr S2 k2 dv2 => ?_
    obtain ⟨x, y, e1, q⟩ := hr σ H2 [v, w] (fun z H3 => ∃ k, z = .bl k ∧ (if k = true then tE X e σ H3 fun w' H4 => rOp X (compareOp op') w w' H4 Q else Q (.bl false) H3)) S2 (.cons (dv1.mono k2) (.cons dv2 .nil)) fun u H3 c3 d3 p S3 k3 dv3 => by
      obtain ⟨b1, rfl, p⟩ := p
      cases dv3
      refine ⟨b1, rfl, ?_⟩
      cases b1 with
      | false => exact k _ H3 c3 _ p S3 ((k1.trans k2).trans k3) (.bl false)
      | true =>
        refine (show SE F X Γ c3 e _ from p) σ H3 _ S3 fun w' H4 c4 d4 hr' S4 k4 dv4 => ?_
        obtain ⟨x', y', e2, q⟩ := hr' σ H4 [w, w'] Q S4 (.cons (dv2.mono (k3.trans k4)) (.cons dv4 .nil)) fun u H5 c5 d5 p5 S5 k5 dv5 => k u H5 c5 d5 p5 S5 ((((k1.trans k2).trans k3).trans k4).trans k5) dv5
        cases e2
        exact q
    cases e1
    exact q
theorem st_chain {a b e : Expr} {op op' : CmpOp} {P : Cells → Bool → Prop} (h : SE F X Γ c a fun c1 d1 => SE F X Γ c1 b fun c2 d2 => OpV F X Γ c2 (compareOp op) d1 d2 fun c3 d => ∃ k, d = .bl k ∧ if k = true then SE F X Γ c3 e (fun c4 d4 => OpV F X Γ c4 (compareOp op') d2 d4 fun c5 d => ∃ k, d = .bl k ∧ P c5 k) else ∃ k, Dt.bl false = .bl k ∧ P c3 k)
    (hm : lastMarks [op, op'] [b, e] = false := by with_unfolding_all rfl) : ST F X Γ c (.Compare a [op, op'] [b, e] pos) P := .mk fun σ H Q S k =>
  tT_of (pt_chain opR opR pE pE pE hm) (chain_core (P := fun c1 d => ∃ k, d = .bl k ∧ P c1 k) h σ H _ S fun v H' c' d p S' e' dv => by
    obtain ⟨b1, rfl, p⟩ := p
    cases dv
    exact ⟨b1, rfl, k b1 H' c' p S' e'⟩)
theorem sa_nil {P : Cells → List Dt → Prop} (p : P c []) : SA F X Γ c [] P := .mk fun σ H Q S k => tAs_of pa_nil (k [] H c [] p S (Ex.refl _) .nil)
theorem sa_cons {e : Expr} {es : List Expr} {P : Cells → List Dt → Prop} (h : SE F X Γ c e fun c1 d => SA F X Γ c1 es fun c2 ds => P c2 (d :: ds)) (hs : starEach (e :: es) X.env = (false, eval e X.env) :: starEach es X.env := by rfl) : SA F X Γ c (e :: es) P :=
  .mk fun σ H Q S k => tAs_of (pa_cons pE pAs hs) (h σ H _ S fun v H1 c1 d hr S1 k1 dv => hr σ H1 _ S1 fun vs H2 c2 ds p S2 k2 dvs => k (v :: vs) H2 c2 (d :: ds) p S2 (k1.trans k2) (.cons (dv.mono k2) dvs))
theorem se_tup {es : List Expr} {x1} (h : SA F X Γ c es fun c1 ds => ds.length ≤ sizeLine ∧ P c1 (.tup ds)) : SE F X Γ c (.Tuple es x1 pos) P :=
  SE.of (pe_tupF pAs) fun σ H Q S k => h σ H _ S fun vs H1 c1 ds p S1 k1 dv => ⟨by rw [dv.length]; exact p.1, fun q o hq ho => k _ _ c1 _ p.2 (S1.new hq) (k1.trans (Kp.new (F := F) hq).hid) (S1.newT hq ho dv)⟩
theorem se_lst {es : List Expr} (h : SA F X Γ c es fun c1 ds => ds.length ≤ sizeLine ∧ P c1 (.lst ds)) : SE F X Γ c (.List es pos) P :=
  SE.of (pe_lst pAs) fun σ H Q S k => h σ H _ S fun vs H1 c1 ds p S1 k1 dv => ⟨by rw [dv.length]; exact p.1, fun q hq => k _ _ c1 _ p.2 (S1.new hq) (k1.trans (Kp.new (F := F) hq).hid) (S1.newL hq dv)⟩
theorem se_callB {x : Str} {p : Pos} {e : Expr} {es : List Expr} {id : String} (hm : X.mg x = none) (h : SA F X Γ c (e :: es) fun c1 ds => ClV F X Γ c1 (.builtin id) ds P) (hv : bootBuiltins x = some (.builtin id) := by decide +kernel) (hg : Gl X x := by rfl) (hn : x ≠ "__name__" := by decide) (hdb : (x == ("__debug__" : Str)) = false := by decide)
    (he : starEach (e :: es) X.env = (false, eval e X.env) :: starEach es X.env := by rfl) (hpl : (backTo pos (starEach es X.env)).any (·.1) = false := by rfl) : SE F X Γ c (.Call (.Name x p) (e :: es) [] pos) P :=
  SE.of (pe_callB clR hg hm hv pAs hn hdb he hpl) fun σ H Q S k => h σ H _ S fun vs H1 c1 ds q S1 k1 dv => q σ H1 vs Q S1 dv fun v H2 c2 d p S2 k2 dv2 => k v H2 c2 d p S2 (k1.trans k2) dv2
theorem se_callT {x : Str} {p : Pos} {e : Expr} {es : List Expr} {id : String} (hm : X.mg x = none) (h : SA F X Γ c (e :: es) fun c1 ds => ClV F X Γ c1 (.type id) ds P) (hv : bootBuiltins x = some (.type id) := by decide +kernel) (hg : Gl X x := by rfl) (hn : x ≠ "__name__" := by decide) (hdb : (x == ("__debug__" : Str)) = false := by decide)
    (he : starEach (e :: es) X.env = (false, eval e X.env) :: starEach es X.env := by rfl) (hpl : (backTo pos (starEach es X.env)).any (·.1) = false := by rfl) : SE F X Γ c (.Call (.Name x p) (e :: es) [] pos) P :=
  SE.of (pe_callTy clR hg hm hv pAs hn hdb he hpl) fun σ H Q S k => h σ H _ S fun vs H1 c1 ds q S1 k1 dv => q σ H1 vs Q S1 dv fun v H2 c2 d p S2 k2 dv2 => k v H2 c2 d p S2 (k1.trans k2) dv2
def SO (F : Fm) (X : Cx) (Γ : List Sl) (c : Cells) (e : Option Expr) (P : Cells → Option Int → Prop) : Prop :=
  match e with
  | none => P c none
  | some e => SE F X Γ c e fun c1 d => (∃ i, d = .int i ∧ P c1 (some i)) ∨ (d = .non ∧ P c1 none)
theorem po_any {e : Expr} {te : TE} (h : PE X e te) : PO X (some e) (fun σ H Q => te σ H fun x H1 => (∃ i, x = .int i ∧ Q (some i) H1) ∨ (x = .non ∧ Q none H1)) := ⟨fun pins s σ H Q I hw => by
  rw [evalPart_some]
  refine thn (h.run pins s σ H _ I hw) fun u s1 ⟨x, H1, I1, r1, q1⟩ => ?_
  rcases q1 with ⟨i, rfl, q⟩ | ⟨rfl, q⟩
  · obtain ⟨t, rfl⟩ := r1
    exact ⟨some i, H1, I1, .int i t, q⟩
  · cases r1
    exact ⟨none, H1, I1, .none, q⟩⟩
theorem SO.po {e : Option Expr} {P : Cells → Option Int → Prop} (h : SO F X Γ c e P) : ∃ t, PO X e t ∧ ∀ (σ : L2.St) (H : Hp) (Q : Option Int → Hp → Prop), SI X.K F Γ c σ H → (∀ b H' c', P c' b → SI X.K F Γ c' σ H' → Ex (Vw F c H) (Vw F c' H') → Q b H') → t σ H Q := by
  cases e with
  | none => exact ⟨_, po_none, fun σ H Q S k => k none H c h S (Ex.refl _)⟩
  | some e =>
    refine ⟨_, po_any pE, fun σ H Q S k => ?_⟩
    refine (show SE F X Γ c e _ from h) σ H _ S fun v H1 c1 d p S1 k1 dv => ?_
    rcases p with ⟨i, rfl, p⟩ | ⟨rfl, p⟩
    · cases dv
      exact .inl ⟨i, rfl, k (some i) H1 c1 p S1 k1⟩
    · cases dv
      exact .inr ⟨rfl, k none H1 c1 p S1 k1⟩
def tOc (X : Cx) (e : Option Expr) : TO := fun σ H Q => ∃ t, PO X e t ∧ t σ H Q
theorem pOc {e : Option Expr} : PO X e (tOc X e) := ⟨fun pins s σ H Q I ⟨_, h, q⟩ => h.run pins s σ H Q I q⟩
theorem se_slice {e : Expr} {lo hi : Option Expr} {p2 : Pos} (h : SE F X Γ c e fun c1 d => SO F X Γ c1 lo fun c2 l => SO F X Γ c2 hi fun c3 u => SlV F X Γ c3 l u d P) : SE F X Γ c (.Subscript e (.Slice lo hi none p2) pos) P :=
  SE.of (pe_slice slR pE pOc pOc) fun σ H Q S k => by
    refine h σ H _ S fun v H1 c1 d hl S1 k1 dv1 => ?_
    obtain ⟨tl, pl, ql⟩ := hl.po
    refine ⟨tl, pl, ql σ H1 _ S1 fun l H2 c2 hu S2 k2 => ?_⟩
    obtain ⟨tu, pu, qu⟩ := hu.po
    refine ⟨tu, pu, qu σ H2 _ S2 fun u H3 c3 hr S3 k3 => ?_⟩
    obtain ⟨x, e1, q⟩ := hr σ H3 [v] Q S3 (.cons (dv1.mono (k2.trans k3)) .nil) fun w H4 c4 d4 p S4 k4 dv4 => k w H4 c4 d4 p S4 (((k1.trans k2).trans k3).trans k4) dv4
    cases e1
    exact q
end
end D
end
section
set_option Elab.async false
set_option linter.all false
set_option maxRecDepth 100000
namespace D
open PySem L2
section
variable {F : Fm} {X : Cx} {Γ : List Sl} {c : Cells} {P : Cells → Dt → Prop} {pos : Pos}
theorem OpV.of {f : Value → Value → Sem Value} {r : R2} {d1 d2 : Dt} (ho : OpR X f r) (h : ∀ (σ : L2.St) (H : Hp) (x y : V) (Q : VK), SI X.K F Γ c σ H → DV X.K (Vw F c H) x d1 → DV X.K (Vw F c H) y d2 →
    (∀ v H' c' d, P c' d → SI X.K F Γ c' σ H' → Ex (Vw F c H) (Vw F c' H') → DV X.K (Vw F c' H') v d → Q v H') → r x y H Q) : OpV F X Γ c f d1 d2 P := by
  refine .mk fun σ H vs Q S dv k => ?_
  cases dv with
  | cons h1 t => cases t with
    | cons h2 t =>
      cases t
      exact ⟨_, _, rfl, r, ho, h σ H _ _ Q S h1 h2 k⟩
theorem IxV.of {r : R2} {d1 d2 : Dt} (ho : IxR X r) (h : ∀ (σ : L2.St) (H : Hp) (x y : V) (Q : VK), SI X.K F Γ c σ H → DV X.K (Vw F c H) x d1 → DV X.K (Vw F c H) y d2 →
    (∀ v H' c' d, P c' d → SI X.K F Γ c' σ H' → Ex (Vw F c H) (Vw F c' H') → DV X.K (Vw F c' H') v d → Q v H') → r x y H Q) : IxV F X Γ c d1 d2 P := by
  refine .mk fun σ H vs Q S dv k => ?_
  cases dv with
  | cons h1 t => cases t with
    | cons h2 t =>
      cases t
      exact ⟨_, _, rfl, r, ho, h σ H _ _ Q S h1 h2 k⟩
theorem SlV.of {r : V → Option Int → Option Int → Hp → VK → Prop} {lo hi : Option Int} {d : Dt} (ho : SlR X r) (h : ∀ (σ : L2.St) (H : Hp) (x : V) (Q : VK), SI X.K F Γ c σ H → DV X.K (Vw F c H) x d →
    (∀ v H' c' d, P c' d → SI X.K F Γ c' σ H' → Ex (Vw F c H) (Vw F c' H') → DV X.K (Vw F c' H') v d → Q v H') → r x lo hi H Q) : SlV F X Γ c lo hi d P := by
  refine .mk fun σ H vs Q S dv k => ?_
  cases dv with
  | cons h1 t =>
    cases t
    exact ⟨_, rfl, r, ho, h σ H _ Q S h1 k⟩
theorem ClV.of {f : Value} {r : List V → Hp → VK → Prop} {ds : List Dt} (ho : CallR X f r) (h : ∀ (σ : L2.St) (H : Hp) (vs : List V) (Q : VK), SI X.K F Γ c σ H → DVs X.K (Vw F c H) vs ds →
    (∀ v H' c' d, P c' d → SI X.K F Γ c' σ H' → Ex (Vw F c H) (Vw F c' H') → DV X.K (Vw F c' H') v d → Q v H') → r vs H Q) : ClV F X Γ c f ds P :=
  .mk fun σ H vs Q S dv k => ⟨r, ho, h σ H vs Q S dv k⟩
/-- two ints to a flat value -/
theorem OpV.ints {f : Value → Value → Sem Value} {C : Int → Int → Prop} {g : Int → Int → V} {i j : Int} {d : Dt} (ho : OpR X f (rI C g)) (hc : C i j) (hd : ∀ H, DV X.K H (g i j) d) (p : P c d) : OpV F X Γ c f (.int i) (.int j) P :=
  OpV.of ho fun σ H x y Q S h1 h2 k => by cases h1; cases h2; exact ⟨i, j, rfl, rfl, hc, k _ H c d p S (Ex.refl _) (hd _)⟩
theorem OpV.ints0 {f : Value → Value → Sem Value} {g : Int → Int → V} {i j : Int} {d : Dt} (ho : OpR X f (rI0 g)) (hd : ∀ H, DV X.K H (g i j) d) (p : P c d) : OpV F X Γ c f (.int i) (.int j) P :=
  OpV.of ho fun σ H x y Q S h1 h2 k => by cases h1; cases h2; exact ⟨i, j, rfl, rfl, k _ H c d p S (Ex.refl _) (hd _)⟩
theorem ov_add {i j : Int} (p : P c (.int (i + j))) : OpV F X Γ c (binaryOp .Add) (.int i) (.int j) P := OpV.ints0 op_add (fun _ => .int _) p
theorem ov_sub {i j : Int} (p : P c (.int (i - j))) : OpV F X Γ c (binaryOp .Sub) (.int i) (.int j) P := OpV.ints0 op_sub (fun _ => .int _) p
theorem ov_mul {i j : Int} (hc : CMul i j) (p : P c (.int (i * j))) : OpV F X Γ c (binaryOp .Mult) (.int i) (.int j) P := OpV.ints op_mul hc (fun _ => .int _) p
theorem ov_mod {i j : Int} (hc : 0 < j) (p : P c (.int (i % j))) : OpV F X Γ c (binaryOp .Mod) (.int i) (.int j) P := OpV.ints op_mod hc (fun _ => .int _) p
theorem ov_div {i j : Int} (hc : CDiv i j) (p : P c (.int (i / j))) : OpV F X Γ c (binaryOp .FloorDiv) (.int i) (.int j) P := OpV.ints op_fdiv hc (fun _ => .int _) p
theorem ov_pow {i j : Int} (hc : CPow i j) (p : P c (.int (i ^ j.toNat))) : OpV F X Γ c (binaryOp .Pow) (.int i) (.int j) P := OpV.ints op_pow hc (fun _ => .int _) p
theorem ov_lt {i j : Int} (p : P c (.bl (decide (i < j)))) : OpV F X Γ c (compareOp .Lt) (.int i) (.int j) P := OpV.ints0 op_lt (fun _ => .bl _) p
theorem ov_le {i j : Int} (p : P c (.bl (decide (i ≤ j)))) : OpV F X Γ c (compareOp .LtE) (.int i) (.int j) P := OpV.ints0 op_le (fun _ => .bl _) p
theorem ov_gt {i j : Int} (p : P c (.bl (decide (j < i)))) : OpV F X Γ c (compareOp .Gt) (.int i) (.int j) P := OpV.ints0 op_gt (fun _ => .bl _) p
theorem ov_ge {i j : Int} (p : P c (.bl (decide (j ≤ i)))) : OpV F X Γ c (compareOp .GtE) (.int i) (.int j) P := OpV.ints0 op_ge (fun _ => .bl _) p
theorem ov_addS {i j : Str} (hz : i.length + j.length ≤ sizeLine) (p : P c (.str (i ++ j))) : OpV F X Γ c (binaryOp .Add) (.str i) (.str j) P :=
  OpV.of op_add_str fun σ H x y Q S h1 h2 k => by cases h1; cases h2; exact ⟨i, j, rfl, rfl, hz, k _ H c _ p S (Ex.refl _) (.str _)⟩
/-- equality of flat values -/
theorem ov_eqF {d1 d2 : Dt} {v1 v2 : V} (h1 : ∀ H v, DV X.K H v d1 → v = v1) (h2 : ∀ H v, DV X.K H v d2 → v = v2) (hs : scal v1 v2 = true) (p : P c (.bl (decide (v1 = v2)))) : OpV F X Γ c (compareOp .Eq) d1 d2 P :=
  OpV.of op_eq fun σ H x y Q S q1 q2 k => by rw [h1 _ _ q1, h2 _ _ q2]; exact ⟨hs, k _ H c _ p S (Ex.refl _) (.bl _)⟩
theorem ov_neF {d1 d2 : Dt} {v1 v2 : V} (h1 : ∀ H v, DV X.K H v d1 → v = v1) (h2 : ∀ H v, DV X.K H v d2 → v = v2) (hs : scal v1 v2 = true) (p : P c (.bl (!decide (v1 = v2)))) : OpV F X Γ c (compareOp .NotEq) d1 d2 P :=
  OpV.of op_ne fun σ H x y Q S q1 q2 k => by rw [h1 _ _ q1, h2 _ _ q2]; exact ⟨hs, k _ H c _ p S (Ex.refl _) (.bl _)⟩
theorem dv_int {K : PySem.W.Frag} {H : Hp} {v : V} {i : Int} (h : DV K H v (.int i)) : v = .int i := by cases h; rfl
theorem dv_str {K : PySem.W.Frag} {H : Hp} {v : V} {i : Str} (h : DV K H v (.str i)) : v = .str i := by cases h; rfl
theorem dv_bl {K : PySem.W.Frag} {H : Hp} {v : V} {i : Bool} (h : DV K H v (.bl i)) : v = .bl i := by cases h; rfl
theorem ov_eqI {i j : Int} (p : P c (.bl (decide (i = j)))) : OpV F X Γ c (compareOp .Eq) (.int i) (.int j) P :=
  ov_eqF (fun _ _ h => dv_int h) (fun _ _ h => dv_int h) rfl (by rw [show decide (V.int i = V.int j) = decide (i = j) by rw [Bool.eq_iff_iff]; simp]; exact p)
theorem ov_neI {i j : Int} (p : P c (.bl (!decide (i = j)))) : OpV F X Γ c (compareOp .NotEq) (.int i) (.int j) P :=
  ov_neF (fun _ _ h => dv_int h) (fun _ _ h => dv_int h) rfl (by rw [show decide (V.int i = V.int j) = decide (i = j) by rw [Bool.eq_iff_iff]; simp]; exact p)
theorem ov_eqS {i j : Str} (p : P c (.bl (decide (i = j)))) : OpV F X Γ c (compareOp .Eq) (.str i) (.str j) P :=
  ov_eqF (fun _ _ h => dv_str h) (fun _ _ h => dv_str h) rfl (by rw [show decide (V.str i = V.str j) = decide (i = j) by rw [Bool.eq_iff_iff]; simp]; exact p)
theorem ov_neS {i j : Str} (p : P c (.bl (!decide (i = j)))) : OpV F X Γ c (compareOp .NotEq) (.str i) (.str j) P :=
  ov_neF (fun _ _ h => dv_str h) (fun _ _ h => dv_str h) rfl (by rw [show decide (V.str i = V.str j) = decide (i = j) by rw [Bool.eq_iff_iff]; simp]; exact p)
structure Fit (n : Nat) (d : Dt) : Prop where
  pl : plain d = true
  lay : (py d).canLay0 = true
  dp : (py d).depth ≤ n
theorem Fit.mono {n m : Nat} {d : Dt} (h : Fit n d) (l : n ≤ m) : Fit m d := ⟨h.pl, h.lay, Nat.le_trans h.dp l⟩
theorem fit_non {n : Nat} : Fit n .non := ⟨rfl, rfl, Nat.zero_le _⟩
theorem fit_int {n : Nat} {b : Int} : Fit n (.int b) := ⟨rfl, rfl, Nat.zero_le _⟩
theorem fit_str {n : Nat} {b : Str} (h : PyData.strOk b = true) : Fit n (.str b) := ⟨rfl, h, Nat.zero_le _⟩
theorem fits_all {n : Nat} : ∀ {l : List Dt}, (∀ x ∈ l, Fit n x) → plains l = true ∧ PyData.canLayAll0 (pys l) = true ∧ PyData.depthAll (pys l) ≤ n
  | [], _ => ⟨rfl, rfl, Nat.zero_le _⟩
  | d :: l, h => by
    obtain ⟨h1, h2, h3⟩ := fits_all (l := l) fun x hx => h x (List.mem_cons_of_mem _ hx)
    have q := h d (List.mem_cons_self ..)
    exact ⟨by rw [plains, q.pl, h1]; rfl, by rw [pys, PyData.canLayAll0, q.lay, h2]; rfl, by rw [pys, PyData.depthAll]; exact Nat.max_le.mpr ⟨q.dp, h3⟩⟩
theorem fit_tup {n : Nat} {l : List Dt} (h : ∀ x ∈ l, Fit n x) : Fit (n + 1) (.tup l) := by
  obtain ⟨h1, h2, h3⟩ := fits_all h
  exact ⟨h1, h2, Nat.succ_le_succ h3⟩
theorem fit_lst {n : Nat} {l : List Dt} (h : ∀ x ∈ l, Fit n x) : Fit (n + 1) (.lst l) := by
  obtain ⟨h1, h2, h3⟩ := fits_all h
  exact ⟨h1, h2, Nat.succ_le_succ h3⟩
theorem Fit.shaped {d : Dt} (h : Fit 64 d) : SeqAt.shaped (py d) = true := by
  unfold SeqAt.shaped
  rw [h.lay, decide_eq_true h.dp]
  rfl
def eqd (a b : Dt) : Bool := PyData.eqv (py a) (py b)
theorem ov_eqD {d1 d2 : Dt} (hu : X.A.units + 64 < cLine) (f1 : Fit 64 d1) (f2 : Fit 64 d2) (p : P c (.bl (eqd d1 d2))) : OpV F X Γ c (compareOp .Eq) d1 d2 P :=
  OpV.of (op_eqD hu) fun σ H x y Q S h1 h2 k => ⟨py d1, py d2, (h1.mono (mask_ex _ _)).dp f1.pl, (h2.mono (mask_ex _ _)).dp f2.pl, f1.shaped, f2.shaped, k _ H c _ p S (Ex.refl _) (.bl _)⟩
theorem ov_neD {d1 d2 : Dt} (hu : X.A.units + 64 < cLine) (f1 : Fit 64 d1) (f2 : Fit 64 d2) (p : P c (.bl (!eqd d1 d2))) : OpV F X Γ c (compareOp .NotEq) d1 d2 P :=
  OpV.of (op_neD hu) fun σ H x y Q S h1 h2 k => ⟨py d1, py d2, (h1.mono (mask_ex _ _)).dp f1.pl, (h2.mono (mask_ex _ _)).dp f2.pl, f1.shaped, f2.shaped, k _ H c _ p S (Ex.refl _) (.bl _)⟩
theorem ov_inSign {a : Nat} {z : Str} (p : P c (.bl (decide (a ∈ z.cps.toList)))) : OpV F X Γ c (compareOp .In) (.str ⟨#[a]⟩) (.str z) P :=
  OpV.of op_in_sign fun σ H x y Q S h1 h2 k => by cases h1; cases h2; exact ⟨a, z, rfl, rfl, k _ H c _ p S (Ex.refl _) (.bl _)⟩
def flatD : Dt → Bool
  | .non => true | .bl _ => true | .int _ => true | .str _ => true | _ => false
def flatOf : Dt → V
  | .bl b => .bl b | .int i => .int i | .str s => .str s | _ => .non
theorem dv_flat {K : PySem.W.Frag} {H : Hp} {v : V} {d : Dt} (h : DV K H v d) (f : flatD d = true) : v = flatOf d := by cases h <;> first | rfl | cases f
theorem dvs_flat {K : PySem.W.Frag} {H : Hp} : ∀ {vs : List V} {ds : List Dt}, DVs K H vs ds → ds.all flatD = true → vs = ds.map flatOf
  | _, _, .nil, _ => rfl
  | _, _, .cons h t, f => by
    simp only [List.all_cons, Bool.and_eq_true] at f
    rw [dv_flat h f.1, dvs_flat t f.2]; rfl
theorem flat_flatOf {d : Dt} : flatV (flatOf d) = true := by cases d <;> rfl
theorem flats_flatOf {ds : List Dt} : (ds.map flatOf).all flatV = true := by rw [List.all_eq_true]; intro x hx; obtain ⟨d, _, rfl⟩ := List.mem_map.mp hx; exact flat_flatOf
def seqD : Dt → Option (List Dt)
  | .lst l => some l
  | .tup l => some l
  | _ => none
theorem dv_seq {K : PySem.W.Frag} {H : Hp} {v : V} {d : Dt} {l : List Dt} (h : DV K H v d) (e : seqD d = some l) : ∃ a xs, v = .ref a ∧ (SqL K H a xs ∨ SqT K H a xs) ∧ DVs K H xs l := by
  cases h with
  | lst h t => cases e; exact ⟨_, _, rfl, .inl (.inl (.inl h)), t⟩
  | tup h t => cases e; exact ⟨_, _, rfl, .inr h.t, t⟩
  | _ => cases e
def inD (d : Dt) (l : List Dt) : Bool := inV (flatOf d) (l.map flatOf)
theorem ov_in {d s : Dt} {l : List Dt} (hs : seqD s = some l) (f1 : flatD d = true) (f2 : l.all flatD = true) (p : P c (.bl (inD d l))) : OpV F X Γ c (compareOp .In) d s P :=
  OpV.of op_in_seq fun σ H x y Q S h1 h2 k => by
    obtain ⟨a, xs, rfl, hq, dv⟩ := dv_seq (h2.mono (mask_ex _ _)) hs
    rw [dv_flat h1 f1]
    have e := dvs_flat dv f2
    subst e
    exact ⟨a, _, rfl, hq, flat_flatOf, flats_flatOf, k _ H c _ p S (Ex.refl _) (.bl _)⟩
theorem ov_notIn {d s : Dt} {l : List Dt} (hs : seqD s = some l) (f1 : flatD d = true) (f2 : l.all flatD = true) (p : P c (.bl (!inD d l))) : OpV F X Γ c (compareOp .NotIn) d s P :=
  OpV.of op_notIn_seq fun σ H x y Q S h1 h2 k => by
    obtain ⟨a, xs, rfl, hq, dv⟩ := dv_seq (h2.mono (mask_ex _ _)) hs
    rw [dv_flat h1 f1]
    have e := dvs_flat dv f2
    subst e
    exact ⟨a, _, rfl, hq, flat_flatOf, flats_flatOf, k _ H c _ p S (Ex.refl _) (.bl _)⟩
def isNon : Dt → Bool
  | .non => true
  | _ => false
theorem dv_isNon {K : PySem.W.Frag} {H : Hp} {v : V} {d : Dt} (h : DV K H v d) (nr : ∀ v, d ≠ .raw v) : decide (v = V.non) = isNon d := by
  cases h <;> first | rfl | exact absurd rfl (nr _)
theorem ov_isN {d : Dt} (nr : ∀ v, d ≠ .raw v) (p : P c (.bl (isNon d))) : OpV F X Γ c (compareOp .Is) d .non P :=
  OpV.of op_isN fun σ H x y Q S h1 h2 k => by cases h2; exact ⟨rfl, k _ H c _ (by rw [← dv_isNon h1 nr] at p; exact p) S (Ex.refl _) (.bl _)⟩
theorem ov_notN {d : Dt} (nr : ∀ v, d ≠ .raw v) (p : P c (.bl (!isNon d))) : OpV F X Γ c (compareOp .IsNot) d .non P :=
  OpV.of op_notN fun σ H x y Q S h1 h2 k => by cases h2; exact ⟨rfl, k _ H c _ (by rw [← dv_isNon h1 nr] at p; exact p) S (Ex.refl _) (.bl _)⟩
theorem ov_cat {l m : List Dt} (hz : l.length + m.length ≤ sizeLine) (p : P c (.lst (l ++ m))) : OpV F X Γ c (binaryOp .Add) (.lst l) (.lst m) P :=
  OpV.of op_cat fun σ H x y Q S h1 h2 k => by
    cases h1 with
    | lst a1 t1 => cases h2 with
      | lst a2 t2 => exact ⟨_, _, _, _, rfl, rfl, (of_mask a1).2, (of_mask a2).2, by rw [t1.length, t2.length]; exact hz, fun q hq => k _ _ c _ p (S.new hq) (Kp.new (F := F) hq).hid (S.newL hq (t1.append t2))⟩
theorem ov_catT {l m : List Dt} (hz : l.length + m.length ≤ sizeLine) (p : P c (.tup (l ++ m))) : OpV F X Γ c (binaryOp .Add) (.tup l) (.tup m) P :=
  OpV.of op_catF fun σ H x y Q S h1 h2 k => by
    cases h1 with
    | tup a1 t1 => cases h2 with
      | tup a2 t2 =>
        refine ⟨_, _, _, _, rfl, rfl, (a1.mono (mask_ex _ _)).t, (a2.mono (mask_ex _ _)).t, by rw [t1.length, t2.length]; exact hz, fun e => ?_, fun e1 e2 => ?_, fun e1 e2 q o hq ho => k _ _ c _ p (S.new hq) (Kp.new (F := F) hq).hid (S.newT hq ho (t1.append t2))⟩
        · subst e
          cases t1
          exact k _ H c _ p S (Ex.refl _) (.tup a2 t2)
        · subst e2
          cases t2
          rw [List.append_nil] at p
          exact k _ H c _ p S (Ex.refl _) (.tup a1 t1)
theorem atI_dvs {K : PySem.W.Frag} {H : Hp} {xs : List V} {l : List Dt} {i : Int} {d : Dt} (t : DVs K H xs l) (h : atI l i = some d) : ∃ v, atI xs i = some v ∧ DV K H v d := by
  unfold atI at h ⊢
  rw [t.length]
  cases e : ixN l.length i with
  | none => rw [e] at h; cases h
  | some j =>
    rw [e] at h
    exact t.get h
theorem iv_lst {l : List Dt} {i : Int} {d : Dt} (h : atI l i = some d) (p : P c d) : IxV F X Γ c (.lst l) (.int i) P :=
  IxV.of ix_list fun σ H x y Q S h1 h2 k => by
    cases h1 with
    | lst a t =>
      cases h2
      obtain ⟨v, e, dv⟩ := atI_dvs t h
      exact ⟨_, _, i, v, rfl, rfl, .inl (.inl (of_mask a).2), e, k v H c d p S (Ex.refl _) dv⟩
theorem iv_tup {l : List Dt} {i : Int} {d : Dt} (h : atI l i = some d) (p : P c d) : IxV F X Γ c (.tup l) (.int i) P :=
  IxV.of ix_tup fun σ H x y Q S h1 h2 k => by
    cases h1 with
    | tup a t =>
      cases h2
      obtain ⟨v, e, dv⟩ := atI_dvs t h
      exact ⟨_, _, i, v, rfl, rfl, (a.mono (mask_ex _ _)).t, e, k v H c d p S (Ex.refl _) dv⟩
theorem iv_str {z : Str} {i : Int} {a : Nat} (hz : z.length ≤ sizeLine) (h : atI z.cps.toList i = some a) (p : P c (.str ⟨#[a]⟩)) : IxV F X Γ c (.str z) (.int i) P :=
  IxV.of ix_str fun σ H x y Q S h1 h2 k => by cases h1; cases h2; exact ⟨z, i, a, rfl, rfl, hz, h, k _ H c _ p S (Ex.refl _) (.str _)⟩
def cutD {α : Type} (xs : List α) (lo hi : Option Int) : List α := (xs.drop (HT.sIx xs.length 0 lo)).take (HT.sIx xs.length xs.length hi - HT.sIx xs.length 0 lo)
theorem cut_dvs {K : PySem.W.Frag} {H : Hp} {xs : List V} {l : List Dt} (t : DVs K H xs l) (lo hi : Option Int) : DVs K H (cutV xs lo hi) (cutD l lo hi) := by
  unfold cutV cutD
  rw [t.length]
  exact (t.drop _).take _
theorem sv_lst {l : List Dt} {lo hi : Option Int} (p : P c (.lst (cutD l lo hi))) : SlV F X Γ c lo hi (.lst l) P :=
  SlV.of sl_list fun σ H x Q S h1 k => by
    cases h1 with
    | lst a t => exact ⟨_, _, rfl, .inl (.inl (of_mask a).2), fun q hq => k _ _ c _ p (S.new hq) (Kp.new (F := F) hq).hid (S.newL hq (cut_dvs t lo hi))⟩
theorem cutD_whole {α : Type} {xs : List α} {lo hi : Option Int} (h : HT.sIx xs.length 0 lo = 0 ∧ HT.sIx xs.length xs.length hi = xs.length) : cutD xs lo hi = xs := by
  unfold cutD
  rw [h.1, h.2, List.drop_zero, Nat.sub_zero, List.take_length]
theorem sv_tup {l : List Dt} {lo hi : Option Int} (p : P c (.tup (cutD l lo hi))) : SlV F X Γ c lo hi (.tup l) P :=
  SlV.of sl_tupF fun σ H x Q S h1 k => by
    cases h1 with
    | tup a t =>
      refine ⟨_, _, rfl, (a.mono (mask_ex _ _)).t, fun hw => ?_, fun hw q o hq ho => k _ _ c _ p (S.new hq) (Kp.new (F := F) hq).hid (S.newT hq ho (cut_dvs t lo hi))⟩
      rw [t.length] at hw
      rw [cutD_whole hw] at p
      exact k _ H c _ p S (Ex.refl _) (.tup a t)
theorem cv_len {d : Dt} {l : List Dt} (hs : seqD d = some l) (p : P c (.int l.length)) : ClV F X Γ c (.builtin "len") [d] P :=
  ClV.of call_len_seq fun σ H vs Q S dv k => by
    cases dv with
    | cons h1 t =>
      cases t
      obtain ⟨a, xs, rfl, hq, dv⟩ := dv_seq (h1.mono (mask_ex _ _)) hs
      exact ⟨a, xs, rfl, hq, by rw [dv.length]; exact k _ H c _ p S (Ex.refl _) (.int _)⟩
theorem cv_lenF {l : List Dt} (p : P c (.int l.length)) : ClV F X Γ c (.builtin "len") [.fzl l] P :=
  ClV.of call_len_seq fun σ H vs Q S dv k => by
    cases dv with
    | cons h1 t =>
      cases t
      cases h1 with
      | fzl a t => exact ⟨_, _, rfl, .inl (ex_l (mask_ex _ _) a), by rw [t.length]; exact k _ H c _ p S (Ex.refl _) (.int _)⟩
theorem iv_fzl {l : List Dt} {i : Int} {d : Dt} (h : atI l i = some d) (p : P c d) : IxV F X Γ c (.fzl l) (.int i) P :=
  IxV.of ix_list fun σ H x y Q S h1 h2 k => by
    cases h1 with
    | fzl a t =>
      cases h2
      obtain ⟨v, e, dv⟩ := atI_dvs t h
      exact ⟨_, _, i, v, rfl, rfl, ex_l (mask_ex _ _) a, e, k v H c d p S (Ex.refl _) dv⟩
theorem cv_lenS {z : Str} (hz : z.length ≤ sizeLine) (p : P c (.int z.length)) : ClV F X Γ c (.builtin "len") [.str z] P :=
  ClV.of call_len_str fun σ H vs Q S dv k => by
    cases dv with
    | cons h1 t => cases t; cases h1; exact ⟨z, rfl, hz, k _ H c _ p S (Ex.refl _) (.int _)⟩
theorem cv_all {bs : List Bool} (hc : X.calm = true) (p : P c (.bl (bs.all id))) : ClV F X Γ c (.builtin "all") [.lst (bs.map Dt.bl)] P :=
  ClV.of (cr_all hc) fun σ H vs Q S dv k => by
    cases dv with
    | cons h1 t =>
      cases t
      cases h1 with
      | lst a t =>
        have e := t.of_bls
        subst e
        exact ⟨_, bs, rfl, .inl (.inl (of_mask a).2), k _ H c _ p S (Ex.refl _) (.bl _)⟩
theorem cv_any {bs : List Bool} (hc : X.calm = true) (p : P c (.bl (bs.any id))) : ClV F X Γ c (.builtin "any") [.lst (bs.map Dt.bl)] P :=
  ClV.of (cr_any hc) fun σ H vs Q S dv k => by
    cases dv with
    | cons h1 t =>
      cases t
      cases h1 with
      | lst a t =>
        have e := t.of_bls
        subst e
        exact ⟨_, bs, rfl, .inl (.inl (of_mask a).2), k _ H c _ p S (Ex.refl _) (.bl _)⟩
theorem cv_max2 {i j : Int} (hc : X.calm = true) (p : P c (.int (if j > i then j else i))) : ClV F X Γ c (.builtin "max") [.int i, .int j] P :=
  ClV.of (call_max2 hc) fun σ H vs Q S dv k => by
    cases dv with
    | cons h1 t => cases t with | cons h2 t => cases t; cases h1; cases h2; exact ⟨i, j, rfl, k _ H c _ p S (Ex.refl _) (.int _)⟩
theorem cv_min2 {i j : Int} (hc : X.calm = true) (p : P c (.int (if j < i then j else i))) : ClV F X Γ c (.builtin "min") [.int i, .int j] P :=
  ClV.of (call_min2 hc) fun σ H vs Q S dv k => by
    cases dv with
    | cons h1 t => cases t with | cons h2 t => cases t; cases h1; cases h2; exact ⟨i, j, rfl, k _ H c _ p S (Ex.refl _) (.int _)⟩
theorem cv_abs {i : Int} (p : P c (.int (if i < 0 then -i else i))) : ClV F X Γ c (.builtin "abs") [.int i] P :=
  ClV.of call_abs fun σ H vs Q S dv k => by
    cases dv with
    | cons h1 t => cases t; cases h1; exact ⟨i, rfl, k _ H c _ p S (Ex.refl _) (.int _)⟩
theorem cv_tuple {d : Dt} {l : List Dt} (hs : seqD d = some l) (p : P c (.tup l)) : ClV F X Γ c (.type "tuple") [d] P :=
  ClV.of call_tupleF fun σ H vs Q S dv k => by
    cases dv with
    | cons h1 t =>
      cases t
      cases h1 with
      | lst a t => cases hs; exact ⟨_, _, rfl, .inl ⟨.inl (.inl (of_mask a).2), fun q o hq ho => k _ _ c _ p (S.new hq) (Kp.new (F := F) hq).hid (S.newT hq ho t)⟩⟩
      | tup a t => cases hs; exact ⟨_, _, rfl, .inr ⟨(a.mono (mask_ex _ _)).t, k _ H c _ p S (Ex.refl _) (.tup a t)⟩⟩
      | _ => cases hs
theorem cv_list {d : Dt} {l : List Dt} (hs : seqD d = some l) (p : P c (.lst l)) : ClV F X Γ c (.type "list") [d] P :=
  ClV.of call_list_of fun σ H vs Q S dv k => by
    cases dv with
    | cons h1 t =>
      cases t
      cases h1 with
      | lst a t => cases hs; exact ⟨_, _, rfl, .inl (.inl (.inl (of_mask a).2)), fun q hq => k _ _ c _ p (S.new hq) (Kp.new (F := F) hq).hid (S.newL hq t)⟩
      | tup a t => cases hs; exact ⟨_, _, rfl, .inr (a.mono (mask_ex _ _)).t, fun q hq => k _ _ c _ p (S.new hq) (Kp.new (F := F) hq).hid (S.newL hq t)⟩
      | _ => cases hs
def tyD : Dt → String
  | .non => "NoneType" | .bl _ => "bool" | .int _ => "int" | .str _ => "str" | .lst _ => "list" | .tup _ => "tuple" | .par _ => "tuple" | .dct _ => "dict" | .dcu _ => "" | .fzl _ => "list" | .exc _ _ _ => "" | .obj _ => "" | .lck _ _ => "" | .lcu _ _ => "" | .raw _ => ""
def noRaw : Dt → Bool
  | .dcu _ => false
  | .exc _ _ _ => false
  | .obj _ => false
  | .lck _ _ => false
  | .lcu _ _ => false
  | .raw _ => false
  | _ => true
theorem dv_ty {K : PySem.W.Frag} {H : Hp} {v : V} {d : Dt} (h : DV K H v d) (nr : noRaw d = true) : TyX K H v (.type (tyD d)) := by
  cases h with
  | non => exact .base .non
  | bl b => exact .base (.bl b)
  | int b => exact .base (.int b)
  | str b => exact .base (.str b)
  | lst h t => exact .base (.lst h)
  | tup h t =>
    rcases h.t with (h | ⟨o, h⟩) | ⟨o, its, n, h1, h2, _⟩
    · exact .base (.tup h)
    · exact .fTuple h
    · exact .kTuple h1 h2
  | par h t => exact .base (.tup h)
  | dct h t => exact .fDict h
  | dcu h t => cases nr
  | fzl h t =>
    rcases h with (h | ⟨o, h⟩) | ⟨o, its, n, h1, h2, _⟩
    · exact .base (.lst h)
    · exact .base (.frz h)
    · exact .kList h1 h2
  | exc h t => cases nr
  | obj h => cases nr
  | lck h t => cases nr
  | lcu h t => cases nr
  | raw v => cases nr
theorem cv_isi {d : Dt} {T : String} {b : Bool} (nr : noRaw d = true) (hk : kitB (tyD d) T = some b) (p : P c (.bl b)) : ClV F X Γ c (.builtin "isinstance") [d, .raw (.ty T)] P :=
  ClV.of call_isi fun σ H vs Q S dv k => by
    cases dv with
    | cons h1 t => cases t with
      | cons h2 t =>
        cases t
        cases h2
        exact ⟨_, _, _, _, b, rfl, .ty T, dv_ty (h1.mono (mask_ex _ _)) nr, kit_ty hk, k _ H c _ p S (Ex.refl _) (.bl _)⟩
/-- a built-in class by its name -/
theorem se_ty {x : Str} {T : String} (hm : X.mg x = none) (p : P c (.raw (.ty T))) (hv : bootBuiltins x = some (.type T) := by decide +kernel) (hg : Gl X x := by rfl) (hn : x ≠ "__name__" := by decide) (hdb : (x == ("__debug__" : Str)) = false := by decide) : SE F X Γ c (.Name x pos) P :=
  SE.here (pe_bltn (v := .ty T) hg hm hv rfl hn hdb) (fun _ => .raw _) p
def isStrD : Dt → Bool
  | .str _ => true
  | _ => false
def isTupD : Dt → Bool
  | .tup _ => true
  | .par _ => true
  | _ => false
theorem cv_isStr {d : Dt} (nr : noRaw d = true) (p : P c (.bl (isStrD d))) : ClV F X Γ c (.builtin "isinstance") [d, .raw (.ty "str")] P :=
  cv_isi nr (b := isStrD d) (by
    cases d with
    | non => exact (by decide +kernel : kitB "NoneType" "str" = some false)
    | bl _ => exact (by decide +kernel : kitB "bool" "str" = some false)
    | int _ => exact (by decide +kernel : kitB "int" "str" = some false)
    | str _ => exact (by decide +kernel : kitB "str" "str" = some true)
    | lst _ => exact (by decide +kernel : kitB "list" "str" = some false)
    | tup _ => exact (by decide +kernel : kitB "tuple" "str" = some false)
    | par _ => exact (by decide +kernel : kitB "tuple" "str" = some false)
    | dct _ => exact (by decide +kernel : kitB "dict" "str" = some false)
    | dcu _ => cases nr
    | fzl _ => exact (by decide +kernel : kitB "list" "str" = some false)
    | exc _ _ _ => cases nr
    | obj _ => cases nr
    | lck _ _ => cases nr
    | lcu _ _ => cases nr
    | raw _ => cases nr) p
theorem cv_isTup {d : Dt} (nr : noRaw d = true) (p : P c (.bl (isTupD d))) : ClV F X Γ c (.builtin "isinstance") [d, .raw (.ty "tuple")] P :=
  cv_isi nr (b := isTupD d) (by
    cases d with
    | non => exact (by decide +kernel : kitB "NoneType" "tuple" = some false)
    | bl _ => exact (by decide +kernel : kitB "bool" "tuple" = some false)
    | int _ => exact (by decide +kernel : kitB "int" "tuple" = some false)
    | str _ => exact (by decide +kernel : kitB "str" "tuple" = some false)
    | lst _ => exact (by decide +kernel : kitB "list" "tuple" = some false)
    | tup _ => exact (by decide +kernel : kitB "tuple" "tuple" = some true)
    | par _ => exact (by decide +kernel : kitB "tuple" "tuple" = some true)
    | dct _ => exact (by decide +kernel : kitB "dict" "tuple" = some false)
    | dcu _ => cases nr
    | fzl _ => exact (by decide +kernel : kitB "list" "tuple" = some false)
    | exc _ _ _ => cases nr
    | obj _ => cases nr
    | lck _ _ => cases nr
    | lcu _ _ => cases nr
    | raw _ => cases nr) p
def isIntD : Dt → Bool
  | .int _ => true
  | .bl _ => true
  | _ => false
def isBoolD : Dt → Bool
  | .bl _ => true
  | _ => false
theorem cv_isInt {d : Dt} (nr : noRaw d = true) (p : P c (.bl (isIntD d))) : ClV F X Γ c (.builtin "isinstance") [d, .raw (.ty "int")] P :=
  cv_isi nr (b := isIntD d) (by
    cases d with
    | non => exact (by decide +kernel : kitB "NoneType" "int" = some false)
    | bl _ => exact (by decide +kernel : kitB "bool" "int" = some true)
    | int _ => exact (by decide +kernel : kitB "int" "int" = some true)
    | str _ => exact (by decide +kernel : kitB "str" "int" = some false)
    | lst _ => exact (by decide +kernel : kitB "list" "int" = some false)
    | tup _ => exact (by decide +kernel : kitB "tuple" "int" = some false)
    | par _ => exact (by decide +kernel : kitB "tuple" "int" = some false)
    | dct _ => exact (by decide +kernel : kitB "dict" "int" = some false)
    | dcu _ => cases nr
    | fzl _ => exact (by decide +kernel : kitB "list" "int" = some false)
    | exc _ _ _ => cases nr
    | obj _ => cases nr
    | lck _ _ => cases nr
    | lcu _ _ => cases nr
    | raw _ => cases nr) p
theorem cv_isBool {d : Dt} (nr : noRaw d = true) (p : P c (.bl (isBoolD d))) : ClV F X Γ c (.builtin "isinstance") [d, .raw (.ty "bool")] P :=
  cv_isi nr (b := isBoolD d) (by
    cases d with
    | non => exact (by decide +kernel : kitB "NoneType" "bool" = some false)
    | bl _ => exact (by decide +kernel : kitB "bool" "bool" = some true)
    | int _ => exact (by decide +kernel : kitB "int" "bool" = some false)
    | str _ => exact (by decide +kernel : kitB "str" "bool" = some false)
    | lst _ => exact (by decide +kernel : kitB "list" "bool" = some false)
    | tup _ => exact (by decide +kernel : kitB "tuple" "bool" = some false)
    | par _ => exact (by decide +kernel : kitB "tuple" "bool" = some false)
    | dct _ => exact (by decide +kernel : kitB "dict" "bool" = some false)
    | dcu _ => cases nr
    | fzl _ => exact (by decide +kernel : kitB "list" "bool" = some false)
    | exc _ _ _ => cases nr
    | obj _ => cases nr
    | lck _ _ => cases nr
    | lcu _ _ => cases nr
    | raw _ => cases nr) p
theorem se_join {o e : Expr} {apos : Pos} (h : SE F X Γ c o fun c1 d => ∃ a, d = .str a ∧ SE F X Γ c1 e fun c2 d2 => ∃ ys : List Str, seqD d2 = some (ys.map Dt.str) ∧ (ys.map (·.length)).sum + ys.length * a.length ≤ 16777216 ∧ P c2 (.str (Txt.join a ys)))
    (hs : starEach [e] X.env = [(false, eval e X.env)] := by rfl) (hb : attributeBase o "join" X.env (eval o X.env) = eval o X.env := by rfl) (hl : (apos.endLine == pos.line) = true := by rfl) : SE F X Γ c (.Call (.Attribute o "join" apos) [e] [] pos) P :=
  SE.of (pe_join pE pE hs hb hl) fun σ H Q S k => by
    refine h σ H _ S fun v H1 c1 d1 p S1 k1 dv1 => ?_
    obtain ⟨a, rfl, p⟩ := p
    cases dv1
    refine ⟨⟨a, rfl⟩, p σ H1 _ S1 fun w H2 c2 d2 p2 S2 k2 dv2 => ?_⟩
    obtain ⟨ys, e, hz, p2⟩ := p2
    obtain ⟨q, xs, rfl, hq, dv⟩ := dv_seq (dv2.mono (mask_ex _ _)) e
    have e2 := dv.of_strs
    subst e2
    exact ⟨a, q, ys, rfl, rfl, hq, hz, k _ H2 c2 _ p2 S2 (k1.trans k2) (.str _)⟩
end
end D
end
section
set_option Elab.async false
set_option linter.all false
set_option maxRecDepth 100000
namespace D
open PySem L2
structure PEnds where
  nx : List Sl → Cells → Prop
  rt : List Sl → Cells → Dt → Prop
  bk : List Sl → Cells → Prop := fun _ _ => False
  ct : List Sl → Cells → Prop := fun _ _ => False
structure EO (K : PySem.W.Frag) (F : Fm) (c : Cells) (H : Hp) (Φ : PEnds) (D : Ends) : Prop where
  nx : ∀ Γ' c' σ' H', Φ.nx Γ' c' → SI K F Γ' c' σ' H' → Ex (Vw F c H) (Vw F c' H') → D.nx σ' H'
  rt : ∀ Γ' c' σ' H' v d, Φ.rt Γ' c' d → SI K F Γ' c' σ' H' → Ex (Vw F c H) (Vw F c' H') → DV K (Vw F c' H') v d → D.rt v H'
  bk : ∀ Γ' c' σ' H', Φ.bk Γ' c' → SI K F Γ' c' σ' H' → Ex (Vw F c H) (Vw F c' H') → D.bk σ' H'
  ct : ∀ Γ' c' σ' H', Φ.ct Γ' c' → SI K F Γ' c' σ' H' → Ex (Vw F c H) (Vw F c' H') → D.ct σ' H'
theorem EO.ext {K : PySem.W.Frag} {F : Fm} {c c1 : Cells} {H H1 : Hp} {Φ : PEnds} {D : Ends} (E : EO K F c H Φ D) (e : Ex (Vw F c H) (Vw F c1 H1)) : EO K F c1 H1 Φ D :=
  ⟨fun Γ' c' σ' H' p S k => E.nx Γ' c' σ' H' p S (e.trans k), fun Γ' c' σ' H' v d p S k => E.rt Γ' c' σ' H' v d p S (e.trans k), fun Γ' c' σ' H' p S k => E.bk Γ' c' σ' H' p S (e.trans k), fun Γ' c' σ' H' p S k => E.ct Γ' c' σ' H' p S (e.trans k)⟩
structure SS (F : Fm) (X : Cx) (Γ : List Sl) (c : Cells) (ss : List Stmt) (Φ : PEnds) : Prop where
  run : ∀ (σ : L2.St) (H : Hp) (D : Ends), SI X.K F Γ c σ H → EO X.K F c H Φ D → tSts X ss D σ H
instance {F : Fm} {X : Cx} {Γ : List Sl} {c : Cells} {ss : List Stmt} {Φ : PEnds} : CoeFun (SS F X Γ c ss Φ) fun _ => ∀ (σ : L2.St) (H : Hp) (D : Ends), SI X.K F Γ c σ H → EO X.K F c H Φ D → tSts X ss D σ H := ⟨SS.run⟩
structure S1 (F : Fm) (X : Cx) (Γ : List Sl) (c : Cells) (st : Stmt) (Φ : PEnds) : Prop where
  run : ∀ (σ : L2.St) (H : Hp) (D : Ends), SI X.K F Γ c σ H → EO X.K F c H Φ D → tSt X st D σ H
instance {F : Fm} {X : Cx} {Γ : List Sl} {c : Cells} {st : Stmt} {Φ : PEnds} : CoeFun (S1 F X Γ c st Φ) fun _ => ∀ (σ : L2.St) (H : Hp) (D : Ends), SI X.K F Γ c σ H → EO X.K F c H Φ D → tSt X st D σ H := ⟨S1.run⟩
end D
end
section
set_option Elab.async false
set_option linter.all false
set_option maxRecDepth 100000
namespace D
open PySem L2
section
variable {F : Fm} {X : Cx} {Γ : List Sl} {c : Cells} {Φ : PEnds} {pos : Pos}
theorem ss_nil (p : Φ.nx Γ c) : SS F X Γ c [] Φ := .mk fun σ H D S E => tSts_of pss_nil (E.nx Γ c σ H p S (Ex.refl _))
theorem ss_cons {s : Stmt} {rest : List Stmt} (h : S1 F X Γ c s { Φ with nx := fun Γ1 c1 => SS F X Γ1 c1 rest Φ }) : SS F X Γ c (s :: rest) Φ := .mk fun σ H D S E =>
  tSts_of (pss_cons pSt pSts) (h σ H { D with nx := tSts X rest D } S ⟨fun Γ1 c1 σ1 H1 q S1 e => q σ1 H1 D S1 (E.ext e), E.rt, E.bk, E.ct⟩)
theorem ss_one {s : Stmt} (h : S1 F X Γ c s Φ) : SS F X Γ c [s] Φ := .mk fun σ H D S E => tSts_of (pss_one pSt) (h σ H D S E)
theorem S1.of {s : Stmt} {t : TS} (hp : PS X s t) (h : ∀ (σ : L2.St) (H : Hp) (D : Ends), SI X.K F Γ c σ H → EO X.K F c H Φ D → t D σ H) : S1 F X Γ c s Φ := .mk fun σ H D S E => tSt_of hp (h σ H D S E)
theorem s_ret {e : Expr} (h : SE F X Γ c e (Φ.rt Γ)) : S1 F X Γ c (.Return (some e) pos) Φ :=
  S1.of (ps_ret pE) fun σ H D S E => h σ H _ S fun v H' c' d p S' e' dv => E.rt Γ c' σ H' v d p S' e' dv
theorem s_if {t : Expr} {a b : List Stmt} (h : ST F X Γ c t fun c1 k => if k = true then SS F X Γ c1 a Φ else SS F X Γ c1 b Φ) : S1 F X Γ c (.If t a b pos) Φ :=
  S1.of (ps_if pT pSts pSts) fun σ H D S E => h σ H _ S fun k H1 c1 p S1 e => by
    cases k with
    | true => exact (show SS F X Γ c1 a Φ from p) σ H1 D S1 (E.ext e)
    | false => exact (show SS F X Γ c1 b Φ from p) σ H1 D S1 (E.ext e)
theorem s_expr {e : Expr} (h : SE F X Γ c e fun c1 _ => Φ.nx Γ c1) (hs : swapsWith e none pos.line X.env = pure false := by rfl) : S1 F X Γ c (.Expr e pos) Φ :=
  S1.of (ps_expr pE hs) fun σ H D S E => h σ H _ S fun v H' c' d p S' e' dv => E.nx Γ c' σ H' p S' e'
def tGt (X : Cx) (tg : Expr) : TG := fun v σ H Q => ∃ g, PG X tg g ∧ g v σ H Q
theorem pGt {tg : Expr} : PG X tg (tGt X tg) := ⟨fun pins s σ H v u Q I r ⟨g, h, q⟩ => h.run pins s σ H v u Q I r q⟩
def tGts (X : Cx) (tgs : List Expr) : TGs := fun vs σ H Q => ∃ g, PGs X tgs g ∧ g vs σ H Q
theorem pGts {tgs : List Expr} : PGs X tgs (tGts X tgs) := ⟨fun pins s σ H v u Q I r ⟨g, h, q⟩ => h.run pins s σ H v u Q I r q⟩
structure SG (F : Fm) (X : Cx) (Γ : List Sl) (c : Cells) (tg : Expr) (d : Dt) (N : List Sl → Prop) : Prop where
  run : ∀ (σ : L2.St) (H : Hp) (v : V) (Q : L2.St → Hp → Prop), SI X.K F Γ c σ H → DV X.K (Vw F c H) v d → (∀ Γ' σ', N Γ' → SI X.K F Γ' c σ' H → Q σ' H) → tGt X tg v σ H Q
instance {F : Fm} {X : Cx} {Γ : List Sl} {c : Cells} {tg : Expr} {d : Dt} {N : List Sl → Prop} : CoeFun (SG F X Γ c tg d N) fun _ => ∀ (σ : L2.St) (H : Hp) (v : V) (Q : L2.St → Hp → Prop), SI X.K F Γ c σ H → DV X.K (Vw F c H) v d → (∀ Γ' σ', N Γ' → SI X.K F Γ' c σ' H → Q σ' H) → tGt X tg v σ H Q := ⟨SG.run⟩
structure SGs (F : Fm) (X : Cx) (Γ : List Sl) (c : Cells) (tgs : List Expr) (ds : List Dt) (N : List Sl → Prop) : Prop where
  run : ∀ (σ : L2.St) (H : Hp) (vs : List V) (Q : L2.St → Hp → Prop), SI X.K F Γ c σ H → DVs X.K (Vw F c H) vs ds → (∀ Γ' σ', N Γ' → SI X.K F Γ' c σ' H → Q σ' H) → tGts X tgs vs σ H Q
instance {F : Fm} {X : Cx} {Γ : List Sl} {c : Cells} {tgs : List Expr} {ds : List Dt} {N : List Sl → Prop} : CoeFun (SGs F X Γ c tgs ds N) fun _ => ∀ (σ : L2.St) (H : Hp) (vs : List V) (Q : L2.St → Hp → Prop), SI X.K F Γ c σ H → DVs X.K (Vw F c H) vs ds → (∀ Γ' σ', N Γ' → SI X.K F Γ' c σ' H → Q σ' H) → tGts X tgs vs σ H Q := ⟨SGs.run⟩
theorem sg_name (i : Nat) {x : Str} {d : Dt} {N : List Sl → Prop} (hN : X.N.Nodup) (p : N (Γ.set i (.dat d))) (hi : X.N[i]? = some x := by rfl) (hx : Loc X.env.scope x := by first | exact Or.inl rfl | exact Or.inr rfl)
    (hf : X.fn x = true ∨ X.env.scope.names.lookup x = some .local := by first | exact .inl rfl | exact .inr rfl) : SG F X Γ c (.Name x pos) d N :=
  .mk fun σ H v Q S dv k => ⟨gName i, pg_name hN hi hx hf, k _ _ p (S.setD dv)⟩
theorem sgs_nil {N : List Sl → Prop} (p : N Γ) : SGs F X Γ c [] [] N := .mk fun σ H vs Q S dv k => by cases dv; exact ⟨gNil, pgs_nil, rfl, k Γ σ p S⟩
theorem sgs_cons {t : Expr} {ts : List Expr} {d : Dt} {ds : List Dt} {N : List Sl → Prop} (h : SG F X Γ c t d fun Γ1 => SGs F X Γ1 c ts ds N)
    (hs : (assignEach (t :: ts) X.env).map (·.2) = assign t X.env :: (assignEach ts X.env).map (·.2) := by rfl) : SGs F X Γ c (t :: ts) (d :: ds) N := .mk fun σ H vs Q S dv k => by
  cases dv with
  | cons h1 t1 =>
    refine ⟨gCons (tGt X t) (tGts X ts), pgs_cons pGt pGts hs, _, _, rfl, ?_⟩
    exact h σ H _ _ S h1 fun Γ1 σ1 p S1 => p σ1 H _ Q S1 t1 fun Γ2 σ2 p2 S2 => k Γ2 σ2 p2 S2
theorem sg_tup {es : List Expr} {kk : Nat} {ds : List Dt} {N : List Sl → Prop} (hc : X.calm = true) (h : SGs F X Γ c es ds N) (hn : (assignEach es X.env).length = ds.length := by rfl) (hst : (assignEach es X.env).findIdx? (·.1) = none := by rfl) : SG F X Γ c (.Tuple es kk pos) (.tup ds) N := .mk fun σ H v Q S dv k => by
  cases dv with
  | tup a t => exact ⟨_, pg_tup (n := ds.length) hc pGts hn hst, _, _, rfl, (a.mono (mask_ex _ _)).t, t.length, h σ H _ Q S t k⟩
theorem sg_par {es : List Expr} {kk : Nat} {ds : List Dt} {N : List Sl → Prop} (hc : X.calm = true) (h : SGs F X Γ c es ds N) (hn : (assignEach es X.env).length = ds.length := by rfl) (hst : (assignEach es X.env).findIdx? (·.1) = none := by rfl) : SG F X Γ c (.Tuple es kk pos) (.par ds) N := .mk fun σ H v Q S dv k => by
  cases dv with
  | par a t => exact ⟨_, pg_tup (n := ds.length) hc pGts hn hst, _, _, rfl, .inl (.inl (mask_ex _ _ _ _ a)), t.length, h σ H _ Q S t k⟩
theorem s_asg {tg e : Expr} (h : SE F X Γ c e fun c1 d => SG F X Γ c1 tg d fun Γ' => Φ.nx Γ' c1) (hs : swapsWithSole [tg] e pos.line X.env = pure false := by rfl) (hw : swappedStores [tg] e X.env = pure none := by rfl)
    (h1 : (assignEach [tg] X.env).map (·.2) = [assign tg X.env] := by rfl) : S1 F X Γ c (.Assign [tg] e pos) Φ :=
  S1.of (ps_asg pE pGt hs hw h1) fun σ H D S E => h σ H _ S fun v H' c' d p S' e' dv => p σ H' v _ S' dv fun Γ2 σ2 p2 S2 => E.nx Γ2 c' σ2 H' p2 S2 e'
/-- a, b = e1, e2, both names plain locals -/
theorem s_par (i j : Nat) {x y : Str} {a b : Expr} {px py pt : Pos} {kt k2 pt2} (hc : X.calm = true) (hN : X.N.Nodup) (hij : i ≠ j) (h : SA F X Γ c [a, b] fun c1 ds => ∃ d1 d2, ds = [d1, d2] ∧ Φ.nx ((Γ.set i (.dat d1)).set j (.dat d2)) c1)
    (hi : X.N[i]? = some x := by rfl) (hj : X.N[j]? = some y := by rfl) (hx : X.env.scope.names.lookup x = some .local := by rfl) (hy : X.env.scope.names.lookup y = some .local := by rfl)
    (hw : swappedStores [.Tuple [.Name x px, .Name y py] kt pt] (.Tuple [a, b] k2 pt2) X.env = pure (some [x, y]) := by rfl) (hs : swapsWithSole [.Tuple [.Name x px, .Name y py] kt pt] (.Tuple [a, b] k2 pt2) pos.line X.env = pure false := by rfl) :
    S1 F X Γ c (.Assign [.Tuple [.Name x px, .Name y py] kt pt] (.Tuple [a, b] k2 pt2) pos) Φ :=
  S1.of (ps_par hc hN hi hj hij hx hy pAs hw hs) fun σ H D S E => h σ H _ S fun vs H' c' ds p S' e' dv => by
    obtain ⟨d1, d2, rfl, p⟩ := p
    cases dv with
    | cons h1 t => cases t with
      | cons h2 t =>
        cases t
        exact ⟨_, _, rfl, E.nx _ c' _ H' p ((S'.setD h1).setD h2) e'⟩
structure SEL (F : Fm) (X : Cx) (Γ : List Sl) (c : Cells) (e : Expr) (P : Cells → List Dt → Prop) : Prop where
  run : ∀ (σ : L2.St) (H : Hp) (Q : VK), SI X.K F Γ c σ H → (∀ p xs H1 c' l, P c' l → SI X.K F Γ c' σ H1 → Ex (Vw F c H) (Vw F c' H1) → H1 p = none → DVs X.K (Vw F c' H1) xs l → Q (.ref p) (upd H1 p (.lst xs))) → tE X e σ H Q
instance {F : Fm} {X : Cx} {Γ : List Sl} {c : Cells} {e : Expr} {P : Cells → List Dt → Prop} : CoeFun (SEL F X Γ c e P) fun _ => ∀ (σ : L2.St) (H : Hp) (Q : VK), SI X.K F Γ c σ H → (∀ p xs H1 c' l, P c' l → SI X.K F Γ c' σ H1 → Ex (Vw F c H) (Vw F c' H1) → H1 p = none → DVs X.K (Vw F c' H1) xs l → Q (.ref p) (upd H1 p (.lst xs))) → tE X e σ H Q := ⟨SEL.run⟩
theorem SEL.se {e : Expr} {P : Cells → Dt → Prop} (h : SEL F X Γ c e fun c1 l => P c1 (.lst l)) : SE F X Γ c e P := .mk fun σ H Q S k =>
  h σ H Q S fun p xs H1 c' l q S1 e1 hp dv => k _ _ c' _ q (S1.new hp) (e1.trans (Kp.new (F := F) hp).hid) (S1.newL hp dv)
theorem sel_lst {es : List Expr} {P : Cells → List Dt → Prop} (h : SA F X Γ c es fun c1 ds => ds.length ≤ sizeLine ∧ P c1 ds) : SEL F X Γ c (.List es pos) P := .mk fun σ H Q S k =>
  tE_of (pe_lst pAs) (h σ H _ S fun vs H1 c1 ds p S1 k1 dv => ⟨by rw [dv.length]; exact p.1, fun q hq => k q vs H1 c1 ds p.2 S1 k1 hq dv⟩)
theorem sel_list {x : Str} {p : Pos} {e : Expr} {P : Cells → List Dt → Prop} (hm : X.mg x = none) (h : SE F X Γ c e fun c1 d => ∃ l, seqD d = some l ∧ P c1 l) (hv : bootBuiltins x = some (.type "list") := by decide +kernel) (hg : Gl X x := by rfl) (hn : x ≠ "__name__" := by decide) (hdb : (x == ("__debug__" : Str)) = false := by decide)
    (he : starEach [e] X.env = (false, eval e X.env) :: starEach [] X.env := by rfl) (hpl : (backTo pos (starEach [] X.env)).any (·.1) = false := by rfl) : SEL F X Γ c (.Call (.Name x p) [e] [] pos) P := .mk fun σ H Q S k => by
  refine tE_of (pe_callTy call_list_of hg hm hv (pa_cons pE pa_nil he) hn hdb he hpl) ?_
  refine h σ H _ S fun v H1 c1 d1 p S1 k1 dv1 => ?_
  obtain ⟨l, hs, p⟩ := p
  cases dv1 with
  | lst a t => cases hs; exact ⟨_, _, rfl, .inl (.inl (.inl (of_mask a).2)), fun q hq => k q _ H1 c1 _ p S1 k1 hq t⟩
  | tup a t => cases hs; exact ⟨_, _, rfl, .inr (a.mono (mask_ex _ _)).t, fun q hq => k q _ H1 c1 _ p S1 k1 hq t⟩
  | _ => cases hs
/-- a new list as a cell of one's own -/
theorem SEL.sc {e : Expr} {P : Cells → Dt → Prop} (h : SEL F X Γ c e fun c1 l => ∀ a, P (c1 ++ [(a, .lst l)]) (.raw (.ref a))) : SE F X Γ c e P := .mk fun σ H Q S k =>
  h σ H Q S fun p xs H1 c' l q S1 e1 hp dv => by
    obtain ⟨S2, e2⟩ := S1.addC (q := .lst l) (o := .lst xs) hp rfl ⟨xs, upd_same, dv⟩
    exact k _ _ _ _ (q p) S2 (e1.trans e2) (.raw _)
/-- the cell j, a list, is a datum from now on, which the slot i holds -/
theorem SI.frL {K : PySem.W.Frag} {σ : L2.St} {H : Hp} (S : SI K F Γ c σ H) (i j : Nat) {a : Addr} {l : List Dt} (hi : Γ[i]? = some (.dat (.raw (.ref a)))) (hj : c[j]? = some (a, .lst l)) : SI K F (Γ.set i (.dat (.lst l))) (c.eraseIdx j) σ H ∧ Ex (Vw F c H) (Vw F (c.eraseIdx j) H) := by
  obtain ⟨xs, h1, h2⟩ := S.cat hj
  obtain ⟨S2, e2, ha⟩ := S.letGo (H' := H) hj (fun _ _ => rfl) fun x hx => by cases List.mem_singleton.mp hx; exact ⟨_, h1, fun _ z => nomatch z⟩
  have hv := ha a (List.mem_cons_self ..)
  obtain ⟨v, s1, s2⟩ := S.sl i _ hi
  have ev : v = .ref a := by cases s2; rfl
  subst ev
  have es : σ.set i (some (.ref a)) = σ := by
    refine List.ext_getElem? fun k => ?_
    by_cases hik : i = k
    · subst hik
      rw [List.getElem?_set_self (List.getElem?_eq_some_iff.mp s1).1, s1]
    · rw [List.getElem?_set_ne hik]
  have q := S2.setD (i := i) (v := .ref a) (d := .lst l) (.lst (hv.trans h1) (h2.mono e2))
  rw [es] at q
  exact ⟨q, e2⟩
theorem ss_freeze (i j : Nat) {a : Addr} {l : List Dt} {ss : List Stmt} (hi : Γ[i]? = some (.dat (.raw (.ref a)))) (hj : c[j]? = some (a, .lst l)) (h : SS F X (Γ.set i (.dat (.lst l))) (c.eraseIdx j) ss Φ) : SS F X Γ c ss Φ := .mk fun σ H D S E => by
  obtain ⟨S2, e2⟩ := S.frL i j hi hj
  exact h σ H D S2 (E.ext e2)
/-- other cells, of which the present ones are an order -/
theorem ss_perm {c' : Cells} {ss : List Stmt} (hp : c.Perm c') (h : SS F X Γ c' ss Φ) : SS F X Γ c ss Φ := .mk fun σ H D S E => h σ H D (S.perm hp) (E.ext (by rw [vw_perm hp]; exact Ex.refl _))
/-- methods of a list of one's own: o.append(e) -/
theorem se_append (j : Nat) {a : Addr} {l : List Dt} {o e : Expr} {apos : Pos} {P : Cells → Dt → Prop} (h : SE F X Γ c o fun c0 d0 => d0 = .raw (.ref a) ∧ (∃ l0, c0[j]? = some (a, .lst l0)) ∧ SE F X Γ c0 e fun c1 d => c1[j]? = some (a, .lst l) ∧ l.length < sizeLine ∧ P (c1.set j (a, .lst (l ++ [d]))) .non)
    (hb : attributeBase o "append" X.env (eval o X.env) = eval o X.env := by rfl)
    (hall : (((backTo pos (starEach [e] X.env)).all (fun x => !x.1)) && ((backToKw pos (keywordEach [] X.env)).all (fun x => x.1.isSome)) && decide ([e].length + ([] : List Keyword).length + (if ([] : List Keyword).isEmpty = true then 0 else 1) < 30)) = true := by rfl)
    (hline : (apos.endLine == pos.line) = true := by rfl) (hst : starEach [e] X.env = (false, eval e X.env) :: starEach [] X.env := by rfl) (hpl : (backTo pos (starEach [] X.env)).any (·.1) = false := by rfl) : SE F X Γ c (.Call (.Attribute o "append" apos) [e] [] pos) P :=
  SE.of (pe_bm PySem.F.plainAttrs_list PySem.F.slot_list_append PySem.F.type_list_append mt_append pE (pa_cons pE pa_nil hst) hb hall hline hst hpl) fun σ H Q S k => by
    refine h σ H _ S fun v0 H0 c0 d0 p0 S0 e0 dv0 => ?_
    obtain ⟨rfl, ⟨l0, hj0⟩, p0⟩ := p0
    cases dv0
    obtain ⟨xs, h1, _⟩ := S0.cat hj0
    refine ⟨Or.inl ⟨rfl, xs, .inl (.inl h1)⟩, p0 σ H0 _ S0 fun v H' c' d p S' e' dv => ?_⟩
    obtain ⟨hj, hz, p⟩ := p
    obtain ⟨ys, h2, h3⟩ := S'.cat hj
    obtain ⟨S2, e2⟩ := S'.updC (q' := .lst (l ++ [d])) (o := .lst (ys ++ [v])) hj rfl rfl ⟨_, upd_same, h3.append (.cons dv .nil)⟩
    exact ⟨a, ys, v, rfl, rfl, h2, by rw [h3.length]; exact hz, k _ _ _ _ p S2 ((e0.trans e').trans e2) .non⟩
end
end D
end
section
set_option Elab.async false
set_option linter.all false
set_option maxRecDepth 100000
namespace D
open PySem L2
def wI (X : Cx) (tg iter : Expr) : TI := fun σ H R => ∃ w, PI X tg iter w ∧ w σ H R
theorem pI {X : Cx} {tg iter : Expr} : PI X tg iter (wI X tg iter) := ⟨fun pins s σ H R I ⟨w, h, q⟩ => h.run pins s σ H R I q⟩
/-- the i-th item: there already, or a pair that is new -/
def Item (K : PySem.W.Frag) (V0 : Hp) (H1 : Hp) (x : V) (H2 : Hp) (d : Dt) : Prop :=
  (H2 = H1 ∧ DV K V0 x d) ∨ ∃ T x1 x2 d1 d2, x = .ref T ∧ H1 T = none ∧ H2 = upd H1 T (.tup [x1, x2]) ∧ d = .par [d1, d2] ∧ DV K V0 x1 d1 ∧ DV K V0 x2 d2
def Src (K : PySem.W.Frag) (V0 : Hp) (J : It) (ds : List Dt) : Prop :=
  ∃ (G : Hp → Prop) (Y : Nat → Hp → V → Hp → Prop), Walk J ds.length G Y ∧ (∀ H, Ex V0 H → G H) ∧ ∀ i H1 x H2, i < ds.length → Y i H1 x H2 → Ex V0 H1 → ∃ d, ds[i]? = some d ∧ Item K V0 H1 x H2 d
structure SW (F : Fm) (X : Cx) (Γ : List Sl) (c : Cells) (tg iter : Expr) (P : Cells → List Dt → Prop) : Prop where
  run : ∀ (σ : L2.St) (H : Hp) (R : It → Hp → Prop), SI X.K F Γ c σ H → (∀ J H' c' ds, P c' ds → SI X.K F Γ c' σ H' → Ex (Vw F c H) (Vw F c' H') → Src X.K (Vw F c' H') J ds → R J H') → wI X tg iter σ H R
instance {F : Fm} {X : Cx} {Γ : List Sl} {c : Cells} {tg iter : Expr} {P : Cells → List Dt → Prop} : CoeFun (SW F X Γ c tg iter P) fun _ => ∀ (σ : L2.St) (H : Hp) (R : It → Hp → Prop), SI X.K F Γ c σ H → (∀ J H' c' ds, P c' ds → SI X.K F Γ c' σ H' → Ex (Vw F c H) (Vw F c' H') → Src X.K (Vw F c' H') J ds → R J H') → wI X tg iter σ H R := ⟨SW.run⟩
/-- the signs of a text -/
def signs (z : Str) : List Dt := z.cps.toList.map fun a => Dt.str ⟨#[a]⟩
def idxs (n : Nat) : List Dt := (List.range n).map fun (i : Nat) => Dt.int (i : Int)
def enumD (l : List Dt) : List Dt := (List.range l.length).map fun (i : Nat) => Dt.par [.int (i : Int), l.getD i .non]
def zipD (l m : List Dt) : List Dt := (l.zip m).map fun p => Dt.par [p.1, p.2]
section
variable {F : Fm} {X : Cx} {Γ : List Sl} {c : Cells} {Φ : PEnds} {pos : Pos} {tg : Expr} {P : Cells → List Dt → Prop} {K : PySem.W.Frag}
theorem src_at {V0 : Hp} {J : It} {xs : List V} {l : List Dt} {G : Hp → Prop} (w : Walk J xs.length G (YAt xs)) (hG : ∀ H, Ex V0 H → G H) (t : DVs K V0 xs l) : Src K V0 J l :=
  ⟨G, YAt xs, t.length ▸ w, hG, fun i H1 x H2 hi y _ => by
    obtain ⟨d, h1, h2⟩ := t.getV y.2
    exact ⟨d, h1, .inl ⟨y.1, h2⟩⟩⟩
theorem sw_lst {e : Expr} (h : SE F X Γ c e fun c1 d => ∃ l, d = .lst l ∧ P c1 l) : SW F X Γ c tg e P := .mk fun σ H R S k =>
  ⟨_, pi_list pE, h σ H _ S fun v H1 c1 d p S1 k1 dv => by
    obtain ⟨l, rfl, p⟩ := p
    cases dv with
    | lst a t => exact ⟨_, rfl, ⟨_, .inl (.inl (of_mask a).2)⟩, k _ H1 c1 l p S1 k1 (src_at walk_list (fun H e => .inl (.inl (e _ _ a))) t)⟩⟩
theorem src_str {V0 : Hp} {z : Str} : Src K V0 (Its z) (signs z) := by
  have hl : (signs z).length = z.cps.size := by unfold signs; rw [List.length_map, Array.length_toList]
  refine ⟨_, _, hl.symm ▸ walk_str, fun _ _ => True.intro, fun i H1 x H2 hi y _ => ?_⟩
  obtain ⟨h1, a, h2, rfl⟩ := y
  refine ⟨.str ⟨#[a]⟩, ?_, .inl ⟨h1, .str _⟩⟩
  unfold signs
  rw [List.getElem?_map, Array.getElem?_toList, h2]
  rfl
theorem src_range {V0 : Hp} {n : Nat} : Src K V0 (Itr 0 n) (idxs n) := by
  have hl : (idxs n).length = n := by unfold idxs; rw [List.length_map, List.length_range]
  refine ⟨fun _ => True, YFn fun i => .int (0 + (i : Nat)), by rw [hl]; exact walk_range, fun _ _ => True.intro, fun i H1 x H2 hi y _ => ?_⟩
  obtain ⟨h1, h2⟩ := y
  rw [hl] at hi
  refine ⟨.int (i : Int), ?_, .inl ⟨h1, ?_⟩⟩
  · unfold idxs
    rw [List.getElem?_map, List.getElem?_range hi]
    rfl
  · rw [h2]
    show DV K V0 (V.int (0 + (i : Int))) _
    rw [Int.zero_add]
    exact .int _
theorem sw_range {e : Expr} {p : Pos} (hm : X.mg "range" = none) (h : SE F X Γ c e fun c1 d => ∃ j : Int, d = .int j ∧ -(2 ^ 62) ≤ j ∧ j < 2 ^ 62 ∧ P c1 (idxs j.toNat)) (hg : Gl X "range" := by rfl) (hs : starEach [e] X.env = [(false, eval e X.env)] := by rfl) : SW F X Γ c tg (.Call (.Name "range" p) [e] [] pos) P := .mk fun σ H R S k =>
  ⟨_, pi_range1 hg hm (pa_cons pE pa_nil hs) hs, h σ H _ S fun v H1 c1 d p S1 k1 dv => by
    obtain ⟨j, rfl, a, b, p⟩ := p
    cases dv
    exact ⟨j, rfl, a, b, k _ H1 c1 _ p S1 k1 src_range⟩⟩
theorem src_enum {V0 : Hp} {a : Addr} {xs : List V} {l : List Dt} (h : V0 a = some (.lst xs)) (t : DVs K V0 xs l) : Src K V0 (Ite K a) (enumD l) := by
  have hl : (enumD l).length = xs.length := by unfold enumD; rw [List.length_map, List.length_range, t.length]
  refine ⟨_, _, hl.symm ▸ walk_enum (K := K) (a := a) (xs := xs), fun H e => .inl (.inl (e _ _ h)), fun i H1 x H2 hi y _ => ?_⟩
  obtain ⟨T, x1, x2, h1, h2, h3, h4, h5⟩ := y
  rw [hl] at hi
  obtain ⟨d, h6, h7⟩ := t.getV h5
  cases h4
  refine ⟨.par [.int (i : Int), d], ?_, .inr ⟨T, _, x2, .int (i : Int), d, h1, h2, h3, rfl, .int _, h7⟩⟩
  unfold enumD
  rw [List.getElem?_map, List.getElem?_range (by rw [← t.length]; exact hi)]
  show some (Dt.par [.int (i : Int), l.getD i .non]) = _
  rw [List.getD_eq_getElem?_getD, h6]
  rfl
theorem sw_enum {e : Expr} {p : Pos} {elts : List Expr} {kk : Nat} {tpos : Pos} (hm : X.mg "enumerate" = none) (h : SE F X Γ c e fun c1 d => ∃ l, d = .lst l ∧ P c1 (enumD l)) (hg : Gl X "enumerate" := by rfl) (hs : starEach [e] X.env = [(false, eval e X.env)] := by rfl) : SW F X Γ c (.Tuple elts kk tpos) (.Call (.Name "enumerate" p) [e] [] pos) P := .mk fun σ H R S k =>
  ⟨_, pi_enum hg hm (pa_cons pE pa_nil hs) hs, h σ H _ S fun v H1 c1 d p S1 k1 dv => by
    obtain ⟨l, rfl, p⟩ := p
    cases dv with
    | lst a t => exact ⟨_, _, rfl, .inl (.inl (of_mask a).2), k _ H1 c1 _ p S1 k1 (src_enum a t)⟩⟩
theorem Item.dv {F : Fm} {Γ1 : List Sl} {c c1 : Cells} {σ : L2.St} {H H1 H2 : Hp} {x : V} {d : Dt} (it : Item K (Vw F c H) H1 x H2 d) (S : SI K F Γ1 c1 σ H1) (e : Ex (Vw F c H) (Vw F c1 H1)) : SI K F Γ1 c1 σ H2 ∧ Ex (Vw F c1 H1) (Vw F c1 H2) ∧ DV K (Vw F c1 H2) x d := by
  rcases it with ⟨rfl, dv⟩ | ⟨T, x1, x2, d1, d2, rfl, hT, rfl, rfl, h1, h2⟩
  · exact ⟨S, Ex.refl _, dv.mono e⟩
  · exact ⟨S.new hT, (Kp.new (F := F) hT).hid, S.newP hT (.cons (h1.mono e) (.cons (h2.mono e) .nil))⟩
theorem s_for {iter : Expr} {body : List Stmt} (hp : PassesOwn (model X.prog X.w) X.A X.env X.xe) (hc : X.calm = true)
    (h : SW F X Γ c tg iter fun c1 ds => ∃ J : Nat → List Sl → Cells → Prop, J 0 Γ c1 ∧ (∀ i d Γ' c', ds[i]? = some d → J i Γ' c' → SG F X Γ' c' tg d fun Γ2 => SS F X Γ2 c' body { Φ with nx := J (i + 1), ct := J (i + 1), bk := Φ.nx }) ∧ ∀ Γ' c', J ds.length Γ' c' → Φ.nx Γ' c')
    (hs : ∀ x, foldedSetIterable iter X.env x = pure x := by intro _; rfl) : S1 F X Γ c (.For tg iter body [] pos) Φ :=
  S1.of (ps_for hp hc pI pGt pSts hs) fun σ H D S E => h σ H _ S fun It H1 c1 ds p S1 e1 src => by
    obtain ⟨J, j0, turn, done⟩ := p
    obtain ⟨G, Y, w, hG, hY⟩ := src
    refine for_it w (fun i σ' H' => ∃ Γ' c', J i Γ' c' ∧ SI X.K F Γ' c' σ' H' ∧ Ex (Vw F c1 H1) (Vw F c' H')) ⟨Γ, c1, j0, S1, Ex.refl _⟩ (fun i σ' H' _ ⟨Γ', c', _, _, e'⟩ => hG H' (e'.trans (mask_ex _ _))) ?_ ?_
    · rintro i x σ' H' H2 hi ⟨Γ', c', j, S', e'⟩ y
      obtain ⟨d, hd, it⟩ := hY i H' x H2 hi y (e'.trans (mask_ex _ _))
      obtain ⟨S2, e2, dv⟩ := it.dv S' e'
      refine turn i d Γ' c' hd j σ' H2 x _ S2 dv fun Γ3 σ3 q S3 => ?_
      have e4 := (e1.trans e').trans e2
      exact q σ3 H2 _ S3 ⟨fun Γ4 c4 σ4 H4 j4 S4 k4 => ⟨Γ4, c4, j4, S4, (e'.trans e2).trans k4⟩, fun Γ4 c4 σ4 H4 v4 d4 j4 S4 k4 => E.rt Γ4 c4 σ4 H4 v4 d4 j4 S4 (e4.trans k4), fun Γ4 c4 σ4 H4 j4 S4 k4 => E.nx Γ4 c4 σ4 H4 j4 S4 (e4.trans k4), fun Γ4 c4 σ4 H4 j4 S4 k4 => ⟨Γ4, c4, j4, S4, (e'.trans e2).trans k4⟩⟩
    · rintro σ' H' ⟨Γ', c', j, S', e'⟩
      exact E.nx Γ' c' σ' H' (done Γ' c' j) S' (e1.trans e')
end
end D
end
section
set_option Elab.async false
set_option linter.all false
set_option maxRecDepth 100000
namespace D
open PySem L2
def FD (F : Fm) (D : Addr) (o : HO) : Fm := { F with H0 := upd F.H0 D o, M := D :: F.M }
def rm (H : Hp) (D : Addr) : Hp := fun a => if a = D then none else H a
theorem rm_ne {H : Hp} {D a : Addr} (h : a ≠ D) : rm H D a = H a := if_neg h
theorem rm_same {H : Hp} {D : Addr} : rm H D D = none := if_pos rfl
theorem upd_rm {H : Hp} {D : Addr} {o : HO} (h : H D = some o) : upd (rm H D) D o = H := by
  funext a
  by_cases e : a = D
  · rw [e, upd_same, h]
  · rw [upd_ne e, rm_ne e]
def wipeG (Γ : List Sl) : List Nat → List Sl
  | [] => Γ
  | v :: vs => (wipeG Γ vs).set v .un
section
variable {K : PySem.W.Frag} {F : Fm} {Γ : List Sl} {c : Cells} {σ : L2.St} {H : Hp} {D : Addr} {o o' : HO}
theorem hid_FD : ∀ a, a ∈ hid (FD F D o) c ↔ a = D ∨ a ∈ hid F c := fun a => by
  unfold hid FD
  simp only [List.mem_append, List.mem_cons]
  constructor
  · rintro (h | h | h)
    · exact .inr (.inl h)
    · exact .inl h
    · exact .inr (.inr h)
  · rintro (h | h | h)
    · exact .inr (.inl h)
    · exact .inl h
    · exact .inr (.inr h)
theorem vw_FD (a : Addr) : Vw (FD F D o) c H a = if a = D then none else Vw F c H a := by
  by_cases e : a = D
  · rw [if_pos e]
    exact mask_in ((hid_FD a).mpr (.inl e))
  · rw [if_neg e]
    by_cases h : a ∈ hid F c
    · show mask _ _ _ = mask _ _ _
      rw [mask_in h, mask_in ((hid_FD a).mpr (.inr h))]
    · show mask _ _ _ = mask _ _ _
      rw [mask_out h, mask_out fun z => by rcases (hid_FD a).mp z with z | z; exact e z; exact h z]
theorem vw_FD_upd {u : HO} : Vw (FD F D o') c (upd H D u) = Vw (FD F D o) c H := by
  funext a
  rw [vw_FD, vw_FD]
  by_cases e : a = D
  · rw [if_pos e, if_pos e]
  · rw [if_neg e, if_neg e]
    show mask _ _ _ = mask _ _ _
    unfold mask
    rw [upd_ne e]
theorem SI.hide (S : SI K F Γ c σ H) (h : H D = none) (hn : ∀ xs, o ≠ .tup xs) : SI K (FD F D o) Γ c σ (upd H D o) ∧ Ex (Vw F c H) (Vw (FD F D o) c (upd H D o)) := by
  have nh : D ∉ hid F c := S.fresh h
  have sub : Ex (Vw F c H) (Vw (FD F D o) c (upd H D o)) := fun a u q => by
    obtain ⟨n, e⟩ := of_mask q
    have hb : a ≠ D := ne_of_none e h
    rw [vw_FD, if_neg hb]
    show mask _ _ _ = _
    rw [mask_out n, upd_ne hb]
    exact e
  have na : ∀ a ∈ addrs c, a ≠ D := fun a ha z => nh (List.mem_append_left _ (by rw [← z]; exact ha))
  refine ⟨⟨S.len, S.nd, fun j d hj => ?_, fun p hp => ?_, fun b u q => ?_, fun b hb => ?_, fun b hb => ?_, fun b hb => ?_⟩, sub⟩
  · obtain ⟨v, h1, h2⟩ := S.sl j d hj
    exact ⟨v, h1, h2.mono sub⟩
  · exact (S.ce p hp).mono sub fun x hx => upd_ne (na x (mem_addrs hp hx))
  · obtain ⟨n, e⟩ := of_mask q
    rw [show (FD F D o).W = F.W from rfl] at n ⊢
    rw [mask_out n]
    by_cases hb : b = D
    · subst hb
      rw [show (FD F b o).H0 = upd F.H0 b o from rfl, upd_same] at e
      rw [upd_same]
      exact e
    · rw [show (FD F D o).H0 = upd F.H0 D o from rfl, upd_ne hb] at e
      rw [upd_ne hb]
      exact (of_mask (S.keep b u (by rw [mask_out n]; exact e))).2
  · have q := S.fr b hb
    refine ⟨?_, fun z => by rcases List.mem_cons.mp z with z | z; exact na b hb z; exact q.2 z⟩
    rcases q.1 with f | f
    · exact .inl f
    · exact .inr (by rw [show (FD F D o).H0 = upd F.H0 D o from rfl, upd_ne (na b hb)]; exact f)
  · rcases List.mem_cons.mp hb with z | z
    · rw [z]; exact ⟨_, upd_same, hn⟩
    · exact (S.live b z).mono fun u q => by rw [upd_ne (ne_of_none q h)]; exact q
  · obtain ⟨u, q⟩ := S.wl b hb
    exact ⟨u, by rw [upd_ne (ne_of_none q h)]; exact q⟩
theorem SI.grow (S : SI K (FD F D o) Γ c σ H) (hn : ∀ xs, o' ≠ .tup xs) : SI K (FD F D o') Γ c σ (upd H D o') := by
  have e1 : Vw (FD F D o') c (upd H D o') = Vw (FD F D o) c H := vw_FD_upd
  have na : ∀ a ∈ addrs c, a ≠ D := fun a ha z => (S.fr a ha).2 (by rw [z]; exact List.mem_cons_self ..)
  refine ⟨S.len, S.nd, fun j d hj => ?_, fun p hp => ?_, fun b u q => ?_, fun b hb => ?_, fun b hb => ?_, fun b hb => ?_⟩
  · obtain ⟨v, h1, h2⟩ := S.sl j d hj
    exact ⟨v, h1, h2.mono (fun a o q => (congrFun e1 a).trans q)⟩
  · exact (S.ce p hp).mono (fun a o q => (congrFun e1 a).trans q) fun x hx => upd_ne (na x (mem_addrs hp hx))
  · obtain ⟨n, e⟩ := of_mask q
    rw [mask_out n]
    by_cases hb : b = D
    · subst hb
      rw [show (FD F b o').H0 = upd F.H0 b o' from rfl, upd_same] at e
      rw [upd_same]
      exact e
    · rw [show (FD F D o').H0 = upd F.H0 D o' from rfl, upd_ne hb] at e
      rw [upd_ne hb]
      exact (of_mask (S.keep b u (by rw [mask_out (show b ∉ (FD F D o).W from n), show (FD F D o).H0 = upd F.H0 D o from rfl, upd_ne hb]; exact e))).2
  · have q := S.fr b hb
    refine ⟨?_, q.2⟩
    rcases q.1 with f | f
    · exact .inl f
    · exact .inr (by rw [show (FD F D o').H0 = upd F.H0 D o' from rfl, upd_ne (na b hb)]; rwa [show (FD F D o).H0 = upd F.H0 D o from rfl, upd_ne (na b hb)] at f)
  · by_cases z : b = D
    · rw [z]; exact ⟨_, upd_same, hn⟩
    · exact (S.live b hb).mono fun u q => by rw [upd_ne z]; exact q
  · by_cases z : b = D
    · rw [z]; exact ⟨_, upd_same⟩
    · obtain ⟨u, q⟩ := S.wl b hb
      exact ⟨u, by rw [upd_ne z]; exact q⟩
theorem vw_rm : Ex (Vw (FD F D o) c H) (Vw F c (rm H D)) := fun a u q => by
  rw [vw_FD] at q
  by_cases e : a = D
  · rw [if_pos e] at q; cases q
  · rw [if_neg e] at q
    obtain ⟨n, q⟩ := of_mask q
    show mask _ _ _ = _
    rw [mask_out n, rm_ne e]
    exact q
theorem SI.unhide (S : SI K (FD F D o) Γ c σ H) (h0 : F.H0 D = none) (nM : D ∉ F.M) (nW : D ∉ F.W) : SI K F Γ c σ (rm H D) := by
  have na : ∀ a ∈ addrs c, a ≠ D := fun a ha z => (S.fr a ha).2 (by rw [z]; exact List.mem_cons_self ..)
  refine ⟨S.len, S.nd, fun j d hj => ?_, fun p hp => ?_, fun b u q => ?_, fun b hb => ?_, fun b hb => ?_, fun b hb => ?_⟩
  · obtain ⟨v, h1, h2⟩ := S.sl j d hj
    exact ⟨v, h1, h2.mono vw_rm⟩
  · exact (S.ce p hp).mono vw_rm fun x hx => rm_ne (na x (mem_addrs hp hx))
  · obtain ⟨n, e⟩ := of_mask q
    have hb : b ≠ D := fun z => by rw [z, h0] at e; cases e
    rw [mask_out n, rm_ne hb]
    exact (of_mask (S.keep b u (by rw [mask_out (show b ∉ (FD F D o).W from n), show (FD F D o).H0 = upd F.H0 D o from rfl, upd_ne hb]; exact e))).2
  · have q := S.fr b hb
    refine ⟨?_, fun z => q.2 (List.mem_cons_of_mem _ z)⟩
    rcases q.1 with f | f
    · exact .inl f
    · exact .inr (by rwa [show (FD F D o).H0 = upd F.H0 D o from rfl, upd_ne (na b hb)] at f)
  · exact (S.live b (List.mem_cons_of_mem _ hb)).mono fun u q => by rw [rm_ne fun z => nM (by rw [← z]; exact hb)]; exact q
  · obtain ⟨u, q⟩ := S.wl b hb
    exact ⟨u, by rw [rm_ne fun z => nW (by rw [← z]; exact hb)]; exact q⟩
theorem SI.hD (S : SI K (FD F D o) Γ c σ H) (nW : D ∉ F.W) : H D = some o :=
  (of_mask (S.keep D o (by rw [mask_out (show D ∉ (FD F D o).W from nW)]; exact upd_same))).2
theorem SI.nW (S : SI K F Γ c σ H) (h : H D = none) : D ∉ F.W := fun z => by
  obtain ⟨u, q⟩ := S.wl D z
  rw [h] at q; cases q
/-- the slots of before, what was done since -/
theorem SI.back {Γ' : List Sl} {c' : Cells} {σ' : L2.St} {H' : Hp} (S : SI K F Γ c σ H) (S' : SI K F Γ' c' σ' H') (e : Ex (Vw F c H) (Vw F c' H')) : SI K F Γ c' σ H' :=
  ⟨S.len, S'.nd, fun i d hi => by obtain ⟨v, h1, h2⟩ := S.sl i d hi; exact ⟨v, h1, h2.mono e⟩, S'.ce, S'.keep, S'.fr, S'.live, S'.wl⟩
theorem SI.wipe (S : SI K F Γ c σ H) : ∀ vs : List Nat, SI K F (wipeG Γ vs) c (L2.wipe σ vs) H
  | [] => S
  | v :: vs => (SI.wipe S vs).setS fun d e => nomatch e
theorem Item.dv' {V0 H2 : Hp} {x : V} {d : Dt} (it : Item K V0 H x H2 d) (S : SI K F Γ c σ H) (e : Ex V0 (Vw F c H)) : SI K F Γ c σ H2 ∧ Ex (Vw F c H) (Vw F c H2) ∧ DV K (Vw F c H2) x d := by
  rcases it with ⟨rfl, dv⟩ | ⟨T, x1, x2, d1, d2, rfl, hT, rfl, rfl, h1, h2⟩
  · exact ⟨S, Ex.refl _, dv.mono e⟩
  · exact ⟨S.new hT, (Kp.new (F := F) hT).hid, S.newP hT (.cons (h1.mono e) (.cons (h2.mono e) .nil))⟩
end
abbrev blk (X : Cx) (scope : Scope) (s0 : Shared) (H0 : Hp) (C : Addr) (cl : List (Str × Addr)) (fp : List Addr) : Cx := X.blk s0 H0 scope (compEnvC scope cl C X.env) fp
def tEb (X : Cx) (scope : Scope) (e : Expr) : TE := fun σ H Q => ∀ (s0 : Shared) (H0 : Hp) (C : Addr) (cl : List (Str × Addr)) (fp : List Addr), tE (blk X scope s0 H0 C cl fp) e σ H Q
theorem pEb {X : Cx} {scope : Scope} {e : Expr} (s0 : Shared) (H0 : Hp) (C : Addr) (cl : List (Str × Addr)) (fp : List Addr) : PE (X.blk s0 H0 scope (compEnvC scope cl C X.env) fp) e (tEb X scope e) := ⟨fun pins s σ H Q I h => (h s0 H0 C cl fp).run pins s I⟩
def tTb (X : Cx) (scope : Scope) (e : Expr) : TT := fun σ H Q => ∀ (s0 : Shared) (H0 : Hp) (C : Addr) (cl : List (Str × Addr)) (fp : List Addr), tT (blk X scope s0 H0 C cl fp) e σ H Q
theorem pTb {X : Cx} {scope : Scope} {e : Expr} (s0 : Shared) (H0 : Hp) (C : Addr) (cl : List (Str × Addr)) (fp : List Addr) : PT (X.blk s0 H0 scope (compEnvC scope cl C X.env) fp) e (tTb X scope e) := ⟨fun pins s σ H Q I h => (h s0 H0 C cl fp).run pins s I⟩
def tGb (X : Cx) (scope : Scope) (tg : Expr) : TG := fun v σ H Q => ∀ (s0 : Shared) (H0 : Hp) (C : Addr) (cl : List (Str × Addr)) (fp : List Addr), tGt (blk X scope s0 H0 C cl fp) tg v σ H Q
theorem pGb {X : Cx} {scope : Scope} {tg : Expr} (s0 : Shared) (H0 : Hp) (C : Addr) (cl : List (Str × Addr)) (fp : List Addr) : PG (X.blk s0 H0 scope (compEnvC scope cl C X.env) fp) tg (tGb X scope tg) := ⟨fun pins s σ H v u Q I r h => pGt.run pins s σ H v u Q I r (h s0 H0 C cl fp)⟩
/-- a block's target: only its own slots change -/
structure SGb (F : Fm) (X : Cx) (Γ : List Sl) (c : Cells) (vs : List Nat) (tg : Expr) (d : Dt) (N : List Sl → Prop) : Prop where
  run : ∀ (σ : L2.St) (H : Hp) (v : V) (Q : L2.St → Hp → Prop), SI X.K F Γ c σ H → DV X.K (Vw F c H) v d → (∀ Γ' σ', N Γ' → SI X.K F Γ' c σ' H → wipe σ' vs = wipe σ vs → Q σ' H) → tGt X tg v σ H Q
instance {F : Fm} {X : Cx} {Γ : List Sl} {c : Cells} {vs : List Nat} {tg : Expr} {d : Dt} {N : List Sl → Prop} : CoeFun (SGb F X Γ c vs tg d N) fun _ => ∀ (σ : L2.St) (H : Hp) (v : V) (Q : L2.St → Hp → Prop), SI X.K F Γ c σ H → DV X.K (Vw F c H) v d → (∀ Γ' σ', N Γ' → SI X.K F Γ' c σ' H → wipe σ' vs = wipe σ vs → Q σ' H) → tGt X tg v σ H Q := ⟨SGb.run⟩
structure SGbs (F : Fm) (X : Cx) (Γ : List Sl) (c : Cells) (vs : List Nat) (tgs : List Expr) (ds : List Dt) (N : List Sl → Prop) : Prop where
  run : ∀ (σ : L2.St) (H : Hp) (ws : List V) (Q : L2.St → Hp → Prop), SI X.K F Γ c σ H → DVs X.K (Vw F c H) ws ds → (∀ Γ' σ', N Γ' → SI X.K F Γ' c σ' H → wipe σ' vs = wipe σ vs → Q σ' H) → tGts X tgs ws σ H Q
instance {F : Fm} {X : Cx} {Γ : List Sl} {c : Cells} {vs : List Nat} {tgs : List Expr} {ds : List Dt} {N : List Sl → Prop} : CoeFun (SGbs F X Γ c vs tgs ds N) fun _ => ∀ (σ : L2.St) (H : Hp) (ws : List V) (Q : L2.St → Hp → Prop), SI X.K F Γ c σ H → DVs X.K (Vw F c H) ws ds → (∀ Γ' σ', N Γ' → SI X.K F Γ' c σ' H → wipe σ' vs = wipe σ vs → Q σ' H) → tGts X tgs ws σ H Q := ⟨SGbs.run⟩
theorem wipe_set {σ : L2.St} {i : Nat} {o : Option V} : ∀ {vs : List Nat}, i ∈ vs → wipe (σ.set i o) vs = wipe σ vs
  | [], h => nomatch h
  | v :: vs, h => by
    refine List.ext_getElem? fun j => ?_
    unfold wipe
    by_cases hv : v = j
    · subst hv
      by_cases hl : v < σ.length
      · rw [List.getElem?_set_self (by rw [wipe_length, List.length_set]; exact hl), List.getElem?_set_self (by rw [wipe_length]; exact hl)]
      · rw [List.getElem?_eq_none (by rw [List.length_set, wipe_length, List.length_set]; omega), List.getElem?_eq_none (by rw [List.length_set, wipe_length]; omega)]
    · rw [List.getElem?_set_ne hv, List.getElem?_set_ne hv]
      by_cases hi : i ∈ vs
      · rw [wipe_set hi]
      · have e : i = v := by
          rcases List.mem_cons.mp h with h | h
          · exact h
          · exact absurd h hi
        by_cases hj : j ∈ vs
        · have w : ∀ {τ : L2.St} {vs : List Nat}, j ∈ vs → j < τ.length → (wipe τ vs)[j]? = some none := by
            intro τ vs
            induction vs with
            | nil => intro h; exact nomatch h
            | cons u us ih =>
              intro h hl
              unfold wipe
              by_cases hu : u = j
              · subst hu; rw [List.getElem?_set_self (by rw [wipe_length]; exact hl)]
              · rw [List.getElem?_set_ne hu]
                rcases List.mem_cons.mp h with h | h
                · exact absurd h.symm hu
                · exact ih h hl
          by_cases hl : j < σ.length
          · rw [w hj (by rw [List.length_set]; exact hl), w hj hl]
          · rw [List.getElem?_eq_none (by rw [wipe_length, List.length_set]; omega), List.getElem?_eq_none (by rw [wipe_length]; omega)]
        · rw [wipe_out hj, wipe_out hj, List.getElem?_set_ne (by rw [e]; exact hv)]
section
variable {F : Fm} {X : Cx} {Γ : List Sl} {c : Cells} {Φ : PEnds} {pos : Pos} {P : Cells → List Dt → Prop} {vs : List Nat}
theorem sgb_name (i : Nat) {x : Str} {d : Dt} {N : List Sl → Prop} (hN : X.N.Nodup) (p : N (Γ.set i (.dat d))) (hv : i ∈ vs := by decide) (hi : X.N[i]? = some x := by rfl) (hx : Loc X.env.scope x := by first | exact Or.inl rfl | exact Or.inr rfl)
    (hf : X.fn x = true ∨ X.env.scope.names.lookup x = some .local := by first | exact .inl rfl | exact .inr rfl) : SGb F X Γ c vs (.Name x pos) d N :=
  .mk fun σ H v Q S dv k => ⟨gName i, pg_name hN hi hx hf, k _ _ p (S.setD dv) (wipe_set hv)⟩
theorem sgbs_nil {N : List Sl → Prop} (p : N Γ) : SGbs F X Γ c vs [] [] N := .mk fun σ H ws Q S dv k => by cases dv; exact ⟨gNil, pgs_nil, rfl, k Γ σ p S rfl⟩
theorem sgbs_cons {t : Expr} {ts : List Expr} {d : Dt} {ds : List Dt} {N : List Sl → Prop} (h : SGb F X Γ c vs t d fun Γ1 => SGbs F X Γ1 c vs ts ds N)
    (hs : (assignEach (t :: ts) X.env).map (·.2) = assign t X.env :: (assignEach ts X.env).map (·.2) := by rfl) : SGbs F X Γ c vs (t :: ts) (d :: ds) N := .mk fun σ H ws Q S dv k => by
  cases dv with
  | cons h1 t1 =>
    refine ⟨gCons (tGt X t) (tGts X ts), pgs_cons pGt pGts hs, _, _, rfl, ?_⟩
    exact h σ H _ _ S h1 fun Γ1 σ1 p S1 w1 => p σ1 H _ Q S1 t1 fun Γ2 σ2 p2 S2 w2 => k Γ2 σ2 p2 S2 (w2.trans w1)
theorem sgb_tup {es : List Expr} {kk : Nat} {ds : List Dt} {N : List Sl → Prop} (hc : X.calm = true) (h : SGbs F X Γ c vs es ds N) (hn : (assignEach es X.env).length = ds.length := by rfl) (hst : (assignEach es X.env).findIdx? (·.1) = none := by rfl) : SGb F X Γ c vs (.Tuple es kk pos) (.tup ds) N := .mk fun σ H v Q S dv k => by
  cases dv with
  | tup a t => exact ⟨_, pg_tup (n := ds.length) hc pGts hn hst, _, _, rfl, (a.mono (mask_ex _ _)).t, t.length, h σ H _ Q S t k⟩
theorem sgb_par {es : List Expr} {kk : Nat} {ds : List Dt} {N : List Sl → Prop} (hc : X.calm = true) (h : SGbs F X Γ c vs es ds N) (hn : (assignEach es X.env).length = ds.length := by rfl) (hst : (assignEach es X.env).findIdx? (·.1) = none := by rfl) : SGb F X Γ c vs (.Tuple es kk pos) (.par ds) N := .mk fun σ H v Q S dv k => by
  cases dv with
  | par a t => exact ⟨_, pg_tup (n := ds.length) hc pGts hn hst, _, _, rfl, .inl (.inl (mask_ex _ _ _ _ a)), t.length, h σ H _ Q S t k⟩
/-- the turns of a list's comprehension -/
theorem lc_turns {σ : L2.St} {H1 : Hp} {c1 : Cells} {J : It} {ds : List Dt} {D : Addr} {Q : VK} {g : TG} {tt : TT} {te : TE} (S1 : SI X.K F Γ c1 σ H1) (src : Src X.K (Vw F c1 H1) J ds) (hD : H1 D = none) (hz : ds.length ≤ sizeLine)
    (Jv : Nat → Cells → List Dt → Prop) (j0 : Jv 0 c1 [])
    (turn : ∀ i d c' acc, ds[i]? = some d → Jv i c' acc → ∀ (F' : Fm) σ' H' x, SI X.K F' (wipeG Γ vs) c' σ' H' → DV X.K (Vw F' c' H') x d → ∀ (R : V → L2.St → Hp → Prop) (R' : L2.St → Hp → Prop),
      (∀ y H4 c3 dy Γ2 σ2, Jv (i + 1) c3 (acc ++ [dy]) → SI X.K F' Γ2 c3 σ2 H4 → Ex (Vw F' c' H') (Vw F' c3 H4) → DV X.K (Vw F' c3 H4) y dy → R y σ2 H4) →
      (∀ H3 c3 Γ2 σ2, Jv (i + 1) c3 acc → SI X.K F' Γ2 c3 σ2 H3 → Ex (Vw F' c' H') (Vw F' c3 H3) → R' σ2 H3) →
      g x σ' H' fun σ2 H2 => wipe σ2 vs = wipe σ' vs ∧ tt σ2 H2 fun b H3 => if b = true then te σ2 H3 fun y H4 => R y σ2 H4 else R' σ2 H3)
    (done : ∀ c' acc xs H', Jv ds.length c' acc → SI X.K F Γ c' σ H' → Ex (Vw F c1 H1) (Vw F c' H') → H' D = none → DVs X.K (Vw F c' H') xs acc → Q (.ref D) (upd H' D (.lst xs))) :
    ∃ W : Nat → Nat → Hp → Prop, (∃ m, W 0 m (upd H1 D (.lst []))) ∧ ∀ i m H, W i m H →
      (J.stop i H ∧ Q (.ref D) H) ∨ (J.go i H ∧ ∃ Nx : Hp → Prop, (∀ H', Nx H' → ∃ m', m' < m ∧ W (i + 1) m' H') ∧ ∀ x H', J.yld i H x H' → g x (wipe σ vs) H' fun σ2 H2 => wipe σ2 vs = wipe σ vs ∧ tt σ2 H2 fun b H3 =>
        if b = true then te σ2 H3 fun y H4 => ∃ acc, H4 D = some (.lst acc) ∧ acc.length < sizeLine ∧ Nx (upd H4 D (.lst (acc ++ [y]))) else Nx H3) := by
  obtain ⟨G, Y, w, hG, hY⟩ := src
  have nh : D ∉ hid F c1 := S1.fresh hD
  have nM : D ∉ F.M := fun z => nh (List.mem_append_right _ z)
  have nW := S1.nW hD
  have h0 := S1.h0 hD
  obtain ⟨Sh, eh⟩ := S1.hide (D := D) (o := .lst []) hD (fun _ z => nomatch z)
  have ww : wipe (wipe σ vs) vs = wipe σ vs := by
    have : ∀ (us : List Nat), (∀ u ∈ us, u ∈ vs) → wipe (wipe σ us) vs = wipe σ vs := by
      intro us
      induction us with
      | nil => intro _; rfl
      | cons u us ih =>
        intro h
        show wipe ((wipe σ us).set u none) vs = _
        rw [wipe_set (h u (List.mem_cons_self ..))]
        exact ih fun v hv => h v (List.mem_cons_of_mem _ hv)
    exact this vs fun u h => h
  refine lc_it w (fun i H' => ∃ c' acc xs, Jv i c' acc ∧ acc.length ≤ i ∧ SI X.K (FD F D (.lst xs)) Γ c' σ H' ∧ Ex (Vw F c1 H1) (Vw (FD F D (.lst xs)) c' H') ∧ DVs X.K (Vw (FD F D (.lst xs)) c' H') xs acc) ⟨c1, [], [], j0, Nat.le_refl _, Sh, eh, .nil⟩
    (fun i H' _ ⟨c', acc, xs, _, _, _, e', _⟩ => hG H' (e'.trans (mask_ex _ _))) ?_ ?_
  · rintro i x H' H2 hi ⟨c', acc, xs, jv, la, S', e', dvs⟩ y
    obtain ⟨d, hd, it⟩ := hY i H' x H2 hi y (e'.trans (mask_ex _ _))
    obtain ⟨S2, e2, dv⟩ := it.dv' S' e'
    have q := turn i d c' acc hd jv (FD F D (.lst xs)) (wipe σ vs) H2 x (S2.wipe vs) dv
      (fun y σ2 H4 => ∃ acc, H4 D = some (.lst acc) ∧ acc.length < sizeLine ∧ ∃ c' acc' xs, Jv (i + 1) c' acc' ∧ acc'.length ≤ i + 1 ∧ SI X.K (FD F D (.lst xs)) Γ c' σ (upd H4 D (.lst (acc ++ [y]))) ∧ Ex (Vw F c1 H1) (Vw (FD F D (.lst xs)) c' (upd H4 D (.lst (acc ++ [y])))) ∧ DVs X.K (Vw (FD F D (.lst xs)) c' (upd H4 D (.lst (acc ++ [y])))) xs acc')
      (fun σ2 H3 => ∃ c' acc xs, Jv (i + 1) c' acc ∧ acc.length ≤ i + 1 ∧ SI X.K (FD F D (.lst xs)) Γ c' σ H3 ∧ Ex (Vw F c1 H1) (Vw (FD F D (.lst xs)) c' H3) ∧ DVs X.K (Vw (FD F D (.lst xs)) c' H3) xs acc) ?_ ?_
    · rw [ww] at q
      exact q
    · intro y H4 c3 dy Γ2 σ2 jn S4 e4 dvy
      have S5 : SI X.K (FD F D (.lst xs)) Γ c3 σ H4 := S2.back S4 e4
      refine ⟨xs, S5.hD nW, by rw [dvs.length]; omega, c3, acc ++ [dy], xs ++ [y], jn, ?_, S5.grow (fun _ z => nomatch z), ?_, ?_⟩
      · rw [List.length_append]
        exact Nat.succ_le_succ la
      · rw [vw_FD_upd (o := .lst xs)]
        exact e'.trans (e2.trans e4)
      · rw [vw_FD_upd (o := .lst xs)]
        exact (dvs.mono (e2.trans e4)).append (.cons dvy .nil)
    · intro H3 c3 Γ2 σ2 jn S3 e3
      exact ⟨c3, acc, xs, jn, Nat.le_succ_of_le la, S2.back S3 e3, e'.trans (e2.trans e3), dvs.mono (e2.trans e3)⟩
  · rintro H' ⟨c', acc, xs, jv, la, S', e', dvs⟩
    have q := done c' acc xs (rm H' D) jv (S'.unhide h0 nM nW) (e'.trans vw_rm) rm_same (dvs.mono vw_rm)
    rw [upd_rm (S'.hD nW)] at q
    exact q
/-- in any context of the block -/
def AB (X : Cx) (scope : Scope) (φ : Cx → Prop) : Prop := ∀ (s0 : Shared) (H0 : Hp) (C : Addr) (cl : List (Str × Addr)) (fp : List Addr), φ (blk X scope s0 H0 C cl fp)
/-- one turn of [elt for tg in iter] -/
def Turn0 (X : Cx) (Γ : List Sl) (scope : Scope) (vs : List Nat) (tg elt : Expr) (d : Dt) (c' : Cells) (N : Cells → Dt → Prop) : Prop :=
  ∀ F' : Fm, AB X scope fun Y => SGb F' Y (wipeG Γ vs) c' vs tg d fun Γ2 => AB X scope fun Y => SE F' Y Γ2 c' elt N
/-- one turn of [elt for tg in iter if t] -/
def Turn1 (X : Cx) (Γ : List Sl) (scope : Scope) (vs : List Nat) (tg t elt : Expr) (d : Dt) (c' : Cells) (N : Cells → Dt → Prop) (N0 : Cells → Prop) : Prop :=
  ∀ F' : Fm, AB X scope fun Y => SGb F' Y (wipeG Γ vs) c' vs tg d fun Γ2 => AB X scope fun Y => ST F' Y Γ2 c' t fun c2 b => if b = true then AB X scope fun Y => SE F' Y Γ2 c2 elt N else N0 c2
def SELt (F : Fm) (X : Cx) (Γ : List Sl) (c : Cells) (t : TE) (P : Cells → List Dt → Prop) : Prop :=
  ∀ (σ : L2.St) (H : Hp) (Q : VK), SI X.K F Γ c σ H → (∀ p xs H1 c' l, P c' l → SI X.K F Γ c' σ H1 → Ex (Vw F c H) (Vw F c' H1) → H1 p = none → DVs X.K (Vw F c' H1) xs l → Q (.ref p) (upd H1 p (.lst xs))) → t σ H Q
theorem s_setT {st : Stmt} {t : TE} (i : Nat) (hp : PS X st (tAsg t (gName i))) (h : SELt F X Γ c t fun c1 l => Φ.nx (Γ.set i (.dat (.lst l))) c1) : S1 F X Γ c st Φ :=
  S1.of hp fun σ H D S E => h σ H _ S fun p xs H1 c' l q S1 e1 hp dv => E.nx _ c' _ _ q ((S1.new hp).setD (S1.newL hp dv)) (e1.trans (Kp.new (F := F) hp).hid)
theorem lct_lc {elt tg iter : Expr} {scope : Scope}
    (h : SW F X Γ c tg iter fun c1 ds => ds.length ≤ sizeLine ∧ ∃ Jv : Nat → Cells → List Dt → Prop, Jv 0 c1 [] ∧
      (∀ i d c' acc, ds[i]? = some d → Jv i c' acc → Turn0 X Γ scope vs tg elt d c' fun c2 y => Jv (i + 1) c2 (acc ++ [y])) ∧ ∀ c' acc, Jv ds.length c' acc → P c' acc) : SELt F X Γ c (tLc (wI X tg iter) (tGb X scope tg) tYes (tEb X scope elt) vs) P := fun σ H Q S k => by
  refine h σ H _ S fun J H1 c1 ds p S1 e1 src D hD => ?_
  obtain ⟨hz, Jv, j0, turn, done⟩ := p
  refine lc_turns (g := tGb X scope tg) (tt := tYes) (te := tEb X scope elt) S1 src hD hz Jv j0 (fun i d c' acc hd jv F' σ' H' x S' dv R R' k1 k2 => ?_) fun c' acc xs H' jv S' e' hn dv => k D xs H' c' acc (done c' acc jv) S' (e1.trans e') hn dv
  intro s0 H0 C cl fp
  refine turn i d c' acc hd jv F' s0 H0 C cl fp σ' H' x _ S' dv fun Γ2 σ2 q S2 w => ⟨w, ?_⟩
  intro s0 H0 C cl fp
  exact q s0 H0 C cl fp σ2 H' _ S2 fun y H4 c3 dy jn S4 e4 dvy => k1 y H4 c3 dy Γ2 σ2 jn S4 e4 dvy
theorem lct_lcIf {elt tg iter t : Expr} {scope : Scope}
    (h : SW F X Γ c tg iter fun c1 ds => ds.length ≤ sizeLine ∧ ∃ Jv : Nat → Cells → List Dt → Prop, Jv 0 c1 [] ∧
      (∀ i d c' acc, ds[i]? = some d → Jv i c' acc → Turn1 X Γ scope vs tg t elt d c' (fun c2 y => Jv (i + 1) c2 (acc ++ [y])) fun c2 => Jv (i + 1) c2 acc) ∧ ∀ c' acc, Jv ds.length c' acc → P c' acc) : SELt F X Γ c (tLc (wI X tg iter) (tGb X scope tg) (tTb X scope t) (tEb X scope elt) vs) P := fun σ H Q S k => by
  refine h σ H _ S fun J H1 c1 ds p S1 e1 src D hD => ?_
  obtain ⟨hz, Jv, j0, turn, done⟩ := p
  refine lc_turns (g := tGb X scope tg) (tt := tTb X scope t) (te := tEb X scope elt) S1 src hD hz Jv j0 (fun i d c' acc hd jv F' σ' H' x S' dv R R' k1 k2 => ?_) fun c' acc xs H' jv S' e' hn dv => k D xs H' c' acc (done c' acc jv) S' (e1.trans e') hn dv
  intro s0 H0 C cl fp
  refine turn i d c' acc hd jv F' s0 H0 C cl fp σ' H' x _ S' dv fun Γ2 σ2 q S2 w => ⟨w, ?_⟩
  intro s0 H0 C cl fp
  refine q s0 H0 C cl fp σ2 H' _ S2 fun b H3 c2 hb S3 e3 => ?_
  cases b with
  | false => exact k2 H3 c2 Γ2 σ2 hb S3 e3
  | true =>
    rw [if_pos rfl] at hb
    intro s0 H0 C cl fp
    exact hb s0 H0 C cl fp σ2 H3 _ S3 fun y H4 c3 dy jn S4 e4 dvy => k1 y H4 c3 dy Γ2 σ2 jn S4 (e3.trans e4) dvy
/-- [elt for tg in iter], as a new list -/
theorem sel_lc {elt tg iter : Expr} {scope : Scope} (own : List (Str × Nat)) (hc : X.calm = true) (hN : X.N.Nodup) (ok : BlkOk X.N X.env.scope scope own)
    (h : SW F X Γ c tg iter fun c1 ds => ds.length ≤ sizeLine ∧ ∃ Jv : Nat → Cells → List Dt → Prop, Jv 0 c1 [] ∧
      (∀ i d c' acc, ds[i]? = some d → Jv i c' acc → Turn0 X Γ scope (own.map (·.2)) tg elt d c' fun c2 y => Jv (i + 1) c2 (acc ++ [y])) ∧ ∀ c' acc, Jv ds.length c' acc → P c' acc)
    (hfs : ∀ x, foldedSetIterable iter X.env x = pure x := by intro _; rfl) : SEL F X Γ c (.ListComp elt [⟨tg, iter, [], 0⟩] scope pos) P := .mk fun σ H Q S k =>
  tE_of (pe_lc (own := own) (g := tGb X scope tg) hc hN pI ok (fun s0 H0 C cl fp => pGb s0 H0 C cl fp) (fun _ _ _ _ _ => pts_nil) (fun s0 H0 C cl fp => pEb s0 H0 C cl fp) hfs) (lct_lc h σ H Q S k)
theorem sel_lcIf {elt tg iter t : Expr} {scope : Scope} (own : List (Str × Nat)) (hc : X.calm = true) (hN : X.N.Nodup) (ok : BlkOk X.N X.env.scope scope own)
    (h : SW F X Γ c tg iter fun c1 ds => ds.length ≤ sizeLine ∧ ∃ Jv : Nat → Cells → List Dt → Prop, Jv 0 c1 [] ∧
      (∀ i d c' acc, ds[i]? = some d → Jv i c' acc → Turn1 X Γ scope (own.map (·.2)) tg t elt d c' (fun c2 y => Jv (i + 1) c2 (acc ++ [y])) fun c2 => Jv (i + 1) c2 acc) ∧ ∀ c' acc, Jv ds.length c' acc → P c' acc)
    (hfs : ∀ x, foldedSetIterable iter X.env x = pure x := by intro _; rfl) : SEL F X Γ c (.ListComp elt [⟨tg, iter, [t], 0⟩] scope pos) P := .mk fun σ H Q S k =>
  tE_of (pe_lc (own := own) (g := tGb X scope tg) (tt := tTb X scope t) hc hN pI ok (fun s0 H0 C cl fp => pGb s0 H0 C cl fp) (fun s0 H0 C cl fp => pts_one (pTb s0 H0 C cl fp)) (fun s0 H0 C cl fp => pEb s0 H0 C cl fp) hfs) (lct_lcIf h σ H Q S k)
/-- x = [elt for tg in iter] -/
theorem ps_lc {elt tg iter : Expr} {y : Str} {py spos : Pos} {scope : Scope} (i : Nat) (own : List (Str × Nat)) (hc : X.calm = true) (hN : X.N.Nodup) (ok : BlkOk X.N X.env.scope scope own) (hsw : swapsWith (.ListComp elt [⟨tg, iter, [], 0⟩] scope pos) (some (.Name y py)) spos.line X.env = pure true := by exact sw_true rfl rfl rfl (by decide +kernel))
    (hy : X.N[i]? = some y := by rfl) (hyl : X.env.scope.names.lookup y = some .local := by rfl) (hfs : ∀ x, foldedSetIterable iter X.env x = pure x := by intro _; rfl) :
    PS X (.Assign [.Name y py] (.ListComp elt [⟨tg, iter, [], 0⟩] scope pos) spos) (tAsg (tLc (wI X tg iter) (tGb X scope tg) tYes (tEb X scope elt) (own.map (·.2))) (gName i)) :=
  ps_setLc (own := own) (g := tGb X scope tg) hc hN hy hyl hsw pI ok (fun s0 H0 C cl fp => pGb s0 H0 C cl fp) (fun _ _ _ _ _ => pts_nil) (fun s0 H0 C cl fp => pEb s0 H0 C cl fp) hfs
theorem ps_lcIf {elt tg iter t : Expr} {y : Str} {py spos : Pos} {scope : Scope} (i : Nat) (own : List (Str × Nat)) (hc : X.calm = true) (hN : X.N.Nodup) (ok : BlkOk X.N X.env.scope scope own) (hsw : swapsWith (.ListComp elt [⟨tg, iter, [t], 0⟩] scope pos) (some (.Name y py)) spos.line X.env = pure true := by exact sw_true rfl rfl rfl (by decide +kernel))
    (hy : X.N[i]? = some y := by rfl) (hyl : X.env.scope.names.lookup y = some .local := by rfl) (hfs : ∀ x, foldedSetIterable iter X.env x = pure x := by intro _; rfl) :
    PS X (.Assign [.Name y py] (.ListComp elt [⟨tg, iter, [t], 0⟩] scope pos) spos) (tAsg (tLc (wI X tg iter) (tGb X scope tg) (tTb X scope t) (tEb X scope elt) (own.map (·.2))) (gName i)) :=
  ps_setLc (own := own) (g := tGb X scope tg) (tt := tTb X scope t) hc hN hy hyl hsw pI ok (fun s0 H0 C cl fp => pGb s0 H0 C cl fp) (fun s0 H0 C cl fp => pts_one (pTb s0 H0 C cl fp)) (fun s0 H0 C cl fp => pEb s0 H0 C cl fp) hfs
theorem ST.mono {e : Expr} {P P' : Cells → Bool → Prop} (h : ST F X Γ c e P) (hp : ∀ c d, P c d → P' c d) : ST F X Γ c e P' := .mk fun σ H Q S k => h σ H Q S fun b H' c' p => k b H' c' (hp c' b p)
end
end D
end
section
set_option Elab.async false
set_option linter.all false
set_option maxRecDepth 100000
namespace D
open PySem L2 PyProof.Rows
theorem mask_eq {M M' : List Addr} {H : Hp} (h : ∀ a, a ∈ M ↔ a ∈ M') : mask M H = mask M' H := by
  funext a
  by_cases z : a ∈ M
  · rw [mask_in z, mask_in ((h a).mp z)]
  · rw [mask_out z, mask_out fun w => z ((h a).mpr w)]
/-- behind a call: what stays, and the cells that are given back -/
structure Aft (K : PySem.W.Frag) (M : List Addr) (H : Hp) (C C' : Cells) (H' : Hp) : Prop where
  keep : ∀ b o, H b = some o → b ∉ addrs C → H' b = some o
  nd : (addrs C').Nodup
  fr : ∀ x ∈ addrs C', x ∉ M ∧ (x ∈ addrs C ∨ H x = none)
  ce : ∀ p ∈ C', CelAt K (mask (addrs C' ++ M) H') H' p.1 p.2
  wl : ∀ x ∈ addrs C, ∃ o, H' x = some o
/-- an exception by data: its class, its fields (none: it has no dict of its own) -/
structure Xc where
  cls : Addr
  fs : Option (List (Str × Dt))
def XcAt (K : PySem.W.Frag) (V : Hp) (x : Xc) (cls : Value) (d : Option Addr) : Prop :=
  cls = .ref x.cls ∧ match x.fs with
    | none => d = none
    | some l => ∃ dd xs, d = some dd ∧ V dd = some (.xd xs) ∧ DVx K V xs l
theorem XcAt.mono {K : PySem.W.Frag} {V V' : Hp} {x : Xc} {cls : Value} {d : Option Addr} (h : XcAt K V x cls d) (e : Ex V V') : XcAt K V' x cls d := by
  obtain ⟨C, fs⟩ := x
  obtain ⟨h1, h2⟩ := h
  refine ⟨h1, ?_⟩
  cases fs with
  | none => exact h2
  | some l =>
    obtain ⟨dd, xs, a, b, t⟩ := h2
    exact ⟨dd, xs, a, e _ _ b, t.mono e⟩
/-- THE PROMISE of a def: arguments, cells handed in; what comes back, what may be raised -/
def spG (K : PySem.W.Frag) {α : Type} (args : α → List Dt) (cells : α → Cells) (pre : α → Prop) (post : α → Cells → Dt → Prop) (exc : α → Cells → Xc → Prop) : Sp := fun vs H Q E =>
  ∃ (M : List Addr) (a : α), (∀ x ∈ M, Lv H x) ∧ (addrs (cells a)).Nodup ∧ (∀ x ∈ addrs (cells a), x ∉ M) ∧ (∀ p ∈ cells a, CelAt K (mask (addrs (cells a) ++ M) H) H p.1 p.2) ∧
    DVs K (mask (addrs (cells a) ++ M) H) vs (args a) ∧ pre a ∧ (∀ v H' C' d, post a C' d → Aft K M H (cells a) C' H' → DV K (mask (addrs C' ++ M) H') v d → Q v H') ∧
    ∀ cls dx H' C' x, exc a C' x → Aft K M H (cells a) C' H' → XcAt K (mask (addrs C' ++ M) H') x cls dx → E cls dx H'
/-- what is taken of what is raised -/
structure XT (F : Fm) (X : Cx) (Wd : List Sl → Cells → Xc → Prop) : Prop where
  ex : ∃ W : WX, Takes X W ∧ ∀ Γ c σ H x cls dx, Wd Γ c x → SI X.K F Γ c σ H → XcAt X.K (Vw F c H) x cls dx → W cls dx σ H
theorem XT.no {F : Fm} {X : Cx} : XT F X fun _ _ _ => False := ⟨_, takes0, fun _ _ _ _ _ _ _ z => z.elim⟩
theorem XT.imp {F : Fm} {X : Cx} {W W' : List Sl → Cells → Xc → Prop} (h : XT F X W) (e : ∀ Γ c x, W' Γ c x → W Γ c x) : XT F X W' := by
  obtain ⟨w, h1, h2⟩ := h.ex
  exact ⟨w, h1, fun Γ c σ H x cls dx z => h2 Γ c σ H x cls dx (e Γ c x z)⟩
section
variable {K : PySem.W.Frag} {F : Fm} {Γ : List Sl} {σ : L2.St} {H H' : Hp} {l m m' r : Cells}
theorem mem_lmr {x : Addr} : x ∈ addrs (l ++ m ++ r) ↔ x ∈ addrs l ∨ x ∈ addrs m ∨ x ∈ addrs r := by
  rw [addrs_app, addrs_app, List.mem_append, List.mem_append, or_assoc]
theorem vw_lmr : mask (addrs m ++ (addrs l ++ addrs r ++ F.M)) H = Vw F (l ++ m ++ r) H := mask_eq fun a => by
  unfold hid
  simp only [List.mem_append, mem_lmr, addrs_app]
  constructor
  · rintro (h | (h | h) | h)
    · exact .inl (.inl (.inr h))
    · exact .inl (.inl (.inl h))
    · exact .inl (.inr h)
    · exact .inr h
  · rintro (((h | h) | h) | h)
    · exact .inr (.inl (.inl h))
    · exact .inl h
    · exact .inr (.inl (.inr h))
    · exact .inr (.inr h)
/-- the caller behind the call -/
theorem SI.after (S : SI K F Γ (l ++ m ++ r) σ H) (A : Aft K (addrs l ++ addrs r ++ F.M) H m m' H') : SI K F Γ (l ++ m' ++ r) σ H' ∧ Ex (Vw F (l ++ m ++ r) H) (Vw F (l ++ m' ++ r) H') := by
  have nd := S.nd
  rw [addrs_app, addrs_app] at nd
  obtain ⟨n1, n2, n3⟩ := List.nodup_append.mp nd
  obtain ⟨n4, n5, n6⟩ := List.nodup_append.mp n1
  have ml : ∀ x ∈ addrs l, x ∉ addrs m := fun x hx z => n6 x hx x z rfl
  have mr : ∀ x ∈ addrs r, x ∉ addrs m := fun x hx z => n3 x (List.mem_append_right _ z) x hx rfl
  have nm : ∀ x ∈ addrs m', x ∉ addrs l ∧ x ∉ addrs r ∧ x ∉ F.M := fun x hx => by
    have := (A.fr x hx).1
    exact ⟨fun z => this (List.mem_append_left _ (List.mem_append_left _ z)), fun z => this (List.mem_append_left _ (List.mem_append_right _ z)), fun z => this (List.mem_append_right _ z)⟩
  have ev : Ex (Vw F (l ++ m ++ r) H) (Vw F (l ++ m' ++ r) H') := fun x o q => by
    obtain ⟨n, e⟩ := of_mask q
    have n' : ¬ (x ∈ addrs l ∨ x ∈ addrs m ∨ x ∈ addrs r) := fun z => n (List.mem_append_left _ (mem_lmr.mpr z))
    have nM : x ∉ F.M := fun z => n (List.mem_append_right _ z)
    show mask _ _ _ = _
    rw [mask_out]
    · exact A.keep x o e fun z => n' (.inr (.inl z))
    · intro z
      rcases List.mem_append.mp z with z | z
      · rcases mem_lmr.mp z with z | z | z
        · exact n' (.inl z)
        · rcases (A.fr x z).2 with w | w
          · exact n' (.inr (.inl w))
          · rw [e] at w; cases w
        · exact n' (.inr (.inr z))
      · exact nM z
  have kp : ∀ p, (p ∈ l ∨ p ∈ r) → CelAt K (Vw F (l ++ m' ++ r) H') H' p.1 p.2 := fun p hp => by
    have hc : p ∈ l ++ m ++ r := by
      rcases hp with h | h
      · exact List.mem_append_left _ (List.mem_append_left _ h)
      · exact List.mem_append_right _ h
    refine (S.ce p hc).mono ev fun x hx => ?_
    obtain ⟨o, e, _⟩ := (S.ce p hc).live x hx
    rw [e]
    refine A.keep x o e ?_
    rcases hp with h | h
    · exact ml x (mem_addrs h hx)
    · exact mr x (mem_addrs h hx)
  refine ⟨⟨S.len, ?_, fun i d hi => ?_, fun p hp => ?_, fun x o q => ?_, fun x hx => ?_, fun x hx => ?_, fun x hx => ?_⟩, ev⟩
  · rw [addrs_app, addrs_app]
    refine List.nodup_append.mpr ⟨List.nodup_append.mpr ⟨n4, A.nd, fun x hx y hy e => (nm y hy).1 (e ▸ hx)⟩, n2, fun x hx y hy e => ?_⟩
    rcases List.mem_append.mp hx with hx | hx
    · exact n3 x (List.mem_append_left _ hx) y hy e
    · exact (nm x hx).2.1 (e ▸ hy)
  · obtain ⟨v, h1, h2⟩ := S.sl i d hi
    exact ⟨v, h1, h2.mono ev⟩
  · rcases List.mem_append.mp hp with hp | hp
    · rcases List.mem_append.mp hp with hp | hp
      · exact kp p (.inl hp)
      · have := A.ce p hp
        rw [vw_lmr] at this
        exact this
    · exact kp p (.inr hp)
  · obtain ⟨n, h0⟩ := of_mask q
    have h1 := (of_mask (S.keep x o q)).2
    rw [mask_out n]
    refine A.keep x o h1 fun z => ?_
    rcases (S.fr x (mem_lmr.mpr (.inr (.inl z)))).1 with f | f
    · exact n f
    · rw [h0] at f; cases f
  · rcases mem_lmr.mp hx with hx | hx | hx
    · exact S.fr x (mem_lmr.mpr (.inl hx))
    · refine ⟨?_, (nm x hx).2.2⟩
      rcases (A.fr x hx).2 with w | w
      · exact (S.fr x (mem_lmr.mpr (.inr (.inl w)))).1
      · exact .inr (S.h0 w)
    · exact S.fr x (mem_lmr.mpr (.inr (.inr hx)))
  · exact (S.live x hx).mono fun o e => A.keep x o e fun z => (S.fr x (mem_lmr.mpr (.inr (.inl z)))).2 hx
  · by_cases z : x ∈ addrs m
    · exact A.wl x z
    · obtain ⟨o, e⟩ := S.wl x hx
      exact ⟨o, A.keep x o e z⟩
end
/-- a def that stands under its name and keeps a promise -/
structure DefOk (P : Program) (w : World) (K : PySem.W.Frag) (mg : Str → Option Value) (base : Heap) (k : Nat) (x : Str) (ps : List Str) (sp : Sp) : Prop where
  ex : ∃ f fd, FnOk P w K mg base (L2.CX P w) k f fd ps sp ∧ mg x = some (.ref f) ∧ PySem.W.keepIn K (.ref f) = true ∧ Binds K fd ps []
theorem DefOk.mono {P : Program} {w : World} {K : PySem.W.Frag} {mg : Str → Option Value} {base : Heap} {j k : Nat} {x : Str} {ps : List Str} {sp : Sp} (D : DefOk P w K mg base j x ps sp) (h : j ≤ k) : DefOk P w K mg base k x ps sp := by
  obtain ⟨f, fd, h1, h2⟩ := D.ex
  exact ⟨f, fd, h1.mono h, h2⟩
section
variable {F : Fm} {X : Cx} {Γ : List Sl} {c : Cells} {P : Cells → Dt → Prop} {pos : Pos}
/-- what a call of a promise asks -/
theorem sp_use {α : Type} {args : α → List Dt} {cells : α → Cells} {pre : α → Prop} {post : α → Cells → Dt → Prop} {exc : α → Cells → Xc → Prop} {l r c1 : Cells} {σ : L2.St} {H : Hp} {vs : List V} {Q : VK} {W : WX} {a : α} {Wd : List Sl → Cells → Xc → Prop}
    (hW : ∀ Γ c σ H x cls dx, Wd Γ c x → SI X.K F Γ c σ H → XcAt X.K (Vw F c H) x cls dx → W cls dx σ H) (S : SI X.K F Γ c1 σ H) (hc : c1 = l ++ cells a ++ r) (dv : DVs X.K (Vw F c1 H) vs (args a)) (hp : pre a)
    (hq : ∀ v H' c' d, post a c' d → SI X.K F Γ (l ++ c' ++ r) σ H' → Ex (Vw F c1 H) (Vw F (l ++ c' ++ r) H') → DV X.K (Vw F (l ++ c' ++ r) H') v d → Q v H') (hx : ∀ c' x, exc a c' x → Wd Γ (l ++ c' ++ r) x) :
    spG X.K args cells pre post exc vs H Q (WE W σ) := by
  subst hc
  have nd := S.nd
  rw [addrs_app, addrs_app] at nd
  obtain ⟨n1, n2, n3⟩ := List.nodup_append.mp nd
  obtain ⟨n4, n5, n6⟩ := List.nodup_append.mp n1
  refine ⟨addrs l ++ addrs r ++ F.M, a, fun x hx => ?_, n5, fun x hx z => ?_, fun p hp => ?_, ?_, hp, fun v H' C' d pd A dv' => ?_, fun cls dx H' C' x ex A xa => ?_⟩
  · refine S.hlive x ?_
    rcases List.mem_append.mp hx with h | h
    · refine List.mem_append_left _ (mem_lmr.mpr ?_)
      rcases List.mem_append.mp h with h | h
      · exact .inl h
      · exact .inr (.inr h)
    · exact List.mem_append_right _ h
  · rcases List.mem_append.mp z with h | h
    · rcases List.mem_append.mp h with h | h
      · exact n6 x h x hx rfl
      · exact n3 x (List.mem_append_right _ hx) x h rfl
    · exact (S.fr x (mem_lmr.mpr (.inr (.inl hx)))).2 h
  · rw [vw_lmr]
    exact S.ce p (List.mem_append_left _ (List.mem_append_right _ hp))
  · rw [vw_lmr]
    exact dv
  · obtain ⟨S2, e2⟩ := S.after A
    exact hq v H' C' d pd S2 e2 (by rw [← vw_lmr]; exact dv')
  · obtain ⟨S2, e2⟩ := S.after A
    exact hW Γ _ σ H' x cls dx (hx C' x ex) S2 (by rw [← vw_lmr]; exact xa)
theorem se_fG {α : Type} {args : α → List Dt} {cells : α → Cells} {pre : α → Prop} {post : α → Cells → Dt → Prop} {exc : α → Cells → Xc → Prop} {k : Nat} {ps : List Str} {x : Str} {p : Pos} {e : Expr} {es : List Expr} {Wd : List Sl → Cells → Xc → Prop}
    (Df : DefOk X.prog X.w X.K X.mg X.base k x ps (spG X.K args cells pre post exc)) (hr : Room k X.A) (xt : XT F X Wd)
    (h : SA F X Γ c (e :: es) fun c1 ds => ∃ a l r, ds = args a ∧ c1 = l ++ cells a ++ r ∧ pre a ∧ (∀ c' d, post a c' d → P (l ++ c' ++ r) d) ∧ ∀ c' x, exc a c' x → Wd Γ (l ++ c' ++ r) x) (hg : Gl X x := by rfl) (hdb : (x == ("__debug__" : Str)) = false := by decide)
    (he : starEach (e :: es) X.env = (false, eval e X.env) :: starEach es X.env := by rfl) (hpl : (backTo pos (starEach es X.env)).any (·.1) = false := by rfl) : SE F X Γ c (.Call (.Name x p) (e :: es) [] pos) P := by
  obtain ⟨f, fd, h1, h2, h3, h4⟩ := Df.ex
  obtain ⟨W, tk, hW⟩ := xt.ex
  refine SE.of (pe_callS h1 hr hg h2 h3 h4 (fun σ => passAt tk σ) pAs hdb he hpl) fun σ H Q S k => h σ H _ S fun vs H1 c1 ds q S1 k1 dv => ?_
  obtain ⟨a, l, r, rfl, hc, hp, q1, q2⟩ := q
  exact sp_use hW S1 hc dv hp (fun v H' c' d pd S2 e2 dv' => k v H' _ d (q1 c' d pd) S2 (k1.trans e2) dv') q2
end
def startP (N : List Str) (ds : List Dt) : List Sl := ds.map Sl.dat ++ List.replicate (N.length - ds.length) Sl.un
theorem slots_dat {K : PySem.W.Frag} {H : Hp} : ∀ {vs : List V} {ds : List Dt} (n : Nat), DVs K H vs ds → ∀ (i : Nat) (d : Dt), (ds.map Sl.dat ++ List.replicate n Sl.un)[i]? = some (.dat d) → ∃ v, (vs.map some ++ List.replicate n (none : Option V))[i]? = some (some v) ∧ DV K H v d
  | _, _, n, .nil, i, d, h => by
    simp only [List.map_nil, List.nil_append] at h
    have := List.mem_of_getElem? h
    cases (List.mem_replicate.mp this).2
  | _, _, n, .cons h1 t, 0, d, h => by
    simp at h
    subst h
    exact ⟨_, rfl, h1⟩
  | _ :: vs, _ :: ds, n, .cons h1 t, i + 1, d, h => by
    have h' : (ds.map Sl.dat ++ List.replicate n Sl.un)[i]? = some (.dat d) := by simpa using h
    have q := slots_dat n t i d h'
    simpa using q
section
variable {P : Program} {w : World} {K : PySem.W.Frag} {mg : Str → Option Value} {base : Heap}
theorem fn_G {α : Type} {args : α → List Dt} {cells : α → Cells} {pre : α → Prop} {post : α → Cells → Dt → Prop} {exc : α → Cells → Xc → Prop} {x qual : Str} {st : Stmt} {f : Addr} {fd : FuncData} {N ps : List Str} {k : Nat} (Fu : Fun K x qual st f fd) (S : FnScope N ps (defScope st)) (hl : ∀ a, (args a).length = ps.length)
    (h : ∀ (cdv : Value) (A : Around) (outer : List Env) (s : Shared) (H : Hp) (E : XK) (F : Fm) (a : α), pre a → Room k (A.deeper (envOfC qual (defScope st) s.heap.objs.size f cdv)) →
      XT F (cxOf (L2.CX P w) P w K mg base N qual (defScope st) f cdv A outer s H E) (fun _ => exc a) →
      SS F (cxOf (L2.CX P w) P w K mg base N qual (defScope st) f cdv A outer s H E) (startP N (args a)) (cells a) (defBody st) { nx := fun _ c' => post a c' .non, rt := fun _ c' d => post a c' d }) : FnOk P w K mg base (L2.CX P w) (k + 1) f fd ps (spG K args cells pre post exc) := by
  refine Fu.okX S (fun vs H Q E ⟨M, a, _, _, _, _, dv, _⟩ => by rw [dv.length, hl a]) (fun cdv A outer s H vs Q E hr ⟨M, a, hM, nd, dj, ce, dv, hp, k, kx⟩ => ?_)
  have aft : ∀ {Γ' : List Sl} {c' : Cells} {σ' : L2.St} {H' : Hp}, SI K { H0 := H, M := M, W := addrs (cells a) } Γ' c' σ' H' → Aft K M H (cells a) c' H' := fun S' =>
    ⟨fun b o e n => (of_mask (S'.keep b o (by rw [mask_out n]; exact e))).2, S'.nd, fun x hx => ⟨(S'.fr x hx).2, (S'.fr x hx).1⟩, S'.ce, S'.wl⟩
  have hq := h cdv A outer s H E { H0 := H, M := M, W := addrs (cells a) } a hp hr ⟨fun cls d _ H => E cls d H, takes_of rfl rfl rfl rfl, fun Γ' c' σ' H' x cls dx ex S' xa => kx cls dx H' c' x ex (aft S') xa⟩
  refine ⟨_, pSts, hq _ H _ ⟨?_, nd, fun i d hi => ?_, ce, Ex.refl _, fun x hx => ⟨.inl hx, dj x hx⟩, hM, fun x hx => ?_⟩ ⟨?_, ?_, fun _ _ _ _ z => z.elim, fun _ _ _ _ z => z.elim⟩⟩
  · unfold L2.start startP
    rw [List.length_append, List.length_append, List.length_map, List.length_map, List.length_replicate, List.length_replicate, dv.length]
  · unfold L2.start
    rw [dv.length]
    exact slots_dat _ dv i d hi
  · obtain ⟨p, h1, h2⟩ := of_addrs hx
    exact ((ce p h1).live x h2).ex
  · intro Γ' c' σ' H' p S' e'
    exact k .non H' c' .non p (aft S') .non
  · intro Γ' c' σ' H' v d p S' e' dv'
    exact k v H' c' d p (aft S') dv'
/-- a def that changes nothing -/
def spP (K : PySem.W.Frag) {α : Type} (args : α → List Dt) (pre : α → Prop) (post : α → Dt → Prop) : Sp := spG K args (fun _ => []) pre (fun a c' d => c' = [] ∧ post a d) fun _ _ _ => False
def LIM : Nat := 1000000000
/-- a def whose first argument is the bag -/
def spB (K : PySem.W.Frag) {α : Type} (args : α → List Dt) (pre : α → Prop) (cost : α → Nat) (post : α → Dt → Prop) : Sp :=
  spG K (fun (a : Addr × Nat × α) => .raw (.ref a.1) :: args a.2.2) (fun a => [(a.1, .bag a.2.1)]) (fun a => a.2.1 + cost a.2.2 ≤ LIM ∧ pre a.2.2) (fun a c' d => (∃ n, n ≤ a.2.1 + cost a.2.2 ∧ c' = [(a.1, .bag n)]) ∧ post a.2.2 d) fun _ _ _ => False
theorem fn_P {α : Type} {args : α → List Dt} {pre : α → Prop} {post : α → Dt → Prop} {x qual : Str} {st : Stmt} {f : Addr} {fd : FuncData} {N ps : List Str} {k : Nat} (Fu : Fun K x qual st f fd) (S : FnScope N ps (defScope st)) (hl : ∀ a, (args a).length = ps.length)
    (h : ∀ (cdv : Value) (A : Around) (outer : List Env) (s : Shared) (H : Hp) (E : XK) (F : Fm) (a : α), pre a → Room k (A.deeper (envOfC qual (defScope st) s.heap.objs.size f cdv)) →
      SS F (cxOf (L2.CX P w) P w K mg base N qual (defScope st) f cdv A outer s H E) (startP N (args a)) [] (defBody st) { nx := fun _ c' => c' = [] ∧ post a .non, rt := fun _ c' d => c' = [] ∧ post a d }) : FnOk P w K mg base (L2.CX P w) (k + 1) f fd ps (spP K args pre post) :=
  fn_G Fu S hl fun cdv A outer s H E F a hp hr _ => h cdv A outer s H E F a hp hr
theorem fn_B {α : Type} {args : α → List Dt} {pre : α → Prop} {cost : α → Nat} {post : α → Dt → Prop} {x qual : Str} {st : Stmt} {f : Addr} {fd : FuncData} {N ps : List Str} {k : Nat} (Fu : Fun K x qual st f fd) (S : FnScope N ps (defScope st)) (hl : ∀ a, (args a).length + 1 = ps.length)
    (h : ∀ (cdv : Value) (A : Around) (outer : List Env) (s : Shared) (H : Hp) (E : XK) (F : Fm) (b : Addr) (n : Nat) (a : α), pre a → n + cost a ≤ LIM → Room k (A.deeper (envOfC qual (defScope st) s.heap.objs.size f cdv)) →
      SS F (cxOf (L2.CX P w) P w K mg base N qual (defScope st) f cdv A outer s H E) (startP N (.raw (.ref b) :: args a)) [(b, .bag n)] (defBody st) { nx := fun _ c' => (∃ m, m ≤ n + cost a ∧ c' = [(b, .bag m)]) ∧ post a .non, rt := fun _ c' d => (∃ m, m ≤ n + cost a ∧ c' = [(b, .bag m)]) ∧ post a d }) : FnOk P w K mg base (L2.CX P w) (k + 1) f fd ps (spB K args pre cost post) :=
  fn_G Fu S (fun a => by rw [List.length_cons]; exact hl a.2.2) fun cdv A outer s H E F a hp hr _ => h cdv A outer s H E F a.1 a.2.1 a.2.2 hp.2 hp.1 hr
end
section
variable {F : Fm} {X : Cx} {Γ : List Sl} {c : Cells} {P : Cells → Dt → Prop} {pos : Pos}
theorem se_fP {α : Type} {args : α → List Dt} {pre : α → Prop} {post : α → Dt → Prop} {k : Nat} {ps : List Str} {x : Str} {p : Pos} {e : Expr} {es : List Expr}
    (Df : DefOk X.prog X.w X.K X.mg X.base k x ps (spP X.K args pre post)) (hr : Room k X.A)
    (h : SA F X Γ c (e :: es) fun c1 ds => ∃ a, ds = args a ∧ pre a ∧ ∀ d, post a d → P c1 d) (hg : Gl X x := by rfl) (hdb : (x == ("__debug__" : Str)) = false := by decide)
    (he : starEach (e :: es) X.env = (false, eval e X.env) :: starEach es X.env := by rfl) (hpl : (backTo pos (starEach es X.env)).any (·.1) = false := by rfl) : SE F X Γ c (.Call (.Name x p) (e :: es) [] pos) P :=
  se_fG Df hr XT.no (.mk fun σ H Q S k => h σ H Q S fun vs H' c' ds q => k vs H' c' ds (by
    obtain ⟨a, h1, h2, h3⟩ := q
    refine ⟨a, c', [], h1, by simp, h2, ?_, fun _ _ z => z⟩
    rintro c2 d ⟨rfl, pd⟩
    rw [List.append_nil, List.append_nil]
    exact h3 d pd)) hg hdb he hpl
theorem SI.bagW {K : PySem.W.Frag} {σ : L2.St} {H : Hp} (S : SI K F Γ c σ H) {j : Nat} {b : Addr} {n m : Nat} (hj : c[j]? = some (b, .bag n)) (h : n ≤ m) : SI K F Γ (c.set j (b, .bag m)) σ H ∧ Ex (Vw F c H) (Vw F (c.set j (b, .bag m)) H) :=
  S.chg (q' := .bag m) hj rfl (fun _ _ => rfl) (BagAt.mono (S.cat hj) h)
theorem split_at {α : Type} {l : List α} {j : Nat} {x : α} (h : l[j]? = some x) : l = l.take j ++ [x] ++ l.drop (j + 1) ∧ ∀ y, l.set j y = l.take j ++ [y] ++ l.drop (j + 1) := by
  have hl : j < l.length := (List.getElem?_eq_some_iff.mp h).1
  have e : l[j] = x := (List.getElem?_eq_some_iff.mp h).2
  refine ⟨?_, fun y => ?_⟩
  · rw [List.append_assoc, ← e]
    show l = l.take j ++ (l[j] :: l.drop (j + 1))
    rw [← List.drop_eq_getElem_cons hl, List.take_append_drop]
  · rw [List.append_assoc]
    show l.set j y = l.take j ++ (y :: l.drop (j + 1))
    rw [List.set_eq_take_append_cons_drop, if_pos hl]
theorem se_fB {α : Type} {args : α → List Dt} {pre : α → Prop} {cost : α → Nat} {post : α → Dt → Prop} {k : Nat} {ps : List Str} {x : Str} {p : Pos} {e : Expr} {es : List Expr} (j : Nat)
    (Df : DefOk X.prog X.w X.K X.mg X.base k x ps (spB X.K args pre cost post)) (hr : Room k X.A)
    (h : SA F X Γ c (e :: es) fun c1 ds => ∃ b n a, c1[j]? = some (b, .bag n) ∧ ds = .raw (.ref b) :: args a ∧ pre a ∧ n + cost a ≤ LIM ∧ ∀ d, post a d → P (c1.set j (b, .bag (n + cost a))) d) (hg : Gl X x := by rfl) (hdb : (x == ("__debug__" : Str)) = false := by decide)
    (he : starEach (e :: es) X.env = (false, eval e X.env) :: starEach es X.env := by rfl) (hpl : (backTo pos (starEach es X.env)).any (·.1) = false := by rfl) : SE F X Γ c (.Call (.Name x p) (e :: es) [] pos) P := by
  refine .mk fun σ H Q S k => ?_
  refine se_fG (P := fun c2 d => ∃ c1 b n m, c1[j]? = some (b, .bag n) ∧ n ≤ m ∧ P (c1.set j (b, .bag m)) d ∧ c2 = c1) Df hr XT.no (.mk fun σ H Q S k => h σ H Q S fun vs H' c' ds q => k vs H' c' ds (by
    obtain ⟨b, n, a, h1, h2, h3, h4, h5⟩ := q
    obtain ⟨e1, e2⟩ := split_at h1
    refine ⟨(b, n, a), c'.take j, c'.drop (j + 1), h2, e1, ⟨h4, h3⟩, ?_, fun _ _ z => z⟩
    rintro c2 d ⟨⟨m, hm, rfl⟩, pd⟩
    refine ⟨_, b, m, n + cost a, ?_, hm, ?_, rfl⟩
    · rw [← e2]
      exact List.getElem?_set_self (List.getElem?_eq_some_iff.mp h1).1
    · rw [← e2, List.set_set]
      exact h5 d pd)) hg hdb he hpl σ H Q S ?_
  rintro v H' c' d ⟨c1, b, n, m, h1, h2, h3, rfl⟩ S' e' dv
  obtain ⟨S2, e2⟩ := S'.bagW h1 h2
  exact k v H' _ d h3 S2 (e'.trans e2) (dv.mono e2)
end
end D
end
section
set_option Elab.async false
set_option linter.all false
set_option maxRecDepth 100000
namespace D
open PySem L2 PyProof.Rows
abbrev tl (s : Str) : List Nat := s.cps.toList
theorem tl_app (a b : Str) : tl (a ++ b) = tl a ++ tl b := TL.tl_append a b
theorem len_app (a b : Str) : (a ++ b).length = a.length + b.length := by rw [TL.len_tl, TL.len_tl a, TL.len_tl b, TL.tl_append, List.length_append]
theorem len_tl (s : Str) : s.length = (tl s).length := TL.len_tl s
theorem tl_join (y : Str) (l : List Str) : tl (Txt.join y l) = TL.joinL (tl y) (l.map tl) := by
  rw [TL.join_eq]
  exact TL.tl_join y l
theorem joinL_nil : ∀ l : List (List Nat), TL.joinL [] l = l.flatten
  | [] => rfl
  | [p] => by simp [TL.joinL]
  | p :: q :: r => by
    show p ++ ([] ++ TL.joinL [] (q :: r)) = (p :: q :: r).flatten
    rw [joinL_nil (q :: r)]
    rfl
theorem tl_join0 {y : Str} (h : tl y = []) (l : List Str) : tl (Txt.join y l) = (l.map tl).flatten := by rw [tl_join, h, joinL_nil]
theorem joinL_ne {S : List Nat} {p : List Nat} : ∀ {l : List (List Nat)}, l ≠ [] → TL.joinL S (p :: l) = p ++ (S ++ TL.joinL S l)
  | [], h => absurd rfl h
  | q :: r, _ => rfl
theorem spl_ne (S : List Nat) : ∀ (k : Nat) (acc L : List Nat), TL.spl S k acc L ≠ []
  | k, acc, [] => by rw [TL.spl_nil]; simp
  | 0, acc, c :: r => by
    show (if TL.pre S (c :: r) = true then acc :: TL.spl S (S.length - 1) [] r else TL.spl S 0 (acc ++ [c]) r) ≠ []
    split
    · simp
    · exact spl_ne S 0 _ r
  | k + 1, acc, c :: r => by
    show TL.spl S k acc r ≠ []
    exact spl_ne S k acc r
/-- a split text, joined -/
theorem join_spl {S : List Nat} (hS : S ≠ []) : ∀ (n : Nat) (acc L : List Nat), L.length ≤ n → TL.joinL S (TL.spl S 0 acc L) = acc ++ L
  | n, acc, [], _ => by rw [TL.spl_nil]; simp [TL.joinL]
  | n + 1, acc, c :: r, h => by
    cases e : TL.pre S (c :: r) with
    | true =>
      rw [TL.spl_hit e, joinL_ne (spl_ne _ _ _ _), TL.spl_pass, join_spl hS n [] _ (by rw [List.length_drop]; simp at h; omega)]
      have e1 : (c :: r).take S.length = S := eq_of_beq e
      have e2 : (c :: r).drop S.length = r.drop (S.length - 1) := by
        cases S with
        | nil => exact absurd rfl hS
        | cons s S => rfl
      rw [List.nil_append, ← e2]
      have e3 : S ++ (c :: r).drop S.length = c :: r := by
        have := List.take_append_drop S.length (c :: r)
        rw [e1] at this
        exact this
      rw [e3]
    | false =>
      rw [TL.spl_miss e, join_spl hS n _ r (by simp at h; omega), List.append_assoc]
      rfl
theorem split_tl (x y : Str) (hy : tl y ≠ []) (hk : y.cps.all (· < 256) = true) : (Txt.split x y).map tl = TL.spl (tl y) 0 [] (tl x) := TL.split_spl x y hy (TL.kind_ok hk)
theorem join_split (x y : Str) (hy : tl y ≠ []) (hk : y.cps.all (· < 256) = true) : TL.joinL (tl y) ((Txt.split x y).map tl) = tl x := by
  rw [split_tl x y hy hk, join_spl hy _ _ _ (Nat.le_refl _), List.nil_append]
theorem mem_joinL {S p : List Nat} {a : Nat} : ∀ {l : List (List Nat)}, p ∈ l → a ∈ p → a ∈ TL.joinL S l
  | [q], h, ha => by rw [List.mem_singleton.mp h] at ha; exact ha
  | q :: r :: t, h, ha => by
    show a ∈ q ++ (S ++ TL.joinL S (r :: t))
    rcases List.mem_cons.mp h with h | h
    · rw [h] at ha; exact List.mem_append_left _ ha
    · exact List.mem_append_right _ (List.mem_append_right _ (mem_joinL h ha))
theorem len_joinL (S : List Nat) : ∀ l : List (List Nat), (TL.joinL S l).length + (if l = [] then 0 else S.length) = (l.map List.length).sum + l.length * S.length
  | [] => by simp [TL.joinL]
  | [q] => by simp [TL.joinL]
  | q :: r :: t => by
    have ih := len_joinL S (r :: t)
    rw [if_neg (by simp)] at ih
    show (q ++ (S ++ TL.joinL S (r :: t))).length + _ = _
    rw [List.length_append, List.length_append, if_neg (by simp), List.map_cons, List.sum_cons, List.length_cons (as := r :: t), Nat.add_mul, Nat.one_mul]
    omega
theorem le_sum_of_mem {a : Nat} : ∀ {l : List Nat}, a ∈ l → a ≤ l.sum
  | b :: l, h => by
    rw [List.sum_cons]
    rcases List.mem_cons.mp h with h | h
    · omega
    · have := le_sum_of_mem h; omega
/-- plain texts: a length, signs of seven bits -/
structure Asc (n : Nat) (s : Str) : Prop where
  len : s.length ≤ n
  cp : ∀ a ∈ tl s, a < 128
theorem Asc.mono {n m : Nat} {s : Str} (h : Asc n s) (l : n ≤ m) : Asc m s := ⟨Nat.le_trans h.len l, h.cp⟩
theorem Asc.ok {n : Nat} {s : Str} (h : Asc n s) : PyData.strOk s = true := by
  unfold PyData.strOk
  rw [Array.all_eq_true_iff_forall_mem]
  intro a ha
  have := h.cp a (by simpa [tl] using ha)
  exact decide_eq_true (by omega)
theorem Asc.app {n m : Nat} {a b : Str} (h : Asc n a) (k : Asc m b) : Asc (n + m) (a ++ b) := ⟨by rw [len_app]; exact Nat.add_le_add h.len k.len, fun x hx => by
  rw [tl_app] at hx
  rcases List.mem_append.mp hx with z | z
  · exact h.cp x z
  · exact k.cp x z⟩
theorem tl_cut (z : Str) (lo hi : Option Int) : tl (cutS z lo hi) = ((tl z).drop (HT.sIx z.length 0 lo)).take (HT.sIx z.length z.length hi - HT.sIx z.length 0 lo) := rfl
theorem Asc.cut {n : Nat} {z : Str} (h : Asc n z) (lo hi : Option Int) : Asc n (cutS z lo hi) := ⟨by
  rw [len_tl, tl_cut, List.length_take, List.length_drop]
  have := h.len
  rw [len_tl] at this
  omega, fun a ha => by
  rw [tl_cut] at ha
  exact h.cp a (List.mem_of_mem_drop (List.mem_of_mem_take ha))⟩
theorem Asc.part {n : Nat} {x y : Str} (h : Asc n x) (hy : tl y ≠ []) (hk : y.cps.all (· < 256) = true) : ∀ p ∈ Txt.split x y, Asc n p := fun p hp => by
  have hj := join_split x y hy hk
  have hm : tl p ∈ (Txt.split x y).map tl := List.mem_map_of_mem hp
  refine ⟨?_, fun a ha => h.cp a (by rw [← hj]; exact mem_joinL hm ha)⟩
  have hl := len_joinL (tl y) ((Txt.split x y).map tl)
  rw [hj, if_neg (by intro e; rw [e] at hm; exact nomatch hm)] at hl
  have h1 : (tl p).length ≤ (((Txt.split x y).map tl).map List.length).sum := by
    have : (tl p).length ∈ ((Txt.split x y).map tl).map List.length := List.mem_map_of_mem hm
    exact le_sum_of_mem this
  have h2 : (tl y).length ≤ ((Txt.split x y).map tl).length * (tl y).length := by
    have : 0 < ((Txt.split x y).map tl).length := List.length_pos_of_mem hm
    exact Nat.le_mul_of_pos_left _ this
  have h3 := h.len
  rw [len_tl] at h3 ⊢
  omega
theorem cutD_from {α : Type} (l : List α) {k : Int} (h : 0 ≤ k) : cutD l (some k) none = l.drop k.toNat := by
  unfold cutD
  show (l.drop (if k < 0 then _ else min k.toNat l.length)).take (l.length - (if k < 0 then _ else min k.toNat l.length)) = _
  rw [if_neg (by omega)]
  by_cases e : k.toNat ≤ l.length
  · rw [Nat.min_eq_left e, List.take_of_length_le (by rw [List.length_drop]; omega)]
  · rw [Nat.min_eq_right (by omega), List.drop_length, List.drop_of_length_le (by omega)]
    simp
theorem cutD_to {α : Type} (l : List α) {k : Int} (h : 0 ≤ k) : cutD l none (some k) = l.take k.toNat := by
  unfold cutD
  show (l.drop 0).take ((if k < 0 then _ else min k.toNat l.length) - 0) = _
  rw [if_neg (by omega), List.drop_zero, Nat.sub_zero]
  by_cases e : k.toNat ≤ l.length
  · rw [Nat.min_eq_left e]
  · rw [Nat.min_eq_right (by omega), List.take_length, List.take_of_length_le (by omega)]
theorem eqd_lst_nil (l : List Dt) : eqd (.lst l) (.lst []) = l.isEmpty := by
  unfold eqd
  cases l with
  | nil => rfl
  | cons d l => rfl
theorem eqd_tup_nil (l : List Dt) : eqd (.tup l) (.tup []) = l.isEmpty := by
  unfold eqd
  cases l with
  | nil => rfl
  | cons d l => rfl
section
variable {F : Fm} {X : Cx} {Γ : List Sl} {c : Cells} {Φ : PEnds} {pos : Pos}
theorem so_none {P : Cells → Option Int → Prop} (p : P c none) : SO F X Γ c none P := p
theorem so_some {e : Expr} {P : Cells → Option Int → Prop} (h : SE F X Γ c e fun c1 d => ∃ i, d = .int i ∧ P c1 (some i)) : SO F X Γ c (some e) P := SE.mono h fun _ _ q => .inl q
theorem so_someN {e : Expr} {P : Cells → Option Int → Prop} (h : SE F X Γ c e fun c1 d => d = .non ∧ P c1 none) : SO F X Γ c (some e) P := SE.mono h fun _ _ q => .inr q
end
end D
end
section
set_option Elab.async false
set_option linter.all false
set_option maxRecDepth 100000
namespace D
open PySem L2 PyProof.Rows
theorem room65 {k : Nat} {A : Around} (hr : Room k A) : A.units + 65 < cLine := by have := hr.un; omega
section
variable {F : Fm} {X : Cx} {Γ : List Sl} {c : Cells} {P : Cells → Dt → Prop} {Φ : PEnds} {pos : Pos}
theorem se_neg {e : Expr} (h : SE F X Γ c e fun c1 d => ∃ i : Int, d = .int i ∧ P c1 (.int (-i))) : SE F X Γ c (.UnaryOp .USub e pos) P :=
  SE.of (pe_un un_neg pE) fun σ H Q S k => h σ H _ S fun v H1 c1 d p S1 e1 dv => by
    obtain ⟨i, rfl, p⟩ := p
    cases dv
    exact ⟨i, rfl, k _ H1 c1 _ p S1 e1 (.int _)⟩
end
end D
end
section
set_option Elab.async false
set_option linter.all false
set_option maxRecDepth 100000
namespace D
open PySem L2 PyProof.Rows
end D
end
section
set_option Elab.async false
set_option linter.all false
set_option maxRecDepth 100000
namespace D
open PySem L2 PyProof.Rows
section
variable {κ : Type} [DecidableEq κ]
def dval (l : List (κ × Dt)) (k : κ) : Option Dt := (l.find? fun kv => decide (kv.1 = k)).map (·.2)
def dput (l : List (κ × Dt)) (k : κ) (d : Dt) : List (κ × Dt) := if (l.any fun kv => decide (kv.1 = k)) = true then l.map (fun kv => if kv.1 = k then (kv.1, d) else kv) else l ++ [(k, d)]
def ddrop (l : List (κ × Dt)) (k : κ) : List (κ × Dt) := l.filter fun kv => decide (kv.1 ≠ k)
end
/-- the values, key by key -/
inductive DVp {κ : Type} (K : PySem.W.Frag) (H : Hp) : List (κ × V) → List (κ × Dt) → Prop
  | nil : DVp K H [] []
  | cons {k : κ} {v : V} {vs : List (κ × V)} {d : Dt} {ds : List (κ × Dt)} : DV K H v d → DVp K H vs ds → DVp K H ((k, v) :: vs) ((k, d) :: ds)
section
variable {K : PySem.W.Frag} {H : Hp}
theorem DVk.p : ∀ {xs : List (Key × V)} {l : List (Key × Dt)}, DVk K H xs l → DVp K H xs l
  | _, _, .nil => .nil
  | _, _, .cons h t => .cons h (DVk.p t)
theorem DVp.k : ∀ {xs : List (Key × V)} {l : List (Key × Dt)}, DVp K H xs l → DVk K H xs l
  | _, _, .nil => .nil
  | _, _, .cons h t => .cons h (DVp.k t)
theorem DVu.p : ∀ {xs : List (List Key × V)} {l : List (List Key × Dt)}, DVu K H xs l → DVp K H xs l
  | _, _, .nil => .nil
  | _, _, .cons h t => .cons h (DVu.p t)
theorem DVp.u : ∀ {xs : List (List Key × V)} {l : List (List Key × Dt)}, DVp K H xs l → DVu K H xs l
  | _, _, .nil => .nil
  | _, _, .cons h t => .cons h (DVp.u t)
section
variable {κ : Type} [DecidableEq κ]
theorem DVp.length : ∀ {xs : List (κ × V)} {l : List (κ × Dt)}, DVp K H xs l → xs.length = l.length
  | _, _, .nil => rfl
  | _, _, .cons _ t => congrArg (· + 1) (DVp.length t)
theorem DVp.keys : ∀ {xs : List (κ × V)} {l : List (κ × Dt)}, DVp K H xs l → xs.map (·.1) = l.map (·.1)
  | _, _, .nil => rfl
  | _, _, .cons _ t => by simp [DVp.keys t]
theorem DVp.get : ∀ {xs : List (κ × V)} {l : List (κ × Dt)} {i : Nat} {k : κ} {v : V}, DVp K H xs l → xs[i]? = some (k, v) → ∃ d, l[i]? = some (k, d) ∧ DV K H v d
  | _, _, _, _, _, .nil, h => by simp at h
  | _, _, 0, _, _, .cons h t, e => by simp at e; obtain ⟨rfl, rfl⟩ := e; exact ⟨_, rfl, h⟩
  | _, _, i + 1, k, v, .cons h t, e => by
    obtain ⟨d, h1, h2⟩ := DVp.get (i := i) t (by simpa using e)
    exact ⟨d, by simpa using h1, h2⟩
theorem dval_pos {p : κ × Dt} {r : List (κ × Dt)} {k : κ} (e : p.1 = k) : dval (p :: r) k = some p.2 := by simp [dval, List.find?_cons, e]
theorem dval_neg {p : κ × Dt} {r : List (κ × Dt)} {k : κ} (e : ¬ p.1 = k) : dval (p :: r) k = dval r k := by simp [dval, List.find?_cons, e]
theorem dval_any (k : κ) : ∀ l : List (κ × Dt), (l.any fun kv => decide (kv.1 = k)) = (dval l k).isSome
  | [] => rfl
  | p :: l => by
    by_cases e : p.1 = k
    · rw [dval_pos e, List.any_cons]; simp [e]
    · rw [dval_neg e, List.any_cons, dval_any k l]; simp [e]
/-- the looked-up value: both there, or both not -/
theorem DVp.val (k : κ) : ∀ {xs : List (κ × V)} {l : List (κ × Dt)}, DVp K H xs l → (valV xs k = none ∧ dval l k = none) ∨ ∃ v d, valV xs k = some v ∧ dval l k = some d ∧ DV K H v d
  | _, _, .nil => .inl ⟨rfl, rfl⟩
  | _, _, .cons (k := j) (v := v) (d := d) h t => by
    by_cases e : j = k
    · exact .inr ⟨v, d, valV_pos e, dval_pos e, h⟩
    · rw [valV_neg (p := (j, v)) e, dval_neg (p := (j, d)) e]
      exact DVp.val k t
theorem DVp.repl (k : κ) {v : V} {d : Dt} (dv : DV K H v d) : ∀ {xs : List (κ × V)} {l : List (κ × Dt)}, DVp K H xs l → DVp K H (xs.map fun kv => if kv.1 = k then (kv.1, v) else kv) (l.map fun kv => if kv.1 = k then (kv.1, d) else kv)
  | _, _, .nil => .nil
  | _, _, .cons (k := j) h t => by
    by_cases e : j = k
    · simp only [List.map_cons, e, if_true]; exact .cons dv (DVp.repl k dv t)
    · simp only [List.map_cons, if_neg e]; exact .cons h (DVp.repl k dv t)
theorem DVp.app : ∀ {xs ys : List (κ × V)} {l m : List (κ × Dt)}, DVp K H xs l → DVp K H ys m → DVp K H (xs ++ ys) (l ++ m)
  | _, _, _, _, .nil, u => u
  | _, _, _, _, .cons h t, u => .cons h (DVp.app t u)
theorem DVp.put (k : κ) {v : V} {d : Dt} (dv : DV K H v d) {xs : List (κ × V)} {l : List (κ × Dt)} (t : DVp K H xs l) : DVp K H (putK xs k v) (dput l k d) := by
  have e : (xs.any fun kv => decide (kv.1 = k)) = (l.any fun kv => decide (kv.1 = k)) := by
    rw [valV_any, dval_any]
    rcases t.val k with ⟨h1, h2⟩ | ⟨a, b, h1, h2, _⟩ <;> rw [h1, h2] <;> rfl
  unfold putK dput
  rw [e]
  by_cases z : (l.any fun kv => decide (kv.1 = k)) = true
  · rw [if_pos z, if_pos z]; exact t.repl k dv
  · rw [if_neg z, if_neg z]; exact t.app (.cons dv .nil)
theorem DVp.drop (k : κ) : ∀ {xs : List (κ × V)} {l : List (κ × Dt)}, DVp K H xs l → DVp K H (dropK xs k) (ddrop l k)
  | _, _, .nil => .nil
  | _, _, .cons (k := j) h t => by
    unfold dropK ddrop
    by_cases e : j = k
    · simp only [List.filter_cons, e, ne_eq, not_true_eq_false, decide_false]
      exact DVp.drop k t
    · simp only [List.filter_cons, e, ne_eq, not_false_eq_true, decide_true, if_true]
      exact .cons h (DVp.drop k t)
end
end
/-- a datum as a key -/
def dkey : Dt → Option Key
  | .int i => some (.inl i)
  | .str s => some (.inr s)
  | _ => none
theorem dkey_dv {K : PySem.W.Frag} {H : Hp} {v : V} {d : Dt} {k : Key} (h : DV K H v d) (e : dkey d = some k) : v = kV k := by
  cases h <;> cases e <;> rfl
/-- a slot's own dict frozen for good, ahead of a statement -/
theorem tSts_lock {X : Cx} {ss : List Stmt} {E : Ends} {σ : L2.St} {H : Hp} {d : Addr} {u : HO} (hd : H d = some u) (mu : Mut (some u)) (h : ∀ od, tSts X ss E σ (upd H d (.frz od u))) : tSts X ss E σ H :=
  ⟨fun pins s I => by
    obtain ⟨od, I1⟩ := I.lock hd mu
    exact (h od).run pins s I1⟩
section
variable {F : Fm} {X : Cx} {Γ : List Sl} {c : Cells} {P : Cells → Dt → Prop} {Φ : PEnds} {pos : Pos}
/-- the cell j, a dict, becomes a datum -/
theorem SI.frD {K : PySem.W.Frag} {σ : L2.St} {H : Hp} (S : SI K F Γ c σ H) {j : Nat} {a : Addr} {l : List (Key × Dt)} (hj : c[j]? = some (a, .dk l)) : ∃ xs, H a = some (.dK xs) ∧ ∀ od, SI K F Γ (c.eraseIdx j) σ (upd H a (.frz od (.dK xs))) ∧ Ex (Vw F c H) (Vw F (c.eraseIdx j) (upd H a (.frz od (.dK xs)))) ∧
    DV K (Vw F (c.eraseIdx j) (upd H a (.frz od (.dK xs)))) (.ref a) (.dct l) := by
  obtain ⟨xs, h1, h2⟩ := S.cat hj
  refine ⟨xs, h1, fun od => ?_⟩
  obtain ⟨S2, e2, ha⟩ := S.letGo (H' := upd H a (.frz od (.dK xs))) hj (fun x hx => upd_ne fun z => hx (by rw [z]; exact List.mem_cons_self ..)) fun x hx => by cases List.mem_singleton.mp hx; exact ⟨_, upd_same, fun _ z => nomatch z⟩
  exact ⟨S2, e2, .dct ((ha a (List.mem_cons_self ..)).trans upd_same) (h2.mono e2)⟩
theorem set_same {σ : L2.St} {i : Nat} {o : Option V} (h : σ[i]? = some o) : σ.set i o = σ := by
  refine List.ext_getElem? fun k => ?_
  by_cases hik : i = k
  · subst hik
    rw [List.getElem?_set_self (List.getElem?_eq_some_iff.mp h).1, h]
  · rw [List.getElem?_set_ne hik]
/-- ahead of a statement: the dict that the slot i holds is a datum from now on -/
theorem ss_freezeD (i j : Nat) {a : Addr} {l : List (Key × Dt)} {ss : List Stmt} (hi : Γ[i]? = some (.dat (.raw (.ref a)))) (hj : c[j]? = some (a, .dk l)) (h : SS F X (Γ.set i (.dat (.dct l))) (c.eraseIdx j) ss Φ) : SS F X Γ c ss Φ := .mk fun σ H D S E => by
  obtain ⟨xs, h1, h2⟩ := S.frD hj
  refine tSts_lock h1 True.intro fun od => ?_
  obtain ⟨S2, e2, dv⟩ := h2 od
  obtain ⟨v, s1, s2⟩ := S.sl i _ hi
  cases s2
  have q := S2.setD (i := i) dv
  rw [set_same s1] at q
  exact h σ _ D q (E.ext e2)
/-- {} -/
theorem se_dnew {P : Cells → Dt → Prop} (p : ∀ a, P (c ++ [(a, .dk [])]) (.raw (.ref a))) : SE F X Γ c (.Dict [] [] pos) P := SE.of pe_dnewK fun σ H Q S k q hq => by
  obtain ⟨S2, e2⟩ := S.addC (q := .dk []) (o := .dK []) hq rfl ⟨[], upd_same, .nil⟩
  exact k _ _ _ _ (p q) S2 e2 (.raw _)
def rDin : R2 := fun x y H Q => ∃ a o, y = .ref a ∧ DGet H a x o ∧ Q (.bl o.isSome) H
def rDnot : R2 := fun x y H Q => ∃ a o, y = .ref a ∧ DGet H a x o ∧ Q (.bl (!o.isSome)) H
theorem op_din (hu : X.A.units + 1 < cLine) : OpR X (compareOp .In) rDin := fun pins s σ H x y v u Q I rx ry ⟨a, o, ey, g, q⟩ => by
  subst ey
  obtain rfl : u = Value.ref a := ry
  exact d_in hu I g rx fun s' I' => ⟨.bl o.isSome, H, I', rfl, q⟩
theorem op_dnot (hu : X.A.units + 1 < cLine) : OpR X (compareOp .NotIn) rDnot := fun pins s σ H x y v u Q I rx ry ⟨a, o, ey, g, q⟩ => by
  subst ey
  obtain rfl : u = Value.ref a := ry
  exact d_notIn hu I g rx fun s' I' => ⟨.bl (!o.isSome), H, I', rfl, q⟩
def rDix : R2 := fun x y H Q => ∃ a v, x = .ref a ∧ DGet H a y (some v) ∧ Q v H
theorem ix_dict (hu : X.A.units + 1 < cLine) : IxR X rDix := fun value slice pins s σ H x y v u Q I rx ry ⟨a, w, ex, g, q⟩ hs => by
  subst ex
  obtain rfl : v = Value.ref a := rx
  have hT := dict_typeIs I g
  unfold subscriptTail
  refine wpAny_bind ?_
  rw [getitemInPython_of_ne hT.not_modules]
  refine wpAny_bind (wpAny_specialOf hT PySem.F.slot_dict_getitem.lookup ?_)
  have fin : wpAny (model X.prog X.w) X.A (subscripted slice false (.ref a) u) (fun r s₃ => wpAny (model X.prog X.w) X.A (letTemporaryGo value (.ref a) r >>= fun _ => pure r) (EP X pins σ Q) X.xe s₃) X.xe s := by
    rw [hs]
    exact wpAny_operating (wpAny_mono (d_getItem hu I g ry fun w' s3 I3 rw' => (⟨w, H, I3, rw', q⟩ : EP X pins σ Q w' s3)) (fun r s₃ h₃ => wpAny_bind (wpAny_letTemporaryGo (wpAny_pure h₃))) fun _ _ x => x)
  first
    | exact wpAny_pure (wpAny_bind fin)
    | exact wpAny_bind (wpAny_pure (wpAny_bind fin))
    | exact wpAny_bind fin
/-- a dict datum, or a dict cell, read at a key -/
theorem dget_dct {K : PySem.W.Frag} {V0 H : Hp} {a : Addr} {y : V} {l : List (Key × Dt)} {d : Dt} {k : Key} (h : DV K V0 (.ref a) (.dct l)) (e : Ex V0 H) (hy : DV K V0 y d) (hk : dkey d = some k) : ∃ o, DGet H a y o ∧ ((o = none ∧ dval l k = none) ∨ ∃ v d, o = some v ∧ dval l k = some d ∧ DV K V0 v d) := by
  cases h with
  | dct ha t =>
    refine ⟨valV _ k, .inl ⟨_, k, .inr ⟨_, e _ _ ha⟩, dkey_dv hy hk, rfl⟩, ?_⟩
    rcases t.p.val k with h | ⟨v, d, h1, h2, h3⟩
    · exact .inl h
    · exact .inr ⟨v, d, h1, h2, h3⟩
theorem dget_cel {K : PySem.W.Frag} {V0 H : Hp} {a : Addr} {y : V} {l : List (Key × Dt)} {d : Dt} {k : Key} (h : CelAt K V0 H a (.dk l)) (hy : DV K V0 y d) (hk : dkey d = some k) : ∃ o, DGet H a y o ∧ ((o = none ∧ dval l k = none) ∨ ∃ v d, o = some v ∧ dval l k = some d ∧ DV K V0 v d) := by
  obtain ⟨xs, ha, t⟩ := h
  refine ⟨valV _ k, .inl ⟨_, k, .inl ha, dkey_dv hy hk, rfl⟩, ?_⟩
  rcases t.p.val k with h | ⟨v, d, h1, h2, h3⟩
  · exact .inl h
  · exact .inr ⟨v, d, h1, h2, h3⟩
theorem isd_dct {K : PySem.W.Frag} {V0 H : Hp} {v : V} {l : List (Key × Dt)} (h : DV K V0 v (.dct l)) (e : Ex V0 H) : ∃ a, v = .ref a ∧ IsD H a := by
  cases h with
  | dct ha t => exact ⟨_, rfl, .inl ⟨_, .inr ⟨_, e _ _ ha⟩⟩⟩
theorem ov_inDct {d : Dt} {l : List (Key × Dt)} {k : Key} (hu : X.A.units + 1 < cLine) (hk : dkey d = some k) (p : P c (.bl (dval l k).isSome)) : OpV F X Γ c (compareOp .In) d (.dct l) P :=
  OpV.of (op_din hu) fun σ H x y Q S h1 h2 kk => by
    obtain ⟨a, rfl, _⟩ := isd_dct h2 (mask_ex _ _)
    obtain ⟨o, g, h⟩ := dget_dct h2 (mask_ex _ _) h1 hk
    refine ⟨a, o, rfl, g, kk _ H c _ ?_ S (Ex.refl _) (.bl _)⟩
    rcases h with ⟨rfl, e⟩ | ⟨v, z, rfl, e, _⟩ <;> rw [e] at p <;> exact p
theorem ov_inCel (j : Nat) {a : Addr} {d : Dt} {l : List (Key × Dt)} {k : Key} (hu : X.A.units + 1 < cLine) (hj : c[j]? = some (a, .dk l)) (hk : dkey d = some k) (p : P c (.bl (dval l k).isSome)) : OpV F X Γ c (compareOp .In) d (.raw (.ref a)) P :=
  OpV.of (op_din hu) fun σ H x y Q S h1 h2 kk => by
    cases h2
    obtain ⟨o, g, h⟩ := dget_cel (S.cat hj) h1 hk
    refine ⟨a, o, rfl, g, kk _ H c _ ?_ S (Ex.refl _) (.bl _)⟩
    rcases h with ⟨rfl, e⟩ | ⟨v, z, rfl, e, _⟩ <;> rw [e] at p <;> exact p
theorem ov_notCel (j : Nat) {a : Addr} {d : Dt} {l : List (Key × Dt)} {k : Key} (hu : X.A.units + 1 < cLine) (hj : c[j]? = some (a, .dk l)) (hk : dkey d = some k) (p : P c (.bl (!(dval l k).isSome))) : OpV F X Γ c (compareOp .NotIn) d (.raw (.ref a)) P :=
  OpV.of (op_dnot hu) fun σ H x y Q S h1 h2 kk => by
    cases h2
    obtain ⟨o, g, h⟩ := dget_cel (S.cat hj) h1 hk
    refine ⟨a, o, rfl, g, kk _ H c _ ?_ S (Ex.refl _) (.bl _)⟩
    rcases h with ⟨rfl, e⟩ | ⟨v, z, rfl, e, _⟩ <;> rw [e] at p <;> exact p
theorem iv_dct {d d' : Dt} {l : List (Key × Dt)} {k : Key} (hu : X.A.units + 1 < cLine) (hk : dkey d = some k) (hv : dval l k = some d') (p : P c d') : IxV F X Γ c (.dct l) d P :=
  IxV.of (ix_dict hu) fun σ H x y Q S h1 h2 kk => by
    obtain ⟨a, rfl, _⟩ := isd_dct h1 (mask_ex _ _)
    obtain ⟨o, g, h⟩ := dget_dct h1 (mask_ex _ _) h2 hk
    rcases h with ⟨rfl, e⟩ | ⟨v, z, rfl, e, dv⟩
    · rw [e] at hv; cases hv
    · rw [e] at hv; cases hv
      exact ⟨a, v, rfl, g, kk v H c _ p S (Ex.refl _) dv⟩
theorem iv_cel (j : Nat) {a : Addr} {d d' : Dt} {l : List (Key × Dt)} {k : Key} (hu : X.A.units + 1 < cLine) (hj : c[j]? = some (a, .dk l)) (hk : dkey d = some k) (hv : dval l k = some d') (p : P c d') : IxV F X Γ c (.raw (.ref a)) d P :=
  IxV.of (ix_dict hu) fun σ H x y Q S h1 h2 kk => by
    cases h1
    obtain ⟨o, g, h⟩ := dget_cel (S.cat hj) h2 hk
    rcases h with ⟨rfl, e⟩ | ⟨v, z, rfl, e, dv⟩
    · rw [e] at hv; cases hv
    · rw [e] at hv; cases hv
      exact ⟨a, v, rfl, g, kk v H c _ p S (Ex.refl _) dv⟩
/-- a dict's method, whatever the dict's keys -/
theorem pe_dm {name : Str} {id : String} {o e : Expr} {es : List Expr} {apos cpos : Pos} {r : V → List V → Hp → VK → Prop} {to : TE} {t : TA} (slot : Slot "dict" name id) (hty : typeOf (.builtin id) = pure (.type "method_descriptor")) (hm : MtR X id r) (ho : PE X o to) (ha : PA X (e :: es) t)
    (hbase : attributeBase o name X.env (eval o X.env) = eval o X.env := by rfl)
    (hfew : ((backTo cpos (starEach (e :: es) X.env)).all (fun x => !x.1) && (backToKw cpos (keywordEach [] X.env)).all (fun x => x.1.isSome)
      && decide ((e :: es).length + ([] : List Keyword).length + (if ([] : List Keyword).isEmpty then 0 else 1) < 30)) = true := by rfl)
    (hline : (apos.endLine == cpos.line) = true := by rfl) (hs : starEach (e :: es) X.env = (false, eval e X.env) :: starEach es X.env := by rfl) (hplain : (backTo cpos (starEach es X.env)).any (·.1) = false := by rfl) :
    PE X (.Call (.Attribute o name apos) (e :: es) [] cpos) (fun σ H Q => to σ H fun x H1 => ∃ a, x = .ref a ∧ IsD H1 a ∧ t σ H1 fun vs H2 => r x vs H2 Q) := by
  refine ⟨fun pins s σ H Q I h => ?_⟩
  refine wpAny_Call_method_late hbase hfew hline rfl (thn (ho.run pins s σ H _ I h) fun v s1 ⟨x, H1, I1, r1, a, ex, ty, q1⟩ => ?_)
  subst ex
  obtain rfl : v = Value.ref a := r1
  obtain ⟨h1, h2, _⟩ := isD_at I1 ty
  refine ⟨"dict", id, PySem.F.plainAttrs_dict, slot, hty, h1, h2, ?_⟩
  have hA := ha.run cpos pins s1 σ H1 _ I1 q1
  rw [hs] at hA ⊢
  refine Calls.callWith_builtin (by show (false || (backTo cpos (starEach es X.env)).any (·.1)) = false; rw [hplain] <;> rfl) (Calls.evalArgs_plain ?_)
  exact thn hA fun us s2 ⟨vs, H2, I2, r2, q2⟩ => hm pins s2 σ H2 (.ref a) vs (.ref a) us Q I2 rfl r2 q2
def rDg1 : V → List V → Hp → VK → Prop := fun x vs H Q => ∃ a y o, x = .ref a ∧ vs = [y] ∧ DGet H a y o ∧ Q (o.getD .non) H
theorem mt_dget1 (hu : X.A.units + 1 < cLine) : MtR X "dict.get" rDg1 := fun pins s σ H x vs v us Q I rx rv ⟨a, y, o, ex, ev, g, q⟩ => by
  subst ex ev
  obtain rfl : v = Value.ref a := rx
  obtain ⟨u, rfl, ru⟩ := rv.one
  exact d_get1 hu I g ru fun w' s3 I3 rw' => ⟨_, H, I3, rw', q⟩
theorem mt_setdef : MtR X "dict.setdefault" rSetd := fun pins s σ H x vs v us Q I rx rv ⟨a, kvs, k, y, ex, ev, ea, hl, w1, w2⟩ => by
  subst ex ev
  obtain rfl : v = Value.ref a := rx
  cases rv with
  | cons ry rv =>
    cases rv with
    | cons rd rv =>
      cases rv
      obtain ⟨z, hd, vs0, rel, dd⟩ := dk_of I.hok ea
      have hz : vs0.length ≤ sizeLine := by rw [← rel.length]; exact z
      refine call_meetsIn PySem.F.slot_dict_setdefault dd.typeIs PySem.F.entry_dict_setdefault (PySem.F.args_dict_setdefault_3 _ _ _) (kt_meets_setdefault (mixKind X.prog X.w) a (kV_is ry) hd _) ⟨vs0, dd, hz, fun u hu => ?_, fun hn h' dd' hs => ?_⟩
      · have rr := rel.val k
        rw [hu] at rr
        cases hv : valV kvs k with
        | none => rw [hv] at rr; exact False.elim rr
        | some x =>
          rw [hv] at rr
          exact (⟨x, H, I.tok _, rr, w1 x hv⟩ : EP X pins σ Q u _)
      · have rr := rel.val k
        rw [hn] at rr
        cases hv : valV kvs k with
        | some x => rw [hv] at rr; exact False.elim rr
        | none =>
          have hl2 : (putK kvs k y).length ≤ sizeLine := by have := length_putK kvs k y; omega
          exact (⟨y, _, d_write (t' := s.toks + 1) I (by rw [ea]; exact True.intro) hs (let ⟨q, _, _, hq, _⟩ := dd'; ⟨q, hq⟩) (dk_new hl2 hd (rel.put k rd) dd'), rd, w2 hv⟩ : EP X pins σ Q _ _)
end
end D
end
section
set_option Elab.async false
set_option linter.all false
set_option maxRecDepth 100000
namespace D
open PySem L2 PyProof.Rows
section
variable {F : Fm} {X : Cx} {Γ : List Sl} {c : Cells} {P : Cells → Dt → Prop} {Φ : PEnds} {pos : Pos}
/-- d.get(k), d a datum -/
theorem se_get {o e : Expr} {apos : Pos} (hu : X.A.units + 1 < cLine) (h : SE F X Γ c o fun c1 d0 => ∃ l, d0 = .dct l ∧ SE F X Γ c1 e fun c2 d => ∃ k, dkey d = some k ∧ P c2 ((dval l k).getD .non))
    (hbase : attributeBase o "get" X.env (eval o X.env) = eval o X.env := by rfl)
    (hfew : ((backTo pos (starEach [e] X.env)).all (fun x => !x.1) && (backToKw pos (keywordEach [] X.env)).all (fun x => x.1.isSome)
      && decide ([e].length + ([] : List Keyword).length + (if ([] : List Keyword).isEmpty then 0 else 1) < 30)) = true := by rfl)
    (hline : (apos.endLine == pos.line) = true := by rfl) (hs : starEach [e] X.env = (false, eval e X.env) :: starEach [] X.env := by rfl) (hplain : (backTo pos (starEach [] X.env)).any (·.1) = false := by rfl) :
    SE F X Γ c (.Call (.Attribute o "get" apos) [e] [] pos) P :=
  SE.of (pe_dm PySem.F.slot_dict_get PySem.F.type_dict_get (mt_dget1 hu) pE (pa_cons pE pa_nil hs) hbase hfew hline hs hplain) fun σ H Q S k => h σ H _ S fun v H1 c1 d0 p S1 e1 dv => by
    obtain ⟨l, rfl, p⟩ := p
    obtain ⟨a, rfl, hd⟩ := isd_dct dv (mask_ex _ _)
    refine ⟨a, rfl, hd, p σ H1 _ S1 fun y H2 c2 d p2 S2 e2 dy => ?_⟩
    obtain ⟨key, hk, p2⟩ := p2
    obtain ⟨o', g, hh⟩ := dget_dct (dv.mono e2) (mask_ex _ _) dy hk
    refine ⟨a, y, o', rfl, rfl, g, ?_⟩
    rcases hh with ⟨rfl, e⟩ | ⟨v, z, rfl, e, dz⟩
    · rw [e] at p2
      exact k _ H2 c2 _ p2 S2 (e1.trans e2) .non
    · rw [e] at p2
      exact k _ H2 c2 _ p2 S2 (e1.trans e2) dz
/-- d.setdefault(k, v), d a cell -/
theorem se_setdef {o e f : Expr} {apos : Pos} (h : SE F X Γ c o fun c1 d0 => ∃ a j l0, d0 = .raw (.ref a) ∧ c1[j]? = some (a, .dk l0) ∧ SA F X Γ c1 [e, f] fun c2 ds => ∃ l d1 d2 k, ds = [d1, d2] ∧ c2[j]? = some (a, .dk l) ∧ dkey d1 = some k ∧ l.length < sizeLine ∧
      (∀ d, dval l k = some d → P c2 d) ∧ (dval l k = none → P (c2.set j (a, .dk (dput l k d2))) d2))
    (hbase : attributeBase o "setdefault" X.env (eval o X.env) = eval o X.env := by rfl)
    (hfew : ((backTo pos (starEach [e, f] X.env)).all (fun x => !x.1) && (backToKw pos (keywordEach [] X.env)).all (fun x => x.1.isSome)
      && decide ([e, f].length + ([] : List Keyword).length + (if ([] : List Keyword).isEmpty then 0 else 1) < 30)) = true := by rfl)
    (hline : (apos.endLine == pos.line) = true := by rfl) (hs : starEach [e, f] X.env = (false, eval e X.env) :: starEach [f] X.env := by rfl) (hplain : (backTo pos (starEach [f] X.env)).any (·.1) = false := by rfl) :
    SE F X Γ c (.Call (.Attribute o "setdefault" apos) [e, f] [] pos) P :=
  SE.of (pe_dm PySem.F.slot_dict_setdefault PySem.F.type_dict_setdefault mt_setdef pE pAs hbase hfew hline hs hplain) fun σ H Q S k => h σ H _ S fun v H1 c1 d0 p S1 e1 dv => by
    obtain ⟨a, j, l0, rfl, hj0, p⟩ := p
    cases dv
    obtain ⟨xs0, ha0, _⟩ := S1.cat hj0
    refine ⟨a, rfl, .inl ⟨_, .inl ha0⟩, p σ H1 _ S1 fun vs H2 c2 ds p2 S2 e2 dvs => ?_⟩
    obtain ⟨l, d1, d2, key, rfl, hj, hk, hz, q1, q2⟩ := p2
    cases dvs with
    | cons dv1 t => cases t with
      | cons dv2 t =>
        cases t
        obtain ⟨xs, ha, t⟩ := S2.cat hj
        have ek := dkey_dv dv1 hk
        subst ek
        refine ⟨a, xs, key, _, rfl, rfl, ha, by rw [t.p.length]; exact hz, fun u hu => ?_, fun hn => ?_⟩
        · rcases t.p.val key with ⟨h1, _⟩ | ⟨w, d, h1, h2, h3⟩
          · rw [h1] at hu; cases hu
          · rw [h1] at hu; cases hu
            exact k _ H2 c2 _ (q1 d h2) S2 (e1.trans e2) h3
        · rcases t.p.val key with ⟨_, h2⟩ | ⟨w, d, h1, _, _⟩
          · obtain ⟨S3, e3⟩ := S2.updC (q' := .dk (dput l key d2)) (o := .dK (putK xs key _)) hj rfl rfl ⟨_, upd_same, (t.p.put key dv2).k⟩
            exact k _ _ _ _ (q2 h2) S3 ((e1.trans e2).trans e3) (dv2.mono e3)
          · rw [h1] at hn; cases hn
/-- d[k] = v, d a cell -/
theorem s_dput {o ix e : Expr} {sp : Pos} (hu : X.A.units + 1 < cLine) (h : SE F X Γ c e fun c1 d => SE F X Γ c1 o fun c2 d0 => ∃ a, d0 = .raw (.ref a) ∧ SE F X Γ c2 ix fun c3 d1 => ∃ j l k, c3[j]? = some (a, .dk l) ∧ dkey d1 = some k ∧ l.length < sizeLine ∧ Φ.nx Γ (c3.set j (a, .dk (dput l k d))))
    (hsw : swapsWith e (some (.Subscript o ix sp)) pos.line X.env = pure false := by rfl) : S1 F X Γ c (.Assign [.Subscript o ix sp] e pos) Φ :=
  S1.of (ps_dput hu pE pE pE hsw) fun σ H D S E => h σ H _ S fun v H1 c1 d p S1 e1 dv => p σ H1 _ S1 fun w H2 c2 d0 p2 S2 e2 dw => by
    obtain ⟨a, rfl, p2⟩ := p2
    cases dw
    refine p2 σ H2 _ S2 fun y H3 c3 d1 p3 S3 e3 dy => ?_
    obtain ⟨j, l, key, hj, hk, hz, p3⟩ := p3
    obtain ⟨xs, ha, t⟩ := S3.cat hj
    have ek := dkey_dv dy hk
    subst ek
    obtain ⟨S4, e4⟩ := S3.updC (q' := .dk (dput l key d)) (o := .dK (putK xs key v)) hj rfl rfl ⟨_, upd_same, (t.p.put key (dv.mono (e2.trans e3))).k⟩
    exact ⟨a, _, rfl, .k ha (by rw [t.p.length]; exact hz), E.nx _ _ _ _ p3 S4 (((e1.trans e2).trans e3).trans e4)⟩
def keysD (l : List (Key × Dt)) : List Dt := l.map fun kv => match kv.1 with | .inl i => Dt.int i | .inr s => Dt.str s
def valsD (l : List (Key × Dt)) : List Dt := l.map (·.2)
def kD : Key → Dt
  | .inl i => .int i
  | .inr s => .str s
def itemsD (l : List (Key × Dt)) : List Dt := l.map fun kv => Dt.par [kD kv.1, kv.2]
theorem keysD_eq (l : List (Key × Dt)) : keysD l = l.map fun kv => kD kv.1 := rfl
theorem kD_dv {K : PySem.W.Frag} {H : Hp} (k : Key) : DV K H (kV k) (kD k) := by cases k with
  | inl i => exact .int i
  | inr s => exact .str s
variable {tg : Expr} {Pl : Cells → List Dt → Prop}
theorem sw_keys {e : Expr} (h : SE F X Γ c e fun c1 d => ∃ l, d = .dct l ∧ Pl c1 (keysD l)) : SW F X Γ c tg e Pl := .mk fun σ H R S k =>
  ⟨_, pi_keys pE, h σ H _ S fun v H1 c1 d p S1 k1 dv => by
    obtain ⟨l, rfl, p⟩ := p
    cases dv with
    | dct a t =>
      refine ⟨_, _, rfl, .inl ⟨_, (of_mask a).2, k _ H1 c1 _ p S1 k1 ?_⟩⟩
      have hl : (keysD l).length = _ := (List.length_map _).trans t.p.length.symm
      refine ⟨_, _, hl.symm ▸ walk_keys, fun H e => e _ _ a, fun i Ha x Hb hi y _ => ?_⟩
      obtain ⟨h1, key, v, h2, rfl⟩ := y
      obtain ⟨d, h3, _⟩ := t.p.get h2
      refine ⟨kD key, ?_, .inl ⟨h1, kD_dv key⟩⟩
      rw [keysD_eq, List.getElem?_map, h3]
      rfl⟩
theorem sw_vals {e : Expr} {apos : Pos} (h : SE F X Γ c e fun c1 d => ∃ l, d = .dct l ∧ Pl c1 (valsD l)) (hbase : attributeBase e "values" X.env (eval e X.env) = eval e X.env := by rfl) (hline : (apos.endLine == pos.line) = true := by rfl) : SW F X Γ c tg (.Call (.Attribute e "values" apos) [] [] pos) Pl := .mk fun σ H R S k =>
  ⟨_, pi_values pE hbase hline, h σ H _ S fun v H1 c1 d p S1 k1 dv => by
    obtain ⟨l, rfl, p⟩ := p
    cases dv with
    | dct a t =>
      refine ⟨_, _, _, rfl, (of_mask a).2, k _ H1 c1 _ p S1 k1 ?_⟩
      have hl : (valsD l).length = _ := (List.length_map _).trans t.p.length.symm
      refine ⟨_, _, hl.symm ▸ walk_values, fun H e => e _ _ a, fun i Ha x Hb hi y _ => ?_⟩
      obtain ⟨h1, key, h2⟩ := y
      obtain ⟨d, h3, h4⟩ := t.p.get h2
      refine ⟨d, ?_, .inl ⟨h1, h4⟩⟩
      unfold valsD
      rw [List.getElem?_map, h3]
      rfl⟩
theorem ss_dropC {ss : List Stmt} (j : Nat) {p : Addr × Cel} (hj : c[j]? = some p) (h : SS F X Γ (c.eraseIdx j) ss Φ) : SS F X Γ c ss Φ := .mk fun σ H D S E => by
  obtain ⟨S2, e2, _⟩ := S.letGo (H' := H) hj (fun _ _ => rfl) ((S.cat hj).live)
  exact h σ H D S2 (E.ext e2)
/-- while -/
theorem s_while {t : Expr} {body : List Stmt} (hp : PassesOwn (model X.prog X.w) X.A X.env X.xe) (J : Nat → List Sl → Cells → Prop) (n : Nat) (h0 : J n Γ c)
    (h : ∀ m Γ' c', J m Γ' c' → ST F X Γ' c' t fun c2 b => if b = true then SS F X Γ' c2 body { Φ with nx := fun Γ3 c3 => ∃ k, k < m ∧ J k Γ3 c3, ct := fun Γ3 c3 => ∃ k, k < m ∧ J k Γ3 c3, bk := Φ.nx } else Φ.nx Γ' c2) : S1 F X Γ c (.While t body [] pos) Φ :=
  S1.of (ps_while hp pT pSts) fun σ H D S E => by
    refine ⟨fun m σ' H' => ∃ Γ' c', J m Γ' c' ∧ SI X.K F Γ' c' σ' H' ∧ Ex (Vw F c H) (Vw F c' H'), ⟨n, Γ, c, h0, S, Ex.refl _⟩, ?_⟩
    rintro m σ1 H1 ⟨Γ1, c1, j1, S1, e1⟩
    refine h m Γ1 c1 j1 σ1 H1 _ S1 fun b H2 c2 q S2 e2 => ?_
    cases b with
    | false => exact E.nx Γ1 c2 σ1 H2 q S2 (e1.trans e2)
    | true =>
      rw [if_pos rfl] at q
      have e3 := e1.trans e2
      refine ⟨fun σ' H' => ∃ k, k < m ∧ ∃ Γ' c', J k Γ' c' ∧ SI X.K F Γ' c' σ' H' ∧ Ex (Vw F c H) (Vw F c' H'), fun _ _ z => z, ?_⟩
      refine q σ1 H2 _ S2 ⟨fun Γ4 c4 σ4 H4 ⟨k, hk, j4⟩ S4 k4 => ⟨k, hk, Γ4, c4, j4, S4, e3.trans k4⟩, fun Γ4 c4 σ4 H4 v4 d4 j4 S4 k4 => E.rt Γ4 c4 σ4 H4 v4 d4 j4 S4 (e3.trans k4), fun Γ4 c4 σ4 H4 j4 S4 k4 => E.nx Γ4 c4 σ4 H4 j4 S4 (e3.trans k4), fun Γ4 c4 σ4 H4 ⟨k, hk, j4⟩ S4 k4 => ⟨k, hk, Γ4, c4, j4, S4, e3.trans k4⟩⟩
end
end D
end
section
set_option Elab.async false
set_option linter.all false
set_option maxRecDepth 100000
namespace D
open PySem PySem.Spec L2 PyProof.Rows
abbrev dc2 (kx vx ta ia tb ib : Expr) (ca cb : List Expr) (sc : Scope) (ps : Pos) : Expr := .DictComp kx vx [⟨ta, ia, ca, 0⟩, ⟨tb, ib, cb, 0⟩] sc ps
theorem dc2_turn0 (kx vx ta ia tb ib : Expr) (ca cb : List Expr) (sc : Scope) (ps : Pos) (it acc : Value) (env : Env) :
    compTurn (dc2 kx vx ta ia tb ib ca cb sc ps) 0 it acc env = (do
      standAt ia.pos
      match ← pyNext it with
      | none => pure (.done .next)
      | some y =>
        letOwnedTupleGo ta it y
        assign ta env y
        let mut good := true
        for q in ca do
          if good then good ← isTrue q env (eval q env)
        if good then
          let z ← eval ib env
          standAt ib.pos
          let z ← foldedSetIterable ib env z
          let _ ← runOwn (.compStart (dc2 kx vx ta ia tb ib ca cb sc ps) 1 (← holding [z] (pyIter z)) acc env) env
        again (.compLoop (dc2 kx vx ta ia tb ib ca cb sc ps) 0 it acc env)) := by rfl
theorem dc2_turn1 (kx vx ta ia tb ib : Expr) (ca cb : List Expr) (sc : Scope) (ps : Pos) (it : Value) (L : Addr) (env : Env) :
    compTurn (dc2 kx vx ta ia tb ib ca cb sc ps) 1 it (.ref L) env = (do
      standAt ib.pos
      match ← pyNext it with
      | none => pure (.done .next)
      | some y =>
        letOwnedTupleGo tb it y
        assign tb env y
        let mut good := true
        for q in cb do
          if good then good ← isTrue q env (eval q env)
        if good then
          (do
            let a ← eval kx env
            let b ← holding [a] (eval vx env)
            standAt { kx.pos with endLine := vx.pos.endLine, endCol := vx.pos.endCol }
            holding [a, b] (dictSet L a b))
        again (.compLoop (dc2 kx vx ta ia tb ib ca cb sc ps) 1 it (.ref L) env)) := by rfl
section
variable {prog : Program} {w : World} {A : Around} {R : Result → Shared → Prop} {s : Shared} {kx vx ta ia tb ib : Expr} {ca cb : List Expr} {sc : Scope} {ps : Pos} {it : Value} {L : Addr} {env : Env}
abbrev NB (prog : Program) (w : World) (A : Around) (env : Env) (R : Result → Shared → Prop) : Value → Shared → Prop := notedBy (model prog w) A env fun x t => R (.error x) t
abbrev TestsOf (env : Env) (qs : List Expr) : Sem Bool := forIn qs true fun q r => if r = true then do let g ← isTrue q env (eval q env); pure (ForInStep.yield g) else pure (ForInStep.yield r)
theorem dc2_loop0 (hs : ∀ z, foldedSetIterable ib env z = pure z) (J : Nat → Shared → Prop)
    (turn : ∀ n t, J n t → wpAny (model prog w) A (pyNext it) (fun r t1 => match r with
      | none => R (.ok .next) t1
      | some y => wpAny (model prog w) A (letOwnedTupleGo ta it y) (fun _ t2 => wpAny (model prog w) A (assign ta env y) (fun _ t3 => wpAny (model prog w) A (TestsOf env ca) (fun g t4 =>
          if g = true then wpAny (model prog w) A (eval ib env) (fun z t5 => wpAny (model prog w) A (pyIter z) (fun i2 t6 =>
            codeAny (model prog w) A (.compStart (dc2 kx vx ta ia tb ib ca cb sc ps) 1 i2 (.ref L) env) (fun r t7 => match r with
              | .ok _ => ∃ m, m < n ∧ J m t7
              | .error _ => False) t6) (NB prog w A env R) t5) (NB prog w A env R) t4
          else ∃ m, m < n ∧ J m t4) (NB prog w A env R) t3) (NB prog w A env R) t2) (NB prog w A env R) t1) (NB prog w A env R) t)
    (n : Nat) (h : J n s) : codeAny (model prog w) A (.compLoop (dc2 kx vx ta ia tb ib ca cb sc ps) 0 it (.ref L) env) R s := by
  refine codeAny_loop rfl J (fun n t hJ => ?_) n h
  show wpAny _ A ((compTurn (dc2 kx vx ta ia tb ib ca cb sc ps) 0 it (.ref L) env).onRaise (fun x => do noteFrame x env; theTreesLotGoes x)) _ _ t
  refine wpAny_noted ?_
  rw [dc2_turn0]
  refine wpAny_bind (wpAny_standAt (wpAny_bind (wpAny_mono (turn n t hJ) (fun r t1 k1 => ?_) fun _ _ z => z)))
  cases r with
  | none => exact wpAny_pure k1
  | some y =>
    refine wpAny_bind (wpAny_mono k1 (fun _ t2 k2 => ?_) fun _ _ z => z)
    refine wpAny_bind (wpAny_mono k2 (fun _ t3 k3 => ?_) fun _ _ z => z)
    refine wpAny_bind (wpAny_mono k3 (fun g t4 k4 => ?_) fun _ _ z => z)
    cases g with
    | false => exact wpAny_pure ⟨rfl, k4⟩
    | true =>
      refine wpAny_bind (wpAny_mono k4 (fun z t5 k5 => ?_) fun _ _ z => z)
      refine wpAny_bind (wpAny_standAt (wpAny_bind (wpAny_of_eq (hs z) (wpAny_bind (wpAny_holding (wpAny_mono k5 (fun i2 t6 k6 => ?_) fun _ _ z => z))))))
      refine wpAny_bind (wpAny_runOwn ?_)
      rw [Around.mark_none]
      refine codeAny_mono k6 fun r t7 k7 => ?_
      cases r with
      | ok f => first
          | exact wpAny_pure ⟨rfl, k7⟩
          | exact wpAny_bind (wpAny_pure (wpAny_pure ⟨rfl, k7⟩))
      | error x => exact k7.elim
theorem dc2_loop1 (J : Nat → Shared → Prop)
    (turn : ∀ n t, J n t → wpAny (model prog w) A (pyNext it) (fun r t1 => match r with
      | none => R (.ok .next) t1
      | some y => wpAny (model prog w) A (letOwnedTupleGo tb it y) (fun _ t2 => wpAny (model prog w) A (assign tb env y) (fun _ t3 => wpAny (model prog w) A (TestsOf env cb) (fun g t4 =>
          if g = true then wpAny (model prog w) A (eval kx env) (fun a t5 => wpAny (model prog w) A (eval vx env) (fun b t6 => wpAny (model prog w) A (dictSet L a b) (fun _ t7 => ∃ m, m < n ∧ J m t7) (NB prog w A env R) t6) (NB prog w A env R) t5) (NB prog w A env R) t4
          else ∃ m, m < n ∧ J m t4) (NB prog w A env R) t3) (NB prog w A env R) t2) (NB prog w A env R) t1) (NB prog w A env R) t)
    (n : Nat) (h : J n s) : codeAny (model prog w) A (.compLoop (dc2 kx vx ta ia tb ib ca cb sc ps) 1 it (.ref L) env) R s := by
  refine codeAny_loop rfl J (fun n t hJ => ?_) n h
  show wpAny _ A ((compTurn (dc2 kx vx ta ia tb ib ca cb sc ps) 1 it (.ref L) env).onRaise (fun x => do noteFrame x env; theTreesLotGoes x)) _ _ t
  refine wpAny_noted ?_
  rw [dc2_turn1]
  refine wpAny_bind (wpAny_standAt (wpAny_bind (wpAny_mono (turn n t hJ) (fun r t1 k1 => ?_) fun _ _ z => z)))
  cases r with
  | none => exact wpAny_pure k1
  | some y =>
    refine wpAny_bind (wpAny_mono k1 (fun _ t2 k2 => ?_) fun _ _ z => z)
    refine wpAny_bind (wpAny_mono k2 (fun _ t3 k3 => ?_) fun _ _ z => z)
    refine wpAny_bind (wpAny_mono k3 (fun g t4 k4 => ?_) fun _ _ z => z)
    cases g with
    | false => exact wpAny_pure ⟨rfl, k4⟩
    | true =>
      refine wpAny_bind (wpAny_bind (wpAny_mono k4 (fun a t5 k5 => ?_) fun _ _ z => z))
      refine wpAny_bind (wpAny_holding (wpAny_mono k5 (fun b t6 k6 => ?_) fun _ _ z => z))
      exact wpAny_bind (wpAny_standAt (wpAny_holding (wpAny_mono k6 (fun _ t7 k7 => wpAny_pure ⟨rfl, k7⟩) fun _ _ z => z)))
theorem dc2_start1 {i2 acc : Value} (h0 : codeAny (model prog w) A (.compLoop (dc2 kx vx ta ia tb ib ca cb sc ps) 1 i2 acc env) R s)
    (h : wpAny (model prog w) A (pyIter i2) (fun i3 t => codeAny (model prog w) A (.compLoop (dc2 kx vx ta ia tb ib ca cb sc ps) 1 i3 acc env) R t) (NB prog w A env R) s) :
    codeAny (model prog w) A (.compStart (dc2 kx vx ta ia tb ib ca cb sc ps) 1 i2 acc env) R s := by
  refine codeAny_of_tree ?_
  show wpAny _ _ ((compStart (dc2 kx vx ta ia tb ib ca cb sc ps) 1 i2 acc env).onRaise (fun x => do noteFrame x env; standAt theWindowsPlace)) _ _ s
  refine wpAny_notedAt ?_
  unfold compStart
  show wpAny _ _ (ask >>= _) _ _ s
  refine wpAny_bind (wpAny_askSetting (wpAny_ite ?_))
  split
  · first
      | exact wpAny_bind (wpAny_pure (wpAny_pure ⟨rfl, h0⟩))
      | exact wpAny_pure ⟨rfl, h0⟩
  · first
      | exact wpAny_bind (wpAny_rule (wpAny_bind (wpAny_standAt (wpAny_bind (wpAny_mono h (fun i3 t k => wpAny_pure ⟨rfl, k⟩) fun _ _ z => z)))))
      | (refine wpAny_bind (wpAny_rule ?_); show wpAny _ _ (standAt ib.pos >>= _) _ _ s; exact wpAny_bind (wpAny_standAt (wpAny_bind (wpAny_mono h (fun i3 t k => wpAny_pure ⟨rfl, k⟩) fun _ _ z => z))))
end
section
variable {X : Cx}
def tDc2 (wi : TI) (g : TG) (wi1 : TI) (g1 : TG) (tk tv : TE) (vs vs1 : List Nat) : TE := fun σ H Q => wi σ H fun J H1 => ∀ L, H1 L = none → ∃ W : Nat → Nat → Hp → Prop, (∃ m, W 0 m (upd H1 L (.dK []))) ∧ ∀ i m H, W i m H → (J.stop i H ∧ Q (.ref L) H) ∨
  (J.go i H ∧ ∃ Nx : Hp → Prop, (∀ H', Nx H' → ∃ m', m' < m ∧ W (i + 1) m' H') ∧ ∀ x H', J.yld i H x H' → g x (wipe σ vs) H' fun σ2 H2 => wipe σ2 vs = wipe σ vs ∧ wi1 σ2 H2 fun J1 H4 => ∃ W1 : Nat → Nat → Hp → Prop, (∃ m, W1 0 m H4) ∧ ∀ j k H, W1 j k H → (J1.stop j H ∧ Nx H) ∨
    (J1.go j H ∧ ∃ Nx1 : Hp → Prop, (∀ H', Nx1 H' → ∃ k', k' < k ∧ W1 (j + 1) k' H') ∧ ∀ x H', J1.yld j H x H' → g1 x (wipe σ2 vs1) H' fun σ3 H5 => wipe σ3 vs1 = wipe σ2 vs1 ∧ tk σ3 H5 fun y H6 => tv σ3 H6 fun z H7 => ∃ kvs k, y = kV k ∧ H7 L = some (.dK kvs) ∧ kvs.length < sizeLine ∧ Nx1 (upd H7 L (.dK (putK kvs k z)))))
theorem dc2_core {pins : List (Addr × Obj)} {s : Shared} {σ : L2.St} {H : Hp} {Q : VK} {kx vx ta ia tb ib : Expr} {sc : Scope} {own : List (Str × Nat)} {vs1 : List Nat} {ps ps' : Pos} {wi wi1 : TI} {g g1 : TG} {tk tv : TE} {use : Option (Value → Sem Unit)} {Qf : Value → Shared → Prop}
    (hc : X.calm = true) (hN : X.N.Nodup) (I : Inv X pins σ H s) (hi : PI X ta ia wi) (ok : BlkOk X.N X.env.scope sc own) (hv : ∀ i ∈ vs1, i ∈ own.map (·.2))
    (hg : AB X sc fun Y => PG Y ta g) (hk : AB X sc fun Y => PE Y kx tk) (he : AB X sc fun Y => PE Y vx tv) (hs : ∀ z, foldedSetIterable ia X.env z = pure z)
    (hi1 : AB X sc fun Y => PI Y tb ib wi1) (hg1 : AB X sc fun Y => PG Y tb g1) (hs1 : ∀ env z, foldedSetIterable ib env z = pure z)
    (h : tDc2 wi g wi1 g1 tk tv (own.map (·.2)) vs1 σ H Q)
    (hRR : ∀ L C t m H', Inv X pins σ H' t → Q (.ref L) H' → t.heap.Ns C m → FpOk X pins H' C → compPost (model X.prog X.w) X.A X.xe use Qf (.ref L) C (.ok .next) t) :
    wpAny (model X.prog X.w) X.A (comprehension (dc2 kx vx ta ia tb ib [] [] sc ps) sc X.env ps' newDict false (eval ia X.env) use) Qf X.xe s := by
  have hfree : ∀ y ∈ sc.names, y.2 = .free → ∃ q, X.env.cells.lookup y.1 = some q := fun y hy e => (ok.free y hy e).elim (fun z => I.ok.has _ (.inl z)) fun z => I.ok.has _ (.inr z)
  refine wpAny_comprehension_free (use := use) rfl hs (closure_ok hfree) ok.kind (fun y hy e => (ok.uniq y hy).trans (congrArg some e)) (thn (hi.run pins s σ H _ I h) fun xv t1 hx => thn hx fun itv t2 h2 => ?_)
  obtain ⟨it, fp, tn, J, Ha, e, Ia, T, sta, fa, q⟩ := h2
  subst e
  refine wpAny_newObj_type (newEnv_comp ?_)
  generalize hL : t2.heap.objs.size = L
  have hLn : Ha L = none := Ia.hok.fresh (Nat.le_of_eq hL)
  obtain ⟨W, ⟨m0, w0⟩, turn⟩ := q L hLn
  generalize ht3 : ({ t2 with heap := t2.heap.push { cls := .type "dict", data := .dict #[] } } : Shared) = t3
  have Ib : Inv X pins σ (upd Ha L (.dK [])) t3 := by
    subst ht3
    refine Ia.laid (t' := t2.toks) (fun b o z => Heap.get?_push_of_some _ z) (Nat.le_of_eq hL) ?_
    subst hL
    exact dk_empty t2.heap Ia.big
  have h3 : t3.heap = t2.heap.push { cls := .type "dict", data := .dict #[] } := by subst ht3; rfl
  have lts : ∀ b ∈ fp, b < t2.heap.objs.size := fun b hb => (T.obj _ _ sta b hb).elim fun o z => Heap.lt_size z.1
  have fb : ∀ b ∈ fp, FpOk X pins (upd Ha L (.dK [])) b ∧ b < t3.heap.objs.size := fun b hb => by
    have hlt := lts b hb
    have hne : b ≠ L := by subst hL; exact Nat.ne_of_lt hlt
    exact ⟨⟨(upd_ne hne).trans (fa b hb).1, (fa b hb).2⟩, by rw [h3, Heap.size_push]; exact Nat.lt_succ_of_lt hlt⟩
  have stb : tn 0 t3.heap := T.keep _ _ _ sta fun b _ o z => by rw [h3]; exact Heap.get?_push_of_some _ z
  have Ic := block_start Ib ok hN fb
  have nfp : ∀ b ∈ fp, (upd Ha L (.dK [])) b = none := fun b hb => (fb b hb).1.1
  generalize hcl : cellsFrom (t3.heap.objs.size + 1) sc.names (cloFrom X.env.cells sc.names []) = cl at Ic ⊢
  have pg : PG (X.blk t3 (upd Ha L (.dK [])) sc (compEnvC sc cl t3.heap.objs.size X.env) fp) ta g := hg t3 (upd Ha L (.dK [])) t3.heap.objs.size cl fp
  have pk : PE (X.blk t3 (upd Ha L (.dK [])) sc (compEnvC sc cl t3.heap.objs.size X.env) fp) kx tk := hk t3 (upd Ha L (.dK [])) t3.heap.objs.size cl fp
  have pe : PE (X.blk t3 (upd Ha L (.dK [])) sc (compEnvC sc cl t3.heap.objs.size X.env) fp) vx tv := he t3 (upd Ha L (.dK [])) t3.heap.objs.size cl fp
  have pi1 : PI (X.blk t3 (upd Ha L (.dK [])) sc (compEnvC sc cl t3.heap.objs.size X.env) fp) tb ib wi1 := hi1 t3 (upd Ha L (.dK [])) t3.heap.objs.size cl fp
  have pg1 : PG (X.blk t3 (upd Ha L (.dK [])) sc (compEnvC sc cl t3.heap.objs.size X.env) fp) tb g1 := hg1 t3 (upd Ha L (.dK [])) t3.heap.objs.size cl fp
  show codeAny _ _ (.compStart (dc2 kx vx ta ia tb ib [] [] sc ps) 0 (.ref it) (.ref L) (compEnvC sc cl t3.heap.objs.size X.env)) (compPost (model X.prog X.w) X.A X.xe use Qf (.ref L) t3.heap.objs.size) { t3 with heap := pushCells (t3.heap.push { cls := .type "dict", data := .dict #[] }) sc.names }
  generalize hce : compEnvC sc cl t3.heap.objs.size X.env = ce at Ic pg pk pe pi1 pg1 ⊢
  have cL : ce.locals = t3.heap.objs.size := by subst hce; rfl
  generalize hHb : upd Ha L (.dK []) = Hb at Ib Ic pg pk pe pi1 pg1 w0 nfp fb
  generalize ht4 : ({ t3 with heap := pushCells (t3.heap.push { cls := .type "dict", data := .dict #[] }) sc.names } : Shared) = t4 at Ic ⊢
  have std : tn 0 t4.heap := T.keep _ _ _ stb fun b _ o z => by subst ht4; exact pushCells_keeps _ _ _ _ (Heap.get?_push_of_some _ z)
  have stat : ∀ {τ : L2.St} {G : Hp} {t : Shared}, Inv (X.blk t3 Hb sc ce fp) [] τ G t → (∀ b ∈ fp, G b = none) → ∀ b ∈ fp, FpOk (X.blk t3 Hb sc ce fp) [] G b := fun {τ G t} I' hn b hb =>
    ⟨hn b hb, (I'.ok.exf b hb).1, I'.ok.exfs b hb, .inl hb, fun y q z => (I'.ok.exf b hb).2 y q z, fun p hp => absurd (show p ∈ ([] : List (Addr × Obj)) ++ [] from hp) (by simp)⟩
  have loop : codeAny (model X.prog X.w) X.A (.compLoop (dc2 kx vx ta ia tb ib [] [] sc ps) 0 (.ref it) (.ref L) ce) (compPost (model X.prog X.w) X.A X.xe use Qf (.ref L) t3.heap.objs.size) t4 := by
    refine dc2_loop0 (hs1 ce) (fun n t => ∃ i G, Inv (X.blk t3 Hb sc ce fp) [] (wipe σ (own.map (·.2))) G t ∧ tn i t.heap ∧ (∀ b ∈ fp, G b = none) ∧ W i n G) ?_ m0 ⟨0, Hb, Ic, std, nfp, w0⟩
    rintro n t5 ⟨i, G5, I5, st5, n5, w5⟩
    rcases turn i n G5 w5 with ⟨stop, qq⟩ | ⟨go, Nx, hNx, step⟩
    · refine thnF (T.done (X.blk t3 Hb sc ce fp) rfl rfl rfl hc i [] t5 _ G5 (fun _ _ => False) I5 (stat I5 n5) st5 stop) fun r t6 ⟨hr, I6⟩ => ?_
      subst hr
      have I7 : Inv X pins σ G5 t6 := Ib.call' (ch := fp) I6.os I6.base I6.hok I6.bare fun b hb => let z := (fb b hb).1; ⟨z.2.2.2.1, z.2.1, z.2.2.2.2.1, z.2.2.2.2.2⟩
      have nC : G5 t3.heap.objs.size = none := cL ▸ (show G5 ce.locals = none from I6.free)
      obtain ⟨m, hn, _⟩ := I6.loc
      exact hRR L t3.heap.objs.size t6 m G5 I7 qq (cL ▸ (show t6.heap.Ns ce.locals m from hn)) (Ib.fpOk (Nat.le_refl _) nC)
    · refine thnF (T.item (X.blk t3 Hb sc ce fp) rfl rfl rfl hc i [] t5 _ G5 (fun _ _ => False) I5 (stat I5 n5) st5 go) fun r t6 ⟨u, hr, h6⟩ => ?_
      subst hr
      refine thnF h6 fun _ t7 ⟨x, G7, I7, r7, y7, st7, n7⟩ => ?_
      have I7' := I7.pinned (stat I7 n7) (T.obj _ _ st7)
      refine thnF (pg.run _ t7 _ G7 x u _ I7' r7 (step x G7 y7)) fun _ t8 ⟨τ8, G8, I8, hw8, q8⟩ => ?_
      have fin : ∀ {τ : L2.St} {t : Shared} {G : Hp}, Inv (X.blk t3 Hb sc ce fp) ([] ++ pinsAt fp t7.heap) τ G t → (wipe σ (own.map (·.2))).length = τ.length → (∀ (j : Nat) v, (wipe σ (own.map (·.2)))[j]? = some (some v) → τ[j]? = some (some v)) → Nx G →
          ∃ m, m < n ∧ ∃ i G, Inv (X.blk t3 Hb sc ce fp) [] (wipe σ (own.map (·.2))) G t ∧ tn i t.heap ∧ (∀ b ∈ fp, G b = none) ∧ W i m G := fun {τ t G} I' hl hkk nx => by
        obtain ⟨m', hm, w'⟩ := hNx G nx
        have pin : ∀ b ∈ fp, ∀ o, t7.heap.get? b = some o → t.heap.get? b = some o ∧ G b = none := fun b hb o z =>
          have y := I'.pin (b, o) (List.mem_append_right _ (List.mem_append_right _ (mem_pinsAt hb z)))
          ⟨y.1, y.2.1⟩
        exact ⟨m', hm, i + 1, G, (I'.unpinned (pins := [])).weak hl hkk, T.keep _ _ _ st7 fun b hb o z => (pin b hb o z).1, fun b hb => (T.obj _ _ st7 b hb).elim fun o z => (pin b hb o z.1).2, w'⟩
      have hl8 : (wipe σ (own.map (·.2))).length = τ8.length := by rw [← hw8, wipe_length]
      have hk9 : ∀ (j : Nat) v, (wipe σ (own.map (·.2)))[j]? = some (some v) → (wipe τ8 vs1)[j]? = some (some v) := fun j v z => by
        rw [← hw8] at z
        obtain ⟨z1, z2⟩ := wipe_some z
        exact (wipe_out fun y => z2 (hv j y)).trans z1
      refine thnF ((pts_nil (X := X.blk t3 Hb sc ce fp)).run _ t8 τ8 G8 _ I8 (show tYes τ8 G8 (fun b G => b = true ∧ wi1 τ8 G _) from ⟨rfl, q8⟩)) fun b t9 ⟨G9, I9, hb9, q9⟩ => ?_
      subst hb9
      rw [if_pos rfl]
      refine thnF (pi1.run _ t9 τ8 G9 _ I9 q9) fun xv t10 hx => thnF hx fun itv t11 h11 => ?_
      obtain ⟨it1, fp1, tn1, J1, G11, e1, I11, T1, st11, f11, W1, ⟨m1, w1⟩, turn1⟩ := h11
      subst e1
      have stat1 : ∀ {G : Hp}, (∀ b ∈ fp1, G b = none) → ∀ b ∈ fp1, FpOk (X.blk t3 Hb sc ce fp) ([] ++ pinsAt fp t7.heap) G b := fun hn b hb => ⟨hn b hb, (f11 b hb).2⟩
      have loop1 : codeAny (model X.prog X.w) X.A (.compLoop (dc2 kx vx ta ia tb ib [] [] sc ps) 1 (.ref it1) (.ref L) ce) (fun r t => match r with
            | .ok _ => ∃ m, m < n ∧ ∃ i G, Inv (X.blk t3 Hb sc ce fp) [] (wipe σ (own.map (·.2))) G t ∧ tn i t.heap ∧ (∀ b ∈ fp, G b = none) ∧ W i m G
            | .error _ => False) t11 := by
        refine dc2_loop1 (fun k t => ∃ j G, Inv (X.blk t3 Hb sc ce fp) ([] ++ pinsAt fp t7.heap) (wipe τ8 vs1) G t ∧ tn1 j t.heap ∧ (∀ b ∈ fp1, G b = none) ∧ W1 j k G) ?_ m1 ⟨0, G11, I11.weak (wipe_length _ _) (fun j v z => (wipe_some z).1), st11, fun b hb => (f11 b hb).1, w1⟩
        rintro k t12 ⟨j, G12, I12, st12, n12, w12⟩
        rcases turn1 j k G12 w12 with ⟨stop1, nx1⟩ | ⟨go1, Nx1, hNx1, step1⟩
        · refine thnF (T1.done (X.blk t3 Hb sc ce fp) rfl rfl rfl hc j _ t12 (wipe τ8 vs1) G12 (fun _ _ => False) I12 (stat1 n12) st12 stop1) fun r t13 ⟨hr, I13⟩ => ?_
          subst hr
          exact fin I13 (hl8.trans (wipe_length τ8 vs1).symm) hk9 nx1
        · refine thnF (T1.item (X.blk t3 Hb sc ce fp) rfl rfl rfl hc j _ t12 (wipe τ8 vs1) G12 (fun _ _ => False) I12 (stat1 n12) st12 go1) fun r t13 ⟨u1, hr, h13⟩ => ?_
          subst hr
          refine thnF h13 fun _ t14 ⟨x1, G14, I14, r14, y14, st14, n14⟩ => ?_
          have I14' := I14.pinned (stat1 n14) (T1.obj _ _ st14)
          refine thnF (pg1.run _ t14 (wipe τ8 vs1) G14 x1 u1 _ I14' r14 (step1 x1 G14 y14)) fun _ t15 ⟨τ15, G15, I15, hw15, q15⟩ => ?_
          refine thnF ((pts_nil (X := X.blk t3 Hb sc ce fp)).run _ t15 τ15 G15 _ I15 (show tYes τ15 G15 (fun b G => b = true ∧ tk τ15 G _) from ⟨rfl, q15⟩)) fun b1 t16 ⟨G16, I16, hb16, q16⟩ => ?_
          subst hb16
          rw [if_pos rfl]
          have fin1 : ∀ {t : Shared} {G : Hp}, Inv (X.blk t3 Hb sc ce fp) (([] ++ pinsAt fp t7.heap) ++ pinsAt fp1 t14.heap) τ15 G t → Nx1 G → ∃ m, m < k ∧ ∃ j G, Inv (X.blk t3 Hb sc ce fp) ([] ++ pinsAt fp t7.heap) (wipe τ8 vs1) G t ∧ tn1 j t.heap ∧ (∀ b ∈ fp1, G b = none) ∧ W1 j m G := fun {t G} I' nx => by
            obtain ⟨m', hm, w'⟩ := hNx1 G nx
            have pin : ∀ b ∈ fp1, ∀ o, t14.heap.get? b = some o → t.heap.get? b = some o ∧ G b = none := fun b hb o z =>
              have y := I'.pin (b, o) (List.mem_append_right _ (List.mem_append_right _ (mem_pinsAt hb z)))
              ⟨y.1, y.2.1⟩
            exact ⟨m', hm, j + 1, G, I'.unpinned.weak (by rw [← hw15, wipe_length]) (fun j v z => (wipe_some (hw15 ▸ z)).1), T1.keep _ _ _ st14 fun b hb o z => (pin b hb o z).1, fun b hb => (T1.obj _ _ st14 b hb).elim fun o z => (pin b hb o z.1).2, w'⟩
          refine thnF (pk.run _ t16 τ15 G16 _ I16 q16) fun z t17 ⟨yk, G17, I17, r17, q17⟩ => ?_
          refine thnF (pe.run _ t17 τ15 G17 _ I17 q17) fun z2 t18 ⟨yv, G18, I18, r18, kvs, key, ek, hL18, hz18, nx⟩ => ?_
          subst ek
          exact d_dictSet (X := X.blk t3 Hb sc ce fp) I18 hL18 hz18 r17 r18 fun t19 I19 => fin1 I19 nx
      exact dc2_start1 loop1 (T1.self X.A 0 _ _ _ st11 loop1)
  exact codeAny_compStart_dict loop (T.self X.A 0 _ _ _ std loop)
end
end D
end
section
set_option Elab.async false
set_option linter.all false
set_option maxRecDepth 100000
namespace D
open PySem PySem.Spec L2 PyProof.Rows
section
variable {X : Cx}
theorem swD_true {kx vx : Expr} {gs : List Comprehension} {sc : Scope} {pos py : Pos} {y : Str} {l : Nat} {env : Env} (hk : env.scope.kind = .function) (hy : env.scope.names.lookup y = some .local) (hl : (py.line == pos.line) = true)
    (ha : (sc.names.any fun (n, k) => n == y && (k == .local || k == .cell)) = false) : swapsWith (.DictComp kx vx gs sc pos) (some (.Name y py)) l env = pure true := by
  have k1 : env.kindOf y = some .local := hy
  have k2 : env.blockKind = .function := by unfold Env.blockKind; rw [hk]; rfl
  unfold swapsWith
  simp only [k2, k1, ha, Expr.pos, hl]
  rfl
/-- the end of an assignment of what a comprehension has made -/
theorem use_end {pins : List (Addr × Obj)} {σ : L2.St} {D : Ends} {i : Nat} {y : Str} {py : Pos} {L C : Addr} {t : Shared} {m : Str → Option Value} {H' : Hp} (hN : X.N.Nodup) (hy : X.N[i]? = some y) (hyl : X.env.scope.names.lookup y = some .local)
    (I' : Inv X pins σ H' t) (q : gName i (.ref L) σ H' D.nx) (hn : t.heap.Ns C m) (f : FpOk X pins H' C) : compPost (model X.prog X.w) X.A X.xe (some (assign (.Name y py) X.env)) (fun _ t' => SP X pins D .next t') (.ref L) C (.ok .next) t := by
  show wpAny _ _ (assign (.Name y py) X.env (.ref L)) _ _ _
  refine wpAny_assign_Name (store_ok2 (v := V.ref L) I' hN hy (.inl hyl) rfl (fun t2 I2 ⟨a, sb, ha⟩ => ?_) (.inr hyl))
  obtain ⟨f0, f1, f2, f3, f4, f5⟩ := f
  have haC : C ≠ a := ha.elim (fun z => by rw [z]; exact f1) fun z e => f4 y a z e.symm
  exact ⟨m, hn.sameBut sb haC, fun h3 sb3 => ⟨_, H', I2.turned (t' := t2.toks) (fun b o hb e => (sb3.2 b hb).trans e) f0 f1 f3 f4 f5, q⟩⟩
theorem ps_setDc2 {i : Nat} {y : Str} {py spos : Pos} {kx vx ta ia tb ib : Expr} {sc : Scope} {own : List (Str × Nat)} {vs1 : List Nat} {ps : Pos} {wi wi1 : TI} {g g1 : TG} {tk tv : TE} (hc : X.calm = true) (hN : X.N.Nodup) (hy : X.N[i]? = some y) (hyl : X.env.scope.names.lookup y = some .local)
    (hsw : swapsWith (dc2 kx vx ta ia tb ib [] [] sc ps) (some (.Name y py)) spos.line X.env = pure true) (hi : PI X ta ia wi) (ok : BlkOk X.N X.env.scope sc own) (hv : ∀ i ∈ vs1, i ∈ own.map (·.2))
    (hg : AB X sc fun Y => PG Y ta g) (hk : AB X sc fun Y => PE Y kx tk) (he : AB X sc fun Y => PE Y vx tv) (hi1 : AB X sc fun Y => PI Y tb ib wi1) (hg1 : AB X sc fun Y => PG Y tb g1) (hs : ∀ z, foldedSetIterable ia X.env z = pure z) (hs1 : ∀ env z, foldedSetIterable ib env z = pure z) :
    PS X (.Assign [.Name y py] (dc2 kx vx ta ia tb ib [] [] sc ps) spos) (tAsg (tDc2 wi g wi1 g1 tk tv (own.map (·.2)) vs1) (gName i)) := by
  refine ⟨fun pins s σ H D I h => ?_⟩
  rw [exec_Assign_Name_used _ _ _ _ hsw]
  refine wpAny_bind (wpAny_standAt (wpAny_bind ?_))
  show wpAny _ X.A (do let _ ← comprehension (dc2 kx vx ta ia tb ib [] [] sc ps) sc X.env (firstIterPos [⟨ta, ia, [], 0⟩, ⟨tb, ib, [], 0⟩] ps) newDict false (eval ia X.env) (some (assign (.Name y py) X.env))) _ _ s
  have h : tDc2 wi g wi1 g1 tk tv (own.map (·.2)) vs1 σ H (fun x H1 => gName i x σ H1 D.nx) := h
  exact wpAny_bind (thn (dc2_core (Qf := fun _ t => SP X pins D .next t) hc hN I hi ok hv hg hk he hs hi1 hg1 hs1 h fun L C t m H' I' q hn f => use_end hN hy hyl I' q hn f) fun _ t hq => wpAny_pure (wpAny_pure hq))
theorem ps_setDc {i : Nat} {y : Str} {py spos : Pos} {kx vx tg iter : Expr} {ifs : List Expr} {sc : Scope} {own : List (Str × Nat)} {ps : Pos} {wi : TI} {g : TG} {tt : TT} {tk tv : TE} (hc : X.calm = true) (hN : X.N.Nodup) (hy : X.N[i]? = some y) (hyl : X.env.scope.names.lookup y = some .local)
    (hsw : swapsWith (.DictComp kx vx [⟨tg, iter, ifs, 0⟩] sc ps) (some (.Name y py)) spos.line X.env = pure true) (hi : PI X tg iter wi) (ok : BlkOk X.N X.env.scope sc own)
    (hg : AB X sc fun Y => PG Y tg g) (ht : AB X sc fun Y => PTs Y ifs tt) (hk : AB X sc fun Y => PE Y kx tk) (he : AB X sc fun Y => PE Y vx tv) (hs : ∀ z, foldedSetIterable iter X.env z = pure z) :
    PS X (.Assign [.Name y py] (.DictComp kx vx [⟨tg, iter, ifs, 0⟩] sc ps) spos) (tAsg (tDc wi g tt tk tv (own.map (·.2))) (gName i)) := by
  refine ⟨fun pins s σ H D I h => ?_⟩
  rw [exec_Assign_Name_used _ _ _ _ hsw]
  refine wpAny_bind (wpAny_standAt (wpAny_bind ?_))
  show wpAny _ X.A (do let _ ← comprehension (.DictComp kx vx [⟨tg, iter, ifs, 0⟩] sc ps) sc X.env (firstIterPos [⟨tg, iter, ifs, 0⟩] ps) newDict false (eval iter X.env) (some (assign (.Name y py) X.env))) _ _ s
  have h : tDc wi g tt tk tv (own.map (·.2)) σ H (fun x H1 => gName i x σ H1 D.nx) := h
  exact wpAny_bind (thn (dc_core (Qf := fun _ t => SP X pins D .next t) hc hN I hi ok hg ht hk he hs h fun L C t m H' I' q hn f => use_end hN hy hyl I' q hn f) fun _ t hq => wpAny_pure (wpAny_pure hq))
end
end D
end
section
set_option Elab.async false
set_option linter.all false
set_option maxRecDepth 100000
namespace D
open PySem PySem.Spec L2 PyProof.Rows
theorem dput_length {κ : Type} [DecidableEq κ] (l : List (κ × Dt)) (k : κ) (d : Dt) : (dput l k d).length ≤ l.length + 1 := by
  unfold dput
  split
  · rw [List.length_map]; omega
  · rw [List.length_append]; simp
theorem ww {σ : L2.St} (vs : List Nat) : wipe (wipe σ vs) vs = wipe σ vs := by
  have : ∀ (us : List Nat), (∀ u ∈ us, u ∈ vs) → wipe (wipe σ us) vs = wipe σ vs := by
    intro us
    induction us with
    | nil => intro _; rfl
    | cons u us ih =>
      intro h
      show wipe ((wipe σ us).set u none) vs = _
      rw [wipe_set (h u (List.mem_cons_self ..))]
      exact ih fun v hv => h v (List.mem_cons_of_mem _ hv)
  exact this vs fun u h => h
/-- a new dict -/
def SDt (F : Fm) (X : Cx) (Γ : List Sl) (c : Cells) (t : TE) (P : Cells → List (Key × Dt) → Prop) : Prop :=
  ∀ (σ : L2.St) (H : Hp) (Q : VK), SI X.K F Γ c σ H → (∀ p xs H1 c' l, P c' l → SI X.K F Γ c' σ H1 → Ex (Vw F c H) (Vw F c' H1) → H1 p = none → DVk X.K (Vw F c' H1) xs l → Q (.ref p) (upd H1 p (.dK xs))) → t σ H Q
def wIb (X : Cx) (sc : Scope) (tg iter : Expr) : TI := fun σ H R => ∀ (s0 : Shared) (H0 : Hp) (C : Addr) (cl : List (Str × Addr)) (fp : List Addr), wI (blk X sc s0 H0 C cl fp) tg iter σ H R
theorem pIb {X : Cx} {sc : Scope} {tg iter : Expr} (s0 : Shared) (H0 : Hp) (C : Addr) (cl : List (Str × Addr)) (fp : List Addr) : PI (X.blk s0 H0 sc (compEnvC sc cl C X.env) fp) tg iter (wIb X sc tg iter) := ⟨fun pins s σ H R I h => pI.run pins s σ H R I (h s0 H0 C cl fp)⟩
section
variable {F : Fm} {X : Cx} {Γ : List Sl} {c : Cells} {Φ : PEnds} {pos : Pos} {P : Cells → List (Key × Dt) → Prop} {vs vs1 : List Nat}
theorem SDt.se {e : Expr} {t : TE} {P : Cells → Dt → Prop} (hp : PE X e t) (h : SDt F X Γ c t fun c1 l => ∀ a, P (c1 ++ [(a, .dk l)]) (.raw (.ref a))) : SE F X Γ c e P :=
  SE.of hp fun σ H Q S k => h σ H Q S fun p xs H1 c' l q S1 e1 hp dv => by
    obtain ⟨S2, e2⟩ := S1.addC (q := .dk l) (o := .dK xs) hp rfl ⟨xs, upd_same, dv⟩
    exact k _ _ _ _ (q p) S2 (e1.trans e2) (.raw _)
theorem s_setDT {st : Stmt} {t : TE} (i : Nat) (hp : PS X st (tAsg t (gName i))) (h : SDt F X Γ c t fun c1 l => ∀ a, Φ.nx (Γ.set i (.dat (.raw (.ref a)))) (c1 ++ [(a, .dk l)])) : S1 F X Γ c st Φ :=
  S1.of hp fun σ H D S E => h σ H _ S fun p xs H1 c' l q S1 e1 hp dv => by
    obtain ⟨S2, e2⟩ := S1.addC (q := .dk l) (o := .dK xs) hp rfl ⟨xs, upd_same, dv⟩
    exact E.nx _ _ _ _ (q p) (S2.setD (.raw _)) (e1.trans e2)
/-- one turn of {k: v for tg in iter} -/
def TurnD (X : Cx) (Γ : List Sl) (sc : Scope) (vs : List Nat) (tg kx vx : Expr) (d : Dt) (c' : Cells) (N : Cells → Key → Dt → Prop) : Prop :=
  ∀ F' : Fm, AB X sc fun Y => SGb F' Y (wipeG Γ vs) c' vs tg d fun Γ2 => AB X sc fun Y => SE F' Y Γ2 c' kx fun c2 dk => ∃ k, dkey dk = some k ∧ AB X sc fun Y => SE F' Y Γ2 c2 vx fun c3 dv => N c3 k dv
theorem sdt_dc {kx vx tg iter : Expr} {sc : Scope}
    (h : SW F X Γ c tg iter fun c1 ds => ds.length ≤ sizeLine ∧ ∃ Jv : Nat → Cells → List (Key × Dt) → Prop, Jv 0 c1 [] ∧
      (∀ i d c' acc, ds[i]? = some d → Jv i c' acc → TurnD X Γ sc vs tg kx vx d c' fun c2 k y => Jv (i + 1) c2 (dput acc k y)) ∧ ∀ c' acc, Jv ds.length c' acc → P c' acc) : SDt F X Γ c (tDc (wI X tg iter) (tGb X sc tg) tYes (tEb X sc kx) (tEb X sc vx) vs) P := fun σ H Q S kk => by
  refine h σ H _ S fun J H1 c1 ds p S1 e1 src L hL => ?_
  obtain ⟨hz, Jv, j0, turn, done⟩ := p
  obtain ⟨G, Y, w, hG, hY⟩ := src
  have nM : L ∉ F.M := fun z => S1.fresh hL (List.mem_append_right _ z)
  have nW := S1.nW hL
  have h0 := S1.h0 hL
  obtain ⟨Sh, eh⟩ := S1.hide (D := L) (o := .dK []) hL (fun _ z => nomatch z)
  let Pv : Nat → Hp → Prop := fun i H' => ∃ c' acc xs, Jv i c' acc ∧ acc.length ≤ i ∧ SI X.K (FD F L (.dK xs)) Γ c' σ H' ∧ Ex (Vw F c1 H1) (Vw (FD F L (.dK xs)) c' H') ∧ DVk X.K (Vw (FD F L (.dK xs)) c' H') xs acc
  refine ⟨fun i m H => m = ds.length - i ∧ i ≤ ds.length ∧ Pv i H, ⟨ds.length, by simp, Nat.zero_le _, c1, [], [], j0, Nat.le_refl _, Sh, eh, .nil⟩, ?_⟩
  rintro i m H' ⟨rfl, hi, c', acc, xs, jv, la, S', e', dvs⟩
  have g := hG H' (e'.trans (mask_ex _ _))
  by_cases hlt : i < ds.length
  · refine .inr ⟨w.goes i H' hlt g, Pv (i + 1), fun H2 p2 => ⟨ds.length - (i + 1), by omega, rfl, hlt, p2⟩, fun x H2 y => ?_⟩
    obtain ⟨d, hd, it⟩ := hY i H' x H2 hlt (w.yields i H' x H2 hlt g y) (e'.trans (mask_ex _ _))
    obtain ⟨S2, e2, dv⟩ := it.dv' S' e'
    intro s0 H0 C cl fp
    refine turn i d c' acc hd jv (FD F L (.dK xs)) s0 H0 C cl fp (wipe σ vs) H2 x _ (S2.wipe vs) dv fun Γ2 σ2 q Sg hw => ⟨by rw [ww] at hw; exact hw, ?_⟩
    show tEb X sc kx σ2 H2 _
    intro s0 H0 C cl fp
    refine q s0 H0 C cl fp σ2 H2 _ Sg fun yk H3 c2 dk q2 S3 e3 dvk => ?_
    obtain ⟨key, hk, q2⟩ := q2
    intro s0 H0 C cl fp
    refine q2 s0 H0 C cl fp σ2 H3 _ S3 fun yv H4 c3 dy jn S4 e4 dvy => ?_
    have S5 : SI X.K (FD F L (.dK xs)) Γ c3 σ H4 := S2.back S4 (e3.trans e4)
    have ee := e2.trans (e3.trans e4)
    refine ⟨xs, key, dkey_dv dvk hk, S5.hD nW, by rw [dvs.p.length]; omega, c3, dput acc key dy, putK xs key yv, jn, ?_, S5.grow (fun _ z => nomatch z), ?_, ?_⟩
    · have := dput_length acc key dy; omega
    · rw [vw_FD_upd (o := .dK xs)]
      exact e'.trans ee
    · rw [vw_FD_upd (o := .dK xs)]
      exact ((dvs.mono ee).p.put key dvy).k
  · have ei : i = ds.length := by omega
    subst ei
    refine .inl ⟨w.stops H' g, ?_⟩
    have q := kk L xs (rm H' L) c' acc (done c' acc jv) (S'.unhide h0 nM nW) (e1.trans (e'.trans vw_rm)) rm_same (dvs.mono vw_rm)
    rw [upd_rm (S'.hD nW)] at q
    exact q
end
end D
end
section
set_option Elab.async false
set_option linter.all false
set_option maxRecDepth 100000
namespace D
open PySem PySem.Spec L2 PyProof.Rows
section
variable {F : Fm} {X : Cx} {Γ : List Sl} {c : Cells} {Φ : PEnds} {pos : Pos} {P : Cells → List (Key × Dt) → Prop} {vs vs1 : List Nat}
/-- {k: v for ta in ia for tb in ib} -/
theorem sdt_dc2 {kx vx ta ia tb ib : Expr} {sc : Scope}
    (h : SW F X Γ c ta ia fun c1 ds => ∃ Jv : Nat → Cells → List (Key × Dt) → Prop, Jv 0 c1 [] ∧
      (∀ i d c' acc, ds[i]? = some d → Jv i c' acc → ∀ F' : Fm, AB X sc fun Y => SGb F' Y (wipeG Γ vs) c' vs ta d fun Γ2 => AB X sc fun Y => SW F' Y Γ2 c' tb ib fun c2 es => acc.length + es.length ≤ sizeLine ∧ ∃ Ji : Nat → Cells → List (Key × Dt) → Prop, Ji 0 c2 acc ∧
        (∀ j e c3 acc', es[j]? = some e → Ji j c3 acc' → ∀ F' : Fm, AB X sc fun Y => SGb F' Y (wipeG Γ2 vs1) c3 vs1 tb e fun Γ3 => AB X sc fun Y => SE F' Y Γ3 c3 kx fun c4 dk => ∃ k, dkey dk = some k ∧ AB X sc fun Y => SE F' Y Γ3 c4 vx fun c5 dv => Ji (j + 1) c5 (dput acc' k dv)) ∧
        ∀ c3 acc', Ji es.length c3 acc' → Jv (i + 1) c3 acc') ∧ ∀ c' acc, Jv ds.length c' acc → P c' acc) :
    SDt F X Γ c (tDc2 (wI X ta ia) (tGb X sc ta) (wIb X sc tb ib) (tGb X sc tb) (tEb X sc kx) (tEb X sc vx) vs vs1) P := fun σ H Q S kk => by
  refine h σ H _ S fun J H1 c1 ds p S1 e1 src L hL => ?_
  obtain ⟨Jv, j0, turn, done⟩ := p
  obtain ⟨G, Y, w, hG, hY⟩ := src
  have nM : L ∉ F.M := fun z => S1.fresh hL (List.mem_append_right _ z)
  have nW := S1.nW hL
  have h0 := S1.h0 hL
  obtain ⟨Sh, eh⟩ := S1.hide (D := L) (o := .dK []) hL (fun _ z => nomatch z)
  let Pv : Nat → Hp → Prop := fun i H' => ∃ c' acc xs, Jv i c' acc ∧ SI X.K (FD F L (.dK xs)) Γ c' σ H' ∧ Ex (Vw F c1 H1) (Vw (FD F L (.dK xs)) c' H') ∧ DVk X.K (Vw (FD F L (.dK xs)) c' H') xs acc
  refine ⟨fun i m H => m = ds.length - i ∧ i ≤ ds.length ∧ Pv i H, ⟨ds.length, by simp, Nat.zero_le _, c1, [], [], j0, Sh, eh, .nil⟩, ?_⟩
  rintro i m H' ⟨rfl, hi, c', acc, xs, jv, S', e', dvs⟩
  have g := hG H' (e'.trans (mask_ex _ _))
  by_cases hlt : i < ds.length
  · refine .inr ⟨w.goes i H' hlt g, Pv (i + 1), fun H2 p2 => ⟨ds.length - (i + 1), by omega, rfl, hlt, p2⟩, fun x H2 y => ?_⟩
    obtain ⟨d, hd, it⟩ := hY i H' x H2 hlt (w.yields i H' x H2 hlt g y) (e'.trans (mask_ex _ _))
    obtain ⟨S2, e2, dv⟩ := it.dv' S' e'
    intro s0 H0 C cl fp
    refine turn i d c' acc hd jv (FD F L (.dK xs)) s0 H0 C cl fp (wipe σ vs) H2 x _ (S2.wipe vs) dv fun Γ2 σ2 q Sg hw => ⟨by rw [ww] at hw; exact hw, ?_⟩
    intro s0 H0 C cl fp
    refine q s0 H0 C cl fp σ2 H2 _ Sg fun J1 H3 c2 es q2 S3 e3 src1 => ?_
    obtain ⟨hz, Ji, ji0, turn1, done1⟩ := q2
    obtain ⟨G1, Y1, w1, hG1, hY1⟩ := src1
    let Pi : Nat → Hp → Prop := fun j H4 => ∃ c4 acc4 ys, Ji j c4 acc4 ∧ acc4.length ≤ acc.length + j ∧ SI X.K (FD F L (.dK ys)) Γ2 c4 σ2 H4 ∧ Ex (Vw (FD F L (.dK xs)) c2 H3) (Vw (FD F L (.dK ys)) c4 H4) ∧ DVk X.K (Vw (FD F L (.dK ys)) c4 H4) ys acc4
    refine ⟨fun j m H => m = es.length - j ∧ j ≤ es.length ∧ Pi j H, ⟨es.length, by simp, Nat.zero_le _, c2, acc, xs, ji0, Nat.le_refl _, S3, Ex.refl _, dvs.mono (e2.trans e3)⟩, ?_⟩
    rintro j k H4 ⟨rfl, hj, c4, acc4, ys, ji, la, S4, e4, dv4⟩
    have g1 := hG1 H4 (e4.trans (mask_ex _ _))
    have e34 : Ex (Vw F c1 H1) (Vw (FD F L (.dK ys)) c4 H4) := e'.trans (e2.trans (e3.trans e4))
    by_cases hlt1 : j < es.length
    · refine .inr ⟨w1.goes j H4 hlt1 g1, Pi (j + 1), fun H5 p5 => ⟨es.length - (j + 1), by omega, rfl, hlt1, p5⟩, fun x1 H5 y1 => ?_⟩
      obtain ⟨d1, hd1, it1⟩ := hY1 j H4 x1 H5 hlt1 (w1.yields j H4 x1 H5 hlt1 g1 y1) (e4.trans (mask_ex _ _))
      obtain ⟨S5, e5, dv5⟩ := it1.dv' S4 e4
      intro s0 H0 C cl fp
      refine turn1 j d1 c4 acc4 hd1 ji (FD F L (.dK ys)) s0 H0 C cl fp (wipe σ2 vs1) H5 x1 _ (S5.wipe vs1) dv5 fun Γ3 σ3 q3 Sg3 hw3 => ⟨by rw [ww] at hw3; exact hw3, ?_⟩
      intro s0 H0 C cl fp
      refine q3 s0 H0 C cl fp σ3 H5 _ Sg3 fun yk H6 c6 dk q6 S6 e6 dvk => ?_
      obtain ⟨key, hk, q6⟩ := q6
      intro s0 H0 C cl fp
      refine q6 s0 H0 C cl fp σ3 H6 _ S6 fun yv H7 c7 dy jn S7 e7 dvy => ?_
      have S8 : SI X.K (FD F L (.dK ys)) Γ2 c7 σ2 H7 := S5.back S7 (e6.trans e7)
      have ee := e5.trans (e6.trans e7)
      refine ⟨ys, key, dkey_dv dvk hk, S8.hD nW, by rw [dv4.p.length]; omega, c7, dput acc4 key dy, putK ys key yv, jn, ?_, S8.grow (fun _ z => nomatch z), ?_, ?_⟩
      · have := dput_length acc4 key dy; omega
      · rw [vw_FD_upd (o := .dK ys)]
        exact e4.trans ee
      · rw [vw_FD_upd (o := .dK ys)]
        exact ((dv4.mono ee).p.put key dvy).k
    · have ej : j = es.length := by omega
      subst ej
      refine .inl ⟨w1.stops H4 g1, c4, acc4, ys, done1 c4 acc4 ji, ?_, e34, dv4⟩
      -- back to the slots of before
      have eb : Ex (Vw (FD F L (.dK xs)) c' H') (Vw (FD F L (.dK ys)) c4 H4) := e2.trans (e3.trans e4)
      exact ⟨S'.len, S4.nd, fun i d hi => by obtain ⟨v, z1, z2⟩ := S'.sl i d hi; exact ⟨v, z1, z2.mono eb⟩, S4.ce, S4.keep, S4.fr, S4.live, S4.wl⟩
  · have ei : i = ds.length := by omega
    subst ei
    refine .inl ⟨w.stops H' g, ?_⟩
    have q := kk L xs (rm H' L) c' acc (done c' acc jv) (S'.unhide h0 nM nW) (e1.trans (e'.trans vw_rm)) rm_same (dvs.mono vw_rm)
    rw [upd_rm (S'.hD nW)] at q
    exact q
end
end D
end
section
set_option Elab.async false
set_option linter.all false
set_option maxRecDepth 100000
namespace D
open PySem PySem.Spec L2 PyProof.Rows
theorem enum_newT (t : Addr) (items : Array Value) :
    Meets (Builtin.«enumerate.__new__» ⟨[.type "enumerate", .ref t], []⟩) (fun _ R s => s.heap.IsTuple t items ∧
      R (.ok (.ret (.ref (s.heap.push { cls := .type "tuple_iterator", data := .fields #[.ref t, .int 0 0] }).objs.size)))
        { s with heap := (s.heap.push { cls := .type "tuple_iterator", data := .fields #[.ref t, .int 0 0] }).push { cls := .type "enumerate", data := .fields #[.none, .bool false, .ref s.heap.objs.size, rawInt 0, .none, .none] } }) :=
  .of_wp fun prog w A R s h => by
    obtain ⟨hp, g, d, tk, os⟩ := s
    obtain ⟨ht, h⟩ := h
    have hsub := sub_enumerate
    obtain ⟨o, ho, hcls, n, hdat⟩ := id ht
    have q1 : ∀ {A' : Around} {E : Value → Shared → Prop} {Q : Value → Shared → Prop}, Q (.ref hp.objs.size) ⟨(hp.push { cls := .type "tuple_iterator", data := .fields #[.ref t, .int 0 0] }), g, d, tk, os⟩ → wpAny (model prog w) A' (pyIter (.ref t)) Q E ⟨hp, g, d, tk, os⟩ :=
      fun q => wpAny_pyIter_tuple ht q
    wp_walk using wpAny_loadPart' ho
    refine wpAny_stack_any fun st => wpAny_pure ?_
    split
    · rename_i k _ _ _ _ _
      cases (k == Value.type "enumerate")
      · wp_walk using wpAny_loadPart' ho, q1
        exact ⟨_, rfl, h⟩
      · wp_walk using wpAny_loadPart' ho, q1
        exact ⟨_, rfl, h⟩
    · wp_walk using wpAny_loadPart' ho, q1
      exact ⟨_, rfl, h⟩
section
variable {prog : Program} {w : World} {A : Around} {E : Value → Shared → Prop} {s : Shared}
theorem call_enumT {t : Addr} {items : Array Value} {Q : Value → Shared → Prop} (hT : s.heap.IsTuple t items)
    (h : ∀ h', IsEnum h' (s.heap.objs.size + 1) s.heap.objs.size 0 .none → h'.IsTupleIter s.heap.objs.size t 0 → h'.objs.size = s.heap.objs.size + 2 → (∀ b o, s.heap.get? b = some o → h'.get? b = some o) → Q (.ref (s.heap.objs.size + 1)) { s with heap := h' }) :
    wpAny (model prog w) A (call (.type "enumerate") [.ref t]) Q E s := by
  refine callType_new F.called_enumerate (by decide) (F.typeCall_enumerate_1 _) (F.newCall_enumerate_1 _) (fun ob => F.args_object_init_2 ob _) F.entry_enumerate_new (enum_newT t items) ⟨hT, ?_⟩
  have hz : (s.heap.push { cls := .type "tuple_iterator", data := .fields #[.ref t, .int 0 0] }).objs.size = s.heap.objs.size + 1 := Heap.size_push ..
  show _ ∧ _
  rw [hz]
  have he : IsEnum ((s.heap.push { cls := .type "tuple_iterator", data := .fields #[.ref t, .int 0 0] }).push { cls := .type "enumerate", data := .fields #[.none, .bool false, .ref s.heap.objs.size, rawInt 0, .none, .none] }) (s.heap.objs.size + 1) s.heap.objs.size 0 .none := by
    have q := Heap.get?_push_size (s.heap.push { cls := .type "tuple_iterator", data := .fields #[.ref t, .int 0 0] }) (o := { cls := .type "enumerate", data := .fields #[.none, .bool false, .ref s.heap.objs.size, rawInt 0, .none, .none] }) rfl
    rwa [hz] at q
  exact ⟨⟨_, he, rfl⟩, h _ he ⟨_, Heap.get?_push_of_some _ (Heap.get?_push_size _ rfl), rfl, rfl⟩ (by rw [Heap.size_push, hz]) fun b o y => Heap.get?_push_of_some _ (Heap.get?_push_of_some _ y)⟩
end
/-- the tuple at a, each item in a new pair -/
def IteT (K : PySem.W.Frag) (a : Addr) : It :=
  ⟨fun i H => ∃ (xs : List V) (x : V), SqT K H a xs ∧ xs[i]? = some x, fun i H v H' => ∃ T x, v = .ref T ∧ H T = none ∧ H' = upd H T (.tup [.int (i : Nat), x]) ∧ ∀ xs, SqT K H a xs → xs[i]? = some x, fun i H => ∃ xs : List V, SqT K H a xs ∧ xs.length = i⟩
theorem turn_enumT {P : Program} {w : World} {K : PySem.W.Frag} {elts : List Expr} {kk : Nat} {tpos : Pos} (a e it : Addr) :
    Turn P w K (.Tuple elts kk tpos) (IteT K a) [e, it] e (fun i h => (∃ old, IsEnum h e it ((i : Nat) : Int) old) ∧ h.IsTupleIter it a i ∧ e ≠ it ∧ a ≠ it ∧ a ≠ e) where
  mem := by simp
  obj := fun i h st b hb => by
    obtain ⟨⟨old, he⟩, ⟨o, ho, hc, hd⟩, _⟩ := st
    rcases (show b = e ∨ b = it by simpa using hb) with z | z
    · subst z; exact ⟨_, he, fun v q => nomatch q⟩
    · subst z; exact ⟨o, ho, fun v q => by rw [hd] at q; cases q⟩
  keep := fun i h h' st k => let ⟨⟨old, he⟩, hi, hne⟩ := st; ⟨⟨old, k e (by simp) _ he⟩, hi.at fun o q => k it (by simp) o q, hne⟩
  item := by
    intro X hP hw hK hc i pins s σ H E I hf st hg
    subst hP hw hK
    obtain ⟨⟨old, he⟩, hit, hne, hai, hae⟩ := st
    obtain ⟨xs, x, hq, hx⟩ := hg
    obtain ⟨its, rv, p, hz⟩ := I.tuple hq
    obtain ⟨u, hu, ru⟩ := rv.get hx
    have hel : e < s.heap.objs.size := Heap.lt_size he
    have hil : it < s.heap.objs.size := hit.elim fun _ q => Heap.lt_size q.1
    have hlt : i < its.toArray.size := by simpa using (List.getElem?_eq_some_iff.mp hu).1
    refine wpAny_pyNext_enum_itemD (Draws.tuple (prog := X.prog) (w := X.w) (A := X.A.in1) (I.ok.hd hc) it a hai its.toArray) he ⟨hit, p⟩ hlt hne (by simp [hne, Ne.symm hae]) fun u' h' tk hP ho hst hT hsz hk => ?_
    have eu : u' = u := by
      have : its.toArray[i]? = some u' := hP
      simp only [List.getElem?_toArray] at this
      rw [hu] at this
      exact (Option.some.inj this).symm
    subst eu
    refine ⟨_, rfl, wpAny_letOwnedTupleGo_enum (s := { s with heap := h', toks := tk + 1 }) ho fun h'' he' sb => ?_⟩
    have hT2 : h''.get? s.heap.objs.size = some { cls := .type "tuple", data := .seq #[.int i tk, u'] } := (sb.2 _ (Nat.ne_of_gt hel)).trans hT
    have new : ObjOk X.prog X.w (upd H s.heap.objs.size (.tup [.int (i : Nat), x])) h'' s.heap.objs.size (.tup [.int (i : Nat), x]) := ⟨by show 2 ≤ sizeLine; decide, [.int i tk, u'], .cons ⟨_, rfl⟩ (.cons ru .nil), ⟨_, hT2, rfl, _, rfl⟩⟩
    have I1 : Inv X pins σ (upd H s.heap.objs.size (.tup [.int (i : Nat), x])) { s with heap := h'', toks := tk + 1 } :=
      I.turnedNew (ch := [e, it]) (fun b ob hb q => (sb.2 b fun z => hb (by simp [z])).trans (hk b ob (fun z => hb (by simp [z])) (fun z => hb (by simp [z])) q)) hf (Nat.le_refl _) new
    refine ⟨.ref s.heap.objs.size, _, I1, rfl, ⟨_, x, rfl, I.hok.fresh (Nat.le_refl _), rfl, fun ys hy => by rw [I.tuple_inj hy hq]; exact hx⟩, ⟨⟨u', by rw [show ((i + 1 : Nat) : Int) = (i : Int) + 1 by omega]; exact he'⟩, hst.1.at fun o q => (sb.2 it (Ne.symm hne)).trans q, hne, hai, hae⟩, fun b hb => ?_⟩
    have hb' : b < s.heap.objs.size := by
      rcases (show b = e ∨ b = it by simpa using hb) with z | z
      · rw [z]; exact hel
      · rw [z]; exact hil
    rw [upd_ne (Nat.ne_of_lt hb')]
    exact (hf b hb).1
  done := by
    intro X hP hw hK hc i pins s σ H E I hf st hg
    subst hP hw hK
    obtain ⟨⟨old, he⟩, hit, hne, hai, hae⟩ := st
    obtain ⟨xs, hq, hx⟩ := hg
    obtain ⟨its, rv, p, hz⟩ := I.tuple hq
    obtain ⟨f0, f1, f2, f3, f4, f5⟩ := hf it (by simp)
    have hl := rv.length
    have en : i = its.toArray.size := by simp; omega
    subst en
    exact wpAny_pyNext_enum_endD (Draws.tuple (prog := X.prog) (w := X.w) (A := X.A.in1) (I.ok.hd hc) it a hai its.toArray) he ⟨hit, p⟩ fun h' eb => ⟨rfl, I.turned (t' := s.toks) (fun b o hb q => eb b o hb q) f0 f1 f3 f4 f5⟩
  self := fun A i s Q E st h => st.1.elim fun _ he => wpAny_pyIter_enum he h
def iEnumT (K : PySem.W.Frag) (ta : TA) : TI := fun σ H R => ta σ H fun vs H1 => ∃ a xs, vs = [.ref a] ∧ SqT K H1 a xs ∧ R (IteT K a) H1
theorem pi_enumT {X : Cx} {e : Expr} {ta : TA} {p pos tpos : Pos} {elts : List Expr} {kk : Nat} (hg : Gl X "enumerate") (hm : X.mg "enumerate" = none) (ha : PA X [e] ta) (hs : starEach [e] X.env = [(false, eval e X.env)] := by rfl) :
    PI X (.Tuple elts kk tpos) (.Call (.Name "enumerate" p) [e] [] pos) (iEnumT X.K ta) := by
  refine ⟨fun pins s σ H R I h => ?_⟩
  refine Call_ (ld_blt I hg hm boot_enumerate (PyProof.Rows.callWith_type1 (thn (ha.run pos pins s σ H _ I h) fun us t ⟨vs, H1, I1, r1, q1⟩ => ?_) hs rfl))
  obtain ⟨a, xs, rfl, hq, q⟩ := q1
  cases r1 with
  | cons r rr =>
    cases rr
    cases r
    obtain ⟨its, rv, p', hz⟩ := I1.tuple hq
    have hlt : a < t.heap.objs.size := p'.lt
    refine call_enumT p' fun h' he hit hsz hk => wpAny_pyIter_enum he ?_
    have I2 : Inv X pins σ H1 { t with heap := h' } := I1.kept (t' := t.toks) hk
    refine ⟨t.heap.objs.size + 1, [t.heap.objs.size + 1, t.heap.objs.size], _, _, H1, rfl, I2, turn_enumT a (t.heap.objs.size + 1) t.heap.objs.size, ⟨⟨.none, he⟩, hit, Nat.succ_ne_self _, Nat.ne_of_lt hlt, Nat.ne_of_lt (Nat.lt_succ_of_lt hlt)⟩, fun b hb => ?_, q⟩
    have hle : t.heap.objs.size ≤ b := by
      rcases (show b = t.heap.objs.size + 1 ∨ b = t.heap.objs.size by simpa using hb) with z | z
      · rw [z]; exact Nat.le_succ _
      · rw [z]; exact Nat.le_refl _
    exact I1.fpOk hle (I1.hok.fresh hle)
theorem walk_enumT {K : PySem.W.Frag} {a : Addr} {xs : List V} : Walk (IteT K a) xs.length (fun H => SqT K H a xs) (YPair (fun i => some (.int (i : Nat))) (fun i => xs[i]?)) :=
  ⟨fun i H hi h => ⟨xs, xs[i], h, List.getElem?_eq_getElem hi⟩, fun H h => ⟨xs, h, rfl⟩, fun i H x H' hi h ⟨T, y, e1, e2, e3, e4⟩ => ⟨T, .int (i : Nat), y, e1, e2, e3, rfl, e4 xs h⟩⟩
section
variable {F : Fm} {X : Cx} {Γ : List Sl} {c : Cells} {pos : Pos} {P : Cells → List Dt → Prop} {K : PySem.W.Frag}
theorem src_enumT {V0 : Hp} {a : Addr} {xs : List V} {l : List Dt} (h : SqT K V0 a xs) (t : DVs K V0 xs l) : Src K V0 (IteT K a) (enumD l) := by
  have hl : (enumD l).length = xs.length := by unfold enumD; rw [List.length_map, List.length_range, t.length]
  refine ⟨_, _, hl.symm ▸ walk_enumT (K := K) (a := a) (xs := xs), fun H e => ex_t e h, fun i H1 x H2 hi y _ => ?_⟩
  obtain ⟨T, x1, x2, h1, h2, h3, h4, h5⟩ := y
  rw [hl] at hi
  obtain ⟨d, h6, h7⟩ := t.getV h5
  cases h4
  refine ⟨.par [.int (i : Int), d], ?_, .inr ⟨T, _, x2, .int (i : Int), d, h1, h2, h3, rfl, .int _, h7⟩⟩
  unfold enumD
  rw [List.getElem?_map, List.getElem?_range (by rw [← t.length]; exact hi)]
  show some (Dt.par [.int (i : Int), l.getD i .non]) = _
  rw [List.getD_eq_getElem?_getD, h6]
  rfl
theorem sw_enumT {e : Expr} {p : Pos} {elts : List Expr} {kk : Nat} {tpos : Pos} (hm : X.mg "enumerate" = none) (h : SE F X Γ c e fun c1 d => ∃ l, d = .tup l ∧ P c1 (enumD l)) (hg : Gl X "enumerate" := by rfl) (hs : starEach [e] X.env = [(false, eval e X.env)] := by rfl) : SW F X Γ c (.Tuple elts kk tpos) (.Call (.Name "enumerate" p) [e] [] pos) P := .mk fun σ H R S k =>
  ⟨_, pi_enumT hg hm (pa_cons pE pa_nil hs) hs, h σ H _ S fun v H1 c1 d p S1 k1 dv => by
    obtain ⟨l, rfl, p⟩ := p
    cases dv with
    | tup a t => exact ⟨_, _, rfl, (a.mono (mask_ex _ _)).t, k _ H1 c1 _ p S1 k1 (src_enumT a.t t)⟩⟩
end
end D
end
section
set_option Elab.async false
set_option linter.all false
set_option maxRecDepth 100000
namespace D
open PySem L2 PyProof.Rows
def getG : List Str → List Sl → Str → Option Sl
  | n :: N, s :: Γ, x => if n == x then some s else getG N Γ x
  | _, _, _ => none
theorem getG_at {x : Str} {s : Sl} : ∀ {N : List Str} {Γ : List Sl}, getG N Γ x = some s → ∃ i : Nat, N[i]? = some x ∧ Γ[i]? = some s
  | [], _, h => by simp [getG] at h
  | _ :: _, [], h => by simp [getG] at h
  | n :: N, t :: Γ, h => by
    unfold getG at h
    by_cases e : (n == x) = true
    · rw [if_pos e] at h
      exact ⟨0, by simp [eq_of_beq e], by simpa using h⟩
    · rw [if_neg e] at h
      obtain ⟨i, h1, h2⟩ := getG_at h
      exact ⟨i + 1, by simpa using h1, by simpa using h2⟩
section
variable {F : Fm} {X : Cx} {Γ : List Sl} {c : Cells} {P : Cells → Dt → Prop} {pos : Pos}
theorem se_nm {x : Str} {d : Dt} (hs : getG X.N Γ x = some (.dat d)) (p : P c d) (hv : Vis X.env.scope x := by first | exact Or.inl rfl | exact Or.inr (Or.inl rfl) | exact Or.inr (Or.inr rfl))
    (hd : (x == ("__debug__" : Str)) = false := by decide) (hcd : (x == ("__classdict__" : Str)) = false := by decide) : SE F X Γ c (.Name x pos) P := by
  obtain ⟨i, h1, h2⟩ := getG_at hs
  exact se_var i h2 p h1 hv hd hcd
end
abbrev abc : Str := "abcdefghijklmnopqrstuvwxyz"
def nameC (s : Str) : Bool := decide (1 ≤ (s.length : Int)) && (decide ((s.length : Int) ≤ 8) && s.cps.toList.all fun a => decide (a ∈ abc.cps.toList))
theorem nameC_iff {s : Str} : nameC s = true ↔ 1 ≤ s.length ∧ s.length ≤ 8 ∧ ∀ a ∈ s.cps.toList, a ∈ abc.cps.toList := by
  unfold nameC
  rw [Bool.and_eq_true, Bool.and_eq_true, decide_eq_true_eq, decide_eq_true_eq, List.all_eq_true]
  constructor
  · rintro ⟨h1, h2, h3⟩
    exact ⟨by omega, by omega, fun a ha => of_decide_eq_true (h3 a ha)⟩
  · rintro ⟨h1, h2, h3⟩
    exact ⟨by omega, by omega, fun a ha => decide_eq_true (h3 a ha)⟩
theorem abc_asc : ∀ a ∈ abc.cps.toList, a < 128 := by decide +kernel
theorem name_asc {s : Str} (h : nameC s = true) : Asc 8 s := by
  rw [nameC_iff] at h
  exact ⟨h.2.1, fun a ha => abc_asc a (h.2.2 a ha)⟩
abbrev Nm := { s : Str // nameC s = true }
abbrev nD (x : Nm) : Dt := .str x.1
abbrev nL (l : List Nm) : Dt := .lst (l.map nD)
abbrev nT (l : List Nm) : Dt := .tup (l.map nD)
theorem fit_n {n : Nat} (x : Nm) : Fit n (nD x) := fit_str (name_asc x.2).ok
theorem fit_nL {n : Nat} (l : List Nm) : Fit (n + 1) (nL l) := fit_lst fun d hd => by
  obtain ⟨x, _, rfl⟩ := List.mem_map.mp hd; exact fit_n x
theorem fit_nT {n : Nat} (l : List Nm) : Fit (n + 1) (nT l) := fit_tup fun d hd => by
  obtain ⟨x, _, rfl⟩ := List.mem_map.mp hd; exact fit_n x
theorem eqV_str (a b : Str) : eqV (.str a) (.str b) = decide (a = b) := by
  show _ = _
  by_cases h : a = b
  · subst h; simp [eqV]
  · simp [eqV, h]
theorem inD_n (x : Nm) (l : List Nm) : inD (nD x) (l.map nD) = decide (x ∈ l) := by
  unfold inD inV
  rw [List.map_map]
  induction l with
  | nil => rfl
  | cons y l ih =>
    rw [List.map_cons, List.any_cons, ih]
    show (eqV (.str y.1) (.str x.1) || _) = _
    rw [eqV_str]
    by_cases e : y = x
    · subst e; simp
    · have : y.1 ≠ x.1 := fun z => e (Subtype.ext z)
      have e' : ¬ x = y := fun z => e z.symm
      simp [this, e']
theorem flats_n (l : List Nm) : (l.map nD).all flatD = true := by rw [List.all_eq_true]; intro d hd; obtain ⟨x, _, rfl⟩ := List.mem_map.mp hd; rfl
theorem big_line : 1000000 ≤ sizeLine := by decide
section
variable {F : Fm} {X : Cx} {Γ : List Sl} {c : Cells} {P : Cells → Dt → Prop} {pos : Pos}
theorem ov_inN {x : Nm} {l : List Nm} (p : P c (.bl (decide (x ∈ l)))) : OpV F X Γ c (compareOp .In) (nD x) (nL l) P := ov_in rfl rfl (flats_n l) (by rw [inD_n]; exact p)
theorem ov_inNT {x : Nm} {l : List Nm} (p : P c (.bl (decide (x ∈ l)))) : OpV F X Γ c (compareOp .In) (nD x) (nT l) P := ov_in rfl rfl (flats_n l) (by rw [inD_n]; exact p)
theorem ov_ninN {x : Nm} {l : List Nm} (p : P c (.bl (!decide (x ∈ l)))) : OpV F X Γ c (compareOp .NotIn) (nD x) (nL l) P := ov_notIn rfl rfl (flats_n l) (by rw [inD_n]; exact p)
theorem ov_ninNT {x : Nm} {l : List Nm} (p : P c (.bl (!decide (x ∈ l)))) : OpV F X Γ c (compareOp .NotIn) (nD x) (nT l) P := ov_notIn rfl rfl (flats_n l) (by rw [inD_n]; exact p)
theorem nm_eq (a b : Nm) : decide (a.1 = b.1) = decide (a = b) := by
  by_cases h : a = b
  · subst h; simp
  · have : a.1 ≠ b.1 := fun z => h (Subtype.ext z)
    simp [h, this]
theorem ov_eqN {a b : Nm} (p : P c (.bl (decide (a = b)))) : OpV F X Γ c (compareOp .Eq) (nD a) (nD b) P := ov_eqS (by rw [nm_eq]; exact p)
theorem ov_neN {a b : Nm} (p : P c (.bl (!decide (a = b)))) : OpV F X Γ c (compareOp .NotEq) (nD a) (nD b) P := ov_neS (by rw [nm_eq]; exact p)
theorem isE_map {α β : Type} (f : α → β) (l : List α) : (l.map f).isEmpty = l.isEmpty := by cases l <;> rfl
theorem ov_neNil {α : Type} {f : α → Dt} {l : List α} (hu : X.A.units + 64 < cLine) (hf : Fit 64 (.lst (l.map f))) (p : P c (.bl (!l.isEmpty))) : OpV F X Γ c (compareOp .NotEq) (.lst (l.map f)) (.lst []) P :=
  ov_neD hu hf (fit_lst fun _ h => nomatch h) (by rw [eqd_lst_nil, isE_map]; exact p)
theorem ov_eqNil {α : Type} {f : α → Dt} {l : List α} (hu : X.A.units + 64 < cLine) (hf : Fit 64 (.lst (l.map f))) (p : P c (.bl l.isEmpty)) : OpV F X Γ c (compareOp .Eq) (.lst (l.map f)) (.lst []) P :=
  ov_eqD hu hf (fit_lst fun _ h => nomatch h) (by rw [eqd_lst_nil, isE_map]; exact p)
theorem sv_fromL {α : Type} {f : α → Dt} {l : List α} {k : Int} (h : 0 ≤ k) (p : P c (.lst ((l.drop k.toNat).map f))) : SlV F X Γ c (some k) none (.lst (l.map f)) P := sv_lst (by rw [cutD_from _ h, ← List.map_drop]; exact p)
theorem sv_fromT {α : Type} {f : α → Dt} {l : List α} {k : Int} (h : 0 ≤ k) (p : P c (.tup ((l.drop k.toNat).map f))) : SlV F X Γ c (some k) none (.tup (l.map f)) P := sv_tup (by rw [cutD_from _ h, ← List.map_drop]; exact p)
theorem sv_toL {α : Type} {f : α → Dt} {l : List α} {k : Int} (h : 0 ≤ k) (p : P c (.lst ((l.take k.toNat).map f))) : SlV F X Γ c none (some k) (.lst (l.map f)) P := sv_lst (by rw [cutD_to _ h, ← List.map_take]; exact p)
theorem sv_toT {α : Type} {f : α → Dt} {l : List α} {k : Int} (h : 0 ≤ k) (p : P c (.tup ((l.take k.toNat).map f))) : SlV F X Γ c none (some k) (.tup (l.map f)) P := sv_tup (by rw [cutD_to _ h, ← List.map_take]; exact p)
theorem iv_cons {d : Dt} {l : List Dt} (p : P c d) : IxV F X Γ c (.lst (d :: l)) (.int 0) P := iv_lst (by simp [atI, ixN]) p
theorem iv_consT {d : Dt} {l : List Dt} (p : P c d) : IxV F X Γ c (.tup (d :: l)) (.int 0) P := iv_tup (by simp [atI, ixN]) p
theorem any_map {α : Type} (l : List α) (q : α → Bool) : ((l.map q).any id) = l.any q := by rw [List.any_map]; rfl
theorem all_map {α : Type} (l : List α) (q : α → Bool) : ((l.map q).all id) = l.all q := by rw [List.all_map]; rfl
theorem cv_anyM {α : Type} {l : List α} {q : α → Bool} (hc : X.calm = true) (p : P c (.bl (l.any q))) : ClV F X Γ c (.builtin "any") [.lst (l.map fun x => .bl (q x))] P := by
  have := cv_any (F := F) (Γ := Γ) (c := c) (P := P) (bs := l.map q) hc (by rw [any_map]; exact p)
  rw [List.map_map] at this
  exact this
theorem cv_allM {α : Type} {l : List α} {q : α → Bool} (hc : X.calm = true) (p : P c (.bl (l.all q))) : ClV F X Γ c (.builtin "all") [.lst (l.map fun x => .bl (q x))] P := by
  have := cv_all (F := F) (Γ := Γ) (c := c) (P := P) (bs := l.map q) hc (by rw [all_map]; exact p)
  rw [List.map_map] at this
  exact this
variable {vs : List Nat} {Pl : Cells → List Dt → Prop}
theorem map_t {α : Type} {elt tg : Expr} {scope : Scope} {enc : α → Dt} {l : List α} (g : α → Dt) (hz : l.length ≤ sizeLine)
    (turn : ∀ r, r ∈ l → Turn0 X Γ scope vs tg elt (enc r) c fun c2 y => c2 = c ∧ y = g r) (p : Pl c (l.map g)) :
    (l.map enc).length ≤ sizeLine ∧ ∃ Jv : Nat → Cells → List Dt → Prop, Jv 0 c [] ∧ (∀ i d c' acc, (l.map enc)[i]? = some d → Jv i c' acc → Turn0 X Γ scope vs tg elt d c' fun c2 y => Jv (i + 1) c2 (acc ++ [y])) ∧ ∀ c' acc, Jv (l.map enc).length c' acc → Pl c' acc := by
  refine ⟨by rw [List.length_map]; exact hz, fun i c' acc => c' = c ∧ acc = (l.take i).map g, ⟨rfl, by simp⟩, ?_, ?_⟩
  · rintro i d c' acc hd ⟨rfl, rfl⟩ F' s0 H0 C cl fp
    refine .mk fun σ H v Q S dv k => ?_
    rw [List.getElem?_map] at hd
    obtain ⟨r, hr, rfl⟩ := Option.map_eq_some_iff.mp hd
    refine turn r (List.mem_of_getElem? hr) F' s0 H0 C cl fp σ H v Q S dv fun Γ2 σ2 q S2 w => k Γ2 σ2 ?_ S2 w
    intro s0 H0 C cl fp
    refine (q s0 H0 C cl fp).mono ?_
    rintro c2 y ⟨rfl, rfl⟩
    refine ⟨rfl, ?_⟩
    rw [List.take_add_one, hr, List.map_append]
    rfl
  · rintro c' acc ⟨rfl, rfl⟩
    rw [List.length_map, List.take_length]
    exact p
theorem filter_t {α : Type} {elt t tg : Expr} {scope : Scope} {enc : α → Dt} {l : List α} (q : α → Bool) (g : α → Dt) (hz : l.length ≤ sizeLine)
    (turn : ∀ r, r ∈ l → Turn1 X Γ scope vs tg t elt (enc r) c (fun c2 y => q r = true ∧ c2 = c ∧ y = g r) fun c2 => c2 = c ∧ q r = false) (p : Pl c ((l.filter q).map g)) :
    (l.map enc).length ≤ sizeLine ∧ ∃ Jv : Nat → Cells → List Dt → Prop, Jv 0 c [] ∧ (∀ i d c' acc, (l.map enc)[i]? = some d → Jv i c' acc → Turn1 X Γ scope vs tg t elt d c' (fun c2 y => Jv (i + 1) c2 (acc ++ [y])) fun c2 => Jv (i + 1) c2 acc) ∧ ∀ c' acc, Jv (l.map enc).length c' acc → Pl c' acc := by
  refine ⟨by rw [List.length_map]; exact hz, fun i c' acc => c' = c ∧ acc = ((l.take i).filter q).map g, ⟨rfl, by simp⟩, ?_, ?_⟩
  · rintro i d c' acc hd ⟨rfl, rfl⟩ F' s0 H0 C cl fp
    refine .mk fun σ H v Q S dv k => ?_
    rw [List.getElem?_map] at hd
    obtain ⟨r, hr, rfl⟩ := Option.map_eq_some_iff.mp hd
    have e : ((l.take (i + 1)).filter q).map g = ((l.take i).filter q).map g ++ (if q r = true then [g r] else []) := by
      rw [List.take_add_one, hr, List.filter_append, List.map_append]
      congr 1
      show ([r].filter q).map g = _
      cases hq : q r with
      | true => rw [List.filter_cons_of_pos hq]; rfl
      | false => rw [List.filter_cons_of_neg (by rw [hq]; exact Bool.false_ne_true)]; rfl
    refine turn r (List.mem_of_getElem? hr) F' s0 H0 C cl fp σ H v Q S dv fun Γ2 σ2 z S2 w => k Γ2 σ2 ?_ S2 w
    intro s0 H0 C cl fp
    refine (z s0 H0 C cl fp).mono ?_
    intro c2 b hb
    cases b with
    | true =>
      rw [if_pos rfl] at hb
      rw [if_pos rfl]
      intro s0 H0 C cl fp
      refine SE.mono (hb s0 H0 C cl fp) ?_
      rintro c3 y ⟨hq, rfl, rfl⟩
      exact ⟨rfl, by rw [e, hq]; rfl⟩
    | false =>
      obtain ⟨rfl, hq⟩ := hb
      refine ⟨rfl, ?_⟩
      rw [e, hq]
      simp
  · rintro c' acc ⟨rfl, rfl⟩
    rw [List.length_map, List.take_length]
    exact p
/-- the end of a test in a filter: both ways at once -/
theorem filt_end {b : Bool} {A : Prop} {B : Prop} (h1 : b = true → A) (h2 : b = false → B) : if b = true then A else B := by
  cases b with
  | true => exact h1 rfl
  | false => exact h2 rfl
end
end D
end
section
set_option Elab.async false
set_option linter.all false
set_option maxRecDepth 100000
namespace D
open PySem L2 PyProof.Rows
section
variable {F : Fm} {X : Cx} {Γ : List Sl} {c c1 : Cells} {Φ : PEnds} {tg : Expr}
/-- a for over typed data: J tells of what is left -/
theorem for_t {α : Type} {enc : α → Dt} {l : List α} {body : List Stmt} (J : List α → List Sl → Cells → Prop) (h0 : J l Γ c1)
    (turn : ∀ pre r rest Γ' c', l = pre ++ r :: rest → J (r :: rest) Γ' c' → SG F X Γ' c' tg (enc r) fun Γ2 => SS F X Γ2 c' body { Φ with nx := J rest, ct := J rest, bk := Φ.nx })
    (done : ∀ Γ' c', J [] Γ' c' → Φ.nx Γ' c') :
    ∃ J : Nat → List Sl → Cells → Prop, J 0 Γ c1 ∧ (∀ i d Γ' c', (l.map enc)[i]? = some d → J i Γ' c' → SG F X Γ' c' tg d fun Γ2 => SS F X Γ2 c' body { Φ with nx := J (i + 1), ct := J (i + 1), bk := Φ.nx }) ∧ ∀ Γ' c', J (l.map enc).length Γ' c' → Φ.nx Γ' c' := by
  refine ⟨fun i => J (l.drop i), h0, fun i d Γ' c' hd hj => ?_, fun Γ' c' hj => done Γ' c' (by have hj : J (l.drop (l.map enc).length) Γ' c' := hj; rw [List.length_map, List.drop_length] at hj; exact hj)⟩
  rw [List.getElem?_map] at hd
  obtain ⟨r, hr, rfl⟩ := Option.map_eq_some_iff.mp hd
  have hl : i < l.length := (List.getElem?_eq_some_iff.mp hr).1
  have he : l.drop i = r :: l.drop (i + 1) := by
    rw [List.drop_eq_getElem_cons hl, (List.getElem?_eq_some_iff.mp hr).2]
  have hj : J (l.drop i) Γ' c' := hj
  rw [he] at hj
  exact turn (l.take i) r (l.drop (i + 1)) Γ' c' (by rw [← he, List.take_append_drop]) hj
end
def ixOf : List Str → Str → Nat
  | [], _ => 0
  | n :: N, x => if n == x then 0 else ixOf N x + 1
def ownOf (N : List Str) : Expr → List (Str × Nat)
  | .Name x _ => [(x, ixOf N x)]
  | .Tuple [.Name x _, .Name y _] _ _ => [(x, ixOf N x), (y, ixOf N y)]
  | _ => []
section
variable {F : Fm} {X : Cx} {Γ : List Sl} {c c1 : Cells} {P : Cells → Dt → Prop} {pos : Pos}
/-- what a map's turns give -/
def LcM (X : Cx) (Γ : List Sl) (scope : Scope) (vs : List Nat) (tg elt : Expr) (c1 : Cells) (ds : List Dt) (Q : List Dt → Prop) : Prop :=
  ∃ (α : Type) (enc : α → Dt) (l : List α) (g : α → Dt), ds = l.map enc ∧ l.length ≤ sizeLine ∧ (∀ r, r ∈ l → Turn0 X Γ scope vs tg elt (enc r) c1 fun c2 y => c2 = c1 ∧ y = g r) ∧ Q (l.map g)
def LcF (X : Cx) (Γ : List Sl) (scope : Scope) (vs : List Nat) (tg t elt : Expr) (c1 : Cells) (ds : List Dt) (Q : List Dt → Prop) : Prop :=
  ∃ (α : Type) (enc : α → Dt) (l : List α) (q : α → Bool) (g : α → Dt), ds = l.map enc ∧ l.length ≤ sizeLine ∧ (∀ r, r ∈ l → Turn1 X Γ scope vs tg t elt (enc r) c1 (fun c2 y => q r = true ∧ c2 = c1 ∧ y = g r) fun c2 => c2 = c1 ∧ q r = false) ∧ Q ((l.filter q).map g)
theorem lcM {α : Type} {enc : α → Dt} {l : List α} {scope : Scope} {vs : List Nat} {tg elt : Expr} {Q : List Dt → Prop} (g : α → Dt) (hz : l.length ≤ sizeLine) (turn : ∀ r, r ∈ l → Turn0 X Γ scope vs tg elt (enc r) c1 fun c2 y => c2 = c1 ∧ y = g r) (p : Q (l.map g)) : LcM X Γ scope vs tg elt c1 (l.map enc) Q :=
  ⟨α, enc, l, g, rfl, hz, turn, p⟩
theorem lcF {α : Type} {enc : α → Dt} {l : List α} {scope : Scope} {vs : List Nat} {tg t elt : Expr} {Q : List Dt → Prop} (q : α → Bool) (g : α → Dt) (hz : l.length ≤ sizeLine) (turn : ∀ r, r ∈ l → Turn1 X Γ scope vs tg t elt (enc r) c1 (fun c2 y => q r = true ∧ c2 = c1 ∧ y = g r) fun c2 => c2 = c1 ∧ q r = false) (p : Q ((l.filter q).map g)) : LcF X Γ scope vs tg t elt c1 (l.map enc) Q :=
  ⟨α, enc, l, q, g, rfl, hz, turn, p⟩
theorem sel_M {elt tg iter : Expr} {scope : Scope} {Pl : Cells → List Dt → Prop} (hc : X.calm = true) (hN : X.N.Nodup) (ok : BlkOk X.N X.env.scope scope (ownOf X.N tg))
    (h : SW F X Γ c tg iter fun c1 ds => LcM X Γ scope ((ownOf X.N tg).map (·.2)) tg elt c1 ds (Pl c1)) (hfs : ∀ x, foldedSetIterable iter X.env x = pure x := by intro _; rfl) : SEL F X Γ c (.ListComp elt [⟨tg, iter, [], 0⟩] scope pos) Pl :=
  sel_lc _ hc hN ok (.mk fun σ H R S k => h σ H R S fun J H' c' ds p S' => k J H' c' ds (by
    obtain ⟨α, enc, l, g, rfl, hz, turn, p⟩ := p
    exact map_t g hz turn p) S') hfs
theorem sel_F {elt tg iter t : Expr} {scope : Scope} {Pl : Cells → List Dt → Prop} (hc : X.calm = true) (hN : X.N.Nodup) (ok : BlkOk X.N X.env.scope scope (ownOf X.N tg))
    (h : SW F X Γ c tg iter fun c1 ds => LcF X Γ scope ((ownOf X.N tg).map (·.2)) tg t elt c1 ds (Pl c1)) (hfs : ∀ x, foldedSetIterable iter X.env x = pure x := by intro _; rfl) : SEL F X Γ c (.ListComp elt [⟨tg, iter, [t], 0⟩] scope pos) Pl :=
  sel_lcIf _ hc hN ok (.mk fun σ H R S k => h σ H R S fun J H' c' ds p S' => k J H' c' ds (by
    obtain ⟨α, enc, l, q, g, rfl, hz, turn, p⟩ := p
    exact filter_t q g hz turn p) S') hfs
theorem se_M {elt tg iter : Expr} {scope : Scope} (hc : X.calm = true) (hN : X.N.Nodup) (ok : BlkOk X.N X.env.scope scope (ownOf X.N tg))
    (h : SW F X Γ c tg iter fun c1 ds => LcM X Γ scope ((ownOf X.N tg).map (·.2)) tg elt c1 ds fun z => P c1 (.lst z)) (hfs : ∀ x, foldedSetIterable iter X.env x = pure x := by intro _; rfl) : SE F X Γ c (.ListComp elt [⟨tg, iter, [], 0⟩] scope pos) P := SEL.se (sel_M hc hN ok h hfs)
theorem se_F {elt tg iter t : Expr} {scope : Scope} (hc : X.calm = true) (hN : X.N.Nodup) (ok : BlkOk X.N X.env.scope scope (ownOf X.N tg))
    (h : SW F X Γ c tg iter fun c1 ds => LcF X Γ scope ((ownOf X.N tg).map (·.2)) tg t elt c1 ds fun z => P c1 (.lst z)) (hfs : ∀ x, foldedSetIterable iter X.env x = pure x := by intro _; rfl) : SE F X Γ c (.ListComp elt [⟨tg, iter, [t], 0⟩] scope pos) P := SEL.se (sel_F hc hN ok h hfs)
theorem se_any {p : Pos} {e : Expr} {es : List Expr} (hm : X.mg "any" = none) (h : SA F X Γ c (e :: es) fun c1 ds => ClV F X Γ c1 (.builtin "any") ds P) (hg : Gl X "any" := by rfl) (he : starEach (e :: es) X.env = (false, eval e X.env) :: starEach es X.env := by rfl) (hpl : (backTo pos (starEach es X.env)).any (·.1) = false := by rfl) : SE F X Γ c (.Call (.Name "any" p) (e :: es) [] pos) P := se_callB (id := "any") hm h (by decide +kernel) hg (by decide) (by decide) he hpl
theorem se_all {p : Pos} {e : Expr} {es : List Expr} (hm : X.mg "all" = none) (h : SA F X Γ c (e :: es) fun c1 ds => ClV F X Γ c1 (.builtin "all") ds P) (hg : Gl X "all" := by rfl) (he : starEach (e :: es) X.env = (false, eval e X.env) :: starEach es X.env := by rfl) (hpl : (backTo pos (starEach es X.env)).any (·.1) = false := by rfl) : SE F X Γ c (.Call (.Name "all" p) (e :: es) [] pos) P := se_callB (id := "all") hm h (by decide +kernel) hg (by decide) (by decide) he hpl
theorem se_len {p : Pos} {e : Expr} {es : List Expr} (hm : X.mg "len" = none) (h : SA F X Γ c (e :: es) fun c1 ds => ClV F X Γ c1 (.builtin "len") ds P) (hg : Gl X "len" := by rfl) (he : starEach (e :: es) X.env = (false, eval e X.env) :: starEach es X.env := by rfl) (hpl : (backTo pos (starEach es X.env)).any (·.1) = false := by rfl) : SE F X Γ c (.Call (.Name "len" p) (e :: es) [] pos) P := se_callB (id := "len") hm h (by decide +kernel) hg (by decide) (by decide) he hpl
theorem se_min {p : Pos} {e : Expr} {es : List Expr} (hm : X.mg "min" = none) (h : SA F X Γ c (e :: es) fun c1 ds => ClV F X Γ c1 (.builtin "min") ds P) (hg : Gl X "min" := by rfl) (he : starEach (e :: es) X.env = (false, eval e X.env) :: starEach es X.env := by rfl) (hpl : (backTo pos (starEach es X.env)).any (·.1) = false := by rfl) : SE F X Γ c (.Call (.Name "min" p) (e :: es) [] pos) P := se_callB (id := "min") hm h (by decide +kernel) hg (by decide) (by decide) he hpl
theorem se_max {p : Pos} {e : Expr} {es : List Expr} (hm : X.mg "max" = none) (h : SA F X Γ c (e :: es) fun c1 ds => ClV F X Γ c1 (.builtin "max") ds P) (hg : Gl X "max" := by rfl) (he : starEach (e :: es) X.env = (false, eval e X.env) :: starEach es X.env := by rfl) (hpl : (backTo pos (starEach es X.env)).any (·.1) = false := by rfl) : SE F X Γ c (.Call (.Name "max" p) (e :: es) [] pos) P := se_callB (id := "max") hm h (by decide +kernel) hg (by decide) (by decide) he hpl
theorem se_sorted {p : Pos} {e : Expr} {es : List Expr} (hm : X.mg "sorted" = none) (h : SA F X Γ c (e :: es) fun c1 ds => ClV F X Γ c1 (.builtin "sorted") ds P) (hg : Gl X "sorted" := by rfl) (he : starEach (e :: es) X.env = (false, eval e X.env) :: starEach es X.env := by rfl) (hpl : (backTo pos (starEach es X.env)).any (·.1) = false := by rfl) : SE F X Γ c (.Call (.Name "sorted" p) (e :: es) [] pos) P := se_callB (id := "sorted") hm h (by decide +kernel) hg (by decide) (by decide) he hpl
theorem se_isi {p : Pos} {e : Expr} {es : List Expr} (hm : X.mg "isinstance" = none) (h : SA F X Γ c (e :: es) fun c1 ds => ClV F X Γ c1 (.builtin "isinstance") ds P) (hg : Gl X "isinstance" := by rfl) (he : starEach (e :: es) X.env = (false, eval e X.env) :: starEach es X.env := by rfl) (hpl : (backTo pos (starEach es X.env)).any (·.1) = false := by rfl) : SE F X Γ c (.Call (.Name "isinstance" p) (e :: es) [] pos) P := se_callB (id := "isinstance") hm h (by decide +kernel) hg (by decide) (by decide) he hpl
theorem se_abs {p : Pos} {e : Expr} {es : List Expr} (hm : X.mg "abs" = none) (h : SA F X Γ c (e :: es) fun c1 ds => ClV F X Γ c1 (.builtin "abs") ds P) (hg : Gl X "abs" := by rfl) (he : starEach (e :: es) X.env = (false, eval e X.env) :: starEach es X.env := by rfl) (hpl : (backTo pos (starEach es X.env)).any (·.1) = false := by rfl) : SE F X Γ c (.Call (.Name "abs" p) (e :: es) [] pos) P := se_callB (id := "abs") hm h (by decide +kernel) hg (by decide) (by decide) he hpl
theorem se_sum {p : Pos} {e : Expr} {es : List Expr} (hm : X.mg "sum" = none) (h : SA F X Γ c (e :: es) fun c1 ds => ClV F X Γ c1 (.builtin "sum") ds P) (hg : Gl X "sum" := by rfl) (he : starEach (e :: es) X.env = (false, eval e X.env) :: starEach es X.env := by rfl) (hpl : (backTo pos (starEach es X.env)).any (·.1) = false := by rfl) : SE F X Γ c (.Call (.Name "sum" p) (e :: es) [] pos) P := se_callB (id := "sum") hm h (by decide +kernel) hg (by decide) (by decide) he hpl
theorem se_tupleC {p : Pos} {e : Expr} {es : List Expr} (hm : X.mg "tuple" = none) (h : SA F X Γ c (e :: es) fun c1 ds => ClV F X Γ c1 (.type "tuple") ds P) (hg : Gl X "tuple" := by rfl) (he : starEach (e :: es) X.env = (false, eval e X.env) :: starEach es X.env := by rfl) (hpl : (backTo pos (starEach es X.env)).any (·.1) = false := by rfl) : SE F X Γ c (.Call (.Name "tuple" p) (e :: es) [] pos) P := se_callT (id := "tuple") hm h (by decide +kernel) hg (by decide) (by decide) he hpl
theorem se_listC {p : Pos} {e : Expr} {es : List Expr} (hm : X.mg "list" = none) (h : SA F X Γ c (e :: es) fun c1 ds => ClV F X Γ c1 (.type "list") ds P) (hg : Gl X "list" := by rfl) (he : starEach (e :: es) X.env = (false, eval e X.env) :: starEach es X.env := by rfl) (hpl : (backTo pos (starEach es X.env)).any (·.1) = false := by rfl) : SE F X Γ c (.Call (.Name "list" p) (e :: es) [] pos) P := se_callT (id := "list") hm h (by decide +kernel) hg (by decide) (by decide) he hpl
end
section
variable {F : Fm} {X : Cx} {Γ : List Sl} {c c1 : Cells} {P : Cells → Dt → Prop} {pos : Pos} {vs : List Nat}
theorem sg_nm {x : Str} {d : Dt} {N : List Sl → Prop} (hN : X.N.Nodup) (p : N (Γ.set (ixOf X.N x) (.dat d))) (hi : X.N[ixOf X.N x]? = some x := by rfl) (hx : Loc X.env.scope x := by first | exact Or.inl rfl | exact Or.inr rfl)
    (hf : X.fn x = true ∨ X.env.scope.names.lookup x = some .local := by first | exact .inl rfl | exact .inr rfl) : SG F X Γ c (.Name x pos) d N := sg_name _ hN p hi hx hf
theorem sgb_nm {x : Str} {d : Dt} {N : List Sl → Prop} (hN : X.N.Nodup) (p : N (Γ.set (ixOf X.N x) (.dat d))) (hv : ixOf X.N x ∈ vs := by decide) (hi : X.N[ixOf X.N x]? = some x := by rfl) (hx : Loc X.env.scope x := by first | exact Or.inl rfl | exact Or.inr rfl)
    (hf : X.fn x = true ∨ X.env.scope.names.lookup x = some .local := by first | exact .inl rfl | exact .inr rfl) : SGb F X Γ c vs (.Name x pos) d N := sgb_name _ hN p hv hi hx hf
theorem vs_self {n : Nat} : n ∈ [n] := List.mem_singleton.mpr rfl
theorem vs_one {n m : Nat} : n ∈ [n, m] := List.mem_cons_self ..
theorem vs_two {n m : Nat} : m ∈ [n, m] := List.mem_cons_of_mem _ (List.mem_singleton.mpr rfl)
end
theorem abI {X : Cx} {scope : Scope} {φ : Cx → Prop} (h : ∀ (s0 : Shared) (H0 : Hp) (C : Addr) (cl : List (Str × Addr)) (fp : List Addr), φ (blk X scope s0 H0 C cl fp)) : AB X scope φ := h
theorem turn0I {X : Cx} {Γ : List Sl} {scope : Scope} {vs : List Nat} {tg elt : Expr} {d : Dt} {c' : Cells} {N : Cells → Dt → Prop} (h : ∀ (F' : Fm) (s0 : Shared) (H0 : Hp) (C : Addr) (cl : List (Str × Addr)) (fp : List Addr), SGb F' (blk X scope s0 H0 C cl fp) (wipeG Γ vs) c' vs tg d fun Γ2 => AB X scope fun Y => SE F' Y Γ2 c' elt N) : Turn0 X Γ scope vs tg elt d c' N := h
theorem turn1I {X : Cx} {Γ : List Sl} {scope : Scope} {vs : List Nat} {tg t elt : Expr} {d : Dt} {c' : Cells} {N : Cells → Dt → Prop} {N0 : Cells → Prop} (h : ∀ (F' : Fm) (s0 : Shared) (H0 : Hp) (C : Addr) (cl : List (Str × Addr)) (fp : List Addr), SGb F' (blk X scope s0 H0 C cl fp) (wipeG Γ vs) c' vs tg d fun Γ2 => AB X scope fun Y => ST F' Y Γ2 c' t fun c2 b => if b = true then AB X scope fun Y => SE F' Y Γ2 c2 elt N else N0 c2) : Turn1 X Γ scope vs tg t elt d c' N N0 := h
end D
end
section
set_option Elab.async false
set_option linter.all false
set_option maxRecDepth 100000
namespace D
open PySem L2 PyProof.Rows PyProof
theorem noI_tup : typeLookup (.type "tuple") (dunderI "add") = pure none := by rfl
section
variable {prog : Program} {w : World} {A : Around} {s : Shared} {E : Value → Shared → Prop}
theorem icat_tup {t b : Addr} {vs ws : List Value} {Q : Value → Shared → Prop} (ht : IsTup s.heap t vs.toArray) (hb : IsTup s.heap b ws.toArray)
    (h0 : vs = [] → Q (.ref b) s) (h1 : vs ≠ [] → ws = [] → Q (.ref t) s) (h2 : vs ≠ [] → ws ≠ [] → Q (.ref s.heap.objs.size) { s with heap := s.heap.push { cls := .type "tuple", data := .seq (vs ++ ws).toArray } })
    (hsz : vs.length + ws.length ≤ sizeLine) : wpAny (model prog w) A (inplaceOp .Add (.ref t) (.ref b)) Q E s := by
  obtain ⟨⟨cls, dd, data, sl⟩, ho, hc, n, hd⟩ := id ht
  obtain ⟨⟨cls2, dd2, data2, sl2⟩, ho2, hc2, n2, hd2⟩ := id hb
  simp only at hc hd hc2 hd2
  subst hc hd hc2 hd2
  have e : vs.toArray ++ ws.toArray = (vs ++ ws).toArray := by simp
  refine wpAny_inplaceOp_concat ⟨_, ho, rfl⟩ ⟨_, ho2, rfl⟩ noI_tup noFill_tuple_add seq_tuple_add ?_
  by_cases hv : vs = []
  · exact call_meets PySem.F.slot_tuple_add ⟨_, ho, rfl⟩ PySem.F.entry_tuple_add (PySem.F.args_tuple_add_2 _ _) (tuple_addW0 t b vs.toArray ws.toArray n n2 dd dd2 sl sl2 (by simp [hv])) ⟨ho, ho2, h0 hv⟩
  by_cases hw : ws = []
  · exact call_meets PySem.F.slot_tuple_add ⟨_, ho, rfl⟩ PySem.F.entry_tuple_add (PySem.F.args_tuple_add_2 _ _) (tuple_addW1 t b vs.toArray ws.toArray n n2 dd dd2 sl sl2 (by simpa using hv) (by simp [hw])) ⟨ho, ho2, h1 hv hw⟩
  · refine call_meets PySem.F.slot_tuple_add ⟨_, ho, rfl⟩ PySem.F.entry_tuple_add (PySem.F.args_tuple_add_2 _ _) (tuple_addW2 t b vs.toArray ws.toArray n n2 dd dd2 sl sl2 (by simpa using hv) (by simpa using hw) (by rw [List.size_toArray, List.size_toArray]; exact hsz)) ⟨ho, ho2, ?_⟩
    rw [e]
    exact h2 hv hw
end
section
variable {X : Cx}
theorem iop_catA : OpR X (inplaceOp .Add) (rCatF X.K) := by
  intro pins s σ H x y v u Q I rx ry h
  obtain ⟨a, b, xs, ys, rfl, rfl, ha, hb, hz, q0, q1, q2⟩ := h
  cases rx
  cases ry
  obtain ⟨its, r1, p1, _⟩ := I.tuple ha
  obtain ⟨its2, r2, p2, _⟩ := I.tuple hb
  refine icat_tup p1 p2 (fun z => ⟨.ref b, H, I, rfl, q0 (r1.nil_iff.mp z)⟩) (fun z z2 => ⟨.ref a, H, I, rfl, q1 (fun w => z (r1.nil_iff.mpr w)) (r2.nil_iff.mp z2)⟩) (fun z1 z => ?_) (by rw [← r1.length, ← r2.length]; exact hz)
  obtain ⟨o, ho, I2⟩ := laidF (t' := s.toks) (h' := s.heap) (xs := xs ++ ys) (us := its ++ its2) I (fun b u e => Heap.get?_push_of_some _ e) (Nat.le_refl _) (by rw [List.length_append]; exact hz) (r1.append r2)
  exact ⟨.ref s.heap.objs.size, _, I2, rfl, q2 (fun w => z1 (r1.nil_iff.mpr w)) (fun w => z (r2.nil_iff.mpr w)) _ o (I.hok.fresh (Nat.le_refl _)) ho⟩
end
section
variable {X : Cx} {tg : Expr}
def iSeq (K : PySem.W.Frag) (tl : TE) : TI := fun σ H R => tl σ H fun x H1 => (∃ a, x = .ref a ∧ (((∃ xs, SqL K H1 a xs) ∧ R (Itl K a) H1) ∨ ((∃ xs, SqT K H1 a xs) ∧ R (Itt K a) H1) ∨ ∃ o kvs, H1 a = some (.frz o (.dK kvs)) ∧ R (Itk a o kvs) H1)) ∨ ∃ z, x = .str z ∧ R (Its z) H1
theorem pi_seq {l : Expr} {tl : TE} (hl : PE X l tl) : PI X tg l (iSeq X.K tl) := ⟨fun pn sa sg HH RR I h => by
  refine thn (hl.run pn sa sg HH _ I h) fun v sb ⟨x, Hb, Ib, rb, qb⟩ => ?_
  rcases qb with ⟨a, e, z⟩ | ⟨z, e, q⟩
  · subst e
    cases rb
    have fpk : ∀ b, b ∈ [sb.heap.objs.size] → _ := fun b hb => by
      obtain rfl : b = sb.heap.objs.size := List.mem_singleton.mp hb
      exact Ib.fpOk (Nat.le_refl _) (Ib.hok.fresh (Nat.le_refl _))
    rcases z with ⟨⟨xs, hq⟩, q⟩ | ⟨⟨xs, hq⟩, q⟩ | ⟨o, kvs, hd, q⟩
    · obtain ⟨its, rv, p, hz⟩ := Ib.list hq
      exact wpAny_pyIter_list p.isList ⟨sb.heap.objs.size, [sb.heap.objs.size], _, _, Hb, rfl, Ib.kept (t' := sb.toks) fun b o e => Heap.get?_push_of_some _ e, turn_list a _, ⟨_, Heap.get?_push_size _ rfl, rfl, rfl⟩, fpk, q⟩
    · obtain ⟨its, rv, p, hz⟩ := Ib.tuple hq
      exact wpAny_pyIter_tuple (show sb.heap.IsTuple a its.toArray from p) ⟨sb.heap.objs.size, [sb.heap.objs.size], _, _, Hb, rfl, Ib.kept (t' := sb.toks) fun b o e => Heap.get?_push_of_some _ e, turn_tuple a _, ⟨_, Heap.get?_push_size _ rfl, rfl, rfl⟩, fpk, q⟩
    · obtain ⟨g1, g2, g3, es, ep, us, g4, g5, kv, hm⟩ := Ib.frzK hd
      exact iter_keys g1 g2 g3 g4 (pi_one (tk := sb.toks) Ib _ (turn_keys _ g4) ⟨_, Heap.get?_push_size _ rfl, rfl, by rw [g5] <;> rfl⟩ q)
  · subst e
    obtain ⟨t, rfl⟩ := rb
    cases ha : z.cps.all (· < 128)
    · exact wpAny_pyIter_wide ha (pi_one (tk := sb.toks) Ib _ (turn_str _ z t "str_iterator" (.inr rfl)) ⟨_, Heap.get?_push_size _ rfl, rfl, rfl⟩ q)
    · exact wpAny_pyIter_ascii ha (pi_one (tk := sb.toks) Ib _ (turn_str _ z t "str_ascii_iterator" (.inl rfl)) ⟨_, Heap.get?_push_size _ rfl, rfl, rfl⟩ q)⟩
end
/-- what a walk over a datum gives -/
def iterD : Dt → Option (List Dt)
  | .lst l => some l
  | .tup l => some l
  | .dct l => some (keysD l)
  | .str z => some (signs z)
  | _ => none
section
variable {F : Fm} {X : Cx} {Γ : List Sl} {c : Cells} {P : Cells → Dt → Prop} {Φ : PEnds} {pos : Pos}
theorem oi_add {i j : Int} (p : P c (.int (i + j))) : OpV F X Γ c (inplaceOp .Add) (.int i) (.int j) P := OpV.ints0 iop_add (fun _ => .int _) p
theorem oi_sub {i j : Int} (p : P c (.int (i - j))) : OpV F X Γ c (inplaceOp .Sub) (.int i) (.int j) P := OpV.ints0 iop_sub (fun _ => .int _) p
theorem oi_catT {l m : List Dt} (hz : l.length + m.length ≤ sizeLine) (p : P c (.tup (l ++ m))) : OpV F X Γ c (inplaceOp .Add) (.tup l) (.tup m) P :=
  OpV.of iop_catA fun σ H x y Q S h1 h2 k => by
    cases h1 with
    | tup a1 t1 => cases h2 with
      | tup a2 t2 =>
        refine ⟨_, _, _, _, rfl, rfl, (a1.mono (mask_ex _ _)).t, (a2.mono (mask_ex _ _)).t, by rw [t1.length, t2.length]; exact hz, fun e => ?_, fun e1 e2 => ?_, fun e1 e2 q o hq ho => k _ _ c _ p (S.new hq) (Kp.new (F := F) hq).hid (S.newT hq ho (t1.append t2))⟩
        · subst e
          cases t1
          exact k _ H c _ p S (Ex.refl _) (.tup a2 t2)
        · subst e2
          cases t2
          rw [List.append_nil] at p
          exact k _ H c _ p S (Ex.refl _) (.tup a1 t1)
theorem s_aug {x : Str} {e : Expr} {op : Operator} {pos' : Pos} {d0 : Dt} (hN : X.N.Nodup) (hs : getG X.N Γ x = some (.dat d0)) (h : SE F X Γ c e fun c1 d => OpV F X Γ c1 (inplaceOp op) d0 d fun c2 z => Φ.nx (Γ.set (ixOf X.N x) (.dat z)) c2)
    (hi : X.N[ixOf X.N x]? = some x := by rfl) (hg : Γ[ixOf X.N x]? = some (.dat d0) := by rfl) (hx : Loc X.env.scope x := by first | exact Or.inl rfl | exact Or.inr rfl) (hf : X.fn x = true ∨ X.env.scope.names.lookup x = some .local := by first | exact .inl rfl | exact .inr rfl) : S1 F X Γ c (.AugAssign (.Name x pos') op e pos) Φ :=
  S1.of (ps_aug (i := ixOf X.N x) (ti := rOp X (inplaceOp op)) hN hi hx pE opR hf) fun σ H D S E => by
    obtain ⟨v, h1, h2⟩ := S.sl _ _ hg
    refine ⟨v, h1, h σ H _ S fun w H1 c1 d q S1 e1 dv => ?_⟩
    obtain ⟨x, y, e2, r⟩ := q σ H1 [v, w] (fun z H2 => D.nx (σ.set (ixOf X.N x) (some z)) H2) S1 (.cons (h2.mono e1) (.cons dv .nil)) fun z H2 c2 d2 p S2 k2 dv2 => E.nx _ c2 _ H2 p (S2.setD dv2) (e1.trans k2)
    cases e2
    exact r
/-- x = e, by the name -/
theorem s_st {x : Str} {px : Pos} {e : Expr} (hN : X.N.Nodup) (h : SE F X Γ c e fun c1 d => Φ.nx (Γ.set (ixOf X.N x) (.dat d)) c1) (hi : X.N[ixOf X.N x]? = some x := by rfl) (hx : Loc X.env.scope x := by first | exact Or.inl rfl | exact Or.inr rfl)
    (hf : X.fn x = true ∨ X.env.scope.names.lookup x = some .local := by first | exact .inl rfl | exact .inr rfl) (hs : swapsWithSole [.Name x px] e pos.line X.env = pure false := by rfl) (hw : swappedStores [.Name x px] e X.env = pure none := by rfl) : S1 F X Γ c (.Assign [.Name x px] e pos) Φ :=
  s_asg (SE.mono h fun c1 d p => sg_name _ hN p hi hx hf) hs hw
theorem s_M {x : Str} {px lpos : Pos} {elt tg iter : Expr} {scope : Scope} (hc : X.calm = true) (hN : X.N.Nodup) (ok : BlkOk X.N X.env.scope scope (ownOf X.N tg))
    (h : SW F X Γ c tg iter fun c1 ds => LcM X Γ scope ((ownOf X.N tg).map (·.2)) tg elt c1 ds fun z => Φ.nx (Γ.set (ixOf X.N x) (.dat (.lst z))) c1)
    (hsw : swapsWith (.ListComp elt [⟨tg, iter, [], 0⟩] scope lpos) (some (.Name x px)) pos.line X.env = pure true := by exact sw_true rfl rfl rfl (by decide +kernel)) (hy : X.N[ixOf X.N x]? = some x := by rfl) (hyl : X.env.scope.names.lookup x = some .local := by rfl) (hfs : ∀ x, foldedSetIterable iter X.env x = pure x := by intro _; rfl) : S1 F X Γ c (.Assign [.Name x px] (.ListComp elt [⟨tg, iter, [], 0⟩] scope lpos) pos) Φ :=
  s_setT _ (ps_lc _ _ hc hN ok hsw hy hyl hfs) (lct_lc (.mk fun σ H R S k => h σ H R S fun J H' c' ds p S' => k J H' c' ds (by
    obtain ⟨α, enc, l, g, rfl, hz, turn, p⟩ := p
    exact map_t (Pl := fun c1 z => Φ.nx (Γ.set (ixOf X.N x) (.dat (.lst z))) c1) g hz turn p) S'))
theorem s_F {x : Str} {px lpos : Pos} {elt tg iter t : Expr} {scope : Scope} (hc : X.calm = true) (hN : X.N.Nodup) (ok : BlkOk X.N X.env.scope scope (ownOf X.N tg))
    (h : SW F X Γ c tg iter fun c1 ds => LcF X Γ scope ((ownOf X.N tg).map (·.2)) tg t elt c1 ds fun z => Φ.nx (Γ.set (ixOf X.N x) (.dat (.lst z))) c1)
    (hsw : swapsWith (.ListComp elt [⟨tg, iter, [t], 0⟩] scope lpos) (some (.Name x px)) pos.line X.env = pure true := by exact sw_true rfl rfl rfl (by decide +kernel)) (hy : X.N[ixOf X.N x]? = some x := by rfl) (hyl : X.env.scope.names.lookup x = some .local := by rfl) (hfs : ∀ x, foldedSetIterable iter X.env x = pure x := by intro _; rfl) : S1 F X Γ c (.Assign [.Name x px] (.ListComp elt [⟨tg, iter, [t], 0⟩] scope lpos) pos) Φ :=
  s_setT _ (ps_lcIf _ _ hc hN ok hsw hy hyl hfs) (lct_lcIf (.mk fun σ H R S k => h σ H R S fun J H' c' ds p S' => k J H' c' ds (by
    obtain ⟨α, enc, l, q, g, rfl, hz, turn, p⟩ := p
    exact filter_t (Pl := fun c1 z => Φ.nx (Γ.set (ixOf X.N x) (.dat (.lst z))) c1) q g hz turn p) S'))
theorem sw_seq {tg e : Expr} {P : Cells → List Dt → Prop} (h : SE F X Γ c e fun c1 d => ∃ l, iterD d = some l ∧ P c1 l) : SW F X Γ c tg e P := .mk fun σ H R S k => by
  refine ⟨_, pi_seq pE, h σ H _ S fun v H1 c1 d p S1 k1 dv => ?_⟩
  obtain ⟨l, e, p⟩ := p
  cases dv with
  | lst a t => cases e; exact .inl ⟨_, rfl, .inl ⟨⟨_, .inl (.inl (of_mask a).2)⟩, k _ H1 c1 l p S1 k1 (src_at walk_list (fun H e => .inl (.inl (e _ _ a))) t)⟩⟩
  | tup a t => cases e; exact .inl ⟨_, rfl, .inr (.inl ⟨⟨_, (a.mono (mask_ex _ _)).t⟩, k _ H1 c1 l p S1 k1 (src_at walk_tup (fun H e => (a.mono e).t) t)⟩)⟩
  | dct a t =>
    cases e
    refine .inl ⟨_, rfl, .inr (.inr ⟨_, _, (of_mask a).2, k _ H1 c1 _ p S1 k1 ?_⟩)⟩
    have hl : (keysD _).length = _ := (List.length_map _).trans t.p.length.symm
    refine ⟨_, _, hl.symm ▸ walk_keys, fun H e => e _ _ a, fun i Ha x Hb hi y _ => ?_⟩
    obtain ⟨h1, key, v, h2, rfl⟩ := y
    obtain ⟨d, h3, _⟩ := t.p.get h2
    refine ⟨kD key, ?_, .inl ⟨h1, kD_dv key⟩⟩
    rw [keysD_eq, List.getElem?_map, h3]
    rfl
  | str z => cases e; exact .inr ⟨_, rfl, k _ H1 c1 _ p S1 k1 src_str⟩
  | _ => cases e
theorem ov_eqB {a b : Bool} (p : P c (.bl (decide (a = b)))) : OpV F X Γ c (compareOp .Eq) (.bl a) (.bl b) P := ov_eqF (v1 := .bl a) (v2 := .bl b) (fun _ _ h => dv_bl h) (fun _ _ h => dv_bl h) rfl (by
  rw [show decide (V.bl a = V.bl b) = decide (a = b) by cases a <;> cases b <;> rfl]; exact p)
theorem ov_neB {a b : Bool} (p : P c (.bl (!decide (a = b)))) : OpV F X Γ c (compareOp .NotEq) (.bl a) (.bl b) P := ov_neF (v1 := .bl a) (v2 := .bl b) (fun _ _ h => dv_bl h) (fun _ _ h => dv_bl h) rfl (by
  rw [show decide (V.bl a = V.bl b) = decide (a = b) by cases a <;> cases b <;> rfl]; exact p)
end
end D
end
section
set_option Elab.async false
set_option linter.all false
set_option maxRecDepth 100000
namespace D
open PySem L2 PyProof.Rows
section
variable {F : Fm} {X : Cx} {Γ : List Sl} {c : Cells} {P : Cells → Dt → Prop} {Φ : PEnds} {pos : Pos}
theorem SE.nd {e : Expr} (h : (addrs c).Nodup → SE F X Γ c e P) : SE F X Γ c e P := .mk fun σ H Q S k => h S.nd σ H Q S k
theorem SE.ndP {e : Expr} (h : SE F X Γ c e fun c1 d => (addrs c1).Nodup → P c1 d) : SE F X Γ c e P := .mk fun σ H Q S k => h σ H Q S fun v H' c' d p S' => k v H' c' d (p S'.nd) S'
theorem SS.nd {ss : List Stmt} (h : (addrs c).Nodup → SS F X Γ c ss Φ) : SS F X Γ c ss Φ := .mk fun σ H D S E => h S.nd σ H D S E
theorem dvk_repl {K : PySem.W.Frag} {V : Hp} {key : Key} {a : Addr} {d : Dt} {M2 : List (Key × Dt)} (dv : DV K V (.ref a) d) : ∀ {L1 : List (Key × Dt)} {xs : List (Key × L2.V)}, DVk K V xs (L1 ++ (key, .raw (.ref a)) :: M2) → DVk K V xs (L1 ++ (key, d) :: M2)
  | [], _, .cons (.raw _) t => .cons dv t
  | _ :: L1, _, .cons h t => .cons h (dvk_repl dv (L1 := L1) t)
theorem ss_frIn {A a : Addr} {key : Key} {T1 T2 l : List (Key × Dt)} {rest : Cells} {ss : List Stmt} (h : SS F X Γ ((A, .dk (T1 ++ (key, .dct l) :: T2)) :: rest) ss Φ) : SS F X Γ ((A, .dk (T1 ++ (key, .raw (.ref a)) :: T2)) :: (a, .dk l) :: rest) ss Φ := .mk fun σ H D S E => by
  obtain ⟨xs, h1, h2⟩ := S.frD (j := 1) rfl
  refine tSts_lock h1 True.intro fun od => ?_
  obtain ⟨S2, e2, dv⟩ := h2 od
  have S2 : SI X.K F Γ ((A, .dk (T1 ++ (key, .raw (.ref a)) :: T2)) :: rest) σ (upd H a (.frz od (.dK xs))) := S2
  have e2 : Ex (Vw F ((A, .dk (T1 ++ (key, .raw (.ref a)) :: T2)) :: (a, .dk l) :: rest) H) (Vw F ((A, .dk (T1 ++ (key, .raw (.ref a)) :: T2)) :: rest) (upd H a (.frz od (.dK xs)))) := e2
  have dv : DV X.K (Vw F ((A, .dk (T1 ++ (key, .raw (.ref a)) :: T2)) :: rest) (upd H a (.frz od (.dK xs)))) (.ref a) (.dct l) := dv
  obtain ⟨ys, g1, g2⟩ := S2.cat (j := 0) rfl
  obtain ⟨S3, e3⟩ := S2.chg (j := 0) (q' := .dk (T1 ++ (key, .dct l) :: T2)) (H' := upd H a (.frz od (.dK xs))) rfl rfl (fun _ _ => rfl) ⟨ys, g1, dvk_repl dv g2⟩
  exact h σ _ D S3 (E.ext (e2.trans e3))
theorem ss_frAll {τ : Type} {A : Addr} (key : τ → Key) (ad : τ → Addr) (inn : τ → List (Key × Dt)) {rest : Cells} {ss : List Stmt} : ∀ (T : List τ) (T1 : List (Key × Dt)), SS F X Γ ((A, .dk (T1 ++ T.map fun t => (key t, .dct (inn t)))) :: rest) ss Φ →
    SS F X Γ ((A, .dk (T1 ++ T.map fun t => (key t, .raw (.ref (ad t))))) :: (T.map (fun t => (ad t, Cel.dk (inn t))) ++ rest)) ss Φ
  | [], T1, h => h
  | t :: T, T1, h => by
    refine ss_frIn ?_
    have e1 : T1 ++ (key t, Dt.dct (inn t)) :: T.map (fun t => (key t, .raw (.ref (ad t)))) = (T1 ++ [(key t, .dct (inn t))]) ++ T.map (fun t => (key t, .raw (.ref (ad t)))) := by simp
    rw [e1]
    refine ss_frAll key ad inn T _ ?_
    rw [List.append_assoc]
    exact h
theorem take_out {τ : Type} {α : Type} (f : τ → Addr × α) : ∀ {T : List τ} {c : List (Addr × α)}, (∀ t ∈ T, f t ∈ c) → (T.map fun t => (f t).1).Nodup → ∃ rest, c.Perm (T.map f ++ rest)
  | [], c, _, _ => ⟨c, .refl _⟩
  | t :: T, c, h, nd => by
    obtain ⟨s1, s2, rfl⟩ := List.append_of_mem (h t (List.mem_cons_self ..))
    have nd' := List.nodup_cons.mp nd
    obtain ⟨rest, hr⟩ := take_out f (T := T) (c := s1 ++ s2) (fun u hu => by
      have := h u (List.mem_cons_of_mem _ hu)
      have ne : f u ≠ f t := fun e => nd'.1 (by
        show (f t).1 ∈ _
        rw [← e]
        exact List.mem_map.mpr ⟨u, hu, rfl⟩)
      rcases List.mem_append.mp this with z | z
      · exact List.mem_append_left _ z
      · rcases List.mem_cons.mp z with z | z
        · exact absurd z ne
        · exact List.mem_append_right _ z) nd'.2
    exact ⟨rest, List.perm_middle.trans (.cons _ hr)⟩
theorem ss_clear {ss : List Stmt} : ∀ {c : Cells}, SS F X Γ [] ss Φ → SS F X Γ c ss Φ
  | [], h => h
  | p :: c, h => ss_dropC 0 rfl (ss_clear (c := c) h)
/-- the dict of dicts that the slot i holds is a datum from now on, and no other cell is kept -/
theorem ss_frzDD {τ : Type} {A : Addr} (key : τ → Key) (ad : τ → Addr) (inn : τ → List (Key × Dt)) (T : List τ) (i : Nat) {ss : List Stmt} (hi : Γ[i]? = some (.dat (.raw (.ref A)))) (hA : (A, Cel.dk (T.map fun t => (key t, .raw (.ref (ad t))))) ∈ c) (hT : ∀ t ∈ T, (ad t, Cel.dk (inn t)) ∈ c)
    (nd : (A :: T.map ad).Nodup) (h : SS F X (Γ.set i (.dat (.dct (T.map fun t => (key t, .dct (inn t)))))) [] ss Φ) : SS F X Γ c ss Φ := by
  obtain ⟨rest, hr⟩ := take_out (fun t : Option τ => match t with
    | none => (A, Cel.dk (T.map fun t => (key t, .raw (.ref (ad t)))))
    | some t => (ad t, Cel.dk (inn t))) (T := none :: T.map some) (c := c) (fun t ht => by
      rcases List.mem_cons.mp ht with e | ht
      · subst e; exact hA
      · obtain ⟨u, hu, rfl⟩ := List.mem_map.mp ht
        exact hT u hu) (by
      rw [List.map_cons, List.map_map]
      exact nd)
  rw [List.map_cons, List.map_map] at hr
  refine ss_perm hr ?_
  refine ss_frAll key ad inn T [] (rest := rest) ?_
  exact ss_freezeD i 0 hi rfl (ss_clear h)
theorem enumD_map {α : Type} (f : α → Dt) (l : List α) : enumD (l.map f) = l.zipIdx.map fun p => Dt.par [.int (p.2 : Nat), f p.1] := by
  unfold enumD
  refine List.ext_getElem? fun i => ?_
  rw [List.getElem?_map, List.getElem?_map, List.getElem?_zipIdx, List.length_map]
  by_cases h : i < l.length
  · rw [List.getElem?_range h, List.getElem?_eq_getElem h]
    simp [List.getD, h]
  · rw [List.getElem?_eq_none (by simpa using h), List.getElem?_eq_none (by simpa using h)]
    rfl
end
end D
namespace D
open PySem L2 PyProof.Rows
section
variable {F : Fm} {X : Cx} {Γ : List Sl} {c : Cells} {Φ : PEnds} {pos : Pos}
abbrev own2 (N : List Str) (ta tb : Expr) : List (Str × Nat) := ownOf N ta ++ ownOf N tb
theorem s_Dc2 {y : Str} {py spos ps : Pos} {kx vx ta ia tb ib : Expr} {sc : Scope} (hc : X.calm = true) (hN : X.N.Nodup) (ok : BlkOk X.N X.env.scope sc (own2 X.N ta tb))
    (h : SW F X Γ c ta ia fun c1 ds => ∃ Jv : Nat → Cells → List (Key × Dt) → Prop, Jv 0 c1 [] ∧
      (∀ i d c' acc, ds[i]? = some d → Jv i c' acc → ∀ F' : Fm, AB X sc fun Y => SGb F' Y (wipeG Γ ((own2 X.N ta tb).map (·.2))) c' ((own2 X.N ta tb).map (·.2)) ta d fun Γ2 => AB X sc fun Y => SW F' Y Γ2 c' tb ib fun c2 es => acc.length + es.length ≤ sizeLine ∧ ∃ Ji : Nat → Cells → List (Key × Dt) → Prop, Ji 0 c2 acc ∧
        (∀ j e c3 acc', es[j]? = some e → Ji j c3 acc' → ∀ F' : Fm, AB X sc fun Y => SGb F' Y (wipeG Γ2 ((ownOf X.N tb).map (·.2))) c3 ((ownOf X.N tb).map (·.2)) tb e fun Γ3 => AB X sc fun Y => SE F' Y Γ3 c3 kx fun c4 dk => ∃ k, dkey dk = some k ∧ AB X sc fun Y => SE F' Y Γ3 c4 vx fun c5 dv => Ji (j + 1) c5 (dput acc' k dv)) ∧
        ∀ c3 acc', Ji es.length c3 acc' → Jv (i + 1) c3 acc') ∧ ∀ c' acc, Jv ds.length c' acc → ∀ a, Φ.nx (Γ.set (ixOf X.N y) (.dat (.raw (.ref a)))) (c' ++ [(a, .dk acc)]))
    (hsw : swapsWith (.DictComp kx vx [⟨ta, ia, [], 0⟩, ⟨tb, ib, [], 0⟩] sc ps) (some (.Name y py)) spos.line X.env = pure true := by exact swD_true rfl rfl rfl (by decide +kernel))
    (hy : X.N[ixOf X.N y]? = some y := by rfl) (hyl : X.env.scope.names.lookup y = some .local := by rfl) (hs : ∀ z, foldedSetIterable ia X.env z = pure z := by intro _; rfl) (hs1 : ∀ env z, foldedSetIterable ib env z = pure z := by intro _ _; rfl) :
    S1 F X Γ c (.Assign [.Name y py] (.DictComp kx vx [⟨ta, ia, [], 0⟩, ⟨tb, ib, [], 0⟩] sc ps) spos) Φ :=
  s_setDT _ (ps_setDc2 (own := own2 X.N ta tb) (vs1 := (ownOf X.N tb).map (·.2)) (wi := wI X ta ia) (wi1 := wIb X sc tb ib) (g := tGb X sc ta) (g1 := tGb X sc tb) (tk := tEb X sc kx) (tv := tEb X sc vx) hc hN hy hyl hsw pI ok (fun i hi => by
    rw [List.map_append]; exact List.mem_append_right _ hi) (fun s0 H0 C cl fp => pGb s0 H0 C cl fp) (fun s0 H0 C cl fp => pEb s0 H0 C cl fp) (fun s0 H0 C cl fp => pEb s0 H0 C cl fp) (fun s0 H0 C cl fp => pIb s0 H0 C cl fp) (fun s0 H0 C cl fp => pGb s0 H0 C cl fp) hs hs1)
    (sdt_dc2 h)
end
end D
end
section
set_option Elab.async false
set_option linter.all false
set_option maxRecDepth 100000
namespace D
open PySem L2 PyProof.Rows PyProof
section
variable {X : Cx}
def rUpd : V → List V → Hp → VK → Prop := fun x vs H Q => ∃ a b kvs more, x = .ref a ∧ vs = [.ref b] ∧ a ≠ b ∧ H a = some (.dK kvs) ∧ H b = some (.dK more) ∧ kvs.length + more.length ≤ sizeLine ∧ Q .non (upd H a (.dK (mergeK kvs more)))
theorem mt_update : MtR X "dict.update" rUpd := fun pins s σ H x vs v us Q I rx rv ⟨a, b, kvs, more, ex, ev, ne, ea, eb, hl, q⟩ => by
  subst ex ev
  obtain rfl : v = Value.ref a := rx
  cases rv with
  | cons ry rv =>
    cases rv
    cases ry
    obtain ⟨z, hd, vs0, rel, dd⟩ := dk_of I.hok ea
    obtain ⟨z2, hd2, vs2, rel2, dd2⟩ := dk_of I.hok eb
    refine call_meetsIn PySem.F.slot_dict_update dd.typeIs PySem.F.entry_dict_update (PySem.F.args_dict_update_2 _ _) (meets_dict_update (mixKind X.prog X.w) a b ne hd2) ⟨vs0, vs2, dd, dd2, by rw [← rel.length, ← rel2.length]; exact hl, fun h' dd' _ hs => ?_⟩
    have hl2 : (mergeK kvs more).length ≤ sizeLine := Nat.le_trans (length_mergeK more kvs) hl
    exact (⟨.non, _, d_write (t' := s.toks) I (by rw [ea]; exact True.intro) hs (let ⟨q, _, _, hq, _⟩ := dd'; ⟨q, hq⟩) (dk_new hl2 hd (KV.merge rel2 rel) dd'), rfl, q⟩ : EP X pins σ Q _ _)
end
theorem DVk.merge {K : PySem.W.Frag} {H : Hp} : ∀ {ys : List (Key × V)} {m : List (Key × Dt)} {xs : List (Key × V)} {l : List (Key × Dt)}, DVk K H xs l → DVk K H ys m → DVk K H (mergeK xs ys) (m.foldl (fun acc kv => dput acc kv.1 kv.2) l)
  | _, _, _, _, t, .nil => t
  | _, _, _, _, t, .cons (k := k) h u => by
    have := DVk.merge ((t.p.put k h).k) u
    exact this
section
variable {F : Fm} {X : Cx} {Γ : List Sl} {c : Cells} {P : Cells → Dt → Prop} {Φ : PEnds} {pos : Pos}
/-- d.update({..}): the argument is a new dict, and is forgotten -/
theorem se_update {o e : Expr} {apos : Pos} (h : SE F X Γ c o fun c1 d0 => ∃ a j l0, d0 = .raw (.ref a) ∧ c1[j]? = some (a, .dk l0) ∧ SE F X Γ c1 e fun c2 d2 => ∃ b c3 l m, d2 = .raw (.ref b) ∧ c2 = c3 ++ [(b, .dk m)] ∧ c3[j]? = some (a, .dk l) ∧ l.length + m.length ≤ sizeLine ∧
      P (c3.set j (a, .dk (m.foldl (fun acc kv => dput acc kv.1 kv.2) l))) .non)
    (hbase : attributeBase o "update" X.env (eval o X.env) = eval o X.env := by rfl)
    (hfew : ((backTo pos (starEach [e] X.env)).all (fun x => !x.1) && (backToKw pos (keywordEach [] X.env)).all (fun x => x.1.isSome)
      && decide ([e].length + ([] : List Keyword).length + (if ([] : List Keyword).isEmpty then 0 else 1) < 30)) = true := by rfl)
    (hline : (apos.endLine == pos.line) = true := by rfl) (hs : starEach [e] X.env = (false, eval e X.env) :: starEach [] X.env := by rfl) (hplain : (backTo pos (starEach [] X.env)).any (·.1) = false := by rfl) :
    SE F X Γ c (.Call (.Attribute o "update" apos) [e] [] pos) P :=
  SE.of (pe_dm PySem.F.slot_dict_update PySem.F.type_dict_update mt_update pE pAs hbase hfew hline hs hplain) fun σ H Q S k => h σ H _ S fun v H1 c1 d0 p S1 e1 dv => by
    obtain ⟨a, j, l0, rfl, hj0, p⟩ := p
    cases dv
    obtain ⟨xs0, ha0, _⟩ := S1.cat hj0
    have pa : SA F X Γ c1 [e] fun c2 ds => ∃ d2, ds = [d2] ∧ ∃ b c3 l m, d2 = .raw (.ref b) ∧ c2 = c3 ++ [(b, .dk m)] ∧ c3[j]? = some (a, .dk l) ∧ l.length + m.length ≤ sizeLine ∧ P (c3.set j (a, .dk (m.foldl (fun acc kv => dput acc kv.1 kv.2) l))) .non :=
      sa_cons (p.mono fun c2 d2 q => sa_nil ⟨_, rfl, q⟩) hs
    refine ⟨a, rfl, .inl ⟨_, .inl ha0⟩, pa σ H1 _ S1 fun vs H2 c2 ds p2 S2 e2 dvs => ?_⟩
    obtain ⟨d2, rfl, b, c3, l, m, rfl, rfl, hj, hz, q⟩ := p2
    cases dvs with
    | cons dv2 t =>
      cases t
      cases dv2
      have hl3 : j < c3.length := (List.getElem?_eq_some_iff.mp hj).1
      have hj' : (c3 ++ [(b, Cel.dk m)])[j]? = some (a, .dk l) := by rw [List.getElem?_append_left hl3]; exact hj
      have hb' : (c3 ++ [(b, Cel.dk m)])[c3.length]? = some (b, .dk m) := by simp
      obtain ⟨xs, ha, t⟩ := S2.cat hj'
      obtain ⟨ys, hb, u⟩ := S2.cat hb'
      have ne : a ≠ b := fun z => by
        have := addrs_apart (x := a) S2.nd hj' hb' (by omega) (List.mem_cons_self ..)
        exact this (by rw [z]; exact List.mem_cons_self ..)
      refine ⟨a, b, xs, ys, rfl, rfl, ne, ha, hb, by rw [t.p.length, u.p.length]; exact hz, ?_⟩
      obtain ⟨S3, e3⟩ := S2.updC (q' := .dk (m.foldl (fun acc kv => dput acc kv.1 kv.2) l)) (o := .dK (mergeK xs ys)) hj' rfl rfl ⟨_, upd_same, DVk.merge t u⟩
      rw [List.set_append_left _ _ hl3] at S3 e3
      have hb3 : (c3.set j (a, Cel.dk (m.foldl (fun acc kv => dput acc kv.1 kv.2) l)) ++ [(b, Cel.dk m)])[c3.length]? = some (b, .dk m) := by simp
      obtain ⟨S4, e4, _⟩ := S3.letGo (H' := upd H2 a (.dK (mergeK xs ys))) hb3 (fun _ _ => rfl) ((S3.cat hb3).live)
      have er : (c3.set j (a, Cel.dk (m.foldl (fun acc kv => dput acc kv.1 kv.2) l)) ++ [(b, Cel.dk m)]).eraseIdx c3.length = c3.set j (a, Cel.dk (m.foldl (fun acc kv => dput acc kv.1 kv.2) l)) := by
        rw [List.eraseIdx_append_of_length_le (by simp)]; simp
      rw [er] at S4 e4
      exact k _ _ _ _ q S4 (((e1.trans e2).trans e3).trans e4) .non
def LcD (X : Cx) (Γ : List Sl) (sc : Scope) (vs : List Nat) (tg kx vx : Expr) (c1 : Cells) (ds : List Dt) (Q : List (Key × Dt) → Prop) : Prop :=
  ∃ (α : Type) (enc : α → Dt) (l : List α) (kf : α → Key) (g : α → Dt), ds = l.map enc ∧ l.length ≤ sizeLine ∧ (∀ r, r ∈ l → TurnD X Γ sc vs tg kx vx (enc r) c1 fun c2 k y => c2 = c1 ∧ k = kf r ∧ y = g r) ∧ Q ((l.map fun r => (kf r, g r)).foldl (fun acc kv => dput acc kv.1 kv.2) [])
theorem lcD {α : Type} {enc : α → Dt} {l : List α} {sc : Scope} {vs : List Nat} {tg kx vx : Expr} {c1 : Cells} {Q : List (Key × Dt) → Prop} (kf : α → Key) (g : α → Dt) (hz : l.length ≤ sizeLine) (turn : ∀ r, r ∈ l → TurnD X Γ sc vs tg kx vx (enc r) c1 fun c2 k y => c2 = c1 ∧ k = kf r ∧ y = g r)
    (p : Q ((l.map fun r => (kf r, g r)).foldl (fun acc kv => dput acc kv.1 kv.2) [])) : LcD X Γ sc vs tg kx vx c1 (l.map enc) Q := ⟨α, enc, l, kf, g, rfl, hz, turn, p⟩
theorem turnDI {sc : Scope} {vs : List Nat} {tg kx vx : Expr} {d : Dt} {c' : Cells} {N : Cells → Key → Dt → Prop} (h : ∀ (F' : Fm) (s0 : Shared) (H0 : Hp) (C : Addr) (cl : List (Str × Addr)) (fp : List Addr), SGb F' (blk X sc s0 H0 C cl fp) (wipeG Γ vs) c' vs tg d fun Γ2 => AB X sc fun Y => SE F' Y Γ2 c' kx fun c2 dk => ∃ k, dkey dk = some k ∧ AB X sc fun Y => SE F' Y Γ2 c2 vx fun c3 dv => N c3 k dv) : TurnD X Γ sc vs tg kx vx d c' N := h
theorem dmap_t {α : Type} {kx vx tg : Expr} {sc : Scope} {vs : List Nat} {enc : α → Dt} {l : List α} {Pl : Cells → List (Key × Dt) → Prop} (kf : α → Key) (g : α → Dt) (hz : l.length ≤ sizeLine)
    (turn : ∀ r, r ∈ l → TurnD X Γ sc vs tg kx vx (enc r) c fun c2 k y => c2 = c ∧ k = kf r ∧ y = g r) (p : Pl c ((l.map fun r => (kf r, g r)).foldl (fun acc kv => dput acc kv.1 kv.2) [])) :
    (l.map enc).length ≤ sizeLine ∧ ∃ Jv : Nat → Cells → List (Key × Dt) → Prop, Jv 0 c [] ∧ (∀ i d c' acc, (l.map enc)[i]? = some d → Jv i c' acc → TurnD X Γ sc vs tg kx vx d c' fun c2 k y => Jv (i + 1) c2 (dput acc k y)) ∧ ∀ c' acc, Jv (l.map enc).length c' acc → Pl c' acc := by
  refine ⟨by rw [List.length_map]; exact hz, fun i c' acc => c' = c ∧ acc = ((l.take i).map fun r => (kf r, g r)).foldl (fun acc kv => dput acc kv.1 kv.2) [], ⟨rfl, by simp⟩, ?_, ?_⟩
  · rintro i d c' acc hd ⟨rfl, rfl⟩ F' s0 H0 C cl fp
    refine .mk fun σ H v Q S dv k => ?_
    rw [List.getElem?_map] at hd
    obtain ⟨r, hr, rfl⟩ := Option.map_eq_some_iff.mp hd
    refine turn r (List.mem_of_getElem? hr) F' s0 H0 C cl fp σ H v Q S dv fun Γ2 σ2 q S2 w => k Γ2 σ2 ?_ S2 w
    intro s0 H0 C cl fp
    refine (q s0 H0 C cl fp).mono ?_
    rintro c2 dk ⟨key, hk, q2⟩
    refine ⟨key, hk, fun s0 H0 C cl fp => (q2 s0 H0 C cl fp).mono ?_⟩
    rintro c3 y ⟨rfl, rfl, rfl⟩
    refine ⟨rfl, ?_⟩
    rw [List.take_add_one, hr, Option.toList_some, List.map_append, List.foldl_append]
    rfl
  · rintro c' acc ⟨rfl, rfl⟩
    rw [List.length_map, List.take_length]
    exact p
theorem se_Dc {kx vx tg iter : Expr} {sc : Scope} (hc : X.calm = true) (hN : X.N.Nodup) (ok : BlkOk X.N X.env.scope sc (ownOf X.N tg))
    (h : SW F X Γ c tg iter fun c1 ds => LcD X Γ sc ((ownOf X.N tg).map (·.2)) tg kx vx c1 ds fun z => ∀ a, P (c1 ++ [(a, .dk z)]) (.raw (.ref a))) (hfs : ∀ x, foldedSetIterable iter X.env x = pure x := by intro _; rfl) : SE F X Γ c (.DictComp kx vx [⟨tg, iter, [], 0⟩] sc pos) P :=
  SDt.se (pe_dc (own := ownOf X.N tg) (g := tGb X sc tg) (tt := tYes) (tk := tEb X sc kx) (tv := tEb X sc vx) hc hN pI ok (fun s0 H0 C cl fp => pGb s0 H0 C cl fp) (fun _ _ _ _ _ => pts_nil) (fun s0 H0 C cl fp => pEb s0 H0 C cl fp) (fun s0 H0 C cl fp => pEb s0 H0 C cl fp) hfs)
    (sdt_dc (.mk fun σ H R S k => h σ H R S fun J H' c' ds p S' => k J H' c' ds (by
      obtain ⟨α, enc, l, kf, g, rfl, hz, turn, p⟩ := p
      exact dmap_t (Pl := fun c1 z => ∀ a, P (c1 ++ [(a, .dk z)]) (.raw (.ref a))) kf g hz turn p) S'))
theorem s_Dc {y : Str} {py spos : Pos} {kx vx tg iter : Expr} {sc : Scope} (hc : X.calm = true) (hN : X.N.Nodup) (ok : BlkOk X.N X.env.scope sc (ownOf X.N tg))
    (h : SW F X Γ c tg iter fun c1 ds => LcD X Γ sc ((ownOf X.N tg).map (·.2)) tg kx vx c1 ds fun z => ∀ a, Φ.nx (Γ.set (ixOf X.N y) (.dat (.raw (.ref a)))) (c1 ++ [(a, .dk z)]))
    (hsw : swapsWith (.DictComp kx vx [⟨tg, iter, [], 0⟩] sc pos) (some (.Name y py)) spos.line X.env = pure true := by exact swD_true rfl rfl rfl (by decide +kernel))
    (hy : X.N[ixOf X.N y]? = some y := by rfl) (hyl : X.env.scope.names.lookup y = some .local := by rfl) (hfs : ∀ x, foldedSetIterable iter X.env x = pure x := by intro _; rfl) : S1 F X Γ c (.Assign [.Name y py] (.DictComp kx vx [⟨tg, iter, [], 0⟩] sc pos) spos) Φ :=
  s_setDT _ (ps_setDc (own := ownOf X.N tg) (g := tGb X sc tg) (tt := tYes) (tk := tEb X sc kx) (tv := tEb X sc vx) hc hN hy hyl hsw pI ok (fun s0 H0 C cl fp => pGb s0 H0 C cl fp) (fun _ _ _ _ _ => pts_nil) (fun s0 H0 C cl fp => pEb s0 H0 C cl fp) (fun s0 H0 C cl fp => pEb s0 H0 C cl fp) hfs)
    (sdt_dc (.mk fun σ H R S k => h σ H R S fun J H' c' ds p S' => k J H' c' ds (by
      obtain ⟨α, enc, l, kf, g, rfl, hz, turn, p⟩ := p
      exact dmap_t (Pl := fun c1 z => ∀ a, Φ.nx (Γ.set (ixOf X.N y) (.dat (.raw (.ref a)))) (c1 ++ [(a, .dk z)])) kf g hz turn p) S'))
end
end D
end
section
set_option Elab.async false
set_option linter.all false
set_option maxRecDepth 100000
namespace D
open PySem L2 PyProof.Rows PyProof
open PySem.W (AlikeAll minD dataLt alike min_list_data readsAll_at reads_keeps dataLt_str dataLt_int)
theorem zip_ext {α β : Type} : ∀ {l m : List (α × β)}, l.map (·.1) = m.map (·.1) → l.map (·.2) = m.map (·.2) → l = m
  | [], [], _, _ => rfl
  | [], _ :: _, h, _ => by cases h
  | _ :: _, [], h, _ => by cases h
  | p :: l, q :: m, h, k => by
    rw [List.map_cons, List.map_cons] at h k
    have h1 := List.cons.inj h
    have k1 := List.cons.inj k
    rw [zip_ext h1.2 k1.2, Prod.ext h1.1 k1.1]
mutual
theorem reads_one {h : Heap} : ∀ {v : Value} {d : PyData} {as : List Addr}, Reads h v d as → ∀ {d' : PyData} {as' : List Addr}, Reads h v d' as' → d = d'
  | _, _, _, .none, _, _, .none => rfl
  | _, _, _, .bool b, _, _, .bool _ => rfl
  | _, _, _, .int i t, _, _, .int _ _ => rfl
  | _, _, _, .str x t, _, _, .str _ _ => rfl
  | _, _, _, .list h1 h2 h3 h4, _, _, r => by
    cases r with
    | list g1 g2 g3 g4 => rw [h1] at g1; cases g1; rw [h3] at g3; cases g3; rw [reads_ones h4 g4]
    | tuple g1 g2 g3 g4 => rw [h1] at g1; cases g1; rw [h2] at g2; exact absurd g2 (by decide)
    | dict g1 g2 g3 g4 g5 => rw [h1] at g1; cases g1; rw [h2] at g2; exact absurd g2 (by decide)
  | _, _, _, .tuple h1 h2 h3 h4, _, _, r => by
    cases r with
    | list g1 g2 g3 g4 => rw [h1] at g1; cases g1; rw [h2] at g2; exact absurd g2 (by decide)
    | tuple g1 g2 g3 g4 => rw [h1] at g1; cases g1; rw [h3] at g3; cases g3; rw [reads_ones h4 g4]
    | dict g1 g2 g3 g4 g5 => rw [h1] at g1; cases g1; rw [h2] at g2; exact absurd g2 (by decide)
  | _, _, _, .dict h1 h2 h3 h4 h5, _, _, r => by
    cases r with
    | list g1 g2 g3 g4 => rw [h1] at g1; cases g1; rw [h2] at g2; exact absurd g2 (by decide)
    | tuple g1 g2 g3 g4 => rw [h1] at g1; cases g1; rw [h2] at g2; exact absurd g2 (by decide)
    | dict g1 g2 g3 g4 g5 =>
      rw [h1] at g1; cases g1; rw [h3] at g3; cases g3
      have e1 := reads_ones h4 g4
      have e2 := reads_ones h5 g5
      congr 1
      exact zip_ext e1 e2
theorem reads_ones {h : Heap} : ∀ {vs : List Value} {ds : List PyData} {as : List Addr}, ReadsAll h vs ds as → ∀ {ds' : List PyData} {as' : List Addr}, ReadsAll h vs ds' as' → ds = ds'
  | _, _, _, .nil, _, _, .nil => rfl
  | _, _, _, .cons r rs, _, _, .cons q qs => by rw [reads_one r q, reads_ones rs qs]
end
theorem vals_back : ∀ {xs : List V} {us : List Value} {i : Nat} {u : Value}, Vals xs us → us[i]? = some u → ∃ x, xs[i]? = some x ∧ RelV x u := fun {xs us i u} r e => by
  cases h : xs[i]? with
  | none => rw [r.none_of h] at e; cases e
  | some x =>
    obtain ⟨u', h1, h2⟩ := r.get h
    rw [h1] at e; cases e
    exact ⟨x, rfl, h2⟩
section
variable {X : Cx}
def rMinD (X : Cx) : List V → Hp → VK → Prop := fun vs H Q => ∃ (a : Addr) (xs : List V) (d : PyData) (ds : List PyData), vs = [.ref a] ∧ SqL X.K H a xs ∧ DpAll X.K H xs (d :: ds) ∧ AlikeAll (d :: ds) ∧ X.A.units + 1 + PyData.depthAll (d :: ds) < cLine ∧ ∀ (i : Nat) (x : V), xs[i]? = some x → (d :: ds)[i]? = some (minD d ds) → Q x H
theorem cr_minD (hc : X.calm = true) : CallR X (.builtin "min") (rMinD X) := by
  intro pins s σ H vs us Q I r h
  obtain ⟨a, xs, d, ds, rfl, hs, hdp, hal, hu, q⟩ := h
  obtain ⟨its, rv, hl, _⟩ := I.list hs
  rw [Vals.ref1 r]
  obtain ⟨as, hra⟩ := Dp.readsAll I _ _ _ hdp rv
  refine min_list_data (I.ok.hd hc) hl.isList hra hal hu fun i v h' tk bs hv hr hk => ?_
  have hv' : its[i]? = some v := by simpa using hv
  obtain ⟨x, hx, rx⟩ := vals_back rv hv'
  obtain ⟨cs, r2, hi, _, _⟩ := readsAll_at hra i v (by simpa using hv)
  have e := reads_one hr (reads_keeps hk r2)
  refine ⟨x, H, I.kept hk, rx, q i x hx ?_⟩
  rw [e, List.getD_eq_getElem?_getD, List.getElem?_eq_getElem hi]
  rfl
end
mutual
theorem py_inj : ∀ {d e : Dt}, plain d = true → plain e = true → py d = py e → d = e
  | .non, e, _, p, h => by cases e <;> first | rfl | (cases h; done) | (cases p; done)
  | .bl b, e, _, p, h => by cases e <;> first | (cases h; rfl) | (cases h; done) | (cases p; done)
  | .int b, e, _, p, h => by cases e <;> first | (cases h; rfl) | (cases h; done) | (cases p; done)
  | .str b, e, _, p, h => by cases e <;> first | (cases h; rfl) | (cases h; done) | (cases p; done)
  | .lst l, e, q, p, h => by
    cases e with
    | lst m => rw [pys_inj (l := l) (m := m) q p (PyData.list.inj h)]
    | _ => first | (cases h; done) | (cases p; done)
  | .tup l, e, q, p, h => by
    cases e with
    | tup m => rw [pys_inj (l := l) (m := m) q p (PyData.tuple.inj h)]
    | _ => first | (cases h; done) | (cases p; done)
  | .par _, _, q, _, _ => by cases q
  | .dct _, _, q, _, _ => by cases q
  | .dcu _, _, q, _, _ => by cases q
  | .fzl _, _, q, _, _ => by cases q
  | .exc _ _ _, _, q, _, _ => by cases q
  | .raw _, _, q, _, _ => by cases q
theorem pys_inj : ∀ {l m : List Dt}, plains l = true → plains m = true → pys l = pys m → l = m
  | [], [], _, _, _ => rfl
  | [], _ :: _, _, _, h => by cases h
  | _ :: _, [], _, _, h => by cases h
  | d :: l, e :: m, q, p, h => by
    have q' := Bool.and_eq_true_iff.mp (show (plain d && plains l) = true from q)
    have p' := Bool.and_eq_true_iff.mp (show (plain e && plains m) = true from p)
    have h' := List.cons.inj (show py d :: pys l = py e :: pys m from h)
    rw [py_inj q'.1 p'.1 h'.1, pys_inj q'.2 p'.2 h'.2]
end
/-- the least of some, the first of them -/
def minBy {α : Type} (lt : α → α → Bool) (x : α) (xs : List α) : α := xs.foldl (fun a y => if lt y a = true then y else a) x
theorem minBy_mem {α : Type} (lt : α → α → Bool) : ∀ (xs : List α) (x : α), minBy lt x xs ∈ x :: xs
  | [], x => List.mem_singleton.mpr rfl
  | y :: xs, x => by
    show minBy lt (if lt y x = true then y else x) xs ∈ _
    have := minBy_mem lt xs (if lt y x = true then y else x)
    rcases List.mem_cons.mp this with h | h
    · rw [h]; split
      · exact List.mem_cons_of_mem _ (List.mem_cons_self ..)
      · exact List.mem_cons_self ..
    · exact List.mem_cons_of_mem _ (List.mem_cons_of_mem _ h)
theorem minD_enc {α : Type} (enc : α → Dt) (lt : α → α → Bool) (h : ∀ a b, dataLt (py (enc a)) (py (enc b)) = lt a b) : ∀ (xs : List α) (x : α), minD (py (enc x)) (xs.map fun y => py (enc y)) = py (enc (minBy lt x xs))
  | [], x => rfl
  | y :: xs, x => by
    show minD (if dataLt (py (enc y)) (py (enc x)) then py (enc y) else py (enc x)) (xs.map fun y => py (enc y)) = py (enc (minBy lt (if lt y x = true then y else x) xs))
    rw [h]
    cases lt y x with
    | true => exact minD_enc enc lt h xs y
    | false => exact minD_enc enc lt h xs x
section
variable {F : Fm} {X : Cx} {Γ : List Sl} {c : Cells} {P : Cells → Dt → Prop}
theorem cv_minF {α : Type} {enc : α → Dt} (lt : α → α → Bool) {x : α} {xs : List α} (hc : X.calm = true) (hu : X.A.units + 65 < cLine) (hlt : ∀ a b, dataLt (py (enc a)) (py (enc b)) = lt a b) (hf : ∀ a, Fit 64 (enc a)) (hal : ∀ a b, alike (py (enc a)) (py (enc b)) = true) (hnn : ∀ a, py (enc a) ≠ .none)
    (p : P c (enc (minBy lt x xs))) : ClV F X Γ c (.builtin "min") [.lst (enc x :: xs.map enc)] P :=
  ClV.of (cr_minD hc) fun σ H vs Q S dvs k => by
    cases dvs with
    | cons dv t =>
      cases t
      cases dv with
      | lst a t =>
        have hfit := fits_all (n := 64) (l := (x :: xs).map enc) fun d hd => by obtain ⟨y, _, rfl⟩ := List.mem_map.mp hd; exact hf y
        have hpl : ∀ y, plain (enc y) = true := fun y => (hf y).pl
        refine ⟨_, _, py (enc x), xs.map fun y => py (enc y), rfl, .inl (.inl (of_mask a).2), ?_, ⟨?_, ?_⟩, ?_, fun i v hv hi => ?_⟩
        · have h1 := DVs.dp (t.mono (mask_ex _ _)) hfit.1
          have e : pys (enc x :: xs.map enc) = py (enc x) :: xs.map fun y => py (enc y) := by rw [pys_map, List.map_cons, List.map_map]; rfl
          rw [e] at h1
          exact h1
        · intro u hu' v hv'
          have key : ∀ u, u ∈ (py (enc x) :: xs.map fun y => py (enc y)) → ∃ y, u = py (enc y) := fun u hu => by
            rcases List.mem_cons.mp hu with e | hu
            · exact ⟨x, e⟩
            · obtain ⟨y, _, rfl⟩ := List.mem_map.mp hu; exact ⟨y, rfl⟩
          obtain ⟨y, rfl⟩ := key u hu'
          obtain ⟨z, rfl⟩ := key v hv'
          exact hal y z
        · intro u hu'
          rcases List.mem_cons.mp hu' with e | hu'
          · rw [e]; exact hnn x
          · obtain ⟨y, _, rfl⟩ := List.mem_map.mp hu'; exact hnn y
        · have h2 := hfit.2.2
          have e : pys ((x :: xs).map enc) = py (enc x) :: xs.map fun y => py (enc y) := by rw [pys_map, List.map_cons, List.map_cons, List.map_map]; rfl
          rw [e] at h2
          omega
        · obtain ⟨d, hd, dv⟩ := t.getV hv
          have e2 : (((x :: xs).map enc).map py)[i]? = some (minD (py (enc x)) (xs.map fun y => py (enc y))) := by
            rw [← hi]; rw [List.map_map]; rfl
          rw [List.getElem?_map] at e2
          have hd' : ((x :: xs).map enc)[i]? = some d := hd
          rw [hd', minD_enc enc lt hlt] at e2
          have e3 : py d = py (enc (minBy lt x xs)) := by simpa using e2
          obtain ⟨y, hy, rfl⟩ := List.mem_map.mp (List.mem_of_getElem? hd')
          have := py_inj (hpl y) (hpl _) e3
          rw [← this] at p
          exact k _ H c _ p S (Ex.refl _) dv
/-- names -/
def ltN (a b : Nm) : Bool := decide (a.1.cps.toList < b.1.cps.toList)
def minN (x : Nm) (xs : List Nm) : Nm := minBy ltN x xs
theorem cv_minN {x : Nm} {xs : List Nm} (hc : X.calm = true) (hu : X.A.units + 65 < cLine) (p : P c (nD (minN x xs))) : ClV F X Γ c (.builtin "min") [.lst (nD x :: xs.map nD)] P :=
  cv_minF ltN hc hu (fun a b => dataLt_str a.1 b.1) (fun a => fit_n a) (fun _ _ => rfl) (fun _ => by intro z; cases z) p
def ltI (a b : Int) : Bool := decide (a < b)
theorem cv_minI {x : Int} {xs : List Int} (hc : X.calm = true) (hu : X.A.units + 65 < cLine) (p : P c (.int (minBy ltI x xs))) : ClV F X Γ c (.builtin "min") [.lst (.int x :: xs.map Dt.int)] P :=
  cv_minF (enc := Dt.int) ltI hc hu (fun a b => dataLt_int a b) (fun a => fit_int) (fun _ _ => rfl) (fun _ => by intro z; cases z) p
end
end D
end
section
set_option Elab.async false
set_option linter.all false
set_option maxRecDepth 100000
namespace D
open PySem L2 PyProof.Rows
section
variable {K : PySem.W.Frag} {F : Fm} {X : Cx} {Γ : List Sl} {c : Cells} {P : Cells → List Dt → Prop} {tg : Expr} {pos : Pos}
theorem src_stepC {V0 : Hp} {n : Nat} {lo st : Int} : Src K V0 (Itc lo st n) ((List.range n).map fun (i : Nat) => Dt.int (lo + (i : Int) * st)) := by
  have hl : ((List.range n).map fun (i : Nat) => Dt.int (lo + (i : Int) * st)).length = n := by rw [List.length_map, List.length_range]
  refine ⟨fun _ => True, YFn fun i => .int (lo + (i : Nat) * st), by rw [hl]; exact walk_rangeC, fun _ _ => True.intro, fun i H1 x H2 hi y _ => ?_⟩
  obtain ⟨h1, h2⟩ := y
  rw [hl] at hi
  refine ⟨.int (lo + (i : Int) * st), ?_, .inl ⟨h1, ?_⟩⟩
  · rw [List.getElem?_map, List.getElem?_range hi]
    rfl
  · rw [h2]; exact .int _
/-- range(a, b, -1) -/
theorem sw_down {a b s : Expr} {p : Pos} (hm : X.mg "range" = none) (h : SA F X Γ c [a, b, s] fun c1 ds => ∃ i j : Int, ds = [.int i, .int j, .int (-1)] ∧ -(2 ^ 62) ≤ i ∧ i < 2 ^ 62 ∧ -(2 ^ 62) ≤ j ∧ j < 2 ^ 62 ∧ P c1 ((List.range (i - j).toNat).map fun (k : Nat) => Dt.int (i + (k : Int) * (-1)))) (hg : Gl X "range" := by rfl)
    (hs : starEach [a, b, s] X.env = (false, eval a X.env) :: starEach [b, s] X.env := by rfl) (hpl : (backTo pos (starEach [b, s] X.env)).any (·.1) = false := by rfl) : SW F X Γ c tg (.Call (.Name "range" p) [a, b, s] [] pos) P := .mk fun σ H R S k =>
  ⟨_, pi_range3 hg hm pAs hs hpl, h σ H _ S fun vs H1 c1 ds p S1 k1 dvs => by
    obtain ⟨i, j, rfl, h1, h2, h3, h4, p⟩ := p
    cases dvs with
    | cons d1 t => cases t with
      | cons d2 t => cases t with
        | cons d3 t =>
          cases t; cases d1; cases d2; cases d3
          exact ⟨i, j, -1, (i - j).toNat, rfl, RgC.neg h1 h2 h3 h4, k _ H1 c1 _ p S1 k1 src_stepC⟩⟩
end
section
variable {F : Fm} {X : Cx} {Γ : List Sl} {c : Cells} {P : Cells → Dt → Prop} {pos : Pos}
theorem cv_sum {ns : List Int} (hc : X.calm = true) (p : P c (.int ns.sum)) : ClV F X Γ c (.builtin "sum") [.lst (ns.map Dt.int)] P :=
  ClV.of (cr_sum hc) fun σ H vs Q S dvs k => by
    cases dvs with
    | cons dv t =>
      cases t
      cases dv with
      | lst a t => exact ⟨_, ns, rfl, .inl (.inl (by rw [← DVs.of_ints t]; exact (of_mask a).2)), k _ H c _ p S (Ex.refl _) (.int _)⟩
end
end D
end
section
set_option Elab.async false
set_option linter.all false
set_option maxRecDepth 100000
namespace D
open PySem L2 PyProof.Rows RZ
theorem walk_zipT {K : PySem.W.Frag} {a b : Addr} {xs ys : List V} {n : Nat} (hn : n = min xs.length ys.length) : Walk (ItzT K a b) n (fun H => SqT K H a xs ∧ SqT K H b ys) (YPair (fun i => xs[i]?) (fun i => ys[i]?)) := by
  subst hn
  refine ⟨fun i _ hi q => ?_, fun _ q => ⟨xs, ys, q.1, q.2, by omega⟩, fun i H v H' _ q y => ?_⟩
  · exact ⟨xs, ys, xs[i]'(by omega), ys[i]'(by omega), q.1, q.2, by simp [show i < xs.length by omega], by simp [show i < ys.length by omega]⟩
  · obtain ⟨T, x, z, h1, h2, h3, h4, h5⟩ := y
    exact ⟨T, x, z, h1, h2, h3, h4 xs q.1, h5 ys q.2⟩
section
variable {K : PySem.W.Frag} {F : Fm} {X : Cx} {Γ : List Sl} {c : Cells} {pos : Pos}
theorem src_zipT {V0 : Hp} {a b : Addr} {xs ys : List V} {l m : List Dt} (h1 : SqT K V0 a xs) (h2 : SqT K V0 b ys) (t : DVs K V0 xs l) (u : DVs K V0 ys m) : Src K V0 (ItzT K a b) (zipD l m) := by
  have hl : (zipD l m).length = min xs.length ys.length := by unfold zipD; rw [List.length_map, List.length_zip, t.length, u.length]
  refine ⟨_, _, hl.symm ▸ walk_zipT (K := K) (a := a) (b := b) (xs := xs) (ys := ys) rfl, fun H e => ⟨ex_t e h1, ex_t e h2⟩, fun i H1 x H2 hi y _ => ?_⟩
  obtain ⟨T, x1, x2, g1, g2, g3, g4, g5⟩ := y
  obtain ⟨d1, e1, dv1⟩ := t.getV g4
  obtain ⟨d2, e2, dv2⟩ := u.getV g5
  refine ⟨.par [d1, d2], ?_, .inr ⟨T, x1, x2, d1, d2, g1, g2, g3, rfl, dv1, dv2⟩⟩
  unfold zipD
  rw [List.getElem?_map, List.getElem?_zip_eq_some (z := (d1, d2)) |>.mpr ⟨e1, e2⟩]
  rfl
theorem sw_zipT {e e2 : Expr} {p : Pos} {elts : List Expr} {kk : Nat} {tpos : Pos} {P : Cells → List Dt → Prop} (hm : X.mg "zip" = none) (h : SA F X Γ c [e, e2] fun c1 ds => ∃ l m, ds = [.tup l, .tup m] ∧ P c1 (zipD l m)) (hg : Gl X "zip" := by rfl)
    (hs : starEach [e, e2] X.env = (false, eval e X.env) :: starEach [e2] X.env := by rfl) (hpl : (backTo pos (starEach [e2] X.env)).any (·.1) = false := by rfl) : SW F X Γ c (.Tuple elts kk tpos) (.Call (.Name "zip" p) [e, e2] [] pos) P := .mk fun σ H R S k =>
  ⟨_, pi_zipA hg hm pAs hs hpl, h σ H _ S fun vs H1 c1 ds p S1 k1 dvs => by
    obtain ⟨l, m, rfl, p⟩ := p
    cases dvs with
    | cons d1 t => cases t with
      | cons d2 t =>
        cases t
        cases d1 with
        | tup a1 t1 => cases d2 with
          | tup a2 t2 => exact ⟨_, _, _, _, rfl, .inr ⟨(a1.mono (mask_ex _ _)).t, (a2.mono (mask_ex _ _)).t, k _ H1 c1 _ p S1 k1 (src_zipT a1.t a2.t t1 t2)⟩⟩⟩
theorem se_indexT {o e : Expr} {apos : Pos} {P : Cells → Dt → Prop} (h : SE F X Γ c o fun c1 dl => ∃ ys : List Str, dl = .tup (ys.map Dt.str) ∧ SE F X Γ c1 e fun c2 d => ∃ z j, d = .str z ∧ ys[j]? = some z ∧ (∀ m, m < j → ys[m]? ≠ some z) ∧ P c2 (.int (j : Nat)))
    (hb : attributeBase o "index" X.env (eval o X.env) = eval o X.env := by rfl)
    (hall : (((backTo pos (starEach [e] X.env)).all (fun x => !x.1)) && ((backToKw pos (keywordEach [] X.env)).all (fun x => x.1.isSome)) && decide ([e].length + ([] : List Keyword).length + (if ([] : List Keyword).isEmpty = true then 0 else 1) < 30)) = true := by rfl)
    (hline : (apos.endLine == pos.line) = true := by rfl) (hst : starEach [e] X.env = (false, eval e X.env) :: starEach [] X.env := by rfl) (hpl : (backTo pos (starEach [] X.env)).any (·.1) = false := by rfl) : SE F X Γ c (.Call (.Attribute o "index" apos) [e] [] pos) P :=
  SE.of (pe_tm PySem.F.slot_tuple_index PySem.F.type_tuple_index mt_tup_index pE (pa_cons pE pa_nil hst) hb hall hline hst hpl) fun σ H Q S k => h σ H _ S fun v H1 c1 d p S1 e1 dv => by
    obtain ⟨ys, rfl, p⟩ := p
    cases id dv with
    | tup a t =>
      have et := DVs.of_strs t
      subst et
      refine ⟨_, _, rfl, a.mono (mask_ex _ _), p σ H1 _ S1 fun w H2 c2 d2 p2 S2 e2 dv2 => ?_⟩
      obtain ⟨z, j, rfl, hj, hm, p2⟩ := p2
      cases dv2
      exact ⟨_, ys, z, j, rfl, rfl, (a.mono (e2.trans (mask_ex _ _))).t, hj, hm, k _ H2 c2 _ p2 S2 (e1.trans e2) (.int _)⟩
end
end D
end
section
set_option Elab.async false
set_option linter.all false
set_option maxRecDepth 100000
namespace D
open PySem L2 PyProof.Rows
def ixN : List Nm → Nm → Nat
  | [], _ => 0
  | y :: r, x => if y = x then 0 else ixN r x + 1
theorem ixN_at : ∀ {r : List Nm} {x : Nm}, x ∈ r → r[ixN r x]? = some x ∧ ∀ m, m < ixN r x → r[m]? ≠ some x
  | y :: r, x, h => by
    unfold ixN
    by_cases e : y = x
    · rw [if_pos e]; exact ⟨by simp [e], fun m hm => absurd hm (Nat.not_lt_zero _)⟩
    · rw [if_neg e]
      obtain ⟨h1, h2⟩ := ixN_at (r := r) (x := x) ((List.mem_cons.mp h).resolve_left fun z => e z.symm)
      refine ⟨by simpa using h1, fun m hm => ?_⟩
      cases m with
      | zero => simpa using e
      | succ m => simpa using h2 m (by omega)
section
variable {F : Fm} {X : Cx} {Γ : List Sl} {c : Cells} {P : Cells → Dt → Prop} {pos : Pos}
theorem se_indexN {o e : Expr} {apos : Pos} (h : SE F X Γ c o fun c1 dl => ∃ r : List Nm, dl = nT r ∧ SE F X Γ c1 e fun c2 d => ∃ x : Nm, d = nD x ∧ x ∈ r ∧ P c2 (.int (ixN r x : Nat)))
    (hb : attributeBase o "index" X.env (eval o X.env) = eval o X.env := by rfl)
    (hall : (((backTo pos (starEach [e] X.env)).all (fun x => !x.1)) && ((backToKw pos (keywordEach [] X.env)).all (fun x => x.1.isSome)) && decide ([e].length + ([] : List Keyword).length + (if ([] : List Keyword).isEmpty = true then 0 else 1) < 30)) = true := by rfl)
    (hline : (apos.endLine == pos.line) = true := by rfl) (hst : starEach [e] X.env = (false, eval e X.env) :: starEach [] X.env := by rfl) (hpl : (backTo pos (starEach [] X.env)).any (·.1) = false := by rfl) : SE F X Γ c (.Call (.Attribute o "index" apos) [e] [] pos) P :=
  se_indexT (h.mono fun c1 dl ⟨r, e1, q⟩ => ⟨r.map (·.1), by rw [e1, List.map_map]; rfl, q.mono fun c2 d ⟨x, e2, hx, p⟩ => by
    obtain ⟨h1, h2⟩ := ixN_at hx
    refine ⟨x.1, ixN r x, e2, by rw [List.getElem?_map, h1]; rfl, fun m hm z => ?_, p⟩
    rw [List.getElem?_map] at z
    obtain ⟨y, hy, e⟩ := Option.map_eq_some_iff.mp z
    exact h2 m hm (by rw [hy, Subtype.ext e])⟩) hb hall hline hst hpl
theorem se_tyTuple (hm : X.mg "tuple" = none) (p : P c (.raw (.ty "tuple"))) (hg : Gl X "tuple" := by rfl) : SE F X Γ c (.Name "tuple" pos) P := se_ty (T := "tuple") hm p (by decide +kernel) hg
theorem se_tyStr (hm : X.mg "str" = none) (p : P c (.raw (.ty "str"))) (hg : Gl X "str" := by rfl) : SE F X Γ c (.Name "str" pos) P := se_ty (T := "str") hm p (by decide +kernel) hg
theorem se_tyInt (hm : X.mg "int" = none) (p : P c (.raw (.ty "int"))) (hg : Gl X "int" := by rfl) : SE F X Γ c (.Name "int" pos) P := se_ty (T := "int") hm p (by decide +kernel) hg
theorem se_tyBool (hm : X.mg "bool" = none) (p : P c (.raw (.ty "bool"))) (hg : Gl X "bool" := by rfl) : SE F X Γ c (.Name "bool" pos) P := se_ty (T := "bool") hm p (by decide +kernel) hg
end
end D
end
section
set_option Elab.async false
set_option linter.all false
set_option maxRecDepth 100000
namespace D
open PySem L2 PyProof.Rows
section
variable {F : Fm} {X : Cx} {Γ : List Sl} {c : Cells} {P : Cells → Dt → Prop} {Φ : PEnds} {pos : Pos}
/-- xs[i], xs a cell -/
theorem iv_lcel (j : Nat) {a : Addr} {l : List Dt} {i : Int} {d : Dt} (hj : c[j]? = some (a, .lst l)) (h : atI l i = some d) (p : P c d) : IxV F X Γ c (.raw (.ref a)) (.int i) P :=
  IxV.of ix_list fun σ H x y Q S h1 h2 k => by
    cases h1
    cases h2
    obtain ⟨xs, ha, t⟩ := S.cat hj
    obtain ⟨v, e, dv⟩ := atI_dvs t h
    exact ⟨_, _, i, v, rfl, rfl, .inl (.inl ha), e, k v H c d p S (Ex.refl _) dv⟩
/-- len(xs), xs a cell -/
theorem cv_lenC (j : Nat) {a : Addr} {l : List Dt} (hj : c[j]? = some (a, .lst l)) (p : P c (.int l.length)) : ClV F X Γ c (.builtin "len") [.raw (.ref a)] P :=
  ClV.of call_len_seq fun σ H vs Q S dvs k => by
    cases dvs with
    | cons dv t =>
      cases t
      cases dv
      obtain ⟨xs, ha, t⟩ := S.cat hj
      exact ⟨_, xs, rfl, .inl (.inl (.inl ha)), by rw [t.length]; exact k _ H c _ p S (Ex.refl _) (.int _)⟩
/-- xs[i] = e, xs a cell -/
theorem s_lput {o ix e : Expr} {sp : Pos} (h : SE F X Γ c e fun c1 d => SE F X Γ c1 o fun c2 d0 => ∃ a, d0 = .raw (.ref a) ∧ SE F X Γ c2 ix fun c3 d1 => ∃ j l i k, c3[j]? = some (a, .lst l) ∧ d1 = .int i ∧ L2.ixN l.length i = some k ∧ Φ.nx Γ (c3.set j (a, .lst (l.set k d))))
    (hs : swapsWithSole [.Subscript o ix sp] e pos.line X.env = pure false := by rfl) (hw : swappedStores [.Subscript o ix sp] e X.env = pure none := by rfl)
    (ha : ∀ v, assign (.Subscript o ix sp) X.env v = (do
      let ov ← holding [v] (eval o X.env)
      let iv ← holding [v, ov] (eval ix X.env)
      standAt sp
      holding [v, ov, iv] (setItem ov iv v)
      release [v, ov, iv] []) := by intro _; rfl) : S1 F X Γ c (.Assign [.Subscript o ix sp] e pos) Φ :=
  S1.of (ps_asg pE (pg_sub pE pE set_list ha) hs hw) fun σ H D S E => h σ H _ S fun v H1 c1 d p S1 e1 dv => p σ H1 _ S1 fun w H2 c2 d0 p2 S2 e2 dw => by
    obtain ⟨a, rfl, p2⟩ := p2
    cases dw
    refine p2 σ H2 _ S2 fun y H3 c3 d1 p3 S3 e3 dy => ?_
    obtain ⟨j, l, i, k, hj, rfl, hk, p3⟩ := p3
    cases dy
    obtain ⟨xs, ha, t⟩ := S3.cat hj
    obtain ⟨S4, e4⟩ := S3.updC (q' := .lst (l.set k d)) (o := .lst (xs.set k v)) hj rfl rfl ⟨_, upd_same, t.set (dv.mono (e2.trans e3)) k⟩
    exact ⟨a, xs, i, k, rfl, rfl, ha, by rw [t.length]; exact hk, E.nx _ _ _ _ p3 S4 (((e1.trans e2).trans e3).trans e4)⟩
/-- xs.pop(i), xs a cell -/
theorem se_popAt {o e : Expr} {apos : Pos} (h : SE F X Γ c o fun c0 d0 => ∃ a j l0, d0 = .raw (.ref a) ∧ c0[j]? = some (a, .lst l0) ∧ SE F X Γ c0 e fun c1 d => ∃ l i k x, c1[j]? = some (a, .lst l) ∧ d = .int i ∧ L2.ixN l.length i = some k ∧ -(2 ^ 63) ≤ i ∧ i < 2 ^ 63 ∧ l[k]? = some x ∧ P (c1.set j (a, .lst (l.eraseIdx k))) x)
    (hb : attributeBase o "pop" X.env (eval o X.env) = eval o X.env := by rfl)
    (hall : (((backTo pos (starEach [e] X.env)).all (fun x => !x.1)) && ((backToKw pos (keywordEach [] X.env)).all (fun x => x.1.isSome)) && decide ([e].length + ([] : List Keyword).length + (if ([] : List Keyword).isEmpty = true then 0 else 1) < 30)) = true := by rfl)
    (hline : (apos.endLine == pos.line) = true := by rfl) (hst : starEach [e] X.env = (false, eval e X.env) :: starEach [] X.env := by rfl) (hpl : (backTo pos (starEach [] X.env)).any (·.1) = false := by rfl) : SE F X Γ c (.Call (.Attribute o "pop" apos) [e] [] pos) P :=
  SE.of (pe_bm PySem.F.plainAttrs_list PySem.F.slot_list_pop PySem.F.type_list_pop mt_popAt pE (pa_cons pE pa_nil hst) hb hall hline hst hpl) fun σ H Q S k => by
    refine h σ H _ S fun v0 H0 c0 d0 p0 S0 e0 dv0 => ?_
    obtain ⟨a, j, l0, rfl, hj0, p0⟩ := p0
    cases dv0
    obtain ⟨xs, h1, _⟩ := S0.cat hj0
    refine ⟨Or.inl ⟨rfl, xs, .inl (.inl h1)⟩, p0 σ H0 _ S0 fun v H' c' d p S' e' dv => ?_⟩
    obtain ⟨l, i, kk, x, hj, rfl, hk, b1, b2, hx, p⟩ := p
    cases dv
    obtain ⟨ys, h2, h3⟩ := S'.cat hj
    obtain ⟨y, hy, dy⟩ := h3.get hx
    obtain ⟨S2, e2⟩ := S'.updC (q' := .lst (l.eraseIdx kk)) (o := .lst (ys.eraseIdx kk)) hj rfl rfl ⟨_, upd_same, h3.eraseIdx kk⟩
    exact ⟨a, ys, i, kk, y, rfl, rfl, h2, b1, b2, (ixN_seq (by rw [h3.length]; exact hk)).1, hy, k _ _ _ _ p S2 ((e0.trans e').trans e2) (dy.mono e2)⟩
theorem ss_openBag (j : Nat) {b : Addr} {n : Nat} {ss : List Stmt} (hj : c[j]? = some (b, .bag n)) (h : ∀ d s k : Int, 0 ≤ d → 0 ≤ s → s < 2147483647 → 0 ≤ k → k ≤ n → SS F X Γ (c.set j (b, .lst [.int d, .int s, .int k])) ss Φ) : SS F X Γ c ss Φ := .mk fun σ H D S E => by
  obtain ⟨d, s, k, ha, h1, h2, h3, h4, h5⟩ := S.cat hj
  obtain ⟨S2, e2⟩ := S.chg (q' := .lst [.int d, .int s, .int k]) (H' := H) hj rfl (fun _ _ => rfl) ⟨_, ha, .cons (.int _) (.cons (.int _) (.cons (.int _) .nil))⟩
  exact h d s k h1 h2 h3 h4 h5 σ H D S2 (E.ext e2)
theorem SE.closeBag {e : Expr} (h : SE F X Γ c e fun c1 z => ∃ j b d s k n, c1[j]? = some (b, .lst [.int d, .int s, .int k]) ∧ 0 ≤ d ∧ 0 ≤ s ∧ s < 2147483647 ∧ 0 ≤ k ∧ k ≤ ((n : Nat) : Int) ∧ P (c1.set j (b, .bag n)) z) : SE F X Γ c e P := .mk fun σ H Q S kk => h σ H Q S fun v H' c' z p S' e' dv => by
  obtain ⟨j, b, d, s, k, n, hj, h1, h2, h3, h4, h5, p⟩ := p
  obtain ⟨xs, ha, t⟩ := S'.cat hj
  have et : xs = [.int d, .int s, .int k] := DVs.of_ints (l := [d, s, k]) t
  subst et
  obtain ⟨S2, e2⟩ := S'.chg (q' := .bag n) (H' := H') hj rfl (fun _ _ => rfl) ⟨d, s, k, ha, h1, h2, h3, h4, h5⟩
  exact kk v H' _ z p S2 (e'.trans e2) (dv.mono e2)
end
end D
end
section
set_option Elab.async false
set_option linter.all false
set_option maxRecDepth 100000
namespace W
open PySem L2 D PyProof.Rows
def top (i : Nat) : Stmt := PySem.Challenge.pw_openlines_k74_whole_rings_bar_longer_lis.main.body.getD i (.Pass ⟨0, 0, 0, 0⟩)
abbrev s_next_name : Stmt := top 15
abbrev n_next_name : List Str := ["rows", "row", "other"]
theorem sc_next_name : FnScope n_next_name ["rows"] (defScope s_next_name) := ⟨rfl, rfl, rfl, by decide +kernel, rfl, by decide +kernel, by decide +kernel⟩
abbrev s_earliest_demands : Stmt := top 16
abbrev n_earliest_demands : List Str := ["lists", "found", "at", "row", "spot", "name", "other"]
theorem sc_earliest_demands : FnScope n_earliest_demands ["lists"] (defScope s_earliest_demands) := ⟨rfl, rfl, rfl, by decide +kernel, rfl, by decide +kernel, by decide +kernel⟩
abbrev s_distances_to : Stmt := top 17
abbrev n_distances_to : List Str := ["demands", "goal", "found", "level", "steps", "name", "after"]
theorem sc_distances_to : FnScope n_distances_to ["demands", "goal"] (defScope s_distances_to) := ⟨rfl, rfl, rfl, by decide +kernel, rfl, by decide +kernel, by decide +kernel⟩
abbrev s_least_road : Stmt := top 18
abbrev n_least_road : List Str := ["demands", "start", "goal", "distances", "road", "name", "left", "nearer", "other"]
theorem sc_least_road : FnScope n_least_road ["demands", "start", "goal"] (defScope s_least_road) := ⟨rfl, rfl, rfl, by decide +kernel, rfl, by decide +kernel, by decide +kernel⟩
abbrev s_least_ring : Stmt := top 19
abbrev n_least_ring : List Str := ["lists", "demands", "sizes", "least", "start", "name", "size"]
theorem sc_least_ring : FnScope n_least_ring ["lists"] (defScope s_least_ring) := ⟨rfl, rfl, rfl, by decide +kernel, rfl, by decide +kernel, by decide +kernel⟩
abbrev s_merge_or_none : Stmt := top 20
abbrev n_merge_or_none : List Str := ["lists", "rows", "found", "name", "row", "other"]
theorem sc_merge_or_none : FnScope n_merge_or_none ["lists"] (defScope s_merge_or_none) := ⟨rfl, rfl, rfl, by decide +kernel, rfl, by decide +kernel, by decide +kernel⟩
abbrev s_merge_or_ring : Stmt := top 21
abbrev n_merge_or_ring : List Str := ["lists", "found"]
theorem sc_merge_or_ring : FnScope n_merge_or_ring ["lists"] (defScope s_merge_or_ring) := ⟨rfl, rfl, rfl, by decide +kernel, rfl, by decide +kernel, by decide +kernel⟩
abbrev s_is_name : Stmt := top 29
abbrev n_is_name : List Str := ["thing", "sign"]
theorem sc_is_name : FnScope n_is_name ["thing"] (defScope s_is_name) := ⟨rfl, rfl, rfl, by decide +kernel, rfl, by decide +kernel, by decide +kernel⟩
abbrev s_look_kind : Stmt := top 35
abbrev n_look_kind : List Str := ["registry", "name"]
theorem sc_look_kind : FnScope n_look_kind ["registry", "name"] (defScope s_look_kind) := ⟨rfl, rfl, rfl, by decide +kernel, rfl, by decide +kernel, by decide +kernel⟩
abbrev s_bad_item : Stmt := top 37
abbrev n_bad_item : List Str := ["registry", "items", "at", "item"]
theorem sc_bad_item : FnScope n_bad_item ["registry", "items"] (defScope s_bad_item) := ⟨rfl, rfl, rfl, by decide +kernel, rfl, by decide +kernel, by decide +kernel⟩
abbrev s_bad_bases : Stmt := top 38
abbrev n_bad_bases : List Str := ["registry", "thing"]
theorem sc_bad_bases : FnScope n_bad_bases ["registry", "thing"] (defScope s_bad_bases) := ⟨rfl, rfl, rfl, by decide +kernel, rfl, by decide +kernel, by decide +kernel⟩
abbrev s_look_bases : Stmt := top 39
abbrev n_look_bases : List Str := ["registry", "thing", "at"]
theorem sc_look_bases : FnScope n_look_bases ["registry", "thing"] (defScope s_look_bases) := ⟨rfl, rfl, rfl, by decide +kernel, rfl, by decide +kernel, by decide +kernel⟩
abbrev s_lists_for : Stmt := top 41
abbrev n_lists_for : List Str := ["registry", "bases", "name"]
theorem sc_lists_for : FnScope n_lists_for ["registry", "bases"] (defScope s_lists_for) := ⟨rfl, rfl, rfl, by decide +kernel, rfl, by decide +kernel, by decide +kernel⟩
abbrev s_in_order : Stmt := top 55
abbrev n_in_order : List Str := ["keys", "key"]
theorem sc_in_order : FnScope n_in_order ["keys"] (defScope s_in_order) := ⟨rfl, rfl, rfl, by decide +kernel, rfl, by decide +kernel, by decide +kernel⟩
abbrev s_outdated : Stmt := top 56
abbrev n_outdated : List Str := ["registry", "dropped", "key", "answer"]
theorem sc_outdated : FnScope n_outdated ["registry"] (defScope s_outdated) := ⟨rfl, rfl, rfl, by decide +kernel, rfl, by decide +kernel, by decide +kernel⟩
abbrev s_lined : Stmt := top 72
abbrev n_lined : List Str := ["lines", "name", "bases", "merge", "ring", "base"]
theorem sc_lined : FnScope n_lined ["lines", "name", "bases"] (defScope s_lined) := ⟨rfl, rfl, rfl, by decide +kernel, rfl, by decide +kernel, by decide +kernel⟩
abbrev s_Registry___init__ : Stmt := inClass (top 73) 1
abbrev n_Registry___init__ : List Str := ["self"]
theorem sc_Registry___init__ : FnScope n_Registry___init__ ["self"] (defScope s_Registry___init__) := ⟨rfl, rfl, rfl, by decide +kernel, rfl, by decide +kernel, by decide +kernel⟩
abbrev s_Registry_has : Stmt := inClass (top 73) 8
abbrev n_Registry_has : List Str := ["self", "thing"]
theorem sc_Registry_has : FnScope n_Registry_has ["self", "thing"] (defScope s_Registry_has) := ⟨rfl, rfl, rfl, by decide +kernel, rfl, by decide +kernel, by decide +kernel⟩
abbrev s_Registry_remember : Stmt := inClass (top 73) 9
abbrev n_Registry_remember : List Str := ["self", "kinds"]
theorem sc_Registry_remember : FnScope n_Registry_remember ["self"] (defScope s_Registry_remember) := ⟨rfl, rfl, rfl, by decide +kernel, rfl, by decide +kernel, by decide +kernel⟩
abbrev s_Registry_look_bases : Stmt := inClass (top 73) 11
abbrev n_Registry_look_bases : List Str := ["self", "thing", "barred", "at", "wrong", "spot", "item"]
theorem sc_Registry_look_bases : FnScope n_Registry_look_bases ["self", "thing", "barred"] (defScope s_Registry_look_bases) := ⟨rfl, rfl, rfl, by decide +kernel, rfl, by decide +kernel, by decide +kernel⟩
abbrev s_Registry_add : Stmt := inClass (top 73) 12
abbrev n_Registry_add : List Str := ["self", "name", "bases", "line"]
theorem sc_Registry_add : FnScope n_Registry_add ["self", "name", "bases"] (defScope s_Registry_add) := ⟨rfl, rfl, rfl, by decide +kernel, rfl, by decide +kernel, by decide +kernel⟩
abbrev s_is_future_list : Stmt := top 75
abbrev n_is_future_list : List Str := ["registry", "bases"]
theorem sc_is_future_list : FnScope n_is_future_list ["registry", "bases"] (defScope s_is_future_list) := ⟨rfl, rfl, rfl, by decide +kernel, rfl, by decide +kernel, by decide +kernel⟩
abbrev s_parts_of : Stmt := top 76
abbrev n_parts_of : List Str := ["bases", "size", "found", "at", "part"]
theorem sc_parts_of : FnScope n_parts_of ["bases", "size"] (defScope s_parts_of) := ⟨rfl, rfl, rfl, by decide +kernel, rfl, by decide +kernel, by decide +kernel⟩
abbrev s_kept : Stmt := top 77
abbrev n_kept : List Str := ["registry", "bases", "size", "found", "greater", "part"]
theorem sc_kept : FnScope n_kept ["registry", "bases"] (defScope s_kept) := ⟨rfl, rfl, rfl, by decide +kernel, rfl, by decide +kernel, by decide +kernel⟩
abbrev s__law_bag : Stmt := top 79
abbrev n__law_bag : List Str := ["_law_script", "_law_at", "_law_cell", "_law_digits"]
theorem sc__law_bag : FnScope n__law_bag ["_law_script", "_law_at"] (defScope s__law_bag) := ⟨rfl, rfl, rfl, by decide +kernel, rfl, by decide +kernel, by decide +kernel⟩
abbrev s__law_take : Stmt := top 80
abbrev n__law_take : List Str := ["_law_bag_here", "_law_many", "_law_digit"]
theorem sc__law_take : FnScope n__law_take ["_law_bag_here", "_law_many"] (defScope s__law_take) := ⟨rfl, rfl, rfl, by decide +kernel, rfl, by decide +kernel, by decide +kernel⟩
abbrev s__law_names : Stmt := top 81
abbrev n__law_names : List Str := ["_law_bag_here", "_law_many", "_law_letters", "_law_size", "_law_spot", "_law_first", "_law_base", "_law_own", "_law_k", "_law_one"]
theorem sc__law_names : FnScope n__law_names ["_law_bag_here", "_law_many"] (defScope s__law_names) := ⟨rfl, rfl, rfl, by decide +kernel, rfl, by decide +kernel, by decide +kernel⟩
abbrev s__law_merge : Stmt := top 82
abbrev n__law_merge : List Str := ["_law_lists", "_law_rows", "_law_found", "_law_ready", "_law_row", "_law_other", "_law_one"]
theorem sc__law_merge : FnScope n__law_merge ["_law_lists"] (defScope s__law_merge) := ⟨rfl, rfl, rfl, by decide +kernel, rfl, by decide +kernel, by decide +kernel⟩
abbrev s__law_some : Stmt := top 83
abbrev n__law_some : List Str := ["_law_bag_here", "_law_things", "_law_most", "_law_left", "_law_found", "_law_turn"]
theorem sc__law_some : FnScope n__law_some ["_law_bag_here", "_law_things", "_law_most"] (defScope s__law_some) := ⟨rfl, rfl, rfl, by decide +kernel, rfl, by decide +kernel, by decide +kernel⟩
abbrev s__law_kinds : Stmt := top 84
abbrev n__law_kinds : List Str := ["_law_bag_here", "_law_names_here", "_law_above", "_law_lines", "_law_at", "_law_name", "_law_found", "_law_one"]
theorem sc__law_kinds : FnScope n__law_kinds ["_law_bag_here", "_law_names_here"] (defScope s__law_kinds) := ⟨rfl, rfl, rfl, by decide +kernel, rfl, by decide +kernel, by decide +kernel⟩
abbrev s__law_set : Stmt := top 85
abbrev n__law_set : List Str := ["_law_above", "_law_lines", "_law_bodies", "_law_registry", "_law_name", "_law_call"]
theorem sc__law_set : FnScope n__law_set ["_law_above", "_law_lines", "_law_bodies"] (defScope s__law_set) := ⟨rfl, rfl, rfl, by decide +kernel, rfl, by decide +kernel, by decide +kernel⟩
abbrev s__law_bases : Stmt := top 86
abbrev n__law_bases : List Str := ["_law_bag_here", "_law_names_here", "_law_found"]
theorem sc__law_bases : FnScope n__law_bases ["_law_bag_here", "_law_names_here"] (defScope s__law_bases) := ⟨rfl, rfl, rfl, by decide +kernel, rfl, by decide +kernel, by decide +kernel⟩
abbrev s_law : Stmt := top 87
abbrev n_law : List Str := ["_law_script", "_law_k", "_law_bag_here", "_law_names_here", "_law_above", "_law_lines", "_law_registry", "_law_turn", "_law_bases_here", "_law_told", "_law_at", "_law_less", "_law_size", "_law_name", "_law_more", "_law_one"]
theorem sc_law : FnScope n_law ["_law_script"] (defScope s_law) := ⟨rfl, rfl, rfl, by decide +kernel, rfl, by decide +kernel, by decide +kernel⟩
end W
end
section
set_option Elab.async false
set_option linter.all false
set_option maxRecDepth 100000
set_option maxHeartbeats 4000000
open PySem L2 D PyProof.Rows
local macro_rules
  | `(tactic| fail "z") => `(tactic| ((try simp only [List.length_map, List.length_cons, List.length_nil, List.length_append, List.length_drop, List.length_take]); have := big_line; omega))
local macro_rules
  | `(tactic| fail) => `(tactic| first
    | ((with_reducible refine (?_ : SE _ _ _ _ _ _)); first | refine se_nm rfl ?_ | refine se_tyTuple (by assumption) ?_ | refine se_tyStr (by assumption) ?_ | refine se_tyInt (by assumption) ?_ | refine se_tyBool (by assumption) ?_ | refine se_int ?_ | refine se_str ?_ | refine se_non ?_ | refine se_bl ?_ | refine se_cmp ?_ | refine se_bin ?_ | refine se_backT ?_ | refine se_ix ?_ | refine se_slice ?_ | refine se_tup ?_ | refine se_lst ?_ | ((with_reducible refine (?_ : SE _ _ _ _ (.Call _ _ _ _) _)); first | refine se_any (by assumption) ?_ | refine se_all (by assumption) ?_ | refine se_len (by assumption) ?_ | refine se_min (by assumption) ?_ | refine se_max (by assumption) ?_ | refine se_sorted (by assumption) ?_ | refine se_isi (by assumption) ?_ | refine se_abs (by assumption) ?_ | refine se_sum (by assumption) ?_ | refine se_tupleC (by assumption) ?_ | refine se_listC (by assumption) ?_) | refine se_M rfl (by assumption) (blkOk_by rfl) ?_ | refine se_F rfl (by assumption) (blkOk_by rfl) ?_ | refine se_Dc rfl (by assumption) (blkOk_by rfl) ?_ | refine se_chain ?_ | refine se_indexN ?_ | refine se_not ?_ | refine se_if ?_ | refine se_one ?_ | refine se_and ?_ | refine se_or ?_ | refine se_neg ?_)
    | ((with_reducible refine (?_ : ST _ _ _ _ _ _)); first | refine st_cmp ?_ | refine st_chain ?_ | refine st_not ?_ | refine st_w (sw_and ?_) | refine st_w (sw_or ?_) | refine st_val ?_)
    | ((with_reducible refine (?_ : SWt _ _ _ _ _ _)); first | refine sw_and ?_ | refine sw_and1 ?_ | refine sw_or ?_ | refine sw_or1 ?_)
    | ((with_reducible refine (?_ : SA _ _ _ _ _ _)); first | refine sa_cons ?_ | refine sa_nil ?_)
    | ((with_reducible refine (?_ : SO _ _ _ _ _ _)); first | refine so_none ?_ | refine so_some ?_)
    | ((with_reducible refine (?_ : SS _ _ _ _ _ _)); first | refine ss_one ?_ | refine ss_cons ?_)
    | ((with_reducible refine (?_ : S1 _ _ _ _ _ _)); first | refine s_ret ?_ | refine s_if ?_ | refine s_M rfl (by assumption) (blkOk_by rfl) ?_ | refine s_F rfl (by assumption) (blkOk_by rfl) ?_ | refine s_Dc rfl (by assumption) (blkOk_by rfl) ?_ | refine s_st (by assumption) ?_ | refine s_aug (by assumption) rfl ?_ | refine s_asg ?_ | refine s_expr ?_)
    | ((with_reducible refine (?_ : SG _ _ _ _ _ _ _)); first | refine sg_nm (by assumption) ?_ | refine sg_par rfl ?_ | refine sg_tup rfl ?_)
    | ((with_reducible refine (?_ : SGs _ _ _ _ _ _ _)); first | refine sgs_cons ?_ | refine sgs_nil ?_)
    | ((with_reducible refine (?_ : SGb _ _ _ _ _ _ _ _)); first | refine sgb_nm (by assumption) ?_ (by first | exact vs_self | exact vs_one | exact vs_two) | refine sgb_par rfl ?_ | refine sgb_tup rfl ?_)
    | ((with_reducible refine (?_ : SGbs _ _ _ _ _ _ _ _)); first | refine sgbs_cons ?_ | refine sgbs_nil ?_)
    | ((with_reducible refine (?_ : SW _ _ _ _ _ _ _)); first | refine sw_vals ?_ | refine sw_zipT (by assumption) ?_ | refine sw_range (by assumption) ?_ | refine sw_seq ?_)
    | ((with_reducible refine (?_ : OpV _ _ _ _ _ _ _ _)); first | refine ov_eqN ?_ | refine ov_neN ?_ | refine ov_inN ?_ | refine ov_ninN ?_ | refine ov_inNT ?_ | refine ov_ninNT ?_ | refine oi_add ?_ | refine oi_catT (by fail "z") ?_ | refine ov_cat (by fail "z") ?_ | refine ov_catT (by fail "z") ?_ | refine ov_add ?_ | refine ov_sub ?_ | refine ov_lt ?_ | refine ov_le ?_ | refine ov_gt ?_ | refine ov_ge ?_ | refine ov_eqI ?_ | refine ov_neI ?_ | refine ov_eqS ?_ | refine ov_neS ?_ | refine ov_eqB ?_ | refine ov_neB ?_)
    | ((with_reducible refine (?_ : IxV _ _ _ _ _ _ _)); first | refine iv_cons ?_ | refine iv_consT ?_)
    | ((with_reducible refine (?_ : SlV _ _ _ _ _ _ _ _)); first | refine sv_fromL (by decide) ?_ | refine sv_fromT (by decide) ?_ | refine sv_toL (by decide) ?_ | refine sv_toT (by decide) ?_)
    | ((with_reducible refine (?_ : ClV _ _ _ _ _ _ _)); first | refine cv_anyM rfl ?_ | refine cv_allM rfl ?_ | refine cv_len rfl ?_ | refine cv_tuple rfl ?_ | refine cv_list rfl ?_ | refine cv_abs ?_ | refine cv_isStr rfl ?_ | refine cv_isTup rfl ?_ | refine cv_isInt rfl ?_ | refine cv_isBool rfl ?_ | refine cv_sum rfl ?_)
    | (with_reducible refine turn0I (fun _ _ _ _ _ _ => ?_)) | (with_reducible refine turn1I (fun _ _ _ _ _ _ => ?_)) | (with_reducible refine turnDI (fun _ _ _ _ _ _ => ?_)) | (with_reducible refine abI (fun _ _ _ _ _ => ?_)) | ((with_reducible show (if _ then _ else _)); first | refine iteT ?_ | refine iteF ?_) | ((with_reducible refine (?_ : And _ _)); refine And.intro (show _ ≤ sizeLine by fail "z") ?_) | ((with_reducible refine (?_ : Exists _)); refine ⟨_, rfl, ?_⟩))
local macro_rules
  | `(tactic| fail "e") => `(tactic| first
    | ((with_reducible refine (?_ : SE _ _ _ _ _ _)); first | refine se_nm rfl ?_ | refine se_tyTuple (by assumption) ?_ | refine se_tyStr (by assumption) ?_ | refine se_tyInt (by assumption) ?_ | refine se_tyBool (by assumption) ?_ | refine se_int ?_ | refine se_str ?_ | refine se_non ?_ | refine se_bl ?_ | refine se_cmp ?_ | refine se_bin ?_ | refine se_backT ?_ | refine se_ix ?_ | refine se_slice ?_ | refine se_tup ?_ | refine se_lst ?_ | ((with_reducible refine (?_ : SE _ _ _ _ (.Call _ _ _ _) _)); first | refine se_any (by assumption) ?_ | refine se_all (by assumption) ?_ | refine se_len (by assumption) ?_ | refine se_min (by assumption) ?_ | refine se_max (by assumption) ?_ | refine se_sorted (by assumption) ?_ | refine se_isi (by assumption) ?_ | refine se_abs (by assumption) ?_ | refine se_sum (by assumption) ?_ | refine se_tupleC (by assumption) ?_ | refine se_listC (by assumption) ?_) | refine se_M rfl (by assumption) (blkOk_by rfl) ?_ | refine se_F rfl (by assumption) (blkOk_by rfl) ?_ | refine se_Dc rfl (by assumption) (blkOk_by rfl) ?_ | refine se_chain ?_ | refine se_indexN ?_ | refine se_not ?_ | refine se_if ?_ | refine se_one ?_ | refine se_and ?_ | refine se_or ?_ | refine se_neg ?_)
    | ((with_reducible refine (?_ : ST _ _ _ _ _ _)); first | refine st_cmp ?_ | refine st_chain ?_ | refine st_not ?_ | refine st_w (sw_and ?_) | refine st_w (sw_or ?_) | refine st_val ?_)
    | ((with_reducible refine (?_ : SWt _ _ _ _ _ _)); first | refine sw_and ?_ | refine sw_and1 ?_ | refine sw_or ?_ | refine sw_or1 ?_)
    | ((with_reducible refine (?_ : SA _ _ _ _ _ _)); first | refine sa_cons ?_ | refine sa_nil ?_)
    | ((with_reducible refine (?_ : SO _ _ _ _ _ _)); first | refine so_none ?_ | refine so_some ?_)
    | ((with_reducible refine (?_ : SG _ _ _ _ _ _ _)); first | refine sg_nm (by assumption) ?_ | refine sg_par rfl ?_ | refine sg_tup rfl ?_)
    | ((with_reducible refine (?_ : SGs _ _ _ _ _ _ _)); first | refine sgs_cons ?_ | refine sgs_nil ?_)
    | ((with_reducible refine (?_ : SGb _ _ _ _ _ _ _ _)); first | refine sgb_nm (by assumption) ?_ (by first | exact vs_self | exact vs_one | exact vs_two) | refine sgb_par rfl ?_ | refine sgb_tup rfl ?_)
    | ((with_reducible refine (?_ : SGbs _ _ _ _ _ _ _ _)); first | refine sgbs_cons ?_ | refine sgbs_nil ?_)
    | ((with_reducible refine (?_ : SW _ _ _ _ _ _ _)); first | refine sw_vals ?_ | refine sw_zipT (by assumption) ?_ | refine sw_range (by assumption) ?_ | refine sw_seq ?_)
    | ((with_reducible refine (?_ : OpV _ _ _ _ _ _ _ _)); first | refine ov_eqN ?_ | refine ov_neN ?_ | refine ov_inN ?_ | refine ov_ninN ?_ | refine ov_inNT ?_ | refine ov_ninNT ?_ | refine oi_add ?_ | refine oi_catT (by fail "z") ?_ | refine ov_cat (by fail "z") ?_ | refine ov_catT (by fail "z") ?_ | refine ov_add ?_ | refine ov_sub ?_ | refine ov_lt ?_ | refine ov_le ?_ | refine ov_gt ?_ | refine ov_ge ?_ | refine ov_eqI ?_ | refine ov_neI ?_ | refine ov_eqS ?_ | refine ov_neS ?_ | refine ov_eqB ?_ | refine ov_neB ?_)
    | ((with_reducible refine (?_ : IxV _ _ _ _ _ _ _)); first | refine iv_cons ?_ | refine iv_consT ?_)
    | ((with_reducible refine (?_ : SlV _ _ _ _ _ _ _ _)); first | refine sv_fromL (by decide) ?_ | refine sv_fromT (by decide) ?_ | refine sv_toL (by decide) ?_ | refine sv_toT (by decide) ?_)
    | ((with_reducible refine (?_ : ClV _ _ _ _ _ _ _)); first | refine cv_anyM rfl ?_ | refine cv_allM rfl ?_ | refine cv_len rfl ?_ | refine cv_tuple rfl ?_ | refine cv_list rfl ?_ | refine cv_abs ?_ | refine cv_isStr rfl ?_ | refine cv_isTup rfl ?_ | refine cv_isInt rfl ?_ | refine cv_isBool rfl ?_ | refine cv_sum rfl ?_)
    | (with_reducible refine turn0I (fun _ _ _ _ _ _ => ?_)) | (with_reducible refine turn1I (fun _ _ _ _ _ _ => ?_)) | (with_reducible refine turnDI (fun _ _ _ _ _ _ => ?_)) | (with_reducible refine abI (fun _ _ _ _ _ => ?_)) | ((with_reducible show (if _ then _ else _)); first | refine iteT ?_ | refine iteF ?_) | ((with_reducible refine (?_ : And _ _)); refine And.intro (show _ ≤ sizeLine by fail "z") ?_) | ((with_reducible refine (?_ : Exists _)); refine ⟨_, rfl, ?_⟩))
namespace W
open PySem L2 D PyProof.Rows
structure Txt (mg : Str → Option Value) : Prop where
  any : mg "any" = none
  all : mg "all" = none
  len : mg "len" = none
  min : mg "min" = none
  max : mg "max" = none
  abs : mg "abs" = none
  isi : mg "isinstance" = none
  tuple : mg "tuple" = none
  list : mg "list" = none
  sorted : mg "sorted" = none
  sum : mg "sum" = none
  str : mg "str" = none
  int : mg "int" = none
  bool : mg "bool" = none
  range : mg "range" = none
  enumerate : mg "enumerate" = none
  zip : mg "zip" = none
abbrev rowD (r : List Nm) : Dt := nL r
def freeIn (R : List (List Nm)) (x : Nm) : Bool := !(R.any fun o => decide (x ∈ o.drop 1))
def nextFrom (R : List (List Nm)) : List (List Nm) → Option Nm
  | [] => none
  | [] :: rest => nextFrom R rest
  | (x :: _) :: rest => if freeIn R x = true then some x else nextFrom R rest
def optD : Option Nm → Dt
  | none => .non
  | some x => nD x
section
variable {P : Program} {w : World} {K : PySem.W.Frag} {mg : Str → Option Value} {base : Heap}
abbrev RowsOk (R : List (List Nm)) : Prop := R.length ≤ 100 ∧ ∀ r ∈ R, r.length ≤ 100
abbrev sp_next_name (K : PySem.W.Frag) : Sp := spP K (fun R : List (List Nm) => [.lst (R.map rowD)]) RowsOk (fun R d => d = optD (nextFrom R R))
theorem ok_next_name {f : Addr} {fd : FuncData} (Fu : Fun K "next_name" "next_name" s_next_name f fd) (T : Txt mg) : FnOk P w K mg base (L2.CX P w) 1 f fd ["rows"] (sp_next_name K) := by
  refine fn_P Fu sc_next_name (fun a => rfl) (fun cdv A outer s H E F R hp hr => ?_)
  have nd := sc_next_name.nd
  have hany := T.any
  obtain ⟨hp1, hp2⟩ := hp
  refine ss_cons ?_
  refine s_for (passes_of rfl) rfl ?_
  refine sw_lst ?_
  repeat fail
  refine for_t (fun rest Γ c => (∃ u, Γ = [.dat (.lst (R.map rowD)), u, .un] ∧ c = []) ∧ nextFrom R rest = nextFrom R R) ⟨⟨_, rfl, rfl⟩, rfl⟩ ?_ ?_
  · rintro pre r rest Γ c hl ⟨⟨u, rfl, rfl⟩, hn⟩
    refine sg_name 1 sc_next_name.nd ?_
    repeat fail
    refine ov_neNil hr.units (fit_nL r) ?_
    repeat fail
    refine ite2 (fun h => ?_) (fun h => ?_)
    · cases r with
      | nil => cases h
      | cons x r =>
        repeat fail
        apply lcM
        · fail "z"
        · intro o ho
          repeat fail
          exact ⟨rfl, rfl⟩
        repeat fail
        refine ite2 (fun h => ?_) (fun h => ?_)
        · repeat fail
          refine ⟨rfl, ?_⟩
          rw [← hn]; unfold nextFrom; rw [if_pos (show freeIn R x = true from h)]; rfl
        · refine ss_nil ⟨⟨_, rfl, rfl⟩, ?_⟩
          rw [← hn]; conv => rhs; unfold nextFrom; rw [if_neg (show ¬ freeIn R x = true from h)]
    · repeat fail
      refine ss_nil  ?_
      refine ⟨⟨_, rfl, rfl⟩, ?_⟩
      cases r with
      | nil => rw [← hn]; rfl
      | cons x r => exact absurd rfl h
  · rintro Γ c ⟨⟨u, rfl, rfl⟩, hn⟩
    repeat fail
    exact ⟨rfl, by rw [← hn]; rfl⟩
end
end W
end
section
set_option Elab.async false
set_option linter.all false
set_option maxRecDepth 100000
set_option maxHeartbeats 4000000
open PySem L2 D PyProof.Rows
local macro_rules
  | `(tactic| fail "z") => `(tactic| ((try simp only [List.length_map, List.length_cons, List.length_nil, List.length_append, List.length_drop, List.length_take]); have := big_line; omega))
local macro_rules
  | `(tactic| fail) => `(tactic| first
    | ((with_reducible refine (?_ : SE _ _ _ _ _ _)); first | refine se_nm rfl ?_ | refine se_tyTuple (by assumption) ?_ | refine se_tyStr (by assumption) ?_ | refine se_tyInt (by assumption) ?_ | refine se_tyBool (by assumption) ?_ | refine se_int ?_ | refine se_str ?_ | refine se_non ?_ | refine se_bl ?_ | refine se_cmp ?_ | refine se_bin ?_ | refine se_backT ?_ | refine se_ix ?_ | refine se_slice ?_ | refine se_tup ?_ | refine se_lst ?_ | ((with_reducible refine (?_ : SE _ _ _ _ (.Call _ _ _ _) _)); first | refine se_any (by assumption) ?_ | refine se_all (by assumption) ?_ | refine se_len (by assumption) ?_ | refine se_min (by assumption) ?_ | refine se_max (by assumption) ?_ | refine se_sorted (by assumption) ?_ | refine se_isi (by assumption) ?_ | refine se_abs (by assumption) ?_ | refine se_sum (by assumption) ?_ | refine se_tupleC (by assumption) ?_ | refine se_listC (by assumption) ?_) | refine se_M rfl (by assumption) (blkOk_by rfl) ?_ | refine se_F rfl (by assumption) (blkOk_by rfl) ?_ | refine se_Dc rfl (by assumption) (blkOk_by rfl) ?_ | refine se_chain ?_ | refine se_indexN ?_ | refine se_not ?_ | refine se_if ?_ | refine se_one ?_ | refine se_and ?_ | refine se_or ?_ | refine se_neg ?_)
    | ((with_reducible refine (?_ : ST _ _ _ _ _ _)); first | refine st_cmp ?_ | refine st_chain ?_ | refine st_not ?_ | refine st_w (sw_and ?_) | refine st_w (sw_or ?_) | refine st_val ?_)
    | ((with_reducible refine (?_ : SWt _ _ _ _ _ _)); first | refine sw_and ?_ | refine sw_and1 ?_ | refine sw_or ?_ | refine sw_or1 ?_)
    | ((with_reducible refine (?_ : SA _ _ _ _ _ _)); first | refine sa_cons ?_ | refine sa_nil ?_)
    | ((with_reducible refine (?_ : SO _ _ _ _ _ _)); first | refine so_none ?_ | refine so_some ?_)
    | ((with_reducible refine (?_ : SS _ _ _ _ _ _)); first | refine ss_one ?_ | refine ss_cons ?_)
    | ((with_reducible refine (?_ : S1 _ _ _ _ _ _)); first | refine s_ret ?_ | refine s_if ?_ | refine s_M rfl (by assumption) (blkOk_by rfl) ?_ | refine s_F rfl (by assumption) (blkOk_by rfl) ?_ | refine s_Dc rfl (by assumption) (blkOk_by rfl) ?_ | refine s_st (by assumption) ?_ | refine s_aug (by assumption) rfl ?_ | refine s_asg ?_ | refine s_expr ?_)
    | ((with_reducible refine (?_ : SG _ _ _ _ _ _ _)); first | refine sg_nm (by assumption) ?_ | refine sg_par rfl ?_ | refine sg_tup rfl ?_)
    | ((with_reducible refine (?_ : SGs _ _ _ _ _ _ _)); first | refine sgs_cons ?_ | refine sgs_nil ?_)
    | ((with_reducible refine (?_ : SGb _ _ _ _ _ _ _ _)); first | refine sgb_nm (by assumption) ?_ (by first | exact vs_self | exact vs_one | exact vs_two) | refine sgb_par rfl ?_ | refine sgb_tup rfl ?_)
    | ((with_reducible refine (?_ : SGbs _ _ _ _ _ _ _ _)); first | refine sgbs_cons ?_ | refine sgbs_nil ?_)
    | ((with_reducible refine (?_ : SW _ _ _ _ _ _ _)); first | refine sw_vals ?_ | refine sw_zipT (by assumption) ?_ | refine sw_range (by assumption) ?_ | refine sw_seq ?_)
    | ((with_reducible refine (?_ : OpV _ _ _ _ _ _ _ _)); first | refine ov_eqN ?_ | refine ov_neN ?_ | refine ov_inN ?_ | refine ov_ninN ?_ | refine ov_inNT ?_ | refine ov_ninNT ?_ | refine oi_add ?_ | refine oi_catT (by fail "z") ?_ | refine ov_cat (by fail "z") ?_ | refine ov_catT (by fail "z") ?_ | refine ov_add ?_ | refine ov_sub ?_ | refine ov_lt ?_ | refine ov_le ?_ | refine ov_gt ?_ | refine ov_ge ?_ | refine ov_eqI ?_ | refine ov_neI ?_ | refine ov_eqS ?_ | refine ov_neS ?_ | refine ov_eqB ?_ | refine ov_neB ?_)
    | ((with_reducible refine (?_ : IxV _ _ _ _ _ _ _)); first | refine iv_cons ?_ | refine iv_consT ?_)
    | ((with_reducible refine (?_ : SlV _ _ _ _ _ _ _ _)); first | refine sv_fromL (by decide) ?_ | refine sv_fromT (by decide) ?_ | refine sv_toL (by decide) ?_ | refine sv_toT (by decide) ?_)
    | ((with_reducible refine (?_ : ClV _ _ _ _ _ _ _)); first | refine cv_anyM rfl ?_ | refine cv_allM rfl ?_ | refine cv_len rfl ?_ | refine cv_tuple rfl ?_ | refine cv_list rfl ?_ | refine cv_abs ?_ | refine cv_isStr rfl ?_ | refine cv_isTup rfl ?_ | refine cv_isInt rfl ?_ | refine cv_isBool rfl ?_ | refine cv_sum rfl ?_)
    | (with_reducible refine turn0I (fun _ _ _ _ _ _ => ?_)) | (with_reducible refine turn1I (fun _ _ _ _ _ _ => ?_)) | (with_reducible refine turnDI (fun _ _ _ _ _ _ => ?_)) | (with_reducible refine abI (fun _ _ _ _ _ => ?_)) | ((with_reducible show (if _ then _ else _)); first | refine iteT ?_ | refine iteF ?_) | ((with_reducible refine (?_ : And _ _)); refine And.intro (show _ ≤ sizeLine by fail "z") ?_) | ((with_reducible refine (?_ : Exists _)); refine ⟨_, rfl, ?_⟩))
local macro_rules
  | `(tactic| fail "e") => `(tactic| first
    | ((with_reducible refine (?_ : SE _ _ _ _ _ _)); first | refine se_nm rfl ?_ | refine se_tyTuple (by assumption) ?_ | refine se_tyStr (by assumption) ?_ | refine se_tyInt (by assumption) ?_ | refine se_tyBool (by assumption) ?_ | refine se_int ?_ | refine se_str ?_ | refine se_non ?_ | refine se_bl ?_ | refine se_cmp ?_ | refine se_bin ?_ | refine se_backT ?_ | refine se_ix ?_ | refine se_slice ?_ | refine se_tup ?_ | refine se_lst ?_ | ((with_reducible refine (?_ : SE _ _ _ _ (.Call _ _ _ _) _)); first | refine se_any (by assumption) ?_ | refine se_all (by assumption) ?_ | refine se_len (by assumption) ?_ | refine se_min (by assumption) ?_ | refine se_max (by assumption) ?_ | refine se_sorted (by assumption) ?_ | refine se_isi (by assumption) ?_ | refine se_abs (by assumption) ?_ | refine se_sum (by assumption) ?_ | refine se_tupleC (by assumption) ?_ | refine se_listC (by assumption) ?_) | refine se_M rfl (by assumption) (blkOk_by rfl) ?_ | refine se_F rfl (by assumption) (blkOk_by rfl) ?_ | refine se_Dc rfl (by assumption) (blkOk_by rfl) ?_ | refine se_chain ?_ | refine se_indexN ?_ | refine se_not ?_ | refine se_if ?_ | refine se_one ?_ | refine se_and ?_ | refine se_or ?_ | refine se_neg ?_)
    | ((with_reducible refine (?_ : ST _ _ _ _ _ _)); first | refine st_cmp ?_ | refine st_chain ?_ | refine st_not ?_ | refine st_w (sw_and ?_) | refine st_w (sw_or ?_) | refine st_val ?_)
    | ((with_reducible refine (?_ : SWt _ _ _ _ _ _)); first | refine sw_and ?_ | refine sw_and1 ?_ | refine sw_or ?_ | refine sw_or1 ?_)
    | ((with_reducible refine (?_ : SA _ _ _ _ _ _)); first | refine sa_cons ?_ | refine sa_nil ?_)
    | ((with_reducible refine (?_ : SO _ _ _ _ _ _)); first | refine so_none ?_ | refine so_some ?_)
    | ((with_reducible refine (?_ : SG _ _ _ _ _ _ _)); first | refine sg_nm (by assumption) ?_ | refine sg_par rfl ?_ | refine sg_tup rfl ?_)
    | ((with_reducible refine (?_ : SGs _ _ _ _ _ _ _)); first | refine sgs_cons ?_ | refine sgs_nil ?_)
    | ((with_reducible refine (?_ : SGb _ _ _ _ _ _ _ _)); first | refine sgb_nm (by assumption) ?_ (by first | exact vs_self | exact vs_one | exact vs_two) | refine sgb_par rfl ?_ | refine sgb_tup rfl ?_)
    | ((with_reducible refine (?_ : SGbs _ _ _ _ _ _ _ _)); first | refine sgbs_cons ?_ | refine sgbs_nil ?_)
    | ((with_reducible refine (?_ : SW _ _ _ _ _ _ _)); first | refine sw_vals ?_ | refine sw_zipT (by assumption) ?_ | refine sw_range (by assumption) ?_ | refine sw_seq ?_)
    | ((with_reducible refine (?_ : OpV _ _ _ _ _ _ _ _)); first | refine ov_eqN ?_ | refine ov_neN ?_ | refine ov_inN ?_ | refine ov_ninN ?_ | refine ov_inNT ?_ | refine ov_ninNT ?_ | refine oi_add ?_ | refine oi_catT (by fail "z") ?_ | refine ov_cat (by fail "z") ?_ | refine ov_catT (by fail "z") ?_ | refine ov_add ?_ | refine ov_sub ?_ | refine ov_lt ?_ | refine ov_le ?_ | refine ov_gt ?_ | refine ov_ge ?_ | refine ov_eqI ?_ | refine ov_neI ?_ | refine ov_eqS ?_ | refine ov_neS ?_ | refine ov_eqB ?_ | refine ov_neB ?_)
    | ((with_reducible refine (?_ : IxV _ _ _ _ _ _ _)); first | refine iv_cons ?_ | refine iv_consT ?_)
    | ((with_reducible refine (?_ : SlV _ _ _ _ _ _ _ _)); first | refine sv_fromL (by decide) ?_ | refine sv_fromT (by decide) ?_ | refine sv_toL (by decide) ?_ | refine sv_toT (by decide) ?_)
    | ((with_reducible refine (?_ : ClV _ _ _ _ _ _ _)); first | refine cv_anyM rfl ?_ | refine cv_allM rfl ?_ | refine cv_len rfl ?_ | refine cv_tuple rfl ?_ | refine cv_list rfl ?_ | refine cv_abs ?_ | refine cv_isStr rfl ?_ | refine cv_isTup rfl ?_ | refine cv_isInt rfl ?_ | refine cv_isBool rfl ?_ | refine cv_sum rfl ?_)
    | (with_reducible refine turn0I (fun _ _ _ _ _ _ => ?_)) | (with_reducible refine turn1I (fun _ _ _ _ _ _ => ?_)) | (with_reducible refine turnDI (fun _ _ _ _ _ _ => ?_)) | (with_reducible refine abI (fun _ _ _ _ _ => ?_)) | ((with_reducible show (if _ then _ else _)); first | refine iteT ?_ | refine iteF ?_) | ((with_reducible refine (?_ : And _ _)); refine And.intro (show _ ≤ sizeLine by fail "z") ?_) | ((with_reducible refine (?_ : Exists _)); refine ⟨_, rfl, ?_⟩))
namespace W
open PySem L2 D PyProof.Rows
def total (R : List (List Nm)) : Nat := (R.map List.length).sum
def without (R : List (List Nm)) (x : Nm) : List (List Nm) := R.map fun r => r.filter fun o => !decide (o = x)
def mergeF : Nat → List (List Nm) → List Nm → Option (List Nm)
  | 0, _, acc => some acc
  | n + 1, R, acc => if (R.any fun r => !r.isEmpty) = true then match nextFrom R R with
      | none => none
      | some x => mergeF n (without R x) (acc ++ [x]) else some acc
def merge (R : List (List Nm)) : Option (List Nm) := mergeF (total R + 1) R []
def optT : Option (List Nm) → Dt
  | none => .non
  | some l => nT l
theorem total_without_le (R : List (List Nm)) (x : Nm) : total (without R x) ≤ total R := by
  induction R with
  | nil => exact Nat.le_refl _
  | cons r R ih =>
    have h1 : (r.filter fun o => !decide (o = x)).length ≤ r.length := List.length_filter_le _ _
    show (r.filter fun o => !decide (o = x)).length + total (without R x) ≤ r.length + total R
    omega
theorem filter_lt {α : Type} {q : α → Bool} {a : α} : ∀ {l : List α}, a ∈ l → q a = false → (l.filter q).length < l.length
  | b :: l, h, hq => by
    rcases List.mem_cons.mp h with e | h
    · subst e
      rw [List.filter_cons_of_neg (by rw [hq]; exact Bool.false_ne_true)]
      have := List.length_filter_le q l
      simp; omega
    · have := filter_lt h hq
      by_cases e : q b = true
      · rw [List.filter_cons_of_pos e]; exact Nat.succ_lt_succ this
      · rw [List.filter_cons_of_neg e]; simp; omega
theorem total_without_lt {R : List (List Nm)} {x : Nm} {r : List Nm} (hr : r ∈ R) (hx : x ∈ r) : total (without R x) < total R := by
  induction R with
  | nil => cases hr
  | cons r' R ih =>
    show (r'.filter fun o => !decide (o = x)).length + total (without R x) < r'.length + total R
    rcases List.mem_cons.mp hr with e | h
    · subst e
      have h1 := filter_lt (q := fun o => !decide (o = x)) hx (by simp)
      have h2 := total_without_le R x
      omega
    · have h1 : (r'.filter fun o => !decide (o = x)).length ≤ r'.length := List.length_filter_le _ _
      have h2 := ih h
      omega
theorem nextFrom_some {R : List (List Nm)} {x : Nm} : ∀ {S : List (List Nm)}, nextFrom R S = some x → (∃ r, (x :: r) ∈ S) ∧ freeIn R x = true
  | [], h => by cases h
  | [] :: S, h => by
    obtain ⟨⟨r, h1⟩, h2⟩ := nextFrom_some (S := S) h
    exact ⟨⟨r, List.mem_cons_of_mem _ h1⟩, h2⟩
  | (y :: r) :: S, h => by
    unfold nextFrom at h
    by_cases e : freeIn R y = true
    · rw [if_pos e] at h; cases h
      exact ⟨⟨r, List.mem_cons_self ..⟩, e⟩
    · rw [if_neg e] at h
      obtain ⟨⟨r, h1⟩, h2⟩ := nextFrom_some (S := S) h
      exact ⟨⟨r, List.mem_cons_of_mem _ h1⟩, h2⟩
theorem nextFrom_none {R : List (List Nm)} : ∀ {S : List (List Nm)}, nextFrom R S = none → ∀ x r, (x :: r) ∈ S → freeIn R x = false
  | [] :: S, h, x, r, hm => by
    rcases List.mem_cons.mp hm with e | hm
    · cases e
    · exact nextFrom_none (S := S) h x r hm
  | (y :: r') :: S, h, x, r, hm => by
    unfold nextFrom at h
    by_cases e : freeIn R y = true
    · rw [if_pos e] at h; cases h
    · rw [if_neg e] at h
      rcases List.mem_cons.mp hm with z | hm
      · cases z; simpa using e
      · exact nextFrom_none (S := S) h x r hm
theorem ok_without {R : List (List Nm)} (h : RowsOk R) (x : Nm) : RowsOk (without R x) := by
  refine ⟨by unfold without; rw [List.length_map]; exact h.1, fun r hr => ?_⟩
  obtain ⟨r', h1, rfl⟩ := List.mem_map.mp hr
  exact Nat.le_trans (List.length_filter_le _ _) (h.2 r' h1)
theorem total_le {n : Nat} : ∀ {R : List (List Nm)}, (∀ r ∈ R, r.length ≤ n) → total R ≤ R.length * n
  | [], _ => Nat.zero_le _
  | r :: R, h => by
    have h1 := h r (List.mem_cons_self ..)
    have h2 := total_le (R := R) fun r hr => h r (List.mem_cons_of_mem _ hr)
    show r.length + total R ≤ (R.length + 1) * n
    rw [Nat.add_mul]; omega
theorem total_ok {R : List (List Nm)} (h : RowsOk R) : total R ≤ 10000 := by
  have := total_le h.2
  have := Nat.mul_le_mul_right 100 h.1
  omega
theorem mergeF_add (k : Nat) : ∀ {n : Nat} {R : List (List Nm)} {acc : List Nm}, total R < n → mergeF (n + k) R acc = mergeF n R acc := by
  intro n
  induction n with
  | zero => intro R acc h; omega
  | succ n ih =>
    intro R acc h
    rw [show n + 1 + k = n + k + 1 by omega]
    unfold mergeF
    cases hn : nextFrom R R with
    | none => rfl
    | some x =>
      obtain ⟨⟨r, hr⟩, _⟩ := nextFrom_some hn
      have hlt := total_without_lt hr (List.mem_cons_self ..)
      show (if _ then mergeF (n + k) (without R x) (acc ++ [x]) else _) = if _ then mergeF n (without R x) (acc ++ [x]) else _
      rw [ih (by omega)]
theorem mergeF_fuel {n : Nat} {R : List (List Nm)} {acc : List Nm} (h : total R < n) : mergeF n R acc = mergeF (total R + 1) R acc := by
  rw [show n = total R + 1 + (n - (total R + 1)) by omega]
  exact mergeF_add _ (by omega)
section
variable {P : Program} {w : World} {K : PySem.W.Frag} {mg : Str → Option Value} {base : Heap}
abbrev lisD (L : List (List Nm)) : Dt := .tup (L.map nT)
abbrev rowsD (L : List (List Nm)) : Dt := .lst (L.map rowD)
abbrev D_next_name (P : Program) (w : World) (K : PySem.W.Frag) (mg : Str → Option Value) (base : Heap) : Prop := DefOk P w K mg base 1 "next_name" ["rows"] (sp_next_name K)
abbrev sp_merge_or_none (K : PySem.W.Frag) : Sp := spP K (fun L : List (List Nm) => [lisD L]) RowsOk (fun L d => d = optT (merge L))
theorem ok_merge_or_none {f : Addr} {fd : FuncData} (Fu : Fun K "merge_or_none" "merge_or_none" s_merge_or_none f fd) (T : Txt mg) (Dn : D_next_name P w K mg base) : FnOk P w K mg base (L2.CX P w) 2 f fd ["lists"] (sp_merge_or_none K) := by
  refine fn_P Fu sc_merge_or_none (fun a => rfl) (fun cdv A outer s H E F L hp hr => ?_)
  have nd := sc_merge_or_none.nd
  have hany := T.any
  have hlist := T.list
  have hok := hp
  obtain ⟨hp1, hp2⟩ := hp
  repeat fail
  apply lcM
  · fail "z"
  · intro o ho
    repeat fail
    exact ⟨rfl, rfl⟩
  repeat fail
  refine s_while (passes_of rfl) (fun m Γ c => ∃ d1 d2 u3 u4 u5, (Γ = [.dat (lisD L), .dat d1, .dat d2, u3, u4, u5] ∧ c = []) ∧ ∃ R acc, d1 = rowsD R ∧ d2 = nT acc ∧ m = total R ∧ RowsOk R ∧ acc.length + total R ≤ 10000 ∧ mergeF (m + 1) R acc = merge L) (total L) ⟨_, _, _, _, _, ⟨rfl, rfl⟩, L, [], rfl, rfl, rfl, hok, by have := total_ok hok; simpa using this, rfl⟩ ?_
  rintro m Γ c ⟨_, _, u3, u4, u5, ⟨rfl, rfl⟩, R, acc, rfl, rfl, rfl, hR, hz, hm⟩
  have hR1 := hR.1
  repeat fail
  apply lcM
  · fail "z"
  · intro r hr'
    repeat fail
    refine ov_neNil hr.units (fit_nL r) ?_
    exact ⟨rfl, rfl⟩
  repeat fail
  refine ite2 (fun h => ?_) (fun h => ?_)
  · unfold mergeF at hm
    rw [if_pos h] at hm
    refine ss_cons (s_st nd (se_fP Dn (hr.mono (by decide)) ?_))
    repeat fail
    refine ⟨hR, ?_⟩
    rintro _ rfl
    repeat fail
    refine ov_isN (by cases nextFrom R R <;> exact fun _ z => nomatch z) ?_
    repeat fail
    cases hn : nextFrom R R with
    | none =>
      rw [hn] at hm
      repeat fail
      exact ⟨rfl, by rw [← hm]; rfl⟩
    | some x =>
      rw [hn] at hm
      obtain ⟨⟨r, hr1⟩, hf⟩ := nextFrom_some hn
      have hlt := total_without_lt hr1 (List.mem_cons_self ..)
      repeat fail
      refine ss_nil ?_
      repeat fail
      apply lcM
      · fail "z"
      · intro r' hr'
        repeat fail
        apply lcF
        · have := hR.2 r' hr'
          fail "z"
        · intro o ho
          repeat fail
          refine filt_end (fun h => ?_) (fun h => ?_)
          · repeat fail
            exact ⟨h, rfl, rfl⟩
          · exact ⟨rfl, h⟩
        repeat fail
        exact ⟨rfl, rfl⟩
      
      refine ⟨_, hlt, _, _, _, _, _, ⟨rfl, rfl⟩, without R x, acc ++ [x], ?_, ?_, rfl, ok_without hR x, ?_, ?_⟩
      · unfold without; rw [rowsD, List.map_map]; rfl
      · rw [nT, List.map_append]; rfl
      · rw [List.length_append]; show acc.length + 1 + _ ≤ _; omega
      · rw [← hm]; exact (mergeF_fuel (by omega)).symm
  · unfold mergeF at hm
    rw [if_neg h] at hm
    repeat fail
    exact ⟨rfl, by rw [← hm]; rfl⟩
end
end W
end
section
set_option Elab.async false
set_option linter.all false
set_option maxRecDepth 100000
set_option maxHeartbeats 4000000
open PySem L2 D PyProof.Rows
local macro_rules
  | `(tactic| fail "z") => `(tactic| ((try simp only [List.length_map, List.length_cons, List.length_nil, List.length_append, List.length_drop, List.length_take]); have := big_line; omega))
local macro_rules
  | `(tactic| fail) => `(tactic| first
    | ((with_reducible refine (?_ : SE _ _ _ _ _ _)); first | refine se_nm rfl ?_ | refine se_tyTuple (by assumption) ?_ | refine se_tyStr (by assumption) ?_ | refine se_tyInt (by assumption) ?_ | refine se_tyBool (by assumption) ?_ | refine se_int ?_ | refine se_str ?_ | refine se_non ?_ | refine se_bl ?_ | refine se_cmp ?_ | refine se_bin ?_ | refine se_backT ?_ | refine se_ix ?_ | refine se_slice ?_ | refine se_tup ?_ | refine se_lst ?_ | ((with_reducible refine (?_ : SE _ _ _ _ (.Call _ _ _ _) _)); first | refine se_any (by assumption) ?_ | refine se_all (by assumption) ?_ | refine se_len (by assumption) ?_ | refine se_min (by assumption) ?_ | refine se_max (by assumption) ?_ | refine se_sorted (by assumption) ?_ | refine se_isi (by assumption) ?_ | refine se_abs (by assumption) ?_ | refine se_sum (by assumption) ?_ | refine se_tupleC (by assumption) ?_ | refine se_listC (by assumption) ?_) | refine se_M rfl (by assumption) (blkOk_by rfl) ?_ | refine se_F rfl (by assumption) (blkOk_by rfl) ?_ | refine se_Dc rfl (by assumption) (blkOk_by rfl) ?_ | refine se_chain ?_ | refine se_indexN ?_ | refine se_not ?_ | refine se_if ?_ | refine se_one ?_ | refine se_and ?_ | refine se_or ?_ | refine se_neg ?_)
    | ((with_reducible refine (?_ : ST _ _ _ _ _ _)); first | refine st_cmp ?_ | refine st_chain ?_ | refine st_not ?_ | refine st_w (sw_and ?_) | refine st_w (sw_or ?_) | refine st_val ?_)
    | ((with_reducible refine (?_ : SWt _ _ _ _ _ _)); first | refine sw_and ?_ | refine sw_and1 ?_ | refine sw_or ?_ | refine sw_or1 ?_)
    | ((with_reducible refine (?_ : SA _ _ _ _ _ _)); first | refine sa_cons ?_ | refine sa_nil ?_)
    | ((with_reducible refine (?_ : SO _ _ _ _ _ _)); first | refine so_none ?_ | refine so_some ?_)
    | ((with_reducible refine (?_ : SS _ _ _ _ _ _)); first | refine ss_one ?_ | refine ss_cons ?_)
    | ((with_reducible refine (?_ : S1 _ _ _ _ _ _)); first | refine s_ret ?_ | refine s_if ?_ | refine s_M rfl (by assumption) (blkOk_by rfl) ?_ | refine s_F rfl (by assumption) (blkOk_by rfl) ?_ | refine s_Dc rfl (by assumption) (blkOk_by rfl) ?_ | refine s_st (by assumption) ?_ | refine s_aug (by assumption) rfl ?_ | refine s_asg ?_ | refine s_expr ?_)
    | ((with_reducible refine (?_ : SG _ _ _ _ _ _ _)); first | refine sg_nm (by assumption) ?_ | refine sg_par rfl ?_ | refine sg_tup rfl ?_)
    | ((with_reducible refine (?_ : SGs _ _ _ _ _ _ _)); first | refine sgs_cons ?_ | refine sgs_nil ?_)
    | ((with_reducible refine (?_ : SGb _ _ _ _ _ _ _ _)); first | refine sgb_nm (by assumption) ?_ (by first | exact vs_self | exact vs_one | exact vs_two) | refine sgb_par rfl ?_ | refine sgb_tup rfl ?_)
    | ((with_reducible refine (?_ : SGbs _ _ _ _ _ _ _ _)); first | refine sgbs_cons ?_ | refine sgbs_nil ?_)
    | ((with_reducible refine (?_ : SW _ _ _ _ _ _ _)); first | refine sw_vals ?_ | refine sw_zipT (by assumption) ?_ | refine sw_range (by assumption) ?_ | refine sw_seq ?_)
    | ((with_reducible refine (?_ : OpV _ _ _ _ _ _ _ _)); first | refine ov_eqN ?_ | refine ov_neN ?_ | refine ov_inN ?_ | refine ov_ninN ?_ | refine ov_inNT ?_ | refine ov_ninNT ?_ | refine oi_add ?_ | refine oi_catT (by fail "z") ?_ | refine ov_cat (by fail "z") ?_ | refine ov_catT (by fail "z") ?_ | refine ov_add ?_ | refine ov_sub ?_ | refine ov_lt ?_ | refine ov_le ?_ | refine ov_gt ?_ | refine ov_ge ?_ | refine ov_eqI ?_ | refine ov_neI ?_ | refine ov_eqS ?_ | refine ov_neS ?_ | refine ov_eqB ?_ | refine ov_neB ?_)
    | ((with_reducible refine (?_ : IxV _ _ _ _ _ _ _)); first | refine iv_cons ?_ | refine iv_consT ?_)
    | ((with_reducible refine (?_ : SlV _ _ _ _ _ _ _ _)); first | refine sv_fromL (by decide) ?_ | refine sv_fromT (by decide) ?_ | refine sv_toL (by decide) ?_ | refine sv_toT (by decide) ?_)
    | ((with_reducible refine (?_ : ClV _ _ _ _ _ _ _)); first | refine cv_anyM rfl ?_ | refine cv_allM rfl ?_ | refine cv_len rfl ?_ | refine cv_tuple rfl ?_ | refine cv_list rfl ?_ | refine cv_abs ?_ | refine cv_isStr rfl ?_ | refine cv_isTup rfl ?_ | refine cv_isInt rfl ?_ | refine cv_isBool rfl ?_ | refine cv_sum rfl ?_)
    | (with_reducible refine turn0I (fun _ _ _ _ _ _ => ?_)) | (with_reducible refine turn1I (fun _ _ _ _ _ _ => ?_)) | (with_reducible refine turnDI (fun _ _ _ _ _ _ => ?_)) | (with_reducible refine abI (fun _ _ _ _ _ => ?_)) | ((with_reducible show (if _ then _ else _)); first | refine iteT ?_ | refine iteF ?_) | ((with_reducible refine (?_ : And _ _)); refine And.intro (show _ ≤ sizeLine by fail "z") ?_) | ((with_reducible refine (?_ : Exists _)); refine ⟨_, rfl, ?_⟩))
local macro_rules
  | `(tactic| fail "e") => `(tactic| first
    | ((with_reducible refine (?_ : SE _ _ _ _ _ _)); first | refine se_nm rfl ?_ | refine se_tyTuple (by assumption) ?_ | refine se_tyStr (by assumption) ?_ | refine se_tyInt (by assumption) ?_ | refine se_tyBool (by assumption) ?_ | refine se_int ?_ | refine se_str ?_ | refine se_non ?_ | refine se_bl ?_ | refine se_cmp ?_ | refine se_bin ?_ | refine se_backT ?_ | refine se_ix ?_ | refine se_slice ?_ | refine se_tup ?_ | refine se_lst ?_ | ((with_reducible refine (?_ : SE _ _ _ _ (.Call _ _ _ _) _)); first | refine se_any (by assumption) ?_ | refine se_all (by assumption) ?_ | refine se_len (by assumption) ?_ | refine se_min (by assumption) ?_ | refine se_max (by assumption) ?_ | refine se_sorted (by assumption) ?_ | refine se_isi (by assumption) ?_ | refine se_abs (by assumption) ?_ | refine se_sum (by assumption) ?_ | refine se_tupleC (by assumption) ?_ | refine se_listC (by assumption) ?_) | refine se_M rfl (by assumption) (blkOk_by rfl) ?_ | refine se_F rfl (by assumption) (blkOk_by rfl) ?_ | refine se_Dc rfl (by assumption) (blkOk_by rfl) ?_ | refine se_chain ?_ | refine se_indexN ?_ | refine se_not ?_ | refine se_if ?_ | refine se_one ?_ | refine se_and ?_ | refine se_or ?_ | refine se_neg ?_)
    | ((with_reducible refine (?_ : ST _ _ _ _ _ _)); first | refine st_cmp ?_ | refine st_chain ?_ | refine st_not ?_ | refine st_w (sw_and ?_) | refine st_w (sw_or ?_) | refine st_val ?_)
    | ((with_reducible refine (?_ : SWt _ _ _ _ _ _)); first | refine sw_and ?_ | refine sw_and1 ?_ | refine sw_or ?_ | refine sw_or1 ?_)
    | ((with_reducible refine (?_ : SA _ _ _ _ _ _)); first | refine sa_cons ?_ | refine sa_nil ?_)
    | ((with_reducible refine (?_ : SO _ _ _ _ _ _)); first | refine so_none ?_ | refine so_some ?_)
    | ((with_reducible refine (?_ : SG _ _ _ _ _ _ _)); first | refine sg_nm (by assumption) ?_ | refine sg_par rfl ?_ | refine sg_tup rfl ?_)
    | ((with_reducible refine (?_ : SGs _ _ _ _ _ _ _)); first | refine sgs_cons ?_ | refine sgs_nil ?_)
    | ((with_reducible refine (?_ : SGb _ _ _ _ _ _ _ _)); first | refine sgb_nm (by assumption) ?_ (by first | exact vs_self | exact vs_one | exact vs_two) | refine sgb_par rfl ?_ | refine sgb_tup rfl ?_)
    | ((with_reducible refine (?_ : SGbs _ _ _ _ _ _ _ _)); first | refine sgbs_cons ?_ | refine sgbs_nil ?_)
    | ((with_reducible refine (?_ : SW _ _ _ _ _ _ _)); first | refine sw_vals ?_ | refine sw_zipT (by assumption) ?_ | refine sw_range (by assumption) ?_ | refine sw_seq ?_)
    | ((with_reducible refine (?_ : OpV _ _ _ _ _ _ _ _)); first | refine ov_eqN ?_ | refine ov_neN ?_ | refine ov_inN ?_ | refine ov_ninN ?_ | refine ov_inNT ?_ | refine ov_ninNT ?_ | refine oi_add ?_ | refine oi_catT (by fail "z") ?_ | refine ov_cat (by fail "z") ?_ | refine ov_catT (by fail "z") ?_ | refine ov_add ?_ | refine ov_sub ?_ | refine ov_lt ?_ | refine ov_le ?_ | refine ov_gt ?_ | refine ov_ge ?_ | refine ov_eqI ?_ | refine ov_neI ?_ | refine ov_eqS ?_ | refine ov_neS ?_ | refine ov_eqB ?_ | refine ov_neB ?_)
    | ((with_reducible refine (?_ : IxV _ _ _ _ _ _ _)); first | refine iv_cons ?_ | refine iv_consT ?_)
    | ((with_reducible refine (?_ : SlV _ _ _ _ _ _ _ _)); first | refine sv_fromL (by decide) ?_ | refine sv_fromT (by decide) ?_ | refine sv_toL (by decide) ?_ | refine sv_toT (by decide) ?_)
    | ((with_reducible refine (?_ : ClV _ _ _ _ _ _ _)); first | refine cv_anyM rfl ?_ | refine cv_allM rfl ?_ | refine cv_len rfl ?_ | refine cv_tuple rfl ?_ | refine cv_list rfl ?_ | refine cv_abs ?_ | refine cv_isStr rfl ?_ | refine cv_isTup rfl ?_ | refine cv_isInt rfl ?_ | refine cv_isBool rfl ?_ | refine cv_sum rfl ?_)
    | (with_reducible refine turn0I (fun _ _ _ _ _ _ => ?_)) | (with_reducible refine turn1I (fun _ _ _ _ _ _ => ?_)) | (with_reducible refine turnDI (fun _ _ _ _ _ _ => ?_)) | (with_reducible refine abI (fun _ _ _ _ _ => ?_)) | ((with_reducible show (if _ then _ else _)); first | refine iteT ?_ | refine iteF ?_) | ((with_reducible refine (?_ : And _ _)); refine And.intro (show _ ≤ sizeLine by fail "z") ?_) | ((with_reducible refine (?_ : Exists _)); refine ⟨_, rfl, ?_⟩))
namespace W
open PySem L2 D PyProof.Rows
def addK (acc : List Nm) (x : Nm) : List Nm := if x ∈ acc then acc else acc ++ [x]
def keysOf (l : List Nm) : List Nm := l.foldl addK []
def setDef (l : List (Nm × Nat)) (y : Nm) (i : Nat) : List (Nm × Nat) := if (l.any fun p => decide (p.1 = y)) = true then l else l ++ [(y, i)]
abbrev Dem := List (Nm × List (Nm × Nat))
def demPut (E : Dem) (x y : Nm) (i : Nat) : Dem := E.map fun p => if p.1 = x then (p.1, setDef p.2 y i) else p
def demPuts (i : Nat) (x : Nm) (E : Dem) (r : List Nm) : Dem := r.foldl (fun E y => demPut E x y i) E
def demRow (i : Nat) : Dem → List Nm → Dem
  | E, [] => E
  | E, x :: r => demRow i (demPuts i x E r) r
def initE (L : List (List Nm)) : Dem := (keysOf L.flatten).map fun x => (x, [])
def demRows : Dem → List (List Nm × Nat) → Dem
  | E, [] => E
  | E, (r, i) :: R => demRows (demRow i E r) R
def earliest (L : List (List Nm)) : Dem := demRows (initE L) L.zipIdx
abbrev nK (x : Nm) : Key := .inr x.1
abbrev inE (l : List (Nm × Nat)) : List (Key × Dt) := l.map fun q => (nK q.1, .int (q.2 : Nat))
abbrev demD (E : Dem) : Dt := .dct (E.map fun p => (nK p.1, .dct (inE p.2)))
theorem nK_inj {x y : Nm} : nK x = nK y ↔ x = y := ⟨fun h => Subtype.ext (Sum.inr.inj h), fun h => by rw [h]⟩
theorem dval_map {α : Type} (f : α → Dt) (k : α → Nm) (x : Nm) : ∀ l : List α, dval (l.map fun p => (nK (k p), f p)) (nK x) = (l.find? fun p => decide (k p = x)).map f
  | [] => rfl
  | p :: l => by
    rw [List.map_cons, List.find?_cons]
    by_cases h : k p = x
    · rw [dval_pos (by rw [h]), decide_eq_true h]; rfl
    · rw [dval_neg (fun z => h (nK_inj.mp z)), decide_eq_false h]; exact dval_map f k x l
theorem any_nK {α : Type} (f : α → Dt) (k : α → Nm) (x : Nm) (l : List α) : ((l.map fun p => (nK (k p), f p)).any fun kv => decide (kv.1 = nK x)) = l.any fun p => decide (k p = x) := by
  rw [List.any_map]
  congr 1
  funext p
  show decide (nK (k p) = nK x) = _
  by_cases h : k p = x
  · rw [h]; simp
  · have : ¬ nK (k p) = nK x := fun z => h (nK_inj.mp z)
    simp [this, h]
theorem dput_map {α : Type} (f : α → Dt) (k : α → Nm) (x : Nm) (d : Dt) (l : List α) : dput (l.map fun p => (nK (k p), f p)) (nK x) d = if (l.any fun p => decide (k p = x)) = true then l.map (fun p => if k p = x then (nK (k p), d) else (nK (k p), f p)) else (l.map fun p => (nK (k p), f p)) ++ [(nK x, d)] := by
  unfold dput
  rw [any_nK]
  split
  · rw [List.map_map]
    refine List.map_congr_left fun p _ => ?_
    show (if nK (k p) = nK x then _ else _) = _
    by_cases h : k p = x
    · rw [if_pos (by rw [h]), if_pos h]
    · rw [if_neg (fun z => h (nK_inj.mp z)), if_neg h]
  · rfl
theorem inE_put (l : List (Nm × Nat)) (y : Nm) (i : Nat) (h : (l.any fun p => decide (p.1 = y)) = false) : dput (inE l) (nK y) (.int (i : Nat)) = inE (setDef l y i) := by
  rw [inE, dput_map (fun q : Nm × Nat => .int (q.2 : Nat)) (fun q => q.1), h]
  unfold setDef
  rw [h]
  simp [inE]
theorem inE_any (l : List (Nm × Nat)) (y : Nm) : (dval (inE l) (nK y)).isSome = l.any fun p => decide (p.1 = y) := by
  rw [← dval_any, inE, any_nK (fun q : Nm × Nat => .int (q.2 : Nat)) (fun q => q.1)]
theorem keysOf_snoc (l : List Nm) (x : Nm) : keysOf (l ++ [x]) = addK (keysOf l) x := by
  unfold keysOf; rw [List.foldl_append]; rfl
/-- the cells of a dict of dicts -/
structure Nest (A : Addr) (E : Dem) (c : Cells) : Prop where
  ex : ∃ ad : Nm → Addr, (A, Cel.dk (E.map fun p => (nK p.1, .raw (.ref (ad p.1))))) ∈ c ∧ (∀ p ∈ E, (ad p.1, Cel.dk (inE p.2)) ∈ c) ∧ (A :: E.map fun p => ad p.1).Nodup
  nd : (E.map (·.1)).Nodup
theorem mem_addK {acc : List Nm} {x y : Nm} : y ∈ addK acc x ↔ y ∈ acc ∨ y = x := by
  unfold addK
  split
  · exact ⟨.inl, fun h => h.elim id fun e => by rw [e]; assumption⟩
  · rw [List.mem_append, List.mem_singleton]
theorem mem_keysOf (l : List Nm) (y : Nm) : y ∈ keysOf l ↔ y ∈ l := by
  have : ∀ (l acc : List Nm), y ∈ l.foldl addK acc ↔ y ∈ acc ∨ y ∈ l := by
    intro l
    induction l with
    | nil => intro acc; simp
    | cons x l ih => intro acc; rw [List.foldl_cons, ih, mem_addK, List.mem_cons, or_assoc]
  unfold keysOf; rw [this]; simp
theorem nodup_addK {acc : List Nm} (h : acc.Nodup) (x : Nm) : (addK acc x).Nodup := by
  unfold addK
  split
  · exact h
  · exact List.nodup_append.mpr ⟨h, by simp, fun a ha b hb e => by rw [List.mem_singleton.mp hb] at e; subst e; contradiction⟩
theorem nodup_keysOf (l : List Nm) : (keysOf l).Nodup := by
  have : ∀ (l acc : List Nm), acc.Nodup → (l.foldl addK acc).Nodup := by
    intro l
    induction l with
    | nil => intro acc h; exact h
    | cons x l ih => intro acc h; exact ih _ (nodup_addK h x)
  exact this l [] .nil
theorem mem_addrs_of {a : Addr} {q : Cel} {c : Cells} (h : (a, q) ∈ c) : a ∈ addrs c := mem_addrs h (List.mem_cons_self ..)
/-- while the dict of dicts is made -/
def Mk (done : List Nm) (c : Cells) (acc : List (Key × Dt)) : Prop :=
  ∃ ad : Nm → Addr, acc = (keysOf done).map (fun x => (nK x, .raw (.ref (ad x)))) ∧ (∀ x ∈ keysOf done, (ad x, Cel.dk []) ∈ c) ∧ ((keysOf done).map ad).Nodup
theorem map_nodup_upd {l : List Nm} {ad : Nm → Addr} {x : Nm} {a : Addr} (hl : l.Nodup) (h : (l.map ad).Nodup) (ha : ∀ y ∈ l, ad y ≠ a) : (l.map fun y => if y = x then a else ad y).Nodup := by
  rw [List.Nodup, List.pairwise_map] at *
  refine (hl.and h).imp_of_mem ?_
  rintro p q hp hq ⟨h1, h2⟩
  by_cases e1 : p = x
  · rw [if_pos e1, if_neg (fun e => h1 (e1.trans e.symm))]
    exact fun e => ha q hq e.symm
  · rw [if_neg e1]
    by_cases e2 : q = x
    · rw [if_pos e2]; exact ha p hp
    · rw [if_neg e2]; exact h2
theorem Mk.step {done : List Nm} {c : Cells} {acc : List (Key × Dt)} (h : Mk done c acc) (x : Nm) (a : Addr) (nd : (addrs (c ++ [(a, Cel.dk [])])).Nodup) : Mk (done ++ [x]) (c ++ [(a, Cel.dk [])]) (dput acc (nK x) (.raw (.ref a))) := by
  obtain ⟨ad, rfl, h2, h3⟩ := h
  have fresh : ∀ y ∈ keysOf done, ad y ≠ a := fun y hy e => by
    have h1 := mem_addrs_of (h2 y hy)
    rw [addrs_app] at nd
    exact (List.nodup_append.mp nd).2.2 _ h1 a (by show a ∈ [a] ++ _; simp) e
  refine ⟨fun y => if y = x then a else ad y, ?_, ?_, ?_⟩
  · rw [dput_map (fun y => .raw (.ref (ad y))) (fun y => y) x, keysOf_snoc]
    unfold addK
    by_cases hx : x ∈ keysOf done
    · rw [if_pos hx, if_pos (by rw [List.any_eq_true]; exact ⟨x, hx, by simp⟩)]
      refine List.map_congr_left fun y _ => ?_
      dsimp only
      by_cases e : y = x
      · rw [if_pos e, if_pos e]
      · rw [if_neg e, if_neg e]
    · rw [if_neg hx, if_neg (by rw [List.any_eq_true]; rintro ⟨y, hy, e⟩; exact hx (by rw [← of_decide_eq_true e]; exact hy)), List.map_append]
      congr 1
      · refine List.map_congr_left fun y hy => ?_
        have ne : ¬ y = x := fun e => hx (by rw [← e]; exact hy)
        dsimp only
        rw [if_neg ne]
      · simp
  · intro y hy
    rw [keysOf_snoc, mem_addK] at hy
    dsimp only
    by_cases e : y = x
    · rw [if_pos e]; simp
    · rw [if_neg e]
      exact List.mem_append_left _ (h2 y (hy.resolve_right e))
  · rw [keysOf_snoc]
    unfold addK
    split
    · exact map_nodup_upd (nodup_keysOf _) h3 fresh
    · rename_i hx
      rw [List.map_append]
      refine List.nodup_append.mpr ⟨map_nodup_upd (nodup_keysOf _) h3 fresh, by simp, fun p hp q hq e => ?_⟩
      obtain ⟨y, hy, rfl⟩ := List.mem_map.mp hp
      have ne : ¬ y = x := fun e => hx (by rw [← e]; exact hy)
      rw [List.map_singleton, List.mem_singleton] at hq
      try dsimp only at hq e
      rw [if_pos rfl] at hq
      rw [if_neg ne] at e
      exact fresh y hy (e.trans hq)
theorem Mk.nest {L : List (List Nm)} {c : Cells} {acc : List (Key × Dt)} (h : Mk L.flatten c acc) (A : Addr) (nd : (addrs (c ++ [(A, Cel.dk acc)])).Nodup) : Nest A (initE L) (c ++ [(A, Cel.dk acc)]) := by
  obtain ⟨ad, rfl, h2, h3⟩ := h
  refine ⟨⟨ad, ?_, ?_, ?_⟩, ?_⟩
  · refine List.mem_append_right _ (List.mem_singleton.mpr ?_)
    unfold initE; rw [List.map_map]; rfl
  · intro p hp
    obtain ⟨x, hx, rfl⟩ := List.mem_map.mp hp
    exact List.mem_append_left _ (h2 x hx)
  · unfold initE
    rw [List.map_map]
    refine List.nodup_cons.mpr ⟨fun hA => ?_, h3⟩
    obtain ⟨x, hx, e⟩ := List.mem_map.mp hA
    have h1 := mem_addrs_of (h2 x hx)
    rw [addrs_app] at nd
    exact (List.nodup_append.mp nd).2.2 _ h1 A (by show A ∈ [A] ++ _; simp) e
  · unfold initE; rw [List.map_map, show ((fun x : Nm × List (Nm × Nat) => x.1) ∘ fun x => (x, [])) = id from rfl, List.map_id]; exact nodup_keysOf L.flatten
theorem mem_set_ne {c : Cells} {j : Nat} {q r r' : Addr × Cel} (hq : q ∈ c) (hj : c[j]? = some r) (ne : q.1 ≠ r.1) : q ∈ c.set j r' := by
  obtain ⟨i, hi⟩ := List.getElem?_of_mem hq
  refine List.mem_of_getElem? (i := i) ?_
  rw [List.getElem?_set_ne, hi]
  intro e
  subst e
  rw [hj] at hi; cases hi; exact ne rfl
theorem find_key {E : Dem} {x : Nm} (nd : (E.map (·.1)).Nodup) {p : Nm × List (Nm × Nat)} (hp : p ∈ E) (e : p.1 = x) : (E.find? fun p => decide (p.1 = x)) = some p := by
  induction E with
  | nil => cases hp
  | cons q E ih =>
    rw [List.find?_cons]
    rcases List.mem_cons.mp hp with z | z
    · subst z; rw [decide_eq_true e]
    · have nd' := List.nodup_cons.mp nd
      rw [decide_eq_false]
      · exact ih nd'.2 z
      · intro w
        exact nd'.1 (List.mem_map.mpr ⟨p, z, e.trans w.symm⟩)
theorem demPut_same {E : Dem} {x y : Nm} {i : Nat} (nd : (E.map (·.1)).Nodup) {p : Nm × List (Nm × Nat)} (hp : p ∈ E) (e : p.1 = x) (h : (p.2.any fun q => decide (q.1 = y)) = true) : demPut E x y i = E := by
  unfold demPut
  conv => rhs; rw [← List.map_id E]
  refine List.map_congr_left fun q hq => ?_
  by_cases w : q.1 = x
  · rw [if_pos w]
    have : q = p := by
      have h1 := find_key nd hq w
      have h2 := find_key nd hp e
      rw [h1] at h2; exact Option.some.inj h2
    subst this
    unfold setDef
    rw [if_pos h]; rfl
  · rw [if_neg w]; rfl
theorem Nest.put {A : Addr} {E : Dem} {c : Cells} (h : Nest A E c) {ad : Nm → Addr} (h1 : (A, Cel.dk (E.map fun p => (nK p.1, .raw (.ref (ad p.1))))) ∈ c) (h2 : ∀ p ∈ E, (ad p.1, Cel.dk (inE p.2)) ∈ c) (h3 : (A :: E.map fun p => ad p.1).Nodup) {x y : Nm} {i j : Nat} {p : Nm × List (Nm × Nat)} (hp : p ∈ E) (e : p.1 = x)
    (hj : c[j]? = some (ad x, Cel.dk (inE p.2))) : Nest A (demPut E x y i) (c.set j (ad x, Cel.dk (inE (setDef p.2 y i)))) := by
  have hn := List.nodup_cons.mp h3
  have hlen : j < c.length := (List.getElem?_eq_some_iff.mp hj).1
  have keys : (demPut E x y i).map (·.1) = E.map (·.1) := by
    unfold demPut; rw [List.map_map]
    refine List.map_congr_left fun q _ => ?_
    dsimp only [Function.comp]
    split <;> rfl
  refine ⟨⟨ad, ?_, ?_, ?_⟩, by rw [keys]; exact h.nd⟩
  · have : ((demPut E x y i).map fun p => (nK p.1, Dt.raw (.ref (ad p.1)))) = E.map fun p => (nK p.1, Dt.raw (.ref (ad p.1))) := by
      unfold demPut; rw [List.map_map]
      refine List.map_congr_left fun q _ => ?_
      dsimp only [Function.comp]
      split <;> rfl
    rw [this]
    refine mem_set_ne h1 hj ?_
    intro z
    exact hn.1 (List.mem_map.mpr ⟨p, hp, by rw [e]; exact z.symm⟩)
  · intro q hq
    obtain ⟨q0, hq0, rfl⟩ := List.mem_map.mp hq
    by_cases w : q0.1 = x
    · rw [if_pos w]
      have : q0 = p := by
        have g1 := find_key h.nd hq0 w
        have g2 := find_key h.nd hp e
        rw [g1] at g2; exact Option.some.inj g2
      subst this
      refine List.mem_of_getElem? (i := j) ?_
      rw [List.getElem?_set_self hlen, w]
    · rw [if_neg w]
      refine mem_set_ne (h2 q0 hq0) hj ?_
      intro z
      have pw := hn.2
      rw [List.Nodup, List.pairwise_map] at pw
      have key := h.nd
      rw [List.Nodup, List.pairwise_map] at key
      have inj : ∀ {E' : Dem}, (E'.Pairwise fun a b => ad a.1 ≠ ad b.1) → ∀ a ∈ E', ∀ b ∈ E', ad a.1 = ad b.1 → a = b := by
        intro E' hE'
        induction hE' with
        | nil => intro a ha; cases ha
        | cons hh _ ih =>
          intro a ha b hb e
          rcases List.mem_cons.mp ha with ea | ha' <;> rcases List.mem_cons.mp hb with eb | hb'
          · rw [ea, eb]
          · rw [ea] at e; exact absurd e (hh b hb')
          · rw [eb] at e; exact absurd e.symm (hh a ha')
          · exact ih a ha' b hb' e
      exact w (by rw [inj pw q0 hq0 p hp (by rw [e]; exact z)]; exact e)
  · have : ((demPut E x y i).map fun p => ad p.1) = E.map fun p => ad p.1 := by
      unfold demPut; rw [List.map_map]
      refine List.map_congr_left fun q _ => ?_
      dsimp only [Function.comp]
      split <;> rfl
    rw [this]; exact h3
theorem demPut_keys (E : Dem) (x y : Nm) (i : Nat) : (demPut E x y i).map (·.1) = E.map (·.1) := by
  unfold demPut; rw [List.map_map]
  refine List.map_congr_left fun q _ => ?_
  dsimp only [Function.comp]
  split <;> rfl
theorem zip_rest {α : Type} {l : List α} {pre rest : List (α × Nat)} {x : α} {k : Nat} (h : l.zipIdx = pre ++ (x, k) :: rest) : l.drop (k + 1) = rest.map (·.1) ∧ k < l.length ∧ x ∈ l := by
  have hk : k = pre.length := by
    have : l.zipIdx[pre.length]? = some (x, k) := by rw [h]; simp
    rw [List.getElem?_zipIdx] at this
    obtain ⟨a, _, e⟩ := Option.map_eq_some_iff.mp this
    have := congrArg Prod.snd e
    simpa using this.symm
  have hl : l = (pre ++ (x, k) :: rest).map (·.1) := by rw [← h]; simp
  refine ⟨?_, ?_, ?_⟩
  · rw [hl, hk, List.map_append, List.drop_append]; simp
  · rw [hl, hk]; simp
  · rw [hl]; simp
end W
end
section
set_option Elab.async false
set_option linter.all false
set_option maxRecDepth 100000
namespace D
open PySem L2 PyProof.Rows
section
variable {F : Fm} {X : Cx} {Γ : List Sl} {c : Cells} {Φ : PEnds} {pos : Pos}
/-- what turns that change something give: J tells of the cells and of what is made so far -/
def LcJ (X : Cx) (Γ : List Sl) (scope : Scope) (vs : List Nat) (tg elt : Expr) (c1 : Cells) (ds : List Dt) (Q : Cells → List Dt → Prop) : Prop :=
  ∃ (α β : Type) (enc : α → Dt) (dec : β → Dt) (l : List α) (J : Nat → Cells → List β → Prop), ds = l.map enc ∧ l.length ≤ sizeLine ∧ J 0 c1 [] ∧
    (∀ i r c' acc, l[i]? = some r → J i c' acc → Turn0 X Γ scope vs tg elt (enc r) c' fun c2 y => ∃ b, y = dec b ∧ J (i + 1) c2 (acc ++ [b])) ∧ ∀ c' acc, J l.length c' acc → Q c' (acc.map dec)
theorem lcJ {α β : Type} {enc : α → Dt} {l : List α} {scope : Scope} {vs : List Nat} {tg elt : Expr} {c1 : Cells} {Q : Cells → List Dt → Prop} (dec : β → Dt) (J : Nat → Cells → List β → Prop) (hz : l.length ≤ sizeLine) (h0 : J 0 c1 [])
    (turn : ∀ i r c' acc, l[i]? = some r → J i c' acc → Turn0 X Γ scope vs tg elt (enc r) c' fun c2 y => ∃ b, y = dec b ∧ J (i + 1) c2 (acc ++ [b])) (done : ∀ c' acc, J l.length c' acc → Q c' (acc.map dec)) : LcJ X Γ scope vs tg elt c1 (l.map enc) Q :=
  ⟨α, β, enc, dec, l, J, rfl, hz, h0, turn, done⟩
theorem jm_t {elt tg : Expr} {scope : Scope} {vs : List Nat} {ds : List Dt} {Pl : Cells → List Dt → Prop} (h : LcJ X Γ scope vs tg elt c ds Pl) :
    ds.length ≤ sizeLine ∧ ∃ Jv : Nat → Cells → List Dt → Prop, Jv 0 c [] ∧ (∀ i d c' acc, ds[i]? = some d → Jv i c' acc → Turn0 X Γ scope vs tg elt d c' fun c2 y => Jv (i + 1) c2 (acc ++ [y])) ∧ ∀ c' acc, Jv ds.length c' acc → Pl c' acc := by
  obtain ⟨α, β, enc, dec, l, J, rfl, hz, h0, turn, done⟩ := h
  refine ⟨by rw [List.length_map]; exact hz, fun i c' acc => ∃ bs, acc = bs.map dec ∧ J i c' bs, ⟨[], rfl, h0⟩, ?_, ?_⟩
  · rintro i d c' acc hd ⟨bs, rfl, hj⟩ F' s0 H0 C cl fp
    refine .mk fun σ H v Q S dv k => ?_
    rw [List.getElem?_map] at hd
    obtain ⟨r, hr, rfl⟩ := Option.map_eq_some_iff.mp hd
    refine turn i r c' bs hr hj F' s0 H0 C cl fp σ H v Q S dv fun Γ2 σ2 q S2 w => k Γ2 σ2 ?_ S2 w
    intro s0 H0 C cl fp
    refine (q s0 H0 C cl fp).mono ?_
    rintro c2 y ⟨b, rfl, hj2⟩
    exact ⟨bs ++ [b], by rw [List.map_append]; rfl, hj2⟩
  · rintro c' acc ⟨bs, rfl, hj⟩
    rw [List.length_map] at hj
    exact done c' bs hj
theorem se_J {elt tg iter : Expr} {scope : Scope} {P : Cells → Dt → Prop} (hc : X.calm = true) (hN : X.N.Nodup) (ok : BlkOk X.N X.env.scope scope (ownOf X.N tg))
    (h : SW F X Γ c tg iter fun c1 ds => LcJ X Γ scope ((ownOf X.N tg).map (·.2)) tg elt c1 ds fun c2 z => P c2 (.lst z)) (hfs : ∀ x, foldedSetIterable iter X.env x = pure x := by intro _; rfl) : SE F X Γ c (.ListComp elt [⟨tg, iter, [], 0⟩] scope pos) P :=
  SEL.se (sel_lc _ hc hN ok (.mk fun σ H R S k => h σ H R S fun J H' c' ds p S' => k J H' c' ds (jm_t p) S') hfs)
theorem idxs_eq (n : Nat) : idxs n = (List.range n).map fun (i : Nat) => Dt.int (i : Int) := rfl
end
end D
end
section
set_option Elab.async false
set_option linter.all false
set_option maxRecDepth 100000
namespace D
open PySem L2 PyProof.Rows
def backN (s : Str) : Option Nm := if h : nameC s = true then some ⟨s, h⟩ else none
theorem back_map : ∀ l : List Nm, (l.map (·.1)).filterMap backN = l
  | [] => rfl
  | x :: l => by
    have e : backN x.1 = some x := by unfold backN; rw [dif_pos x.2]
    rw [List.map_cons, List.filterMap_cons_some e, back_map l]
theorem perm_lift : ∀ {ys : List Str} {l : List Nm}, ys.Perm (l.map (·.1)) → ∃ zs : List Nm, zs.Perm l ∧ ys = zs.map (·.1) := fun {ys l} h => by
  have hn : ∀ y ∈ ys, nameC y = true := fun y hy => by
    obtain ⟨x, _, rfl⟩ := List.mem_map.mp (h.mem_iff.mp hy)
    exact x.2
  refine ⟨ys.attach.map fun y => ⟨y.1, hn y.1 y.2⟩, ?_, ?_⟩
  · have e : ys = (ys.attach.map fun y => (⟨y.1, hn y.1 y.2⟩ : Nm)).map (·.1) := by rw [List.map_map]; exact (List.attach_map_subtype_val ys).symm
    rw [e] at h
    have := h.filterMap backN
    rw [back_map, back_map] at this
    exact this
  · rw [List.map_map]; exact (List.attach_map_subtype_val ys).symm
def sortedN (l : List Nm) : Prop := sortedS (l.map (·.1)) = true
section
variable {F : Fm} {X : Cx} {Γ : List Sl} {c : Cells} {P : Cells → Dt → Prop}
theorem cv_sortedDC (j : Nat) {a : Addr} {f : Nm → Dt} {l : List Nm} (hc : X.calm = true) (hj : c[j]? = some (a, .dk (l.map fun x => (.inr x.1, f x)))) (h64 : l.length < 64) (p : ∀ ys : List Nm, ys.Perm l → sortedN ys → P c (nL ys)) : ClV F X Γ c (.builtin "sorted") [.raw (.ref a)] P :=
  ClV.of (call_sortedD hc) fun σ H vs Q S dvs k => by
    cases dvs with
    | cons dv t =>
      cases t
      cases dv
      obtain ⟨xs, ha, t⟩ := S.cat hj
      have hk := t.p.keys
      refine ⟨a, xs, l.map (·.1), rfl, .inl ha, by rw [hk, List.map_map, List.map_map]; rfl, by rw [List.length_map]; exact h64, fun ys q hp hs hq => ?_⟩
      obtain ⟨zs, h1, rfl⟩ := perm_lift hp
      have e2 : (zs.map (·.1)).map Dt.str = zs.map nD := by rw [List.map_map]; rfl
      have dvs := DVs.strs (K := X.K) (H := mask (hid F c) H) (zs.map (·.1))
      rw [e2] at dvs
      exact k _ _ c _ (p zs h1 hs) (S.new hq) (Kp.new (F := F) hq).hid (S.newL hq dvs)
end
end D
end
section
set_option Elab.async false
set_option linter.all false
set_option maxRecDepth 100000
namespace D
open PySem L2 PyProof.Rows PyProof
end D
end
section
set_option Elab.async false
set_option linter.all false
set_option maxRecDepth 100000
namespace D
open PySem L2 PyProof.Rows PyProof
section
variable {F : Fm} {X : Cx} {Γ : List Sl} {c : Cells} {P : Cells → Dt → Prop} {Φ : PEnds} {pos : Pos}
def putFD (f : Str) (d : Dt) : List (Str × Dt) → List (Str × Dt)
  | [] => [(f, d)]
  | (g, x) :: r => if g = f then (g, d) :: r else (g, x) :: putFD f d r
theorem DVx.put {K : PySem.W.Frag} {H : Hp} {f : Str} {y : V} {d : Dt} (dv : DV K H y d) : ∀ {xs : List (Str × V)} {fs : List (Str × Dt)}, DVx K H xs fs → DVx K H (putF f y xs) (putFD f d fs)
  | _, _, .nil => .cons dv .nil
  | _, _, .cons (k := g) h t => by
    unfold putF putFD
    by_cases e : g = f
    · rw [if_pos e, if_pos e]; exact .cons dv t
    · rw [if_neg e, if_neg e]; exact .cons h (DVx.put dv t)
theorem DVx.length {K : PySem.W.Frag} {H : Hp} : ∀ {xs : List (Str × V)} {fs : List (Str × Dt)}, DVx K H xs fs → xs.length = fs.length
  | _, _, .nil => rfl
  | _, _, .cons _ t => congrArg (· + 1) (DVx.length t)
/-- o.f = e, o a cell -/
theorem s_fput {o e : Expr} {f : Str} {p' : Pos} (h : SE F X Γ c e fun c1 d => SE F X Γ c1 o fun c2 d0 => ∃ j a C dx fs, d0 = .raw (.ref a) ∧ c2[j]? = some (a, .ins C dx fs) ∧ Cls X.K C ∧ NoAttr X.K C f ∧ fs.length < 1000 ∧ Φ.nx Γ (c2.set j (a, .ins C dx (putFD f d fs))))
    (hs : swapsWith e (some (.Attribute o f p')) pos.line X.env = pure false := by rfl) : S1 F X Γ c (.Assign [.Attribute o f p'] e pos) Φ :=
  S1.of (ps_fld pE pE hs) fun σ H D S E => h σ H _ S fun v H1 c1 d p S1 e1 dv => p σ H1 _ S1 fun w H2 c2 d0 p2 S2 e2 dw => by
    obtain ⟨j, a, C, dx, fs, rfl, hj, hc, hn, hl, p2⟩ := p2
    cases dw
    obtain ⟨xs, ha, t⟩ := S2.cat hj
    obtain ⟨S3, e3⟩ := S2.updC (q' := .ins C dx (putFD f d fs)) (o := .ins C dx (putF f v xs)) hj rfl rfl ⟨_, upd_same, t.put (dv.mono e2)⟩
    exact ⟨a, C, dx, xs, rfl, ha, hc, hn, by rw [t.length]; exact hl, E.nx _ _ _ _ p2 S3 ((e1.trans e2).trans e3)⟩
/-- o.f, o a cell -/
theorem se_fget {o : Expr} {f : Str} (h : SE F X Γ c o fun c1 d0 => ∃ (j : Nat) (a C dx : Addr) (fs : List (Str × Dt)) (d : Dt), d0 = .raw (.ref a) ∧ c1[j]? = some (a, Cel.ins C dx fs) ∧ Cls X.K C ∧ NoAttr X.K C f ∧ fs.lookup f = some d ∧ P c1 d)
    (hb : attributeBase o f X.env (eval o X.env) = eval o X.env := by rfl) : SE F X Γ c (.Attribute o f pos) P :=
  SE.of (pe_fld pE hb) fun σ H Q S k => h σ H _ S fun v H1 c1 d0 p S1 e1 dv => by
    obtain ⟨j, a, C, dx, fs, d, rfl, hj, hc, hn, hl, p⟩ := p
    cases dv
    obtain ⟨xs, ha, t⟩ := S1.cat hj
    obtain ⟨u, h1, h2⟩ := t.get hl
    exact ⟨a, C, dx, xs, u, rfl, ha, hc, hn, h1, k u H1 c1 d p S1 e1 h2⟩
/-- the promise of an __init__ without arguments: its cells -/
def spM (K : PySem.W.Frag) (C : Addr) (post : Addr → Addr → Cells → Prop) : Sp := spG K (fun a : Addr × Addr => [.raw (.ref a.1)]) (fun a => [(a.1, .ins C a.2 [])]) (fun _ => True) (fun a c' d => d = .non ∧ post a.1 a.2 c') fun _ _ _ => False
structure MkC (P : Program) (w : World) (K : PySem.W.Frag) (mg : Str → Option Value) (base : Heap) (k : Nat) (x : Str) (C : Addr) (post : Addr → Addr → Cells → Prop) : Prop where
  ex : ∃ f fd, Mk K C f ∧ FnOk P w K mg base (L2.CX P w) k f fd ["self"] (spM K C post) ∧ mg x = some (.ref C) ∧ Binds K fd ["self"] []
theorem se_make {x : Str} {C : Addr} {k : Nat} {p : Pos} {post : Addr → Addr → Cells → Prop} (M : MkC X.prog X.w X.K X.mg X.base k x C post) (hr : Room (k + 1) X.A) (q : ∀ a dx c', post a dx c' → P (c ++ c') (.raw (.ref a))) (hg : Gl X x := by rfl) (hdb : (x == ("__debug__" : Str)) = false := by decide) :
    SE F X Γ c (.Call (.Name x p) [] [] pos) P := by
  obtain ⟨f, fd, h1, h2, h3, h4⟩ := M.ex
  refine SE.of (pe_make0 (E := fun _ _ _ => False) h1 h2 hr hg h3 h4 .nil (fun pins σ H s e s' I cx => passAt takes0 σ pins H s e s' I cx) hdb) fun σ H Q S kk => ?_
  intro a dx ha hdx hne
  have hdx' : upd H dx (.own a) a = none := by rw [upd_ne fun z => hne z.symm]; exact ha
  have S1 : SI X.K F Γ c σ (upd H dx (.own a)) := S.new hdx
  have e1 : Ex (Vw F c H) (Vw F c (upd H dx (.own a))) := (Kp.new (F := F) hdx).hid
  obtain ⟨S2, e2⟩ := S1.addC (q := .ins C dx []) (o := .ins C dx []) hdx' rfl ⟨[], upd_same, .nil⟩
  have key := sp_use (X := X) (F := F) (Γ := Γ) (args := fun a : Addr × Addr => [Dt.raw (.ref a.1)]) (cells := fun a : Addr × Addr => [(a.1, Cel.ins C a.2 [])]) (pre := fun _ => True) (post := fun (a : Addr × Addr) c' d => d = .non ∧ post a.1 a.2 c') (exc := fun _ _ _ => False)
    (l := c) (r := []) (c1 := c ++ [(a, .ins C dx [])]) (σ := σ) (H := upd (upd H dx (.own a)) a (.ins C dx [])) (vs := [.ref a]) (Q := fun v H2 => v = .non ∧ Q (.ref a) H2) (W := fun _ _ _ _ => False) (a := (a, dx)) (Wd := fun _ _ _ => False)
    (fun _ _ _ _ _ _ _ z => z.elim) S2 (by simp) (.cons (.raw _) .nil) True.intro (fun v H' c' d pd S3 e3 dv => by
      obtain ⟨rfl, pd⟩ := pd
      cases dv
      rw [List.append_nil] at S3 e3
      exact ⟨rfl, kk _ H' _ _ (q a dx c' pd) S3 ((e1.trans e2).trans e3) (.raw _)⟩) (fun _ _ z => z)
  exact key
end
section
variable {X : Cx}
def rEqT0 (K : PySem.W.Frag) : R2 := fun x y H Q => ∃ a b xs, x = .ref a ∧ y = .ref b ∧ SqT K H a xs ∧ SqT K H b [] ∧ Q (.bl xs.isEmpty) H
theorem op_eqT0 (hu : X.A.units < cLine) : OpR X (compareOp .Eq) (rEqT0 X.K) := fun pn sa sg HH x y v u QQ I rx ry ⟨a, b, xs, ex, ey, ha, hb, q⟩ => by
  subst ex ey
  cases rx
  cases ry
  obtain ⟨its, r1, p1, _⟩ := I.tuple ha
  obtain ⟨its2, r2, p2, _⟩ := I.tuple hb
  cases r2
  refine PySem.SeqAt.eq_tupleAt (e := fun _ => true) p1 p2 hu (fun j h1 h2 => absurd h2 (by simp)) ?_
  have hl := r1.length
  refine ⟨.bl xs.isEmpty, HH, I, ?_, q⟩
  cases xs with
  | nil => cases r1; rfl
  | cons x xs => cases r1; rfl
end
section
variable {F : Fm} {X : Cx} {Γ : List Sl} {c : Cells} {P : Cells → Dt → Prop} {Φ : PEnds} {pos : Pos}
theorem ov_eqT0 {l : List Dt} (hu : X.A.units < cLine) (p : P c (.bl l.isEmpty)) : OpV F X Γ c (compareOp .Eq) (.tup l) (.tup []) P :=
  OpV.of (op_eqT0 hu) fun σ H x y Q S h1 h2 k => by
    cases h1 with
    | tup a t =>
      cases h2 with
      | tup b u =>
        have hl := t.length
        cases u
        refine ⟨_, _, _, rfl, rfl, (a.mono (mask_ex _ _)).t, (b.mono (mask_ex _ _)).t, ?_⟩
        cases t with
        | nil => exact k _ H c _ p S (Ex.refl _) (.bl _)
        | cons h t => exact k _ H c _ p S (Ex.refl _) (.bl _)
end
end D
end
section
set_option Elab.async false
set_option linter.all false
set_option maxRecDepth 100000
set_option maxHeartbeats 2000000
namespace D
open PySem L2 PyProof.Rows PyProof HT
theorem filterMap_ext {α β : Type} {f g : α → Option β} : ∀ {l : List α}, (∀ x ∈ l, f x = g x) → l.filterMap f = l.filterMap g
  | [], _ => rfl
  | x :: l, h => by
    rw [List.filterMap_cons, List.filterMap_cons, h x (List.mem_cons_self ..), filterMap_ext fun y hy => h y (List.mem_cons_of_mem _ hy)]
section
variable {prog : Program} {w : World} {A : Around} {E : Value → Shared → Prop} {s : Shared}
theorem back_pick (xs : Array Value) : ((List.range xs.size).filterMap fun (m : Nat) => xs[(((xs.size : Nat) : Int) - 1 + (m : Int) * (-1)).toNat]?).toArray = xs.toList.reverse.toArray := by
  obtain ⟨l⟩ := xs
  simp only [List.size_toArray]
  congr 1
  have e : ∀ m, m < l.length → (l.toArray[(((l.length : Nat) : Int) - 1 + (m : Int) * (-1)).toNat]?) = some (l.reverse.getD m .none) := fun m hm => by
    have : (((l.length : Nat) : Int) - 1 + (m : Int) * (-1)).toNat = l.length - 1 - m := by omega
    rw [this, List.getElem?_toArray, List.getD_eq_getElem?_getD, List.getElem?_reverse hm]
    rw [List.getElem?_eq_getElem (by omega)]
    rfl
  have e2 : ((List.range l.length).filterMap fun (m : Nat) => l.toArray[(((l.length : Nat) : Int) - 1 + (m : Int) * (-1)).toNat]?) = (List.range l.length).map fun m => l.reverse.getD m .none := by
    rw [← List.filterMap_eq_map]
    exact filterMap_ext fun m hm => e m (List.mem_range.mp hm)
  rw [e2]
  apply List.ext_getElem
  · simp
  · intro i h1 h2
    simp only [List.getElem_map, List.getElem_range]
    rw [List.getD_eq_getElem?_getD, List.getElem?_eq_getElem h2]
    rfl
theorem applied_back {sl : Addr} {vl vu vs : Value} {n : Nat} {Q : Int × Int × Nat → Shared → Prop} (hs : s.heap.IsSliceOf sl vl vu vs) (pl : IsPart vl none) (pu : IsPart vu none) (ps : IsPart vs (some (-1)))
    (h : Q (((n : Nat) : Int) - 1, -1, n) s) : wpAny (model prog w) A (Builtin.Slice.sliceApplied (.ref sl) (pure (n : Int))) Q E s := by
  obtain ⟨os, hos, hcs, hds⟩ := id hs
  unfold Builtin.Slice.sliceApplied Builtin.Slice.sliceFields
  refine wpAny_bind (wpAny_bind (wpAny_field hos hds (x := vl) rfl (wpAny_bind (wpAny_field hos hds (x := vu) rfl (wpAny_bind (wpAny_field hos hds (x := vs) rfl (wpAny_pure ?_)))))))
  refine wpAny_bind (slicePart_ ps ?_)
  show wpAny _ _ (if ((-1 : Int) == 0) = true then _ else _) _ _ s
  rw [if_neg (by decide)]
  refine wpAny_bind (slicePart_ pl (wpAny_bind (slicePart_ pu (wpAny_bind (wpAny_pure ?_)))))
  have e1 : Builtin.Slice.sliceAdjust none none (-1) (n : Int) = ((n : Int) - 1, -1) := rfl
  have e2 : Builtin.Slice.slicePlaces ((n : Int) - 1) (-1) (-1) = n := by
    unfold Builtin.Slice.slicePlaces
    rw [if_neg (by decide)]
    by_cases hn : n = 0
    · subst hn; rfl
    · rw [if_pos (by omega), show (-(-1 : Int)) = 1 by rfl, Int.ediv_one]; omega
  show wpAny _ _ (match Builtin.Slice.sliceAdjust none none (-1) (n : Int) with | (lo, hi) => pure (lo, (-1 : Int), Builtin.Slice.slicePlaces lo hi (-1))) _ _ s
  rw [e1]
  show wpAny _ _ (pure ((n : Int) - 1, (-1 : Int), Builtin.Slice.slicePlaces ((n : Int) - 1) (-1) (-1))) _ _ s
  rw [e2]
  exact wpAny_pure h
theorem getItem_back {t sl : Addr} {items : Array Value} {vl vu vs : Value} {Q : Value → Shared → Prop} (ht : IsTup s.heap t items) (hs : s.heap.IsSliceOf sl vl vu vs) (pl : IsPart vl none) (pu : IsPart vu none) (ps : IsPart vs (some (-1))) (hsz : items.size ≤ sizeLine)
    (h : Q (.ref s.heap.objs.size) { s with heap := s.heap.push { cls := .type "tuple", data := .seq items.toList.reverse.toArray } }) : wpAny (model prog w) A (getItem (.ref t) (.ref sl)) Q E s := by
  have hok : sizeOk (.seq items.toList.reverse.toArray) := by
    show items.toList.reverse.toArray.size ≤ sizeLine
    rw [List.size_toArray, List.length_reverse, Array.length_toList]; exact hsz
  obtain ⟨os, hos, hcs, hds⟩ := id hs
  have hTs : s.TypeIs (.ref sl) "slice" := ⟨os, hos, hcs⟩
  unfold getItem
  try with_reducible refine wpAny_holding ?_
  first | refine wpAny_bind (wpAny_pure ?_) | skip
  refine wpAny_bind (wpAny_sequenceKey ht.typeIs (by decide) (wpAny_bind (wpAny_callSpecial?_slot (name := Str.ofString "__getitem__") ht.typeIs PyProof.Rows.slot_tuple_getitem (wpAny_call_entry PyProof.Rows.slot_tuple_getitem ht.typeIs entry_tuple_getitem ?_ (args_tuple_getitem _ _)))))
  show wpAny _ _ (Builtin.Tuple.tupleItemsOf (.ref t) >>= _) _ _ s
  refine wpAny_bind (tupleItemsOf_ ht (wpAny_bind (wpAny_typeOf hTs ?_)))
  rw [if_pos (by decide)]
  refine wpAny_bind (applied_back hs pl pu ps ?_)
  have hno : ¬ (((((items.size : Nat) : Int) - 1) == 0 && (-1 : Int) == 1 && items.size == items.size) = true) := by
    rw [show ((-1 : Int) == 1) = false from rfl, Bool.and_false, Bool.false_and]; exact Bool.false_ne_true
  show wpAny _ _ (if ((((items.size : Nat) : Int) - 1) == 0 && (-1 : Int) == 1 && items.size == items.size) = true then _ else _) _ _ s
  rw [if_neg hno, back_pick]
  first
    | exact wpAny_bind (m := Builtin.Tuple.tupleExact _) (wpAny_newObj_type (wpAny_pure ⟨_, rfl, wpAny_pure h⟩) hok)
    | exact wpAny_bind (m := Builtin.Tuple.tupleExact _) (wpAny_newObj_type (wpAny_bind (wpAny_pure (wpAny_pure ⟨_, rfl, wpAny_pure h⟩))) hok)
    | exact wpAny_bind (wpAny_bind (m := Builtin.Tuple.tupleExact _) (wpAny_newObj_type (wpAny_pure (wpAny_pure ⟨_, rfl, wpAny_pure h⟩)) hok))
    | exact wpAny_bind (wpAny_bind (m := Builtin.Tuple.tupleExact _) (wpAny_newObj_type (wpAny_pure ⟨_, rfl, wpAny_pure h⟩) hok))
end
section
variable {X : Cx}
def tBackT (K : PySem.W.Frag) (te : TE) : TE := fun σ H Q => te σ H fun x H1 => ∃ a xs, x = .ref a ∧ SqT K H1 a xs ∧ ∀ p (o : Obj), H1 p = none → o.dict = none → Q (.ref p) (upd H1 p (.frz o (.tup xs.reverse)))
theorem pe_backT {e : Expr} {te : TE} {k : Nat} {p1 p2 p3 pos : Pos} (he : PE X e te) : PE X (.Subscript e (.Slice none none (some (.UnaryOp .USub (.Constant (.int 1) k p1) p2)) p3) pos) (tBackT X.K te) := ⟨fun pn sa sg HH QQ I h => by
  refine Subscript_ (thn (he.run pn sa sg HH _ I h) fun v s1 ⟨x, H1, I1, r1, a, xs, ex, hx, q⟩ => ?_)
  subst ex
  cases r1
  have hst : PO X (some (.UnaryOp .USub (.Constant (.int 1) k p1) p2)) (tPart (tUn (rU fun i => .int (-i)) (tC (.int 1)))) := po_some (pe_un un_neg pe_int)
  refine wpAny_Slice (thn (po_none.run pn s1 sg H1 (fun o H2 => o = none ∧ H2 = H1) I1 ⟨rfl, rfl⟩) fun vl s2 ⟨l, H2, I2, pl, e1, e2⟩ => ?_)
  subst e1 e2
  refine thn (po_none.run pn s2 sg H2 (fun o H3 => o = none ∧ H3 = H2) I2 ⟨rfl, rfl⟩) fun vu s3 ⟨u, H3, I3, pu, e3, e4⟩ => ?_
  subst e3 e4
  refine thn (hst.run pn s3 sg H3 (fun o H4 => o = some (-1) ∧ H4 = H3) I3 ⟨1, rfl, -1, rfl, rfl, rfl⟩) fun vs s4 ⟨o, H4, I4, ps, e5, e6⟩ => ?_
  subst e5 e6
  have I5 : Inv X pn sg H4 { s4 with heap := s4.heap.push { cls := .type "slice", data := .fields #[vl, vu, vs] } } := I4.kept (t' := s4.toks) fun b ob q => Heap.get?_push_of_some _ q
  obtain ⟨its, r, ht, hz⟩ := I5.tuple hx
  have hlen := r.length
  show wpAny (model X.prog X.w) X.A (subscriptTail e (.Slice none none (some (.UnaryOp .USub (.Constant (.int 1) k p1) p2)) p3) (.ref a) (.ref s4.heap.objs.size)) (EP X pn sg QQ) X.xe { s4 with heap := s4.heap.push { cls := .type "slice", data := .fields #[vl, vu, vs] }, toks := s4.toks }
  refine tail_any (ops := [.ref a, .ref s4.heap.objs.size]) ht.typeIs (PyProof.Rows.slot_tuple_getitem.lookup) ?_ (by with_unfolding_all rfl)
  refine getItem_back ht (Heap.IsSliceOf.new _ vl vu vs) pl pu ps (by rw [List.size_toArray]; omega) ?_
  obtain ⟨o, ho, I6⟩ := laidF (t' := s4.toks) (h' := s4.heap.push { cls := .type "slice", data := .fields #[vl, vu, vs] }) (xs := xs.reverse) (us := its.reverse) I5 (fun b u e => Heap.get?_push_of_some _ e) (Nat.le_refl _) (by rw [List.length_reverse]; exact hz) r.reverse
  exact ⟨.ref _, _, I6, rfl, q _ o (I5.hok.fresh (Nat.le_refl _)) ho⟩⟩
end
section
variable {F : Fm} {X : Cx} {Γ : List Sl} {c : Cells} {P : Cells → Dt → Prop} {Φ : PEnds} {pos : Pos}
theorem DVs.rev {K : PySem.W.Frag} {H : Hp} : ∀ {v : List V} {d : List Dt}, DVs K H v d → DVs K H v.reverse d.reverse
  | _, _, .nil => .nil
  | _, _, .cons h t => by rw [List.reverse_cons, List.reverse_cons]; exact (DVs.rev t).append (.cons h .nil)
theorem se_backT {e : Expr} {k : Nat} {p1 p2 p3 : Pos} (h : SE F X Γ c e fun c1 d => ∃ l, d = .tup l ∧ P c1 (.tup l.reverse)) : SE F X Γ c (.Subscript e (.Slice none none (some (.UnaryOp .USub (.Constant (.int 1) k p1) p2)) p3) pos) P :=
  SE.of (pe_backT pE) fun σ H Q S kk => h σ H _ S fun v H1 c1 d p S1 e1 dv => by
    obtain ⟨l, rfl, p⟩ := p
    cases dv with
    | tup a t => exact ⟨_, _, rfl, (a.mono (mask_ex _ _)).t, fun q o hq ho => kk _ _ c1 _ p (S1.new hq) (e1.trans (Kp.new (F := F) hq).hid) (S1.newT hq ho t.rev)⟩
end
end D
end
section
set_option Elab.async false
set_option linter.all false
set_option maxRecDepth 100000
set_option maxHeartbeats 2000000
namespace D
open PySem L2 PyProof.Rows PyProof
open PySem.W (EachIs AllAlike Sortable dataLe list_sort_data KdlSrc kdl_hint_dict kdu_collect alike)
def kP : L2.Key → PyData
  | .inl i => .int i
  | .inr s => .str s
def encK (k : List L2.Key) : PyData := .tuple (k.map kP)
theorem reads_key {h : Heap} {k : L2.Key} {u : Value} (r : RelV (kV k) u) : Reads h u (kP k) [] := by
  cases k with
  | inl i => obtain ⟨t, rfl⟩ := (show ∃ t, u = Value.int i t from r); exact .int i t
  | inr s => obtain ⟨t, rfl⟩ := (show ∃ t, u = Value.str s t from r); exact .str s t
theorem reads_keys {h : Heap} : ∀ {ks : List L2.Key} {us : List Value}, Vals (ks.map kV) us → ReadsAll h us (ks.map kP) []
  | [], _, .nil => .nil
  | k :: ks, _, .cons r t => by
    have := ReadsAll.cons (reads_key (h := h) r) (reads_keys (h := h) t)
    exact this
theorem depth_kP (k : L2.Key) : (kP k).depth ≤ 1 := by cases k <;> simp [kP, PyData.depth]
theorem depth_encK (k : List L2.Key) : (encK k).depth ≤ 8 := by
  have h : ∀ l : List L2.Key, PyData.depthAll (l.map kP) ≤ 1 := fun l => by
    induction l with
    | nil => decide
    | cons x l ih =>
      have h1 := depth_kP x
      have h2 : PyData.depthAll ((x :: l).map kP) = max (kP x).depth (PyData.depthAll (l.map kP)) := by rw [List.map_cons, PyData.depthAll]
      rw [h2]; omega
  have := h k
  have e : (encK k).depth = PyData.depthAll (k.map kP) + 1 := by unfold encK; rw [PyData.depth]
  omega
section
variable {X : Cx}
theorem each_at {α β : Type} {R : α → β → Prop} : ∀ {l : List α} {m : List β}, l.length = m.length → (∀ (i : Nat) (x : α) (y : β), l[i]? = some x → m[i]? = some y → R x y) → EachIs R l m
  | [], [], _, _ => .nil
  | x :: l, y :: m, hl, h => .cons (h 0 x y rfl rfl) (each_at (by simpa using hl) fun i a b ha hb => h (i + 1) a b (by simpa using ha) (by simpa using hb))
  | [], _ :: _, hl, _ => by simp at hl
  | _ :: _, [], hl, _ => by simp at hl
end
end D
end
section
set_option Elab.async false
set_option linter.all false
set_option maxRecDepth 100000
set_option maxHeartbeats 2000000
namespace D
open PySem L2 PyProof.Rows PyProof
open PySem.W (AllAlike dataLe alike)
end D
end
section
set_option Elab.async false
set_option linter.all false
set_option maxRecDepth 100000
set_option maxHeartbeats 2000000
namespace D
open PySem L2 PyProof.Rows PyProof
end D
end
section
set_option Elab.async false
set_option linter.all false
set_option maxRecDepth 100000
set_option maxHeartbeats 2000000
namespace D
open PySem L2 PyProof.Rows PyProof PySem.SeqAt
open AutoSeq1 (wpAny_loadPart')
end D
end
section
set_option Elab.async false
set_option linter.all false
set_option maxRecDepth 100000
set_option maxHeartbeats 2000000
namespace D
open PySem L2 PyProof.Rows PyProof PySem.SeqAt
section
variable {X : Cx} {k : Nat} {C : Addr}
def Kn (C : Addr) : Dt → Prop
  | .non => True
  | .bl _ => True
  | .int _ => True
  | .str _ => True
  | .lst _ => True
  | .tup _ => True
  | .obj C' => C' = C
  | _ => False
end
section
variable {F : Fm} {X : Cx} {Γ : List Sl} {c : Cells} {P : Cells → Dt → Prop}
theorem Kn.ne {C : Addr} {d : Dt} : Kn C d → ∀ v, d ≠ .raw v := fun h v e => by subst e; exact h
end
end D
end
section
set_option Elab.async false
set_option linter.all false
set_option maxRecDepth 100000
set_option maxHeartbeats 2000000
namespace D
open PySem L2 PyProof.Rows PyProof
open PySem.W (AlikeAll minD maxD dataLt alike max_list_data readsAll_at reads_keeps)
theorem iteTr {b : Bool} {p q : Prop} (h : b = true) (k : p) : if b = true then p else q := by rw [if_pos h]; exact k
theorem iteFr {b : Bool} {p q : Prop} (h : b = false) (k : q) : if b = true then p else q := by rw [if_neg (by rw [h]; exact Bool.false_ne_true)]; exact k
end D
end
section
set_option Elab.async false
set_option linter.all false
set_option maxRecDepth 100000
set_option maxHeartbeats 2000000
namespace D
open PySem L2 PyProof.Rows PyProof
end D
namespace D
open PySem L2 PyProof.Rows PyProof
end D
namespace D
open PySem L2 PyProof.Rows PyProof
end D
end
section
set_option Elab.async false
set_option linter.all false
set_option maxRecDepth 100000
set_option maxHeartbeats 2000000
namespace D
open PySem PySem.Spec L2 PyProof.Rows LamX
/-- the table at P holds code objects of the name q alone -/
def tabP (P : Addr) (q : Str) (V H : Hp) : Prop := ∃ ps : Array Value, H P = some (.tbl ps) ∧ TriplesOk ps.toList ∧ ∀ (pos : Pos) (cv : Value), codeAmong pos ps.toList = some cv → ∃ c, cv = .ref c ∧ V c = some (CodeO c q)
def tabC (P : Addr) (q : Str) : Addr × Cel := (P, .grp [] (tabP P q))
theorem tabP.mono {P : Addr} {q : Str} {V V' H H' : Hp} (h : tabP P q V H) (e : Ex V V') (k : H' P = H P) : tabP P q V' H' := by
  obtain ⟨ps, h1, h2, h3⟩ := h
  refine ⟨ps, k.trans h1, h2, fun pos cv z => ?_⟩
  obtain ⟨c, e1, e2⟩ := h3 pos cv z
  exact ⟨c, e1, e _ _ e2⟩
theorem celAt_tab {K : PySem.W.Frag} {V H : Hp} {P : Addr} {q : Str} (h : tabP P q V H) : CelAt K V H P (.grp [] (tabP P q)) := by
  refine ⟨fun x hx => ?_, fun V' H' e k => h.mono e (k P (List.mem_cons_self ..))⟩
  cases List.mem_singleton.mp hx
  obtain ⟨ps, h1, _⟩ := h
  exact ⟨_, h1, fun xs z => nomatch z⟩
section
variable {X : Cx} {pins : List (Addr × Obj)} {σ : L2.St} {H : Hp} {s : Shared}
/-- what the making leaves: nothing new, or a row more in the table and its code object -/
def LamH (P : Addr) (q : Str) (H H1 : Hp) : Prop := H1 = H ∨ ∃ (c' : Addr) (ps : Array Value) (pos : Pos), H c' = none ∧ H P = some (.tbl ps) ∧ TriplesOk ps.toList ∧ H1 = upd (upd H P (.tbl (ps ++ #[rawInt pos.line, rawInt pos.col, .ref c']))) c' (CodeO c' q)
theorem lam_made {c P : Addr} {params : Arguments} {body : Expr} {scope : Scope} {pos : Pos} {Er : Value → Shared → Prop} {Q : Value → Shared → Prop} (I : Inv X pins σ H s) (TB : TabB X.base X.mg c P) (hcode : X.env.code = .ref c)
    (hT : tabP P (X.env.qual ++ "<lambda>") H H) (hdef : defaultsOf params X.env = ([], [])) (hfree : ∀ y ∈ scope.names, y.2 = .free → ∃ c, X.env.cells.lookup y.1 = some c)
    (k : ∀ (f : Addr) (H1 : Hp) (s' : Shared), Inv X pins σ H1 s' → LamH P (X.env.qual ++ "<lambda>") H H1 → H1 f = none → Q (.ref f) s') :
    wpAny (model X.prog X.w) X.A (eval (.Lambda params body scope pos) X.env) Q Er s := by
  obtain ⟨ps, tP, tt, ta⟩ := hT
  have b1 : s.heap.BuiltinsAt X.mg P := TB.bm.keeps I.bk
  have g1 : s.heap.get? P = some { cls := .none, data := .fields ps } := I.hok P _ tP
  refine PySem.W.kla_eval hdef ?_
  cases am : codeAmong pos ps.toList with
  | some cv =>
    obtain ⟨c1, rfl, _⟩ := ta pos cv am
    refine PySem.W.kla_makeFunctionHit (mg := X.mg) (c := c) (P := P) (ps := ps) (closure_ok hfree) I.ok.glob (I.mod.glob.keeps I.bk) hcode
      (TB.code.keeps I.bk) g1 tt am b1 fun ctv h2 tk old big => ?_
    refine k h2.objs.size H _ (I.kept fun b o z => Heap.get?_push_of_some _ (old b o z)) (.inl rfl) (I.hok.fresh big)
  | none =>
    refine PySem.W.kla_makeFunction (mg := X.mg) (c := c) (P := P) (ps := ps) (closure_ok hfree) I.ok.glob (I.mod.glob.keeps I.bk) hcode
      (TB.code.keeps I.bk) g1 tt am TB.gP b1 fun c1 ctv h2 tk old big lt rec' tb => ?_
    obtain ⟨c2, oc, vs, t, e2, hoc, hd, hv⟩ := rec'
    cases e2
    have big2 : s.heap.objs.size ≤ h2.objs.size := Nat.le_trans big (Nat.le_of_lt lt)
    have nC : H c1 = none := I.hok.fresh big
    have nP : P ≠ c1 := ne_of_none tP nC
    have I1 := inv_table (t' := tk) (more := #[rawInt pos.line, rawInt pos.col, .ref c1]) (q := X.env.qual ++ "<lambda>")
      (h' := h2.push (PySem.W.kla_obj "<lambda>" (X.env.qual ++ "<lambda>") params body scope (cloFrom X.env.cells scope.names []) ((X.mg "__name__").getD .none) c1 ctv))
      I tP (fun b o nb z => Heap.get?_push_of_some _ (old b o nb z)) (Heap.get?_push_of_some _ tb) big ⟨oc, vs, t, Heap.get?_push_of_some _ hoc, hd, hv⟩
    refine k h2.objs.size _ _ I1 (.inr ⟨c1, ps, pos, nC, tP, tt, rfl⟩) ?_
    · rw [upd_ne (Nat.ne_of_gt lt), upd_ne (Nat.ne_of_gt (Nat.lt_of_lt_of_le (Heap.lt_size g1) big2))]
      exact I.hok.fresh big2
end
section
variable {F : Fm} {X : Cx} {Γ : List Sl} {c : Cells} {Pp : Cells → Dt → Prop} {pos : Pos}
/-- lambda ..: .. as a value that is never called -/
theorem se_lam (j : Nat) {cd P : Addr} {params : Arguments} {body : Expr} {scope : Scope} (TB : TabB X.base X.mg cd P) (hcode : X.env.code = .ref cd) (hj : c[j]? = some (tabC P (X.env.qual ++ "<lambda>"))) (p : ∀ f, Pp c (.raw (.ref f)))
    (hdef : defaultsOf params X.env = ([], []) := by rfl) (hfree : ∀ y ∈ scope.names, y.2 = .free → ∃ c, X.env.cells.lookup y.1 = some c := by decide) : SE F X Γ c (.Lambda params body scope pos) Pp := .mk fun σ H Q S k => ⟨fun pins s I => by
  have ce := S.cat hj
  have ht : tabP P (X.env.qual ++ "<lambda>") (Vw F c H) H := ce.2 _ _ (Ex.refl _) fun _ _ => rfl
  refine lam_made I TB hcode (ht.mono (mask_ex _ _) rfl) hdef hfree fun f H1 s' I1 hl _ => ?_
  rcases hl with rfl | ⟨c1, ps, ppos, nc, tP, tt, rfl⟩
  · exact ⟨.ref f, _, I1, rfl, k _ _ c _ (p f) S (Ex.refl _) (.raw _)⟩
  · generalize hmore : ps ++ #[rawInt ppos.line, rawInt ppos.col, .ref c1] = more at I1
    have nP : P ≠ c1 := ne_of_none tP nc
    have e0 : upd (upd H P (.tbl more)) c1 (CodeO c1 (X.env.qual ++ "<lambda>")) = upd (upd H c1 (CodeO c1 (X.env.qual ++ "<lambda>"))) P (.tbl more) := by
      funext x
      by_cases h1 : x = c1
      · subst h1; rw [upd_same, upd_ne (fun z => nP z.symm), upd_same]
      · by_cases h2 : x = P
        · subst h2; rw [upd_ne h1, upd_same, upd_same]
        · rw [upd_ne h1, upd_ne h2, upd_ne h2, upd_ne h1]
    have S1 : SI X.K F Γ c σ (upd H c1 (CodeO c1 (X.env.qual ++ "<lambda>"))) := S.new nc
    have e1 : Ex (Vw F c H) (Vw F c (upd H c1 (CodeO c1 (X.env.qual ++ "<lambda>")))) := (Kp.new (F := F) nc).hid
    have hv : tabP P (X.env.qual ++ "<lambda>") (Vw F c (upd H c1 (CodeO c1 (X.env.qual ++ "<lambda>")))) (upd (upd H c1 (CodeO c1 (X.env.qual ++ "<lambda>"))) P (.tbl more)) := by
      obtain ⟨ps0, b1, b2, b3⟩ := ht
      rw [tP] at b1
      cases b1
      have eL : more.toList = ps.toList ++ [rawInt ppos.line, rawInt ppos.col, .ref c1] := by rw [← hmore]; simp
      refine ⟨_, upd_same, by rw [eL]; exact PySem.TriplesOk_snoc _ _ _ _ tt, fun p' cv z => ?_⟩
      rw [eL] at z
      rcases among_app _ tt z with z | z
      · obtain ⟨c0, e2, e3⟩ := b3 p' cv z
        exact ⟨c0, e2, e1 _ _ e3⟩
      · refine ⟨c1, z, ?_⟩
        show mask _ _ _ = _
        rw [mask_out (S.fresh nc), upd_same]
    obtain ⟨S2, e2⟩ := S1.chg (q' := .grp [] (tabP P (X.env.qual ++ "<lambda>"))) hj rfl (H' := upd (upd H c1 (CodeO c1 (X.env.qual ++ "<lambda>"))) P (.tbl more)) (fun x hx => upd_ne fun z => hx (by rw [z]; exact List.mem_cons_self ..)) (celAt_tab hv)
    have es : c.set j (P, Cel.grp [] (tabP P (X.env.qual ++ "<lambda>"))) = c := by
      obtain ⟨hlt, he⟩ := List.getElem?_eq_some_iff.mp hj
      have : c[j] = (P, Cel.grp [] (tabP P (X.env.qual ++ "<lambda>"))) := he
      rw [← this, List.set_getElem_self]
    rw [es] at S2 e2
    rw [e0] at I1
    exact ⟨.ref f, _, I1, rfl, k _ _ c _ (p f) S2 (e1.trans e2) (.raw _)⟩⟩
/-- sorted(l, key=f), l empty -/
def rSorted0 (K : PySem.W.Frag) : List V → List V → Hp → VK → Prop := fun xs zs H Q => ∃ (a f : Addr), xs = [.ref a] ∧ zs = [.ref f] ∧ SqL K H a [] ∧ ∀ p, H p = none → Q (.ref p) (upd H p (.lst []))
theorem call_sorted0 {X : Cx} (hu : X.A.units + 2 < cLine) : L2.CallRK X (.builtin "sorted") ["key"] (rSorted0 X.K) := fun pn s σ H xs zs us ws Q I rx rz ⟨a, f, ex, ez, hs, q⟩ => by
  subst ex ez
  obtain ⟨its, r, hl, _⟩ := I.list hs
  cases r
  rw [Vals.ref1 rx, Vals.ref1 rz]
  refine PySem.W.sorted_key_data (R := fun _ (_ : Unit) => True) (bs := []) (vs := []) (b := false) (f := .ref f) (fun _ => .none) hl.isList .nil (fun _ h => nomatch h) (by first | exact fun _ h => nomatch h | exact .inl rfl | simp [PySem.W.Sortable]) (Nat.zero_le _)
    (fun _ h => nomatch h) (PyProof.Rows.ksk_s1 _ _) (fun x => PyProof.Rows.ksk_l1 _ _) (fun x => PyProof.Rows.ksk_t1 f x) (fun _ _ _ h => nomatch h) fun out n h' tk old fr hn ho _ => ?_
  have ho : out = [] := List.eq_nil_of_length_eq_zero ho
  subst ho
  exact ⟨.ref (s.heap.objs.size + 1), _, I.laid (t' := tk) old (Nat.le_succ _) (show ObjOk X.prog X.w _ _ _ (.lst []) from ⟨Nat.zero_le _, [], n, .nil, hn⟩), rfl, q _ (I.hok.fresh (Nat.le_succ _))⟩
section
variable {F : Fm} {X : Cx} {Γ : List Sl} {c : Cells} {Pp : Cells → Dt → Prop} {pos : Pos}
theorem se_sorted0 {p kp : Pos} {e f : Expr} (hm : X.mg "sorted" = none) (hu : X.A.units + 2 < cLine) (h : SE F X Γ c e fun c1 d => d = .lst [] ∧ SE F X Γ c1 f fun c2 d2 => ∃ g, d2 = .raw (.ref g) ∧ Pp c2 (.lst [])) (hg : Gl X "sorted" := by rfl)
    (he : backTo pos (starEach [e] X.env) = (false, eval e X.env) :: backTo pos (starEach [] X.env) := by rfl) (hst : starEach [e] X.env = (false, eval e X.env) :: starEach [] X.env := by rfl) (hpl : (backTo pos (starEach [e] X.env)).any (·.1) = false := by rfl)
    (hall : (backToKw pos (keywordEach [⟨some "key", f, kp⟩] X.env)).all (·.1.isSome) = true := by rfl) (hnone : (backToKw pos (keywordEach [⟨some "key", f, kp⟩] X.env)).any (·.1.isNone) = false := by rfl) (hks : (backToKw pos (keywordEach [⟨some "key", f, kp⟩] X.env)).filterMap (·.1) = [("key" : Str)] := by rfl) :
    SE F X Γ c (.Call (.Name "sorted" p) [e] [⟨some "key", f, kp⟩] pos) Pp :=
  SE.of (pe_callBK (call_sorted0 hu) hg hm (by decide +kernel) (pa_cons pE pa_nil hst) (pk_cons pE pk_nil) (by decide) (by decide) he hpl hall hnone hks) fun σ H Q S k => by
    refine h σ H _ S fun v H1 c1 d p1 S1 e1 dv => ?_
    obtain ⟨rfl, p1⟩ := p1
    refine p1 σ H1 _ S1 fun w H2 c2 d2 p2 S2 e2 dw => ?_
    obtain ⟨g, rfl, p2⟩ := p2
    cases dw
    cases dv with
    | lst a t =>
      cases t
      exact ⟨_, g, rfl, rfl, .inl (.inl (of_mask (e2 _ _ a)).2), fun q hq => k _ _ c2 _ p2 (S2.new hq) ((e1.trans e2).trans (Kp.new (F := F) hq).hid) (S2.newL hq .nil)⟩
end
end
end D
end
section
set_option Elab.async false
set_option linter.all false
set_option maxRecDepth 100000
set_option maxHeartbeats 2000000
namespace D
open PySem PySem.Spec L2 PyProof.Rows
mutual
def nv : Dt → Bool
  | .lst l => nvs l
  | .tup l => nvs l
  | .par l => nvs l
  | .fzl l => nvs l
  | .dct _ => false
  | .dcu _ => false
  | .exc _ _ _ => false
  | .lck _ _ => false
  | .lcu _ _ => false
  | _ => true
def nvs : List Dt → Bool
  | [] => true
  | d :: l => nv d && nvs l
end
theorem nvs_all : ∀ {l : List Dt}, (∀ d ∈ l, nv d = true) → nvs l = true
  | [], _ => rfl
  | d :: l, h => by
    show (nv d && nvs l) = true
    rw [h d (List.mem_cons_self ..), nvs_all fun x hx => h x (List.mem_cons_of_mem _ hx)]; rfl
/-- what the view V1 has but the dict at p, V2 has too -/
def ExB (p : Addr) (V1 V2 : Hp) : Prop := ∀ a o, V1 a = some o → a ≠ p → V2 a = some o
mutual
theorem DV.nv {K : PySem.W.Frag} {V1 V2 : Hp} {p : Addr} {ob : Obj} {xs0 : List (Key × L2.V)} (hp : V1 p = some (.frz ob (.dK xs0))) (e : ExB p V1 V2) : ∀ {v : L2.V} {d : Dt}, DV K V1 v d → D.nv d = true → DV K V2 v d
  | _, _, .non, _ => .non
  | _, _, .bl b, _ => .bl b
  | _, _, .int b, _ => .int b
  | _, _, .str b, _ => .str b
  | _, _, .lst h t, n => .lst (e _ _ h fun z => by rw [z, hp] at h; cases h) (DVs.nv hp e t n)
  | _, _, .tup h t, n => .tup (by
      rcases h with ⟨o, h, ho⟩ | h
      · exact .inl ⟨o, e _ _ h (fun z => by rw [z, hp] at h; cases h), ho⟩
      · exact .inr h) (DVs.nv hp e t n)
  | _, _, .par h t, n => .par (e _ _ h fun z => by rw [z, hp] at h; cases h) (DVs.nv hp e t n)
  | _, _, .dct h t, n => by cases n
  | _, _, .dcu h t, n => by cases n
  | _, _, .fzl h t, n => .fzl (by
      rcases h with (h | ⟨o, h⟩) | h
      · exact .inl (.inl (e _ _ h fun z => by rw [z, hp] at h; cases h))
      · exact .inl (.inr ⟨o, e _ _ h fun z => by rw [z, hp] at h; cases h⟩)
      · exact .inr h) (DVs.nv hp e t n)
  | _, _, .exc h t, n => by cases n
  | _, _, .obj h, n => .obj (e _ _ h fun z => by rw [z, hp] at h; cases h)
  | _, _, .lck h t, n => by cases n
  | _, _, .lcu h t, n => by cases n
  | _, _, .raw v, _ => .raw v
theorem DVs.nv {K : PySem.W.Frag} {V1 V2 : Hp} {p : Addr} {ob : Obj} {xs0 : List (Key × L2.V)} (hp : V1 p = some (.frz ob (.dK xs0))) (e : ExB p V1 V2) : ∀ {v : List L2.V} {d : List Dt}, DVs K V1 v d → D.nvs d = true → DVs K V2 v d
  | _, _, .nil, _ => .nil
  | _, _, .cons (d := d) (ds := ds) h t, n => by
    have n' := Bool.and_eq_true_iff.mp (show (D.nv d && D.nvs ds) = true from n)
    exact .cons (DV.nv hp e h n'.1) (DVs.nv hp e t n'.2)
end
def nvC : Cel → Prop
  | .lst l => ∀ d ∈ l, nv d = true
  | .dk l => ∀ q ∈ l, nv q.2 = true
  | .dt l => ∀ q ∈ l, nv q.2 = true
  | .ins _ _ fs => ∀ q ∈ fs, nv q.2 = true
  | .bag _ => True
  | .grp _ _ => True
  | _ => False
section
variable {K : PySem.W.Frag} {V1 V2 H1 H2 : Hp} {p : Addr} {ob : Obj} {xs0 : List (Key × L2.V)}
theorem dvs_nv' (hp : V1 p = some (.frz ob (.dK xs0))) (e : ExB p V1 V2) {v : List L2.V} {d : List Dt} (h : DVs K V1 v d) (n : ∀ x ∈ d, nv x = true) : DVs K V2 v d := h.nv hp e (nvs_all n)
theorem dvk_nv (hp : V1 p = some (.frz ob (.dK xs0))) (e : ExB p V1 V2) : ∀ {v : List (Key × L2.V)} {d : List (Key × Dt)}, DVk K V1 v d → (∀ q ∈ d, nv q.2 = true) → DVk K V2 v d
  | _, _, .nil, _ => .nil
  | _, _, .cons h t, n => .cons (h.nv hp e (n _ (List.mem_cons_self ..))) (dvk_nv hp e t fun q hq => n q (List.mem_cons_of_mem _ hq))
theorem dvu_nv (hp : V1 p = some (.frz ob (.dK xs0))) (e : ExB p V1 V2) : ∀ {v : List (List Key × L2.V)} {d : List (List Key × Dt)}, DVu K V1 v d → (∀ q ∈ d, nv q.2 = true) → DVu K V2 v d
  | _, _, .nil, _ => .nil
  | _, _, .cons h t, n => .cons (h.nv hp e (n _ (List.mem_cons_self ..))) (dvu_nv hp e t fun q hq => n q (List.mem_cons_of_mem _ hq))
theorem dvx_nv (hp : V1 p = some (.frz ob (.dK xs0))) (e : ExB p V1 V2) : ∀ {v : List (Str × L2.V)} {d : List (Str × Dt)}, DVx K V1 v d → (∀ q ∈ d, nv q.2 = true) → DVx K V2 v d
  | _, _, .nil, _ => .nil
  | _, _, .cons h t, n => .cons (h.nv hp e (n _ (List.mem_cons_self ..))) (dvx_nv hp e t fun q hq => n q (List.mem_cons_of_mem _ hq))
end
end D
namespace D
open PySem PySem.Spec L2 PyProof.Rows
/-- a group that does not speak of dicts -/
def GB (φ : Hp → Hp → Prop) : Prop := ∀ (V V' H : Hp) (p : Addr) (ob : Obj) (xs0 : List (Key × L2.V)), V p = some (.frz ob (.dK xs0)) → ExB p V V' → φ V H → φ V' H
def nvG : Cel → Prop
  | .grp _ φ => GB φ
  | q => nvC q
theorem gb_tab {P : Addr} {q : Str} : GB (tabP P q) := fun V V' H p ob xs0 hp e h => by
  obtain ⟨ps, h1, h2, h3⟩ := h
  refine ⟨ps, h1, h2, fun pos cv z => ?_⟩
  obtain ⟨c, e1, e2⟩ := h3 pos cv z
  exact ⟨c, e1, e _ _ e2 fun z => by rw [z, hp] at e2; cases e2⟩
theorem celAt_nv {K : PySem.W.Frag} {V1 V2 H1 H2 : Hp} {p a : Addr} {ob : Obj} {xs0 : List (Key × L2.V)} {q : Cel} (hp : V1 p = some (.frz ob (.dK xs0))) (e : ExB p V1 V2) (hn : nvG q) (k : ∀ x ∈ a :: q.fp, H2 x = H1 x) (hpf : V2 p = none) (h : CelAt K V1 H1 a q) : CelAt K V2 H2 a q := by
  have ka := k a (List.mem_cons_self ..)
  cases q with
  | lst l => obtain ⟨xs, h1, h2⟩ := h; exact ⟨xs, ka.trans h1, dvs_nv' hp e h2 hn⟩
  | dk l => obtain ⟨xs, h1, h2⟩ := h; exact ⟨xs, ka.trans h1, dvk_nv hp e h2 hn⟩
  | dt l => obtain ⟨xs, h1, h2⟩ := h; exact ⟨xs, ka.trans h1, dvu_nv hp e h2 hn⟩
  | lk o l => exact hn.elim
  | lt o l => exact hn.elim
  | ins c dx l => obtain ⟨xs, h1, h2⟩ := h; exact ⟨xs, ka.trans h1, dvx_nv hp e h2 hn⟩
  | bag n => obtain ⟨d, s, m, h1, r⟩ := h; exact ⟨d, s, m, ka.trans h1, r⟩
  | grp as φ =>
    refine ⟨fun x hx => (h.1 x hx).of_eq (k x hx), fun V3 H3 e3 k3 => ?_⟩
    have h4 := h.2 (upd V3 p (.frz ob (.dK xs0))) H3 (fun x o z => by
      by_cases hx : x = p
      · rw [hx, hp] at z; rw [hx, upd_same, ← z]
      · rw [upd_ne hx]; exact e3 _ _ (e _ _ z hx)) fun x hx => (k3 x hx).trans (k x hx)
    exact hn _ _ _ p ob xs0 upd_same (fun x o z hx => by rw [upd_ne hx] at z; exact z) h4
theorem dvx_put {K : PySem.W.Frag} {H : Hp} {f : Str} {y : L2.V} {d : Dt} (dv : DV K H y d) : ∀ {xs : List (Str × L2.V)} {fs : List (Str × Dt)}, DVx K H xs fs → xs.lookup f = some y → DVx K H xs (putFD f d fs)
  | _, _, .nil, h => by cases h
  | _, _, .cons (k := g) h t, hl => by
    unfold putFD
    rw [List.lookup_cons] at hl
    by_cases e : g = f
    · subst e
      simp at hl
      subst hl
      rw [if_pos rfl]; exact .cons dv t
    · have : (f == g) = false := by simp; exact fun z => e z.symm
      rw [this] at hl
      rw [if_neg e]; exact .cons h (dvx_put dv t hl)
theorem dvx_back {K : PySem.W.Frag} {V1 V2 : Hp} {p : Addr} {ob : Obj} {xs0 : List (Key × L2.V)} {f : Str} {l : List (Key × Dt)} (hp : V1 p = some (.frz ob (.dK xs0))) (e : ExB p V1 V2) : ∀ {fs : List (Str × Dt)} {ys : List (Str × L2.V)}, DVx K V1 ys (putFD f (.lck p l) fs) → fs.lookup f = some (.raw (.ref p)) → (∀ q ∈ fs, nv q.2 = true) → DVx K V2 ys fs
  | [], _, _, hl, _ => by cases hl
  | (g, d) :: fs, ys, h, hl, n => by
    unfold putFD at h
    rw [List.lookup_cons] at hl
    by_cases hg : g = f
    · subst hg
      simp at hl
      subst hl
      rw [if_pos rfl] at h
      cases h with
      | cons h t =>
        cases h
        exact .cons (.raw _) (dvx_nv hp e t fun q hq => n q (List.mem_cons_of_mem _ hq))
    · have : (f == g) = false := by simp; exact fun z => hg z.symm
      rw [this] at hl
      rw [if_neg hg] at h
      cases h with
      | cons h t => exact .cons (h.nv hp e (n _ (List.mem_cons_self ..))) (dvx_back hp e t hl fun q hq => n q (List.mem_cons_of_mem _ hq))
section
variable {F : Fm} {X : Cx} {Γ : List Sl} {c : Cells} {P : Cells → Dt → Prop} {pos : Pos}
/-- while e is walked, the dict at p (a field of the object at a) is locked, and read as a datum -/
theorem se_lock (j i : Nat) {a C dx p : Addr} {fs : List (Str × Dt)} (f : Str) {l : List (Key × Dt)} {e : Expr} (hj : c[j]? = some (p, .dk l)) (hi : (c.eraseIdx j)[i]? = some (a, .ins C dx fs)) (hf : fs.lookup f = some (.raw (.ref p))) (hn : ∀ q ∈ c, nvG q.2)
    (h : SE F X Γ ((c.eraseIdx j).set i (a, .ins C dx (putFD f (.lck p l) fs))) e fun c1 d => c1 = (c.eraseIdx j).set i (a, .ins C dx (putFD f (.lck p l) fs)) ∧ nv d = true ∧ P c d) : SE F X Γ c e P :=
  SE.of (pe_lock pE) fun σ H Q S k => by
    obtain ⟨xs, hx, hfr⟩ := S.frD hj
    refine ⟨p, .dK xs, hx, True.intro, fun od => ?_⟩
    obtain ⟨S1, e1, hd⟩ := hfr od
    obtain ⟨fxs, ha, t⟩ := S1.cat hi
    have hval : fxs.lookup f = some (.ref p) := by
      obtain ⟨u, h1, h2⟩ := t.get hf
      cases h2
      exact h1
    have hlck : DV X.K (Vw F (c.eraseIdx j) (upd H p (.frz od (.dK xs)))) (.ref p) (.lck p l) := by
      cases hd with
      | dct h1 h2 => exact .lck h1 h2
    obtain ⟨S2, e2⟩ := S1.chg (q' := .ins C dx (putFD f (.lck p l) fs)) hi rfl (H' := upd H p (.frz od (.dK xs))) (fun _ _ => rfl) ⟨fxs, ha, dvx_put hlck t hval⟩
    generalize hc' : (c.eraseIdx j).set i (a, Cel.ins C dx (putFD f (.lck p l) fs)) = c' at h S2 e2
    have hadd : addrs c' = addrs (c.eraseIdx j) := by rw [← hc']; exact addrs_set (q := .ins C dx fs) (q' := .ins C dx (putFD f (.lck p l) fs)) rfl hi
    have hmem : ∀ x, x ∈ addrs c ↔ x = p ∨ x ∈ addrs c' := fun x => by
      rw [addrs_erase hj x, hadd]
      show x ∈ [p] ∨ _ ↔ _
      rw [List.mem_singleton]
    have hhid : ∀ x, x ∈ hid F c ↔ x = p ∨ x ∈ hid F c' := fun x => by
      unfold hid
      rw [List.mem_append, List.mem_append, hmem x]
      constructor
      · rintro ((h | h) | h)
        · exact .inl h
        · exact .inr (.inl h)
        · exact .inr (.inr h)
      · rintro (h | h | h)
        · exact .inl (.inl h)
        · exact .inl (.inr h)
        · exact .inr h
    have hpc : p ∈ addrs c := (hmem p).mpr (.inl rfl)
    have npc' : p ∉ addrs c' := by
      rw [hadd]
      exact (nodup_erase hj S.nd).2 p (List.mem_cons_self ..)
    have npM : p ∉ F.M := (S.fr p hpc).2
    have nph : p ∉ hid F c' := fun z => by
      rcases List.mem_append.mp z with z | z
      · exact npc' z
      · exact npM z
    refine h σ _ _ S2 fun v H2 c1 d pd S3 e3 dv => ?_
    obtain ⟨rfl, nd, pd⟩ := pd
    have hp1 : Vw F c1 (upd H p (.frz od (.dK xs))) p = some (.frz od (.dK xs)) := by
      show mask _ _ _ = _
      rw [mask_out nph, upd_same]
    have hp2 : Vw F c1 H2 p = some (.frz od (.dK xs)) := e3 _ _ hp1
    refine ⟨(of_mask hp2).2, ?_⟩
    have exB : ExB p (Vw F c1 H2) (Vw F c (upd H2 p (.dK xs))) := fun x o z hx' => by
      obtain ⟨n, z⟩ := of_mask z
      show mask _ _ _ = _
      rw [mask_out (fun w => (hhid x).mp w |>.elim hx' n), upd_ne hx']
      exact z
    have exV : Ex (Vw F c H) (Vw F c (upd H2 p (.dK xs))) := fun x o z => by
      obtain ⟨n, z⟩ := of_mask z
      have hx' : x ≠ p := fun w => n ((hhid x).mpr (.inl w))
      have n' : x ∉ hid F c1 := fun w => n ((hhid x).mpr (.inr w))
      refine exB x o (e3 x o ?_) hx'
      show mask _ _ _ = _
      rw [mask_out n', upd_ne hx']
      exact z
    have hp3 : Vw F c (upd H2 p (.dK xs)) p = none := mask_in ((hhid p).mpr (.inl rfl))
    have S4 : SI X.K F Γ c σ (upd H2 p (.dK xs)) := by
      refine ⟨S.len, S.nd, fun m d hm => ?_, fun q hq => ?_, fun x o z => ?_, S.fr, fun x hx' => ?_, fun x hx' => ?_⟩
      · obtain ⟨w, h1, h2⟩ := S.sl m d hm
        exact ⟨w, h1, h2.mono exV⟩
      · obtain ⟨m, hm⟩ := List.getElem?_of_mem hq
        by_cases hmj : m = j
        · subst hmj
          rw [hj] at hm
          cases hm
          obtain ⟨xs', h1, h2⟩ := S.cat hj
          rw [hx] at h1
          cases h1
          exact ⟨xs, upd_same, h2.mono exV⟩
        · have hqe : q ∈ c.eraseIdx j := List.mem_eraseIdx_iff_getElem?.mpr ⟨m, hmj, hm⟩
          obtain ⟨m', hm'⟩ := List.getElem?_of_mem hqe
          have hap : ∀ x ∈ q.1 :: q.2.fp, x ≠ p := fun x hx' w => by
            refine npc' ?_
            rw [hadd, ← w]
            exact mem_addrs hqe hx'
          have hlt : i < (c.eraseIdx j).length := (List.getElem?_eq_some_iff.mp hi).1
          by_cases hmi : m' = i
          · subst hmi
            rw [hi] at hm'
            cases hm'
            have hin : (a, Cel.ins C dx (putFD f (.lck p l) fs)) ∈ c1 := by
              rw [← hc']
              exact List.mem_of_getElem? (List.getElem?_set_self hlt)
            obtain ⟨ys, h1, h2⟩ := S3.ce _ hin
            exact ⟨ys, by rw [upd_ne (hap a (List.mem_cons_self ..))]; exact h1, dvx_back hp2 exB h2 hf (hn _ hq)⟩
          · have hin : q ∈ c1 := by
              rw [← hc']
              exact List.mem_of_getElem? (by rw [List.getElem?_set_ne (fun w => hmi w.symm)]; exact hm')
            exact celAt_nv hp2 exB (hn q hq) (fun x hx' => upd_ne (hap x hx')) hp3 (S3.ce q hin)
      · obtain ⟨n, h0⟩ := of_mask z
        have h1 := (of_mask (S3.keep x o z)).2
        have hx' : x ≠ p := fun w => by
          subst w
          rcases (S.fr x hpc).1 with q | q
          · exact n q
          · rw [h0] at q; cases q
        rw [mask_out n, upd_ne hx']
        exact h1
      · exact (S3.live x hx').of_eq (upd_ne fun w => npM (by rw [← w]; exact hx'))
      · by_cases w : x = p
        · rw [w, upd_same]; exact ⟨_, rfl⟩
        · rw [upd_ne w]; exact S3.wl x hx'
    exact k v _ c d pd S4 exV (dv.nv hp2 exB nd)
end
end D
end
section
set_option Elab.async false
set_option linter.all false
set_option maxRecDepth 100000
set_option maxHeartbeats 2000000
namespace D
open PySem PySem.Spec L2 PyProof.Rows
section
variable {F : Fm} {X : Cx} {Γ : List Sl} {c : Cells} {P : Cells → Dt → Prop} {Φ : PEnds} {pos : Pos} {Pl : Cells → List Dt → Prop} {tg : Expr}
theorem src_items {K : PySem.W.Frag} {V0 : Hp} {a : Addr} {o : Obj} {xs : List (Key × V)} {l : List (Key × Dt)} (h : V0 a = some (.frz o (.dK xs))) (t : DVk K V0 xs l) : Src K V0 (Iti a o xs) (itemsD l) := by
  have hl : (itemsD l).length = xs.length := (List.length_map _).trans t.p.length.symm
  refine ⟨_, _, hl.symm ▸ walk_items, fun H e => e _ _ h, fun i H1 x H2 hi y _ => ?_⟩
  obtain ⟨T, x1, x2, h1, h2, h3, h4, h5⟩ := y
  have h4 : (xs[i]?).map (fun kv => kV kv.1) = some x1 := h4
  have h5 : (xs[i]?).map Prod.snd = some x2 := h5
  cases hq : xs[i]? with
  | none => rw [hq] at h4; cases h4
  | some kv =>
    rw [hq] at h4 h5
    cases h4
    cases h5
    obtain ⟨d, h6, h7⟩ := t.p.get (k := kv.1) (v := kv.2) hq
    refine ⟨.par [kD kv.1, d], ?_, .inr ⟨T, _, _, kD kv.1, d, h1, h2, h3, rfl, kD_dv _, h7⟩⟩
    unfold itemsD
    rw [List.getElem?_map, h6]
    rfl
theorem sw_itemsL {e : Expr} {apos tpos : Pos} {elts : List Expr} {kk : Nat} (h : SE F X Γ c e fun c1 d => ∃ a l, d = .lck a l ∧ Pl c1 (itemsD l)) (hbase : attributeBase e "items" X.env (eval e X.env) = eval e X.env := by rfl) (hline : (apos.endLine == pos.line) = true := by rfl) : SW F X Γ c (.Tuple elts kk tpos) (.Call (.Attribute e "items" apos) [] [] pos) Pl := .mk fun σ H R S k =>
  ⟨_, pi_items pE hbase hline, h σ H _ S fun v H1 c1 d p S1 k1 dv => by
    obtain ⟨a0, l, rfl, p⟩ := p
    cases dv with
    | lck a t => exact ⟨_, _, _, rfl, (of_mask a).2, k _ H1 c1 _ p S1 k1 (src_items a t)⟩⟩
theorem cv_lenDC (j : Nat) {a : Addr} {l : List (Key × Dt)} (hj : c[j]? = some (a, .dk l)) (p : P c (.int l.length)) : ClV F X Γ c (.builtin "len") [.raw (.ref a)] P :=
  ClV.of call_lenD fun σ H vs Q S dv k => by
    cases dv with
    | cons h1 t =>
      cases t
      cases h1
      obtain ⟨xs, h2, h3⟩ := S.cat hj
      refine ⟨a, xs, rfl, h2, k _ H c _ p S (Ex.refl _) ?_⟩
      rw [h3.p.length]; exact .int _
theorem cv_dictC (j : Nat) {a : Addr} {l : List (Key × Dt)} (hj : c[j]? = some (a, .dk l)) (p : ∀ b, P (c ++ [(b, .dk l)]) (.raw (.ref b))) : ClV F X Γ c (.type "dict") [.raw (.ref a)] P :=
  ClV.of call_dictD fun σ H vs Q S dv k => by
    cases dv with
    | cons h1 t =>
      cases t
      cases h1
      obtain ⟨xs, h2, h3⟩ := S.cat hj
      refine ⟨a, xs, rfl, .inl h2, fun b hb => ?_⟩
      obtain ⟨S2, e2⟩ := S.addC (q := .dk l) (o := .dK xs) hb rfl ⟨xs, upd_same, h3⟩
      exact k _ _ _ _ (p b) S2 e2 (.raw _)
theorem dvx_none {K : PySem.W.Frag} {H : Hp} {m : Str} : ∀ {xs : List (Str × L2.V)} {fs : List (Str × Dt)}, DVx K H xs fs → fs.lookup m = none → xs.lookup m = none
  | _, _, .nil, _ => rfl
  | _, _, .cons (k := k') h t, hl => by
    rw [List.lookup_cons] at hl ⊢
    cases hq : (m == k') with
    | true => rw [hq] at hl; cases hl
    | false => rw [hq] at hl; exact dvx_none t hl
theorem pe_mS {k : Nat} {f C : Addr} {fd : FuncData} {ps : List Str} {sp : Sp} {Er : L2.St → XK} {m : Str} {apos : Pos} {o : Expr} {es : List Expr} {ta : TE} {t : TA} {pl : Sem Bool} (ho : PE X o ta) (cl : Cls X.K C) (hm : Meth X.K C m f) (Fn : FnOk X.prog X.w X.K X.mg X.base (L2.CX X.prog X.w) k f fd ps sp) (hr : Room k X.A) (hb : Binds X.K fd ps []) (hx : ∀ σ, PassesAt (L2.CX X.prog X.w) X σ (Er σ)) (ha : PA X es t)
    (hcw : ∀ (s1 : Shared) (Qq : Value → Shared → Prop) (ar : List Value), True) (ht : eval (.Call (.Attribute o m apos) es [] pos) X.env = (do
      let ov ← eval o X.env
      standAt apos.atName
      let (f, first) ← holding [ov] (getMethod ov m pl)
      callWith pos f first (backTo pos (starEach es X.env)) (backToKw pos (keywordEach [] X.env)))) (hst : ∃ e es', es = e :: es' ∧ starEach es X.env = (false, eval e X.env) :: starEach es' X.env ∧ (backTo pos (starEach es' X.env)).any (·.1) = false) :
    PE X (.Call (.Attribute o m apos) es [] pos) (fun σ H Q => ta σ H fun x H1 => ∃ a dx fs, x = .ref a ∧ H1 a = some (.ins C dx fs) ∧ fs.lookup m = none ∧ t σ H1 fun vs H2 => sp (x :: vs) H2 Q (Er σ)) := ⟨fun pins s σ H Q I h => by
  obtain ⟨e, es', rfl, h1, h2⟩ := hst
  refine PySem.W.methodCall_KW (pl := pl) (thn (ho.run pins s σ H _ I h) fun u s1 ⟨x, H1, I1, rx, a, dx, fs, ex, ea, hl, q⟩ => ?_) ht
  subst ex
  obtain rfl : u = Value.ref a := rx
  refine getmeth_ok I1 ea cl hm hl ?_
  refine PySem.W.callWith_K (first := [.ref a]) (h₀ := X.base) I.ok.mod.kin hm.kp (thn (ha.run pos pins s1 σ H1 _ I1 q) fun us s2 ⟨vs, H2, I2, r, q2⟩ => ⟨I2.kIn, ?_⟩) h1 h2
  exact run_fnS (E := Er) (us := .ref a :: us) (vs := .ref a :: vs) Fn hr hb (hx σ) I2 (.cons rfl r) q2⟩
theorem pe_mS0 {k : Nat} {f C : Addr} {fd : FuncData} {ps : List Str} {sp : Sp} {Er : L2.St → XK} {m : Str} {apos : Pos} {o : Expr} {ta : TE} {pl : Sem Bool} (ho : PE X o ta) (cl : Cls X.K C) (hm : Meth X.K C m f) (Fn : FnOk X.prog X.w X.K X.mg X.base (L2.CX X.prog X.w) k f fd ps sp) (hr : Room k X.A) (hb : Binds X.K fd ps []) (hx : ∀ σ, PassesAt (L2.CX X.prog X.w) X σ (Er σ))
    (ht : eval (.Call (.Attribute o m apos) [] [] pos) X.env = (do
      let ov ← eval o X.env
      standAt apos.atName
      let (f, first) ← holding [ov] (getMethod ov m pl)
      callWith pos f first (backTo pos (starEach [] X.env)) (backToKw pos (keywordEach [] X.env)))) :
    PE X (.Call (.Attribute o m apos) [] [] pos) (fun σ H Q => ta σ H fun x H1 => ∃ a dx fs, x = .ref a ∧ H1 a = some (.ins C dx fs) ∧ fs.lookup m = none ∧ sp [x] H1 Q (Er σ)) := ⟨fun pins s σ H Q I h => by
  refine PySem.W.methodCall_KW (pl := pl) (thn (ho.run pins s σ H _ I h) fun u s1 ⟨x, H1, I1, rx, a, dx, fs, ex, ea, hl, q⟩ => ?_) ht
  subst ex
  obtain rfl : u = Value.ref a := rx
  refine getmeth_ok I1 ea cl hm hl ?_
  refine PySem.W.callWith_K0 (first := [.ref a]) I1.kIn hm.kp ?_
  exact run_fnS (E := Er) (us := [.ref a]) (vs := [.ref a]) Fn hr hb (hx σ) I1 (.cons rfl .nil) q⟩
structure MethOk (Pg : Program) (w : World) (K : PySem.W.Frag) (mg : Str → Option Value) (base : Heap) (k : Nat) (C : Addr) (m : Str) (ps : List Str) (sp : Sp) : Prop where
  ex : ∃ f fd, FnOk Pg w K mg base (L2.CX Pg w) k f fd ps sp ∧ Meth K C m f ∧ Binds K fd ps []
theorem se_mG {α : Type} {args : α → List Dt} {cells : α → Cells} {pre : α → Prop} {post : α → Cells → Dt → Prop} {exc : α → Cells → Xc → Prop} {k : Nat} {ps : List Str} {m : Str} {C : Addr} {o e : Expr} {es : List Expr} {apos : Pos} {Wd : List Sl → Cells → Xc → Prop} {pl : Sem Bool}
    (M : MethOk X.prog X.w X.K X.mg X.base k C m ps (spG X.K args cells pre post exc)) (cl : Cls X.K C) (hr : Room k X.A) (xt : XT F X Wd)
    (h : SE F X Γ c o fun c0 d0 => ∃ (j : Nat) (a dx : Addr) (fs : List (Str × Dt)), d0 = .raw (.ref a) ∧ c0[j]? = some (a, .ins C dx fs) ∧ fs.lookup m = none ∧ SA F X Γ c0 (e :: es) fun c1 ds => ∃ a' l r, .raw (.ref a) :: ds = args a' ∧ c1 = l ++ cells a' ++ r ∧ pre a' ∧ (∀ c' d, post a' c' d → P (l ++ c' ++ r) d) ∧ ∀ c' x, exc a' c' x → Wd Γ (l ++ c' ++ r) x)
    (hst : starEach (e :: es) X.env = (false, eval e X.env) :: starEach es X.env := by rfl) (hpl : (backTo pos (starEach es X.env)).any (·.1) = false := by rfl)
    (ht : eval (.Call (.Attribute o m apos) (e :: es) [] pos) X.env = (do
      let ov ← eval o X.env
      standAt apos.atName
      let (f, first) ← holding [ov] (getMethod ov m pl)
      callWith pos f first (backTo pos (starEach (e :: es) X.env)) (backToKw pos (keywordEach [] X.env))) := by rfl) : SE F X Γ c (.Call (.Attribute o m apos) (e :: es) [] pos) P := by
  obtain ⟨f, fd, h1, h2, h3⟩ := M.ex
  obtain ⟨W, tk, hW⟩ := xt.ex
  refine SE.of (pe_mS (Er := fun σ => WE W σ) (pl := pl) pE cl h2 h1 hr h3 (fun σ => passAt tk σ) pAs (fun _ _ _ => True.intro) ht ⟨e, es, rfl, hst, hpl⟩) fun σ H Q S k => h σ H _ S fun v H0 c0 d0 q0 S0 k0 dv0 => ?_
  obtain ⟨j, a, dx, fs, rfl, hj, hl, q0⟩ := q0
  cases dv0
  obtain ⟨xs, ha, t⟩ := S0.cat hj
  have hl' : xs.lookup m = none := dvx_none t hl
  refine ⟨a, dx, xs, rfl, ha, hl', q0 σ H0 _ S0 fun vs H1 c1 ds q S1 k1 dv => ?_⟩
  obtain ⟨a', l, r, ea, hc, hp, q1, q2⟩ := q
  exact sp_use hW S1 hc (by rw [← ea]; exact .cons (.raw _) dv) hp (fun v H' c' d pd S2 e2 dv' => k v H' _ d (q1 c' d pd) S2 ((k0.trans k1).trans e2) dv') q2
end
end D
end
section
set_option Elab.async false
set_option linter.all false
set_option maxRecDepth 100000
set_option maxHeartbeats 2000000
namespace D
open PySem PySem.Spec L2 PyProof.Rows
section
variable {P : Program} {w : World} {K : PySem.W.Frag} {mg : Str → Option Value} {base : Heap}
/-- a def whose function object is known: defaults or not, its code value -/
structure FunV (K : PySem.W.Frag) (x qual : Str) (st : Stmt) (f : Addr) (fd : FuncData) (cdv : Value) : Prop where
  ex : ∃ (oc : Value) (od : Option Addr) (dV kV doc pm : Value) (an : Option Addr) (ct : Value) (osl : Array (Option Value)), fd = PySem.W.fnOf x qual (defArgs st) (defBody st) (defScope st) dV kV doc pm an cdv ct ∧ K.lookup f = some ⟨oc, od, .func fd, osl⟩ ∧ PySem.W.codeIn K cdv qual = true
theorem fn_V {α : Type} {args : α → List Dt} {cells : α → Cells} {pre : α → Prop} {post : α → Cells → Dt → Prop} {exc : α → Cells → Xc → Prop} {x qual : Str} {st : Stmt} {f : Addr} {fd : FuncData} {cdv : Value} {N ps : List Str} {k : Nat} (Fu : FunV K x qual st f fd cdv) (S : FnScope N ps (defScope st)) (hl : ∀ a, (args a).length = ps.length)
    (h : ∀ (A : Around) (outer : List Env) (s : Shared) (H : Hp) (E : XK) (F : Fm) (a : α), pre a → Room k (A.deeper (envOfC qual (defScope st) s.heap.objs.size f cdv)) →
      XT F (cxOf (L2.CX P w) P w K mg base N qual (defScope st) f cdv A outer s H E) (fun _ => exc a) →
      SS F (cxOf (L2.CX P w) P w K mg base N qual (defScope st) f cdv A outer s H E) (startP N (args a)) (cells a) (defBody st) { nx := fun _ c' => post a c' .non, rt := fun _ c' d => post a c' d }) : FnOk P w K mg base (L2.CX P w) (k + 1) f fd ps (spG K args cells pre post exc) := by
  obtain ⟨oc, od, dV, kV, doc, pm, an, ct, osl, rfl, lk, hcd⟩ := Fu.ex
  refine fn_of lk hcd S (fun vs H Q E ⟨M, a, _, _, _, _, dv, _⟩ => by rw [dv.length, hl a]) fun A outer s H vs Q E hr ⟨M, a, hM, nd, dj, ce, dv, hp, k, kx⟩ => ?_
  have aft : ∀ {Γ' : List Sl} {c' : Cells} {σ' : L2.St} {H' : Hp}, SI K { H0 := H, M := M, W := addrs (cells a) } Γ' c' σ' H' → Aft K M H (cells a) c' H' := fun S' =>
    ⟨fun b o e n => (of_mask (S'.keep b o (by rw [mask_out n]; exact e))).2, S'.nd, fun x hx => ⟨(S'.fr x hx).2, (S'.fr x hx).1⟩, S'.ce, S'.wl⟩
  have hq := h A outer s H E { H0 := H, M := M, W := addrs (cells a) } a hp hr ⟨fun cls d _ H => E cls d H, takes_of rfl rfl rfl rfl, fun Γ' c' σ' H' x cls dx ex S' xa => kx cls dx H' c' x ex (aft S') xa⟩
  refine ⟨_, pSts, hq _ H _ ⟨?_, nd, fun i d hi => ?_, ce, Ex.refl _, fun x hx => ⟨.inl hx, dj x hx⟩, hM, fun x hx => ?_⟩ ⟨?_, ?_, fun _ _ _ _ z => z.elim, fun _ _ _ _ z => z.elim⟩⟩
  · unfold L2.start startP
    rw [List.length_append, List.length_append, List.length_map, List.length_map, List.length_replicate, List.length_replicate, dv.length]
  · unfold L2.start
    rw [dv.length]
    exact slots_dat _ dv i d hi
  · obtain ⟨p, h1, h2⟩ := of_addrs hx
    exact ((ce p h1).live x h2).ex
  · intro Γ' c' σ' H' p S' e'
    exact k .non H' c' .non p (aft S') .non
  · intro Γ' c' σ' H' v d p S' e' dv'
    exact k v H' c' d p (aft S') dv'
end
section
variable {F : Fm} {X : Cx} {Γ : List Sl} {c : Cells} {P : Cells → Dt → Prop} {Φ : PEnds} {pos : Pos}
/-- the fields of a class's instances -/
structure FldC (K : PySem.W.Frag) (C : Addr) (fl : List Str) : Prop where
  cl : Cls K C
  na : ∀ f ∈ fl, NoAttr K C f
/-- o.f, o the first cell -/
theorem se_fg {o : Expr} {f : Str} {C : Addr} {fl : List Str} (R : FldC X.K C fl) (h : SE F X Γ c o fun c1 d0 => ∃ (a dx : Addr) (fs : List (Str × Dt)) (rest : Cells) (d : Dt), d0 = .raw (.ref a) ∧ c1 = (a, Cel.ins C dx fs) :: rest ∧ fs.lookup f = some d ∧ P c1 d) (hf : f ∈ fl := by decide +kernel)
    (hb : attributeBase o f X.env (eval o X.env) = eval o X.env := by rfl) : SE F X Γ c (.Attribute o f pos) P :=
  se_fget (SE.mono h fun c1 d0 => by
    rintro ⟨a, dx, fs, rest, d, e1, rfl, e3, p⟩
    exact ⟨0, a, C, dx, fs, d, e1, rfl, R.cl, R.na f hf, e3, p⟩) hb
/-- d1[k1], d2[k2] = v, v a tuple of two -/
theorem s_put2 {o1 i1 o2 i2 e : Expr} {p1 p2 p3 : Pos} {kt : Nat} (hc : X.calm = true) (hu : X.A.units + 1 < cLine)
    (h : SE F X Γ c e fun c1 d => ∃ x y, d = .tup [x, y] ∧ SE F X Γ c1 o1 fun c2 d1 => ∃ a, d1 = .raw (.ref a) ∧ SE F X Γ c2 i1 fun c3 k1 => ∃ j l k, c3[j]? = some (a, .dk l) ∧ dkey k1 = some k ∧ l.length < sizeLine ∧
      SE F X Γ (c3.set j (a, .dk (dput l k x))) o2 fun c4 d2 => ∃ a', d2 = .raw (.ref a') ∧ SE F X Γ c4 i2 fun c5 k2 => ∃ j' l' k', c5[j']? = some (a', .dk l') ∧ dkey k2 = some k' ∧ l'.length < sizeLine ∧ Φ.nx Γ (c5.set j' (a', .dk (dput l' k' y))))
    (hs : swapsWithSole [.Tuple [.Subscript o1 i1 p1, .Subscript o2 i2 p2] kt p3] e pos.line X.env = pure false := by rfl) (hw : swappedStores [.Tuple [.Subscript o1 i1 p1, .Subscript o2 i2 p2] kt p3] e X.env = pure none := by rfl)
    (ha1 : ∀ v, assign (.Subscript o1 i1 p1) X.env v = (do
      let ov ← holding [v] (eval o1 X.env)
      let iv ← holding [v, ov] (eval i1 X.env)
      standAt p1
      holding [v, ov, iv] (setItem ov iv v)
      release [v, ov, iv] []) := by intro _; rfl)
    (ha2 : ∀ v, assign (.Subscript o2 i2 p2) X.env v = (do
      let ov ← holding [v] (eval o2 X.env)
      let iv ← holding [v, ov] (eval i2 X.env)
      standAt p2
      holding [v, ov, iv] (setItem ov iv v)
      release [v, ov, iv] []) := by intro _; rfl)
    (hn : (assignEach [.Subscript o1 i1 p1, .Subscript o2 i2 p2] X.env).length = 2 := by rfl) (hst : (assignEach [.Subscript o1 i1 p1, .Subscript o2 i2 p2] X.env).findIdx? (·.1) = none := by rfl) :
    S1 F X Γ c (.Assign [.Tuple [.Subscript o1 i1 p1, .Subscript o2 i2 p2] kt p3] e pos) Φ :=
  S1.of (ps_asg pE (pg_tup hc (pgs_cons (pg_sub pE pE (set_dict hu) ha1) (pgs_cons (pg_sub pE pE (set_dict hu) ha2) pgs_nil)) hn hst) hs hw) fun σ H D S E => h σ H _ S fun v H1 c1 d q S1 e1 dv => by
    obtain ⟨x, y, rfl, q⟩ := q
    cases dv with
    | tup a t =>
      cases t with
      | cons hx t => cases t with
        | cons hy t =>
          cases t
          refine ⟨_, _, rfl, (a.mono (mask_ex _ _)).t, rfl, _, _, rfl, ?_⟩
          refine q σ H1 _ S1 fun v1 H2 c2 d1 q2 S2 e2 dv1 => ?_
          obtain ⟨a1, rfl, q2⟩ := q2
          cases dv1
          refine q2 σ H2 _ S2 fun vk H3 c3 k1 q3 S3 e3 dk => ?_
          obtain ⟨j, l, k, hj, hk, hz, q3⟩ := q3
          obtain ⟨xs, hA, tA⟩ := S3.cat hj
          have ek := dkey_dv dk hk
          subst ek
          obtain ⟨S4, e4⟩ := S3.updC (q' := .dk (dput l k x)) (o := .dK (putK xs k _)) hj rfl rfl ⟨_, upd_same, (tA.p.put k (hx.mono (e2.trans e3))).k⟩
          refine ⟨a1, _, rfl, .k hA (by rw [tA.p.length]; exact hz), _, _, rfl, ?_⟩
          refine q3 σ _ _ S4 fun v2 H5 c4 d2 q4 S5 e5 dv2 => ?_
          obtain ⟨a2, rfl, q4⟩ := q4
          cases dv2
          refine q4 σ H5 _ S5 fun vk2 H6 c5 k2 q5 S6 e6 dk2 => ?_
          obtain ⟨j', l', k', hj', hk', hz', q5⟩ := q5
          obtain ⟨xs', hA', tA'⟩ := S6.cat hj'
          have ek' := dkey_dv dk2 hk'
          subst ek'
          obtain ⟨S7, e7⟩ := S6.updC (q' := .dk (dput l' k' y)) (o := .dK (putK xs' k' _)) hj' rfl rfl ⟨_, upd_same, (tA'.p.put k' (hy.mono (((((e2.trans e3).trans e4).trans e5).trans e6)))).k⟩
          exact ⟨a2, _, rfl, .k hA' (by rw [tA'.p.length]; exact hz'), rfl, E.nx _ _ _ _ q5 S7 ((((((e1.trans e2).trans e3).trans e4).trans e5).trans e6).trans e7)⟩
/-- cells at the end dropped -/
theorem ss_dropE {ss : List Stmt} : ∀ (r c : Cells), SS F X Γ c ss Φ → SS F X Γ (c ++ r) ss Φ
  | [], c, h => by rw [List.append_nil]; exact h
  | p :: r, c, h => by
    have h2 : (c ++ p :: r)[c.length]? = some p := by simp
    refine ss_dropC c.length h2 ?_
    rw [show (c ++ p :: r).eraseIdx c.length = c ++ r by simp [List.eraseIdx_append_of_length_le]]
    exact ss_dropE r c h
end
end D
end
section
set_option Elab.async false
set_option linter.all false
set_option maxRecDepth 100000
set_option maxHeartbeats 4000000
open PySem L2 D PyProof.Rows
local macro_rules
  | `(tactic| fail "z") => `(tactic| ((try simp only [List.length_map, List.length_cons, List.length_nil, List.length_append, List.length_drop, List.length_take]); have := big_line; omega))
local macro_rules
  | `(tactic| fail) => `(tactic| first
    | ((with_reducible refine (?_ : SE _ _ _ _ _ _)); first | refine se_nm rfl ?_ | refine se_tyTuple (by assumption) ?_ | refine se_tyStr (by assumption) ?_ | refine se_tyInt (by assumption) ?_ | refine se_tyBool (by assumption) ?_ | refine se_int ?_ | refine se_str ?_ | refine se_non ?_ | refine se_bl ?_ | refine se_cmp ?_ | refine se_bin ?_ | refine se_backT ?_ | refine se_ix ?_ | refine se_slice ?_ | refine se_tup ?_ | refine se_lst ?_ | ((with_reducible refine (?_ : SE _ _ _ _ (.Call _ _ _ _) _)); first | refine se_any (by assumption) ?_ | refine se_all (by assumption) ?_ | refine se_len (by assumption) ?_ | refine se_min (by assumption) ?_ | refine se_max (by assumption) ?_ | refine se_sorted (by assumption) ?_ | refine se_isi (by assumption) ?_ | refine se_abs (by assumption) ?_ | refine se_sum (by assumption) ?_ | refine se_tupleC (by assumption) ?_ | refine se_listC (by assumption) ?_) | refine se_M rfl (by assumption) (blkOk_by rfl) ?_ | refine se_F rfl (by assumption) (blkOk_by rfl) ?_ | refine se_Dc rfl (by assumption) (blkOk_by rfl) ?_ | refine se_chain ?_ | refine se_indexN ?_ | refine se_not ?_ | refine se_if ?_ | refine se_one ?_ | refine se_and ?_ | refine se_or ?_ | refine se_neg ?_)
    | ((with_reducible refine (?_ : ST _ _ _ _ _ _)); first | refine st_cmp ?_ | refine st_chain ?_ | refine st_not ?_ | refine st_w (sw_and ?_) | refine st_w (sw_or ?_) | refine st_val ?_)
    | ((with_reducible refine (?_ : SWt _ _ _ _ _ _)); first | refine sw_and ?_ | refine sw_and1 ?_ | refine sw_or ?_ | refine sw_or1 ?_)
    | ((with_reducible refine (?_ : SA _ _ _ _ _ _)); first | refine sa_cons ?_ | refine sa_nil ?_)
    | ((with_reducible refine (?_ : SO _ _ _ _ _ _)); first | refine so_none ?_ | refine so_some ?_)
    | ((with_reducible refine (?_ : SS _ _ _ _ _ _)); first | refine ss_one ?_ | refine ss_cons ?_)
    | ((with_reducible refine (?_ : S1 _ _ _ _ _ _)); first | refine s_ret ?_ | refine s_if ?_ | refine s_M rfl (by assumption) (blkOk_by rfl) ?_ | refine s_F rfl (by assumption) (blkOk_by rfl) ?_ | refine s_Dc rfl (by assumption) (blkOk_by rfl) ?_ | refine s_st (by assumption) ?_ | refine s_aug (by assumption) rfl ?_ | refine s_asg ?_ | refine s_expr ?_)
    | ((with_reducible refine (?_ : SG _ _ _ _ _ _ _)); first | refine sg_nm (by assumption) ?_ | refine sg_par rfl ?_ | refine sg_tup rfl ?_)
    | ((with_reducible refine (?_ : SGs _ _ _ _ _ _ _)); first | refine sgs_cons ?_ | refine sgs_nil ?_)
    | ((with_reducible refine (?_ : SGb _ _ _ _ _ _ _ _)); first | refine sgb_nm (by assumption) ?_ (by first | exact vs_self | exact vs_one | exact vs_two) | refine sgb_par rfl ?_ | refine sgb_tup rfl ?_)
    | ((with_reducible refine (?_ : SGbs _ _ _ _ _ _ _ _)); first | refine sgbs_cons ?_ | refine sgbs_nil ?_)
    | ((with_reducible refine (?_ : SW _ _ _ _ _ _ _)); first | refine sw_vals ?_ | refine sw_zipT (by assumption) ?_ | refine sw_range (by assumption) ?_ | refine sw_seq ?_)
    | ((with_reducible refine (?_ : OpV _ _ _ _ _ _ _ _)); first | refine ov_eqN ?_ | refine ov_neN ?_ | refine ov_inN ?_ | refine ov_ninN ?_ | refine ov_inNT ?_ | refine ov_ninNT ?_ | refine oi_add ?_ | refine oi_catT (by fail "z") ?_ | refine ov_cat (by fail "z") ?_ | refine ov_catT (by fail "z") ?_ | refine ov_add ?_ | refine ov_sub ?_ | refine ov_lt ?_ | refine ov_le ?_ | refine ov_gt ?_ | refine ov_ge ?_ | refine ov_eqI ?_ | refine ov_neI ?_ | refine ov_eqS ?_ | refine ov_neS ?_ | refine ov_eqB ?_ | refine ov_neB ?_)
    | ((with_reducible refine (?_ : IxV _ _ _ _ _ _ _)); first | refine iv_cons ?_ | refine iv_consT ?_)
    | ((with_reducible refine (?_ : SlV _ _ _ _ _ _ _ _)); first | refine sv_fromL (by decide) ?_ | refine sv_fromT (by decide) ?_ | refine sv_toL (by decide) ?_ | refine sv_toT (by decide) ?_)
    | ((with_reducible refine (?_ : ClV _ _ _ _ _ _ _)); first | refine cv_anyM rfl ?_ | refine cv_allM rfl ?_ | refine cv_len rfl ?_ | refine cv_tuple rfl ?_ | refine cv_list rfl ?_ | refine cv_abs ?_ | refine cv_isStr rfl ?_ | refine cv_isTup rfl ?_ | refine cv_isInt rfl ?_ | refine cv_isBool rfl ?_ | refine cv_sum rfl ?_)
    | (with_reducible refine turn0I (fun _ _ _ _ _ _ => ?_)) | (with_reducible refine turn1I (fun _ _ _ _ _ _ => ?_)) | (with_reducible refine turnDI (fun _ _ _ _ _ _ => ?_)) | (with_reducible refine abI (fun _ _ _ _ _ => ?_)) | ((with_reducible show (if _ then _ else _)); first | refine iteT ?_ | refine iteF ?_) | ((with_reducible refine (?_ : And _ _)); refine And.intro (show _ ≤ sizeLine by fail "z") ?_) | ((with_reducible refine (?_ : Exists _)); refine ⟨_, rfl, ?_⟩))
local macro_rules
  | `(tactic| fail "e") => `(tactic| first
    | ((with_reducible refine (?_ : SE _ _ _ _ _ _)); first | refine se_nm rfl ?_ | refine se_tyTuple (by assumption) ?_ | refine se_tyStr (by assumption) ?_ | refine se_tyInt (by assumption) ?_ | refine se_tyBool (by assumption) ?_ | refine se_int ?_ | refine se_str ?_ | refine se_non ?_ | refine se_bl ?_ | refine se_cmp ?_ | refine se_bin ?_ | refine se_backT ?_ | refine se_ix ?_ | refine se_slice ?_ | refine se_tup ?_ | refine se_lst ?_ | ((with_reducible refine (?_ : SE _ _ _ _ (.Call _ _ _ _) _)); first | refine se_any (by assumption) ?_ | refine se_all (by assumption) ?_ | refine se_len (by assumption) ?_ | refine se_min (by assumption) ?_ | refine se_max (by assumption) ?_ | refine se_sorted (by assumption) ?_ | refine se_isi (by assumption) ?_ | refine se_abs (by assumption) ?_ | refine se_sum (by assumption) ?_ | refine se_tupleC (by assumption) ?_ | refine se_listC (by assumption) ?_) | refine se_M rfl (by assumption) (blkOk_by rfl) ?_ | refine se_F rfl (by assumption) (blkOk_by rfl) ?_ | refine se_Dc rfl (by assumption) (blkOk_by rfl) ?_ | refine se_chain ?_ | refine se_indexN ?_ | refine se_not ?_ | refine se_if ?_ | refine se_one ?_ | refine se_and ?_ | refine se_or ?_ | refine se_neg ?_)
    | ((with_reducible refine (?_ : ST _ _ _ _ _ _)); first | refine st_cmp ?_ | refine st_chain ?_ | refine st_not ?_ | refine st_w (sw_and ?_) | refine st_w (sw_or ?_) | refine st_val ?_)
    | ((with_reducible refine (?_ : SWt _ _ _ _ _ _)); first | refine sw_and ?_ | refine sw_and1 ?_ | refine sw_or ?_ | refine sw_or1 ?_)
    | ((with_reducible refine (?_ : SA _ _ _ _ _ _)); first | refine sa_cons ?_ | refine sa_nil ?_)
    | ((with_reducible refine (?_ : SO _ _ _ _ _ _)); first | refine so_none ?_ | refine so_some ?_)
    | ((with_reducible refine (?_ : SG _ _ _ _ _ _ _)); first | refine sg_nm (by assumption) ?_ | refine sg_par rfl ?_ | refine sg_tup rfl ?_)
    | ((with_reducible refine (?_ : SGs _ _ _ _ _ _ _)); first | refine sgs_cons ?_ | refine sgs_nil ?_)
    | ((with_reducible refine (?_ : SGb _ _ _ _ _ _ _ _)); first | refine sgb_nm (by assumption) ?_ (by first | exact vs_self | exact vs_one | exact vs_two) | refine sgb_par rfl ?_ | refine sgb_tup rfl ?_)
    | ((with_reducible refine (?_ : SGbs _ _ _ _ _ _ _ _)); first | refine sgbs_cons ?_ | refine sgbs_nil ?_)
    | ((with_reducible refine (?_ : SW _ _ _ _ _ _ _)); first | refine sw_vals ?_ | refine sw_zipT (by assumption) ?_ | refine sw_range (by assumption) ?_ | refine sw_seq ?_)
    | ((with_reducible refine (?_ : OpV _ _ _ _ _ _ _ _)); first | refine ov_eqN ?_ | refine ov_neN ?_ | refine ov_inN ?_ | refine ov_ninN ?_ | refine ov_inNT ?_ | refine ov_ninNT ?_ | refine oi_add ?_ | refine oi_catT (by fail "z") ?_ | refine ov_cat (by fail "z") ?_ | refine ov_catT (by fail "z") ?_ | refine ov_add ?_ | refine ov_sub ?_ | refine ov_lt ?_ | refine ov_le ?_ | refine ov_gt ?_ | refine ov_ge ?_ | refine ov_eqI ?_ | refine ov_neI ?_ | refine ov_eqS ?_ | refine ov_neS ?_ | refine ov_eqB ?_ | refine ov_neB ?_)
    | ((with_reducible refine (?_ : IxV _ _ _ _ _ _ _)); first | refine iv_cons ?_ | refine iv_consT ?_)
    | ((with_reducible refine (?_ : SlV _ _ _ _ _ _ _ _)); first | refine sv_fromL (by decide) ?_ | refine sv_fromT (by decide) ?_ | refine sv_toL (by decide) ?_ | refine sv_toT (by decide) ?_)
    | ((with_reducible refine (?_ : ClV _ _ _ _ _ _ _)); first | refine cv_anyM rfl ?_ | refine cv_allM rfl ?_ | refine cv_len rfl ?_ | refine cv_tuple rfl ?_ | refine cv_list rfl ?_ | refine cv_abs ?_ | refine cv_isStr rfl ?_ | refine cv_isTup rfl ?_ | refine cv_isInt rfl ?_ | refine cv_isBool rfl ?_ | refine cv_sum rfl ?_)
    | (with_reducible refine turn0I (fun _ _ _ _ _ _ => ?_)) | (with_reducible refine turn1I (fun _ _ _ _ _ _ => ?_)) | (with_reducible refine turnDI (fun _ _ _ _ _ _ => ?_)) | (with_reducible refine abI (fun _ _ _ _ _ => ?_)) | ((with_reducible show (if _ then _ else _)); first | refine iteT ?_ | refine iteF ?_) | ((with_reducible refine (?_ : And _ _)); refine And.intro (show _ ≤ sizeLine by fail "z") ?_) | ((with_reducible refine (?_ : Exists _)); refine ⟨_, rfl, ?_⟩))
namespace W
open PySem L2 D PyProof.Rows
/-- a kind: its name, bases, line -/
abbrev Kd := Nm × List Nm × List Nm
abbrev Reg := List Kd
abbrev kbD (G : Reg) : List (Key × Dt) := G.map fun k => (nK k.1, nT k.2.1)
abbrev lnD (G : Reg) : List (Key × Dt) := G.map fun k => (nK k.1, nT k.2.2)
def hasG (G : Reg) (x : Nm) : Bool := G.any fun k => decide (k.1 = x)
def lineG (G : Reg) (x : Nm) : List Nm := ((G.find? fun k => decide (k.1 = x)).map fun k => k.2.2).getD []
abbrev regFields : List Str := ["kind_bases", "lines", "bodies", "cache", "things", "opened_by_number", "made", "begun", "past"]
abbrev regFs (p1 p2 p3 p4 p5 p6 p7 : Addr) (m b : Int) : List (Str × Dt) := [("kind_bases", .raw (.ref p1)), ("lines", .raw (.ref p2)), ("bodies", .raw (.ref p3)), ("cache", .raw (.ref p4)), ("things", .raw (.ref p5)), ("opened_by_number", .raw (.ref p6)), ("made", .int m), ("begun", .int b), ("past", .raw (.ref p7))]
/-- where a registry lies -/
structure RA where
  a : Addr
  dx : Addr
  p1 : Addr
  p2 : Addr
  p3 : Addr
  p4 : Addr
  p5 : Addr
  p6 : Addr
  p7 : Addr
  tb : Addr
abbrev lamQ : Str := "in_order.<locals>.<lambda>"
/-- the cells of a registry of kinds without bodies, objects, calls -/
abbrev regC (C : Addr) (r : RA) (G : Reg) (past : List Dt) : Cells := [(r.a, .ins C r.dx (regFs r.p1 r.p2 r.p3 r.p4 r.p5 r.p6 r.p7 0 0)), (r.p1, .dk (kbD G)), (r.p2, .dk (lnD G)), (r.p3, .dk []), (r.p4, .dk []), (r.p5, .dk []), (r.p6, .dk []), (r.p7, .lst past), tabC r.tb lamQ]
abbrev RegF (K : PySem.W.Frag) (C : Addr) : Prop := FldC K C regFields
abbrev Pst := List Dt
theorem hasG_dval (f : Kd → Dt) (G : Reg) (x : Nm) : (dval (G.map fun k => (nK k.1, f k)) (nK x)).isSome = hasG G x := by
  rw [← dval_any]; exact any_nK f (fun k => k.1) x G
section
variable {P : Program} {w : World} {K : PySem.W.Frag} {mg : Str → Option Value} {base : Heap} {C : Addr}
abbrev sp_has (K : PySem.W.Frag) (C : Addr) : Sp := spG K (fun x : RA × Reg × Pst × Nm => [.raw (.ref x.1.a), nD x.2.2.2]) (fun x => regC C x.1 x.2.1 x.2.2.1) (fun _ => True) (fun x c' d => c' = regC C x.1 x.2.1 x.2.2.1 ∧ d = .bl (hasG x.2.1 x.2.2.2)) (fun _ _ _ => False)
theorem ok_has {f : Addr} {fd : FuncData} (Fu : Fun K "has" "Registry.has" s_Registry_has f fd) (T : Txt mg) (R : RegF K C) : FnOk P w K mg base (L2.CX P w) 1 f fd ["self", "thing"] (sp_has K C) := by
  refine fn_G Fu sc_Registry_has (fun a => rfl) (fun cdv A outer s H E F x hp hr xt => ?_)
  obtain ⟨r, G, ps, x⟩ := x
  have nd := sc_Registry_has.nd
  have h1 := T.isi
  have h2 := T.str
  repeat fail
  refine se_fg R ?_
  repeat fail "e"
  refine ⟨_, _, _, _, _, rfl, rfl, rfl, ?_⟩
  refine ov_inCel 1 (hu_of hr) rfl rfl ?_
  exact ⟨rfl, congrArg Dt.bl (hasG_dval _ G x)⟩
abbrev M_has (P : Program) (w : World) (K : PySem.W.Frag) (mg : Str → Option Value) (base : Heap) (C : Addr) : Prop := MethOk P w K mg base 1 C "has" ["self", "thing"] (sp_has K C)
abbrev sp_look_kind (K : PySem.W.Frag) (C : Addr) : Sp := spG K (fun x : RA × Reg × Pst × Nm => [.raw (.ref x.1.a), nD x.2.2.2]) (fun x => regC C x.1 x.2.1 x.2.2.1) (fun x => hasG x.2.1 x.2.2.2 = true) (fun x c' d => c' = regC C x.1 x.2.1 x.2.2.1 ∧ d = .non) (fun _ _ _ => False)
theorem ok_look_kind {f : Addr} {fd : FuncData} (Fu : Fun K "look_kind" "look_kind" s_look_kind f fd) (R : RegF K C) (M : M_has P w K mg base C) : FnOk P w K mg base (L2.CX P w) 2 f fd ["registry", "name"] (sp_look_kind K C) := by
  refine fn_G Fu sc_look_kind (fun a => rfl) (fun cdv A outer s H E F x hp hr xt => ?_)
  obtain ⟨r, G, ps, x⟩ := x
  have hp : hasG G x = true := hp
  have nd := sc_look_kind.nd
  repeat fail
  refine se_mG M R.cl hr XT.no ?_
  repeat fail "e"
  refine ⟨0, r.a, r.dx, _, rfl, rfl, rfl, ?_⟩
  repeat fail "e"
  refine ⟨(r, G, ps, x), [], [], rfl, rfl, True.intro, ?_, fun _ _ z => z.elim⟩
  rintro _ _ ⟨rfl, rfl⟩
  rw [hp]
  repeat fail
  exact ss_nil ⟨rfl, rfl⟩
theorem zip_cut {α : Type} {l : List α} {pre rest : List (α × Nat)} {x : α} {k : Nat} (h : l.zipIdx = pre ++ (x, k) :: rest) : l = l.take k ++ x :: rest.map (·.1) := by
  have e1 : l = pre.map (·.1) ++ x :: rest.map (·.1) := by
    have := congrArg (List.map (·.1)) h
    rw [List.zipIdx_map_fst, List.map_append, List.map_cons] at this
    exact this
  have e2 : (l.zipIdx)[pre.length]? = some (x, k) := by rw [h]; simp
  rw [List.getElem?_zipIdx] at e2
  have e3 : k = pre.length := by
    cases hq : l[pre.length]? with
    | none => rw [hq] at e2; cases e2
    | some y => rw [hq] at e2; simp at e2; omega
  have e4 : l.take k = pre.map (·.1) := by
    rw [e3]; conv => lhs; rw [e1]
    rw [List.take_append_of_le_length (by simp), List.take_of_length_le (by simp)]
  rw [e4]; exact e1
/-- what may stand as bases -/
def BasesOk (G : Reg) (l : List Nm) : Prop := l.length ≤ 10 ∧ l.Nodup ∧ ∀ y ∈ l, hasG G y = true
abbrev sp_bad_item (K : PySem.W.Frag) (C : Addr) : Sp := spG K (fun x : RA × Reg × Pst × List Nm => [.raw (.ref x.1.a), nT x.2.2.2]) (fun x => regC C x.1 x.2.1 x.2.2.1) (fun x => BasesOk x.2.1 x.2.2.2) (fun x c' d => c' = regC C x.1 x.2.1 x.2.2.1 ∧ d = .non) (fun _ _ _ => False)
theorem ok_bad_item {f : Addr} {fd : FuncData} (Fu : Fun K "bad_item" "bad_item" s_bad_item f fd) (T : Txt mg) (R : RegF K C) (M : M_has P w K mg base C) : FnOk P w K mg base (L2.CX P w) 2 f fd ["registry", "items"] (sp_bad_item K C) := by
  refine fn_G Fu sc_bad_item (fun a => rfl) (fun cdv A outer s H E F x hp hr xt => ?_)
  obtain ⟨r, G, ps, l⟩ := x
  obtain ⟨hp1, hp2, hp3⟩ := hp
  have hp1 : l.length ≤ 10 := hp1
  have nd := sc_bad_item.nd
  have hen := T.enumerate
  refine ss_cons (s_for (passes_of rfl) rfl ?_)
  refine sw_enumT hen ?_
  repeat fail
  rw [enumD_map]
  refine for_t (fun rest Γ c => ∃ u2 u3, Γ = [.dat (.raw (.ref r.a)), .dat (nT l), u2, u3] ∧ c = regC C r G ps) ⟨_, _, rfl, rfl⟩ ?_ ?_
  · rintro pre ⟨x, i⟩ rest Γ c hl ⟨u2, u3, rfl, rfl⟩
    have hx : x ∈ l := (zip_rest hl).2.2
    have hz := zip_cut hl
    repeat fail
    refine se_mG M R.cl hr XT.no ?_
    repeat fail "e"
    refine ⟨0, r.a, r.dx, _, rfl, rfl, rfl, ?_⟩
    repeat fail "e"
    refine ⟨(r, G, ps, x), [], [], rfl, rfl, True.intro, ?_, fun _ _ z => z.elim⟩
    rintro _ _ ⟨rfl, rfl⟩
    rw [hp3 x hx]
    repeat fail "e"
    refine sv_toT (by omega) ?_
    repeat fail "e"
    have hni : x ∉ l.take i := fun z => by
      rw [hz] at hp2
      exact (List.nodup_append.mp hp2).2.2 x z x (List.mem_cons_self ..) rfl
    refine iteFr (decide_eq_false hni) ?_
    repeat fail
    exact ss_nil ⟨_, _, rfl, rfl⟩
  · rintro Γ c ⟨u2, u3, rfl, rfl⟩
    repeat fail
    exact ⟨rfl, rfl⟩
abbrev D_bad_item (P : Program) (w : World) (K : PySem.W.Frag) (mg : Str → Option Value) (base : Heap) (C : Addr) : Prop := DefOk P w K mg base 2 "bad_item" ["registry", "items"] (sp_bad_item K C)
end
end W
end
section
set_option Elab.async false
set_option linter.all false
set_option maxRecDepth 100000
set_option maxHeartbeats 4000000
open PySem L2 D PyProof.Rows
local macro_rules
  | `(tactic| fail "z") => `(tactic| ((try simp only [List.length_map, List.length_cons, List.length_nil, List.length_append, List.length_drop, List.length_take]); have := big_line; omega))
local macro_rules
  | `(tactic| fail) => `(tactic| first
    | ((with_reducible refine (?_ : SE _ _ _ _ _ _)); first | refine se_nm rfl ?_ | refine se_tyTuple (by assumption) ?_ | refine se_tyStr (by assumption) ?_ | refine se_tyInt (by assumption) ?_ | refine se_tyBool (by assumption) ?_ | refine se_int ?_ | refine se_str ?_ | refine se_non ?_ | refine se_bl ?_ | refine se_cmp ?_ | refine se_bin ?_ | refine se_backT ?_ | refine se_ix ?_ | refine se_slice ?_ | refine se_tup ?_ | refine se_lst ?_ | ((with_reducible refine (?_ : SE _ _ _ _ (.Call _ _ _ _) _)); first | refine se_any (by assumption) ?_ | refine se_all (by assumption) ?_ | refine se_len (by assumption) ?_ | refine se_min (by assumption) ?_ | refine se_max (by assumption) ?_ | refine se_sorted (by assumption) ?_ | refine se_isi (by assumption) ?_ | refine se_abs (by assumption) ?_ | refine se_sum (by assumption) ?_ | refine se_tupleC (by assumption) ?_ | refine se_listC (by assumption) ?_) | refine se_M rfl (by assumption) (blkOk_by rfl) ?_ | refine se_F rfl (by assumption) (blkOk_by rfl) ?_ | refine se_Dc rfl (by assumption) (blkOk_by rfl) ?_ | refine se_chain ?_ | refine se_indexN ?_ | refine se_not ?_ | refine se_if ?_ | refine se_one ?_ | refine se_and ?_ | refine se_or ?_ | refine se_neg ?_)
    | ((with_reducible refine (?_ : ST _ _ _ _ _ _)); first | refine st_cmp ?_ | refine st_chain ?_ | refine st_not ?_ | refine st_w (sw_and ?_) | refine st_w (sw_or ?_) | refine st_val ?_)
    | ((with_reducible refine (?_ : SWt _ _ _ _ _ _)); first | refine sw_and ?_ | refine sw_and1 ?_ | refine sw_or ?_ | refine sw_or1 ?_)
    | ((with_reducible refine (?_ : SA _ _ _ _ _ _)); first | refine sa_cons ?_ | refine sa_nil ?_)
    | ((with_reducible refine (?_ : SO _ _ _ _ _ _)); first | refine so_none ?_ | refine so_some ?_)
    | ((with_reducible refine (?_ : SS _ _ _ _ _ _)); first | refine ss_one ?_ | refine ss_cons ?_)
    | ((with_reducible refine (?_ : S1 _ _ _ _ _ _)); first | refine s_ret ?_ | refine s_if ?_ | refine s_M rfl (by assumption) (blkOk_by rfl) ?_ | refine s_F rfl (by assumption) (blkOk_by rfl) ?_ | refine s_Dc rfl (by assumption) (blkOk_by rfl) ?_ | refine s_st (by assumption) ?_ | refine s_aug (by assumption) rfl ?_ | refine s_asg ?_ | refine s_expr ?_)
    | ((with_reducible refine (?_ : SG _ _ _ _ _ _ _)); first | refine sg_nm (by assumption) ?_ | refine sg_par rfl ?_ | refine sg_tup rfl ?_)
    | ((with_reducible refine (?_ : SGs _ _ _ _ _ _ _)); first | refine sgs_cons ?_ | refine sgs_nil ?_)
    | ((with_reducible refine (?_ : SGb _ _ _ _ _ _ _ _)); first | refine sgb_nm (by assumption) ?_ (by first | exact vs_self | exact vs_one | exact vs_two) | refine sgb_par rfl ?_ | refine sgb_tup rfl ?_)
    | ((with_reducible refine (?_ : SGbs _ _ _ _ _ _ _ _)); first | refine sgbs_cons ?_ | refine sgbs_nil ?_)
    | ((with_reducible refine (?_ : SW _ _ _ _ _ _ _)); first | refine sw_vals ?_ | refine sw_zipT (by assumption) ?_ | refine sw_range (by assumption) ?_ | refine sw_seq ?_)
    | ((with_reducible refine (?_ : OpV _ _ _ _ _ _ _ _)); first | refine ov_eqN ?_ | refine ov_neN ?_ | refine ov_inN ?_ | refine ov_ninN ?_ | refine ov_inNT ?_ | refine ov_ninNT ?_ | refine oi_add ?_ | refine oi_catT (by fail "z") ?_ | refine ov_cat (by fail "z") ?_ | refine ov_catT (by fail "z") ?_ | refine ov_add ?_ | refine ov_sub ?_ | refine ov_lt ?_ | refine ov_le ?_ | refine ov_gt ?_ | refine ov_ge ?_ | refine ov_eqI ?_ | refine ov_neI ?_ | refine ov_eqS ?_ | refine ov_neS ?_ | refine ov_eqB ?_ | refine ov_neB ?_)
    | ((with_reducible refine (?_ : IxV _ _ _ _ _ _ _)); first | refine iv_cons ?_ | refine iv_consT ?_)
    | ((with_reducible refine (?_ : SlV _ _ _ _ _ _ _ _)); first | refine sv_fromL (by decide) ?_ | refine sv_fromT (by decide) ?_ | refine sv_toL (by decide) ?_ | refine sv_toT (by decide) ?_)
    | ((with_reducible refine (?_ : ClV _ _ _ _ _ _ _)); first | refine cv_anyM rfl ?_ | refine cv_allM rfl ?_ | refine cv_len rfl ?_ | refine cv_tuple rfl ?_ | refine cv_list rfl ?_ | refine cv_abs ?_ | refine cv_isStr rfl ?_ | refine cv_isTup rfl ?_ | refine cv_isInt rfl ?_ | refine cv_isBool rfl ?_ | refine cv_sum rfl ?_)
    | (with_reducible refine turn0I (fun _ _ _ _ _ _ => ?_)) | (with_reducible refine turn1I (fun _ _ _ _ _ _ => ?_)) | (with_reducible refine turnDI (fun _ _ _ _ _ _ => ?_)) | (with_reducible refine abI (fun _ _ _ _ _ => ?_)) | ((with_reducible show (if _ then _ else _)); first | refine iteT ?_ | refine iteF ?_) | ((with_reducible refine (?_ : And _ _)); refine And.intro (show _ ≤ sizeLine by fail "z") ?_) | ((with_reducible refine (?_ : Exists _)); refine ⟨_, rfl, ?_⟩))
local macro_rules
  | `(tactic| fail "e") => `(tactic| first
    | ((with_reducible refine (?_ : SE _ _ _ _ _ _)); first | refine se_nm rfl ?_ | refine se_tyTuple (by assumption) ?_ | refine se_tyStr (by assumption) ?_ | refine se_tyInt (by assumption) ?_ | refine se_tyBool (by assumption) ?_ | refine se_int ?_ | refine se_str ?_ | refine se_non ?_ | refine se_bl ?_ | refine se_cmp ?_ | refine se_bin ?_ | refine se_backT ?_ | refine se_ix ?_ | refine se_slice ?_ | refine se_tup ?_ | refine se_lst ?_ | ((with_reducible refine (?_ : SE _ _ _ _ (.Call _ _ _ _) _)); first | refine se_any (by assumption) ?_ | refine se_all (by assumption) ?_ | refine se_len (by assumption) ?_ | refine se_min (by assumption) ?_ | refine se_max (by assumption) ?_ | refine se_sorted (by assumption) ?_ | refine se_isi (by assumption) ?_ | refine se_abs (by assumption) ?_ | refine se_sum (by assumption) ?_ | refine se_tupleC (by assumption) ?_ | refine se_listC (by assumption) ?_) | refine se_M rfl (by assumption) (blkOk_by rfl) ?_ | refine se_F rfl (by assumption) (blkOk_by rfl) ?_ | refine se_Dc rfl (by assumption) (blkOk_by rfl) ?_ | refine se_chain ?_ | refine se_indexN ?_ | refine se_not ?_ | refine se_if ?_ | refine se_one ?_ | refine se_and ?_ | refine se_or ?_ | refine se_neg ?_)
    | ((with_reducible refine (?_ : ST _ _ _ _ _ _)); first | refine st_cmp ?_ | refine st_chain ?_ | refine st_not ?_ | refine st_w (sw_and ?_) | refine st_w (sw_or ?_) | refine st_val ?_)
    | ((with_reducible refine (?_ : SWt _ _ _ _ _ _)); first | refine sw_and ?_ | refine sw_and1 ?_ | refine sw_or ?_ | refine sw_or1 ?_)
    | ((with_reducible refine (?_ : SA _ _ _ _ _ _)); first | refine sa_cons ?_ | refine sa_nil ?_)
    | ((with_reducible refine (?_ : SO _ _ _ _ _ _)); first | refine so_none ?_ | refine so_some ?_)
    | ((with_reducible refine (?_ : SG _ _ _ _ _ _ _)); first | refine sg_nm (by assumption) ?_ | refine sg_par rfl ?_ | refine sg_tup rfl ?_)
    | ((with_reducible refine (?_ : SGs _ _ _ _ _ _ _)); first | refine sgs_cons ?_ | refine sgs_nil ?_)
    | ((with_reducible refine (?_ : SGb _ _ _ _ _ _ _ _)); first | refine sgb_nm (by assumption) ?_ (by first | exact vs_self | exact vs_one | exact vs_two) | refine sgb_par rfl ?_ | refine sgb_tup rfl ?_)
    | ((with_reducible refine (?_ : SGbs _ _ _ _ _ _ _ _)); first | refine sgbs_cons ?_ | refine sgbs_nil ?_)
    | ((with_reducible refine (?_ : SW _ _ _ _ _ _ _)); first | refine sw_vals ?_ | refine sw_zipT (by assumption) ?_ | refine sw_range (by assumption) ?_ | refine sw_seq ?_)
    | ((with_reducible refine (?_ : OpV _ _ _ _ _ _ _ _)); first | refine ov_eqN ?_ | refine ov_neN ?_ | refine ov_inN ?_ | refine ov_ninN ?_ | refine ov_inNT ?_ | refine ov_ninNT ?_ | refine oi_add ?_ | refine oi_catT (by fail "z") ?_ | refine ov_cat (by fail "z") ?_ | refine ov_catT (by fail "z") ?_ | refine ov_add ?_ | refine ov_sub ?_ | refine ov_lt ?_ | refine ov_le ?_ | refine ov_gt ?_ | refine ov_ge ?_ | refine ov_eqI ?_ | refine ov_neI ?_ | refine ov_eqS ?_ | refine ov_neS ?_ | refine ov_eqB ?_ | refine ov_neB ?_)
    | ((with_reducible refine (?_ : IxV _ _ _ _ _ _ _)); first | refine iv_cons ?_ | refine iv_consT ?_)
    | ((with_reducible refine (?_ : SlV _ _ _ _ _ _ _ _)); first | refine sv_fromL (by decide) ?_ | refine sv_fromT (by decide) ?_ | refine sv_toL (by decide) ?_ | refine sv_toT (by decide) ?_)
    | ((with_reducible refine (?_ : ClV _ _ _ _ _ _ _)); first | refine cv_anyM rfl ?_ | refine cv_allM rfl ?_ | refine cv_len rfl ?_ | refine cv_tuple rfl ?_ | refine cv_list rfl ?_ | refine cv_abs ?_ | refine cv_isStr rfl ?_ | refine cv_isTup rfl ?_ | refine cv_isInt rfl ?_ | refine cv_isBool rfl ?_ | refine cv_sum rfl ?_)
    | (with_reducible refine turn0I (fun _ _ _ _ _ _ => ?_)) | (with_reducible refine turn1I (fun _ _ _ _ _ _ => ?_)) | (with_reducible refine turnDI (fun _ _ _ _ _ _ => ?_)) | (with_reducible refine abI (fun _ _ _ _ _ => ?_)) | ((with_reducible show (if _ then _ else _)); first | refine iteT ?_ | refine iteF ?_) | ((with_reducible refine (?_ : And _ _)); refine And.intro (show _ ≤ sizeLine by fail "z") ?_) | ((with_reducible refine (?_ : Exists _)); refine ⟨_, rfl, ?_⟩))
namespace W
open PySem L2 D PyProof.Rows
theorem cutD_nn {α : Type} (l : List α) : D.cutD l none none = l := by
  show (l.drop 0).take (l.length - 0) = l; simp
theorem ss_mid {F : Fm} {X : Cx} {Γ : List Sl} {c : Cells} {Φ : PEnds} {st : Stmt} {ss : List Stmt} (J : List Sl → Cells → Prop) (h : S1 F X Γ c st { Φ with nx := J }) (k : ∀ Γ' c', J Γ' c' → SS F X Γ' c' ss Φ) : SS F X Γ c (st :: ss) Φ := ss_cons (.mk fun σ H D S E => h σ H D S ⟨fun Γ' c' σ' H' p S' e' => E.nx Γ' c' σ' H' (k Γ' c' p) S' e', E.rt, E.bk, E.ct⟩)
section
variable {P : Program} {w : World} {K : PySem.W.Frag} {mg : Str → Option Value} {base : Heap} {C : Addr}
abbrev sp_bad_bases (K : PySem.W.Frag) (C : Addr) : Sp := sp_bad_item K C
theorem ok_bad_bases {f : Addr} {fd : FuncData} (Fu : Fun K "bad_bases" "bad_bases" s_bad_bases f fd) (T : Txt mg) (g10 : ∃ t, mg "MOST_KINDS" = some (.int 10 t)) (Di : D_bad_item P w K mg base C) : FnOk P w K mg base (L2.CX P w) 3 f fd ["registry", "thing"] (sp_bad_bases K C) := by
  refine fn_G Fu sc_bad_bases (fun a => rfl) (fun cdv A outer s H E F x hp hr xt => ?_)
  obtain ⟨r, G, ps, l⟩ := x
  have hp' : BasesOk G l := hp
  have hp1 : l.length ≤ 10 := hp.1
  have nd := sc_bad_bases.nd
  have h1 := T.isi
  have h2 := T.tuple
  have h3 := T.len
  obtain ⟨t10, g10⟩ := g10
  repeat fail
  refine se_gint g10 ?_
  repeat fail "e"
  refine iteFr (by simp; omega) ?_
  refine ss_nil ?_
  repeat fail
  refine se_fG Di hr XT.no ?_
  repeat fail "e"
  refine ⟨(r, G, ps, l), [], [], rfl, rfl, hp', ?_, fun _ _ z => z.elim⟩
  rintro _ _ ⟨rfl, rfl⟩
  exact ⟨rfl, rfl⟩
abbrev D_bad_bases (P : Program) (w : World) (K : PySem.W.Frag) (mg : Str → Option Value) (base : Heap) (C : Addr) : Prop := DefOk P w K mg base 3 "bad_bases" ["registry", "thing"] (sp_bad_bases K C)
abbrev sp_look_bases (K : PySem.W.Frag) (C : Addr) : Sp := spG K (fun x : RA × Reg × Pst × List Nm => [.raw (.ref x.1.a), nT x.2.2.2]) (fun x => regC C x.1 x.2.1 x.2.2.1) (fun x => BasesOk x.2.1 x.2.2.2 ∧ x.2.2.2 ≠ []) (fun x c' d => c' = regC C x.1 x.2.1 x.2.2.1 ∧ d = .non) (fun _ _ _ => False)
theorem ok_look_bases {f : Addr} {fd : FuncData} (Fu : Fun K "look_bases" "look_bases" s_look_bases f fd) (Db : D_bad_bases P w K mg base C) : FnOk P w K mg base (L2.CX P w) 4 f fd ["registry", "thing"] (sp_look_bases K C) := by
  refine fn_G Fu sc_look_bases (fun a => rfl) (fun cdv A outer s H E F x hp hr xt => ?_)
  obtain ⟨r, G, ps, l⟩ := x
  obtain ⟨hp, hne⟩ := hp
  have hp : BasesOk G l := hp
  have hne : l ≠ [] := hne
  have nd := sc_look_bases.nd
  repeat fail
  refine ov_eqT0 (Nat.lt_of_succ_lt (hu_of hr)) ?_
  repeat fail "e"
  refine iteFr (by cases l with | nil => exact absurd rfl hne | cons x l => rfl) ?_
  refine se_fG Db hr XT.no ?_
  repeat fail "e"
  refine ⟨(r, G, ps, l), [], [], rfl, rfl, hp, ?_, fun _ _ z => z.elim⟩
  rintro _ _ ⟨rfl, rfl⟩
  repeat fail
  refine ov_notN (fun v h => nomatch h) ?_
  repeat fail
  exact ss_nil ⟨rfl, rfl⟩
abbrev D_look_bases (P : Program) (w : World) (K : PySem.W.Frag) (mg : Str → Option Value) (base : Heap) (C : Addr) : Prop := DefOk P w K mg base 4 "look_bases" ["registry", "thing"] (sp_look_bases K C)
abbrev sp_rlook (K : PySem.W.Frag) (C : Addr) : Sp := spG K (fun x : RA × Reg × Pst × List Nm × List Nm => [.raw (.ref x.1.a), nT x.2.2.2.1, nL x.2.2.2.2]) (fun x => regC C x.1 x.2.1 x.2.2.1) (fun x => BasesOk x.2.1 x.2.2.2.1 ∧ ∀ y ∈ x.2.2.2.1, y ∉ x.2.2.2.2) (fun x c' d => c' = regC C x.1 x.2.1 x.2.2.1 ∧ d = .non) (fun _ _ _ => False)
theorem ok_rlook {f : Addr} {fd : FuncData} (Fu : Fun K "look_bases" "Registry.look_bases" s_Registry_look_bases f fd) (T : Txt mg) (Db : D_bad_bases P w K mg base C) : FnOk P w K mg base (L2.CX P w) 4 f fd ["self", "thing", "barred"] (sp_rlook K C) := by
  refine fn_G Fu sc_Registry_look_bases (fun a => rfl) (fun cdv A outer s H E F x hp hr xt => ?_)
  obtain ⟨r, G, ps, l, bar⟩ := x
  obtain ⟨hp, hnb⟩ := hp
  have hp : BasesOk G l := hp
  have hnb : ∀ y ∈ l, y ∉ bar := hnb
  have hl := hp.1
  have nd := sc_Registry_look_bases.nd
  have hen := T.enumerate
  refine ss_cons (s_st nd (se_fG Db hr XT.no ?_))
  repeat fail "e"
  refine ⟨(r, G, ps, l), [], [], rfl, rfl, hp, ?_, fun _ _ z => z.elim⟩
  rintro _ _ ⟨rfl, rfl⟩
  refine ss_mid (fun Γ cc => (∃ u, Γ = [.dat (.raw (.ref r.a)), .dat (nT l), .dat (nL bar), .dat .non, u, .un, .un]) ∧ cc = regC C r G ps) (s_if ?_) ?_
  · repeat fail
    refine ov_isN (fun v h => nomatch h) ?_
    repeat fail "e"
    refine ss_cons (s_F rfl nd (blkOk_by rfl) (sw_enumT hen (se_slice (se_nm rfl (so_none (so_someN (se_nm rfl ⟨rfl, sv_tup ?_⟩)))))))
    repeat fail "e"
    rw [cutD_nn, enumD_map]
    refine lcF (fun _ => false) (fun p : Nm × Nat => .int (p.2 : Nat)) (by rw [List.length_zipIdx]; have := big_line; show l.length ≤ _; omega) ?_ ?_
    · rintro ⟨x, i⟩ hm
      have hx : x ∈ l := by have := List.mem_zipIdx hm; simp only [Nat.zero_add, Nat.sub_zero] at this; rw [this.2.2]; exact List.getElem_mem _
      repeat fail "e"
      refine iteFr (decide_eq_false (hnb x hx)) ?_
      exact ⟨rfl, rfl⟩
    repeat fail "e"
    rw [show (l.zipIdx.filter fun _ => false) = [] from List.filter_eq_nil_iff.mpr fun _ _ => Bool.false_ne_true]
    repeat fail
    refine ov_neNil hr.units (fit_lst fun _ h => nomatch h) ?_
    repeat fail
    exact ⟨⟨_, rfl⟩, rfl⟩
  · rintro Γ cc ⟨⟨u, rfl⟩, rfl⟩
    repeat fail
    refine ov_notN (fun v h => nomatch h) ?_
    repeat fail
    exact ss_nil ⟨rfl, rfl⟩
abbrev M_rlook (P : Program) (w : World) (K : PySem.W.Frag) (mg : Str → Option Value) (base : Heap) (C : Addr) : Prop := MethOk P w K mg base 4 C "look_bases" ["self", "thing", "barred"] (sp_rlook K C)
end
end W
end
section
set_option Elab.async false
set_option linter.all false
set_option maxRecDepth 100000
set_option maxHeartbeats 4000000
open PySem L2 D PyProof.Rows
local macro_rules
  | `(tactic| fail "z") => `(tactic| ((try simp only [List.length_map, List.length_cons, List.length_nil, List.length_append, List.length_drop, List.length_take]); have := big_line; omega))
local macro_rules
  | `(tactic| fail) => `(tactic| first
    | ((with_reducible refine (?_ : SE _ _ _ _ _ _)); first | refine se_nm rfl ?_ | refine se_tyTuple (by assumption) ?_ | refine se_tyStr (by assumption) ?_ | refine se_tyInt (by assumption) ?_ | refine se_tyBool (by assumption) ?_ | refine se_int ?_ | refine se_str ?_ | refine se_non ?_ | refine se_bl ?_ | refine se_cmp ?_ | refine se_bin ?_ | refine se_backT ?_ | refine se_ix ?_ | refine se_slice ?_ | refine se_tup ?_ | refine se_lst ?_ | ((with_reducible refine (?_ : SE _ _ _ _ (.Call _ _ _ _) _)); first | refine se_any (by assumption) ?_ | refine se_all (by assumption) ?_ | refine se_len (by assumption) ?_ | refine se_min (by assumption) ?_ | refine se_max (by assumption) ?_ | refine se_sorted (by assumption) ?_ | refine se_isi (by assumption) ?_ | refine se_abs (by assumption) ?_ | refine se_sum (by assumption) ?_ | refine se_tupleC (by assumption) ?_ | refine se_listC (by assumption) ?_) | refine se_M rfl (by assumption) (blkOk_by rfl) ?_ | refine se_F rfl (by assumption) (blkOk_by rfl) ?_ | refine se_Dc rfl (by assumption) (blkOk_by rfl) ?_ | refine se_chain ?_ | refine se_indexN ?_ | refine se_not ?_ | refine se_if ?_ | refine se_one ?_ | refine se_and ?_ | refine se_or ?_ | refine se_neg ?_)
    | ((with_reducible refine (?_ : ST _ _ _ _ _ _)); first | refine st_cmp ?_ | refine st_chain ?_ | refine st_not ?_ | refine st_w (sw_and ?_) | refine st_w (sw_or ?_) | refine st_val ?_)
    | ((with_reducible refine (?_ : SWt _ _ _ _ _ _)); first | refine sw_and ?_ | refine sw_and1 ?_ | refine sw_or ?_ | refine sw_or1 ?_)
    | ((with_reducible refine (?_ : SA _ _ _ _ _ _)); first | refine sa_cons ?_ | refine sa_nil ?_)
    | ((with_reducible refine (?_ : SO _ _ _ _ _ _)); first | refine so_none ?_ | refine so_some ?_)
    | ((with_reducible refine (?_ : SS _ _ _ _ _ _)); first | refine ss_one ?_ | refine ss_cons ?_)
    | ((with_reducible refine (?_ : S1 _ _ _ _ _ _)); first | refine s_ret ?_ | refine s_if ?_ | refine s_M rfl (by assumption) (blkOk_by rfl) ?_ | refine s_F rfl (by assumption) (blkOk_by rfl) ?_ | refine s_Dc rfl (by assumption) (blkOk_by rfl) ?_ | refine s_st (by assumption) ?_ | refine s_aug (by assumption) rfl ?_ | refine s_asg ?_ | refine s_expr ?_)
    | ((with_reducible refine (?_ : SG _ _ _ _ _ _ _)); first | refine sg_nm (by assumption) ?_ | refine sg_par rfl ?_ | refine sg_tup rfl ?_)
    | ((with_reducible refine (?_ : SGs _ _ _ _ _ _ _)); first | refine sgs_cons ?_ | refine sgs_nil ?_)
    | ((with_reducible refine (?_ : SGb _ _ _ _ _ _ _ _)); first | refine sgb_nm (by assumption) ?_ (by first | exact vs_self | exact vs_one | exact vs_two) | refine sgb_par rfl ?_ | refine sgb_tup rfl ?_)
    | ((with_reducible refine (?_ : SGbs _ _ _ _ _ _ _ _)); first | refine sgbs_cons ?_ | refine sgbs_nil ?_)
    | ((with_reducible refine (?_ : SW _ _ _ _ _ _ _)); first | refine sw_vals ?_ | refine sw_zipT (by assumption) ?_ | refine sw_range (by assumption) ?_ | refine sw_seq ?_)
    | ((with_reducible refine (?_ : OpV _ _ _ _ _ _ _ _)); first | refine ov_eqN ?_ | refine ov_neN ?_ | refine ov_inN ?_ | refine ov_ninN ?_ | refine ov_inNT ?_ | refine ov_ninNT ?_ | refine oi_add ?_ | refine oi_catT (by fail "z") ?_ | refine ov_cat (by fail "z") ?_ | refine ov_catT (by fail "z") ?_ | refine ov_add ?_ | refine ov_sub ?_ | refine ov_lt ?_ | refine ov_le ?_ | refine ov_gt ?_ | refine ov_ge ?_ | refine ov_eqI ?_ | refine ov_neI ?_ | refine ov_eqS ?_ | refine ov_neS ?_ | refine ov_eqB ?_ | refine ov_neB ?_)
    | ((with_reducible refine (?_ : IxV _ _ _ _ _ _ _)); first | refine iv_cons ?_ | refine iv_consT ?_)
    | ((with_reducible refine (?_ : SlV _ _ _ _ _ _ _ _)); first | refine sv_fromL (by decide) ?_ | refine sv_fromT (by decide) ?_ | refine sv_toL (by decide) ?_ | refine sv_toT (by decide) ?_)
    | ((with_reducible refine (?_ : ClV _ _ _ _ _ _ _)); first | refine cv_anyM rfl ?_ | refine cv_allM rfl ?_ | refine cv_len rfl ?_ | refine cv_tuple rfl ?_ | refine cv_list rfl ?_ | refine cv_abs ?_ | refine cv_isStr rfl ?_ | refine cv_isTup rfl ?_ | refine cv_isInt rfl ?_ | refine cv_isBool rfl ?_ | refine cv_sum rfl ?_)
    | (with_reducible refine turn0I (fun _ _ _ _ _ _ => ?_)) | (with_reducible refine turn1I (fun _ _ _ _ _ _ => ?_)) | (with_reducible refine turnDI (fun _ _ _ _ _ _ => ?_)) | (with_reducible refine abI (fun _ _ _ _ _ => ?_)) | ((with_reducible show (if _ then _ else _)); first | refine iteT ?_ | refine iteF ?_) | ((with_reducible refine (?_ : And _ _)); refine And.intro (show _ ≤ sizeLine by fail "z") ?_) | ((with_reducible refine (?_ : Exists _)); refine ⟨_, rfl, ?_⟩))
local macro_rules
  | `(tactic| fail "e") => `(tactic| first
    | ((with_reducible refine (?_ : SE _ _ _ _ _ _)); first | refine se_nm rfl ?_ | refine se_tyTuple (by assumption) ?_ | refine se_tyStr (by assumption) ?_ | refine se_tyInt (by assumption) ?_ | refine se_tyBool (by assumption) ?_ | refine se_int ?_ | refine se_str ?_ | refine se_non ?_ | refine se_bl ?_ | refine se_cmp ?_ | refine se_bin ?_ | refine se_backT ?_ | refine se_ix ?_ | refine se_slice ?_ | refine se_tup ?_ | refine se_lst ?_ | ((with_reducible refine (?_ : SE _ _ _ _ (.Call _ _ _ _) _)); first | refine se_any (by assumption) ?_ | refine se_all (by assumption) ?_ | refine se_len (by assumption) ?_ | refine se_min (by assumption) ?_ | refine se_max (by assumption) ?_ | refine se_sorted (by assumption) ?_ | refine se_isi (by assumption) ?_ | refine se_abs (by assumption) ?_ | refine se_sum (by assumption) ?_ | refine se_tupleC (by assumption) ?_ | refine se_listC (by assumption) ?_) | refine se_M rfl (by assumption) (blkOk_by rfl) ?_ | refine se_F rfl (by assumption) (blkOk_by rfl) ?_ | refine se_Dc rfl (by assumption) (blkOk_by rfl) ?_ | refine se_chain ?_ | refine se_indexN ?_ | refine se_not ?_ | refine se_if ?_ | refine se_one ?_ | refine se_and ?_ | refine se_or ?_ | refine se_neg ?_)
    | ((with_reducible refine (?_ : ST _ _ _ _ _ _)); first | refine st_cmp ?_ | refine st_chain ?_ | refine st_not ?_ | refine st_w (sw_and ?_) | refine st_w (sw_or ?_) | refine st_val ?_)
    | ((with_reducible refine (?_ : SWt _ _ _ _ _ _)); first | refine sw_and ?_ | refine sw_and1 ?_ | refine sw_or ?_ | refine sw_or1 ?_)
    | ((with_reducible refine (?_ : SA _ _ _ _ _ _)); first | refine sa_cons ?_ | refine sa_nil ?_)
    | ((with_reducible refine (?_ : SO _ _ _ _ _ _)); first | refine so_none ?_ | refine so_some ?_)
    | ((with_reducible refine (?_ : SG _ _ _ _ _ _ _)); first | refine sg_nm (by assumption) ?_ | refine sg_par rfl ?_ | refine sg_tup rfl ?_)
    | ((with_reducible refine (?_ : SGs _ _ _ _ _ _ _)); first | refine sgs_cons ?_ | refine sgs_nil ?_)
    | ((with_reducible refine (?_ : SGb _ _ _ _ _ _ _ _)); first | refine sgb_nm (by assumption) ?_ (by first | exact vs_self | exact vs_one | exact vs_two) | refine sgb_par rfl ?_ | refine sgb_tup rfl ?_)
    | ((with_reducible refine (?_ : SGbs _ _ _ _ _ _ _ _)); first | refine sgbs_cons ?_ | refine sgbs_nil ?_)
    | ((with_reducible refine (?_ : SW _ _ _ _ _ _ _)); first | refine sw_vals ?_ | refine sw_zipT (by assumption) ?_ | refine sw_range (by assumption) ?_ | refine sw_seq ?_)
    | ((with_reducible refine (?_ : OpV _ _ _ _ _ _ _ _)); first | refine ov_eqN ?_ | refine ov_neN ?_ | refine ov_inN ?_ | refine ov_ninN ?_ | refine ov_inNT ?_ | refine ov_ninNT ?_ | refine oi_add ?_ | refine oi_catT (by fail "z") ?_ | refine ov_cat (by fail "z") ?_ | refine ov_catT (by fail "z") ?_ | refine ov_add ?_ | refine ov_sub ?_ | refine ov_lt ?_ | refine ov_le ?_ | refine ov_gt ?_ | refine ov_ge ?_ | refine ov_eqI ?_ | refine ov_neI ?_ | refine ov_eqS ?_ | refine ov_neS ?_ | refine ov_eqB ?_ | refine ov_neB ?_)
    | ((with_reducible refine (?_ : IxV _ _ _ _ _ _ _)); first | refine iv_cons ?_ | refine iv_consT ?_)
    | ((with_reducible refine (?_ : SlV _ _ _ _ _ _ _ _)); first | refine sv_fromL (by decide) ?_ | refine sv_fromT (by decide) ?_ | refine sv_toL (by decide) ?_ | refine sv_toT (by decide) ?_)
    | ((with_reducible refine (?_ : ClV _ _ _ _ _ _ _)); first | refine cv_anyM rfl ?_ | refine cv_allM rfl ?_ | refine cv_len rfl ?_ | refine cv_tuple rfl ?_ | refine cv_list rfl ?_ | refine cv_abs ?_ | refine cv_isStr rfl ?_ | refine cv_isTup rfl ?_ | refine cv_isInt rfl ?_ | refine cv_isBool rfl ?_ | refine cv_sum rfl ?_)
    | (with_reducible refine turn0I (fun _ _ _ _ _ _ => ?_)) | (with_reducible refine turn1I (fun _ _ _ _ _ _ => ?_)) | (with_reducible refine turnDI (fun _ _ _ _ _ _ => ?_)) | (with_reducible refine abI (fun _ _ _ _ _ => ?_)) | ((with_reducible show (if _ then _ else _)); first | refine iteT ?_ | refine iteF ?_) | ((with_reducible refine (?_ : And _ _)); refine And.intro (show _ ≤ sizeLine by fail "z") ?_) | ((with_reducible refine (?_ : Exists _)); refine ⟨_, rfl, ?_⟩))
namespace D
open PySem PySem.Spec L2 PyProof.Rows ClX
section
variable {F : Fm} {X : Cx} {Γ : List Sl} {c : Cells} {P : Cells → Dt → Prop} {pos : Pos}
/-- C.f, C a class, f a constant of it -/
structure ClsK (K : PySem.W.Frag) (C : Addr) (f : Str) (v : V) : Prop where
  ex : ∃ mc u, CRead K C mc ∧ CVal K C mc f v u
theorem se_cval {e : Expr} {f : Str} {C : Addr} {v : V} {d : Dt} (k : ClsK X.K C f v) (hd : ∀ H, DV X.K H v d) (h : SE F X Γ c e fun c1 d0 => d0 = .raw (.ref C) ∧ P c1 d) (hb : attributeBase e f X.env (eval e X.env) = eval e X.env := by rfl) : SE F X Γ c (.Attribute e f pos) P :=
  SE.of (pe_cval pE hb) fun σ H Q S kk => h σ H _ S fun x H1 c1 d0 q S1 e1 dv => by
    obtain ⟨rfl, q⟩ := q
    cases dv
    obtain ⟨mc, u, h1, h2⟩ := k.ex
    exact ⟨C, mc, v, u, rfl, h1, h2, kk _ _ _ _ q S1 e1 (hd _)⟩
/-- o.m(), o a cell -/
theorem se_mG0 {α : Type} {args : α → List Dt} {cells : α → Cells} {pre : α → Prop} {post : α → Cells → Dt → Prop} {exc : α → Cells → Xc → Prop} {k : Nat} {ps : List Str} {m : Str} {C : Addr} {o : Expr} {apos : Pos} {Wd : List Sl → Cells → Xc → Prop} {pl : Sem Bool}
    (M : MethOk X.prog X.w X.K X.mg X.base k C m ps (spG X.K args cells pre post exc)) (cl : Cls X.K C) (hr : Room k X.A) (xt : XT F X Wd)
    (h : SE F X Γ c o fun c0 d0 => ∃ (j : Nat) (a dx : Addr) (fs : List (Str × Dt)), d0 = .raw (.ref a) ∧ c0[j]? = some (a, .ins C dx fs) ∧ fs.lookup m = none ∧ ∃ a' l r, [.raw (.ref a)] = args a' ∧ c0 = l ++ cells a' ++ r ∧ pre a' ∧ (∀ c' d, post a' c' d → P (l ++ c' ++ r) d) ∧ ∀ c' x, exc a' c' x → Wd Γ (l ++ c' ++ r) x)
    (ht : eval (.Call (.Attribute o m apos) [] [] pos) X.env = (do
      let ov ← eval o X.env
      standAt apos.atName
      let (f, first) ← holding [ov] (getMethod ov m pl)
      callWith pos f first (backTo pos (starEach [] X.env)) (backToKw pos (keywordEach [] X.env))) := by rfl) : SE F X Γ c (.Call (.Attribute o m apos) [] [] pos) P := by
  obtain ⟨f, fd, h1, h2, h3⟩ := M.ex
  obtain ⟨W, tk, hW⟩ := xt.ex
  refine SE.of (pe_mS0 (Er := fun σ => WE W σ) (pl := pl) pE cl h2 h1 hr h3 (fun σ => passAt tk σ) ht) fun σ H Q S k => h σ H _ S fun v H0 c0 d0 q0 S0 k0 dv0 => ?_
  obtain ⟨j, a, dx, fs, rfl, hj, hl, a', l, r, ea, hc, hp, q1, q2⟩ := q0
  cases dv0
  obtain ⟨xs, ha, t⟩ := S0.cat hj
  have hl' : xs.lookup m = none := dvx_none t hl
  refine ⟨a, dx, xs, rfl, ha, hl', ?_⟩
  exact sp_use hW S0 hc (by rw [← ea]; exact .cons (.raw _) .nil) hp (fun v H' c' d pd S2 e2 dv' => k v H' _ d (q1 c' d pd) S2 (k0.trans e2) dv') q2
end
end D
namespace W
open PySem L2 D PyProof.Rows
structure Cst0 (mg : Str → Option Value) : Prop where
  letters : ∃ t, mg "LETTERS" = some (.str abc t)
  mostL : ∃ t, mg "MOST_LETTERS" = some (.int 8 t)
  kinds : ∃ t, mg "MOST_KINDS" = some (.int 10 t)
  dict : mg "dict" = none
section
variable {P : Program} {w : World} {K : PySem.W.Frag} {mg : Str → Option Value} {base : Heap} {C : Addr}
abbrev sp_nameN (K : PySem.W.Frag) : Sp := spP K (fun x : Nm => [nD x]) (fun _ => True) (fun _ z => z = .bl true)
theorem ok_nameN {f : Addr} {fd : FuncData} (Fu : Fun K "is_name" "is_name" s_is_name f fd) (T : Txt mg) (Cs : Cst0 mg) : FnOk P w K mg base (L2.CX P w) 1 f fd ["thing"] (sp_nameN K) := by
  refine fn_P Fu sc_is_name (fun a => rfl) (fun cdv A outer s H E F x hp hr => ?_)
  have nd := sc_is_name.nd
  have h1 := T.isi
  have h2 := T.str
  have h3 := T.len
  have h4 := T.all
  have hbig := big_line
  obtain ⟨t1, c1⟩ := Cs.letters
  obtain ⟨t2, c2⟩ := Cs.mostL
  obtain ⟨z1, z2, z3⟩ := nameC_iff.mp x.2
  repeat fail
  refine cv_lenS (by omega) ?_
  repeat fail "e"
  refine iteTr (decide_eq_true (by omega)) ?_
  repeat fail "e"
  refine se_gint c2 ?_
  repeat fail "e"
  refine iteTr (decide_eq_true (by omega)) ?_
  repeat fail "e"
  refine lcM (fun a => .bl (decide (a ∈ abc.cps.toList))) (by rw [← len_tl]; omega) ?_ ?_
  · intro a ha
    repeat fail "e"
    refine se_gstr c1 ?_
    repeat fail "e"
    refine ov_inSign ?_
    exact ⟨rfl, rfl⟩
  repeat fail "e"
  refine ⟨rfl, ?_⟩
  show Dt.bl (x.1.cps.toList.all fun a => decide (a ∈ abc.cps.toList)) = _
  rw [List.all_eq_true.mpr fun a ha => decide_eq_true (z3 a ha)]
abbrev D_nameN (P : Program) (w : World) (K : PySem.W.Frag) (mg : Str → Option Value) (base : Heap) : Prop := DefOk P w K mg base 1 "is_name_rows" ["thing"] (sp_nameN K)
end
end W
end
section
set_option Elab.async false
set_option linter.all false
set_option maxRecDepth 100000
set_option maxHeartbeats 4000000
open PySem L2 D PyProof.Rows
local macro_rules
  | `(tactic| fail "z") => `(tactic| ((try simp only [List.length_map, List.length_cons, List.length_nil, List.length_append, List.length_drop, List.length_take]); have := big_line; omega))
local macro_rules
  | `(tactic| fail) => `(tactic| first
    | ((with_reducible refine (?_ : SE _ _ _ _ _ _)); first | refine se_nm rfl ?_ | refine se_tyTuple (by assumption) ?_ | refine se_tyStr (by assumption) ?_ | refine se_tyInt (by assumption) ?_ | refine se_tyBool (by assumption) ?_ | refine se_int ?_ | refine se_str ?_ | refine se_non ?_ | refine se_bl ?_ | refine se_cmp ?_ | refine se_bin ?_ | refine se_backT ?_ | refine se_ix ?_ | refine se_slice ?_ | refine se_tup ?_ | refine se_lst ?_ | ((with_reducible refine (?_ : SE _ _ _ _ (.Call _ _ _ _) _)); first | refine se_any (by assumption) ?_ | refine se_all (by assumption) ?_ | refine se_len (by assumption) ?_ | refine se_min (by assumption) ?_ | refine se_max (by assumption) ?_ | refine se_sorted (by assumption) ?_ | refine se_isi (by assumption) ?_ | refine se_abs (by assumption) ?_ | refine se_sum (by assumption) ?_ | refine se_tupleC (by assumption) ?_ | refine se_listC (by assumption) ?_) | refine se_M rfl (by assumption) (blkOk_by rfl) ?_ | refine se_F rfl (by assumption) (blkOk_by rfl) ?_ | refine se_Dc rfl (by assumption) (blkOk_by rfl) ?_ | refine se_chain ?_ | refine se_indexN ?_ | refine se_not ?_ | refine se_if ?_ | refine se_one ?_ | refine se_and ?_ | refine se_or ?_ | refine se_neg ?_)
    | ((with_reducible refine (?_ : ST _ _ _ _ _ _)); first | refine st_cmp ?_ | refine st_chain ?_ | refine st_not ?_ | refine st_w (sw_and ?_) | refine st_w (sw_or ?_) | refine st_val ?_)
    | ((with_reducible refine (?_ : SWt _ _ _ _ _ _)); first | refine sw_and ?_ | refine sw_and1 ?_ | refine sw_or ?_ | refine sw_or1 ?_)
    | ((with_reducible refine (?_ : SA _ _ _ _ _ _)); first | refine sa_cons ?_ | refine sa_nil ?_)
    | ((with_reducible refine (?_ : SO _ _ _ _ _ _)); first | refine so_none ?_ | refine so_some ?_)
    | ((with_reducible refine (?_ : SS _ _ _ _ _ _)); first | refine ss_one ?_ | refine ss_cons ?_)
    | ((with_reducible refine (?_ : S1 _ _ _ _ _ _)); first | refine s_ret ?_ | refine s_if ?_ | refine s_M rfl (by assumption) (blkOk_by rfl) ?_ | refine s_F rfl (by assumption) (blkOk_by rfl) ?_ | refine s_Dc rfl (by assumption) (blkOk_by rfl) ?_ | refine s_st (by assumption) ?_ | refine s_aug (by assumption) rfl ?_ | refine s_asg ?_ | refine s_expr ?_)
    | ((with_reducible refine (?_ : SG _ _ _ _ _ _ _)); first | refine sg_nm (by assumption) ?_ | refine sg_par rfl ?_ | refine sg_tup rfl ?_)
    | ((with_reducible refine (?_ : SGs _ _ _ _ _ _ _)); first | refine sgs_cons ?_ | refine sgs_nil ?_)
    | ((with_reducible refine (?_ : SGb _ _ _ _ _ _ _ _)); first | refine sgb_nm (by assumption) ?_ (by first | exact vs_self | exact vs_one | exact vs_two) | refine sgb_par rfl ?_ | refine sgb_tup rfl ?_)
    | ((with_reducible refine (?_ : SGbs _ _ _ _ _ _ _ _)); first | refine sgbs_cons ?_ | refine sgbs_nil ?_)
    | ((with_reducible refine (?_ : SW _ _ _ _ _ _ _)); first | refine sw_vals ?_ | refine sw_zipT (by assumption) ?_ | refine sw_range (by assumption) ?_ | refine sw_seq ?_)
    | ((with_reducible refine (?_ : OpV _ _ _ _ _ _ _ _)); first | refine ov_eqN ?_ | refine ov_neN ?_ | refine ov_inN ?_ | refine ov_ninN ?_ | refine ov_inNT ?_ | refine ov_ninNT ?_ | refine oi_add ?_ | refine oi_catT (by fail "z") ?_ | refine ov_cat (by fail "z") ?_ | refine ov_catT (by fail "z") ?_ | refine ov_add ?_ | refine ov_sub ?_ | refine ov_lt ?_ | refine ov_le ?_ | refine ov_gt ?_ | refine ov_ge ?_ | refine ov_eqI ?_ | refine ov_neI ?_ | refine ov_eqS ?_ | refine ov_neS ?_ | refine ov_eqB ?_ | refine ov_neB ?_)
    | ((with_reducible refine (?_ : IxV _ _ _ _ _ _ _)); first | refine iv_cons ?_ | refine iv_consT ?_)
    | ((with_reducible refine (?_ : SlV _ _ _ _ _ _ _ _)); first | refine sv_fromL (by decide) ?_ | refine sv_fromT (by decide) ?_ | refine sv_toL (by decide) ?_ | refine sv_toT (by decide) ?_)
    | ((with_reducible refine (?_ : ClV _ _ _ _ _ _ _)); first | refine cv_anyM rfl ?_ | refine cv_allM rfl ?_ | refine cv_len rfl ?_ | refine cv_tuple rfl ?_ | refine cv_list rfl ?_ | refine cv_abs ?_ | refine cv_isStr rfl ?_ | refine cv_isTup rfl ?_ | refine cv_isInt rfl ?_ | refine cv_isBool rfl ?_ | refine cv_sum rfl ?_)
    | (with_reducible refine turn0I (fun _ _ _ _ _ _ => ?_)) | (with_reducible refine turn1I (fun _ _ _ _ _ _ => ?_)) | (with_reducible refine turnDI (fun _ _ _ _ _ _ => ?_)) | (with_reducible refine abI (fun _ _ _ _ _ => ?_)) | ((with_reducible show (if _ then _ else _)); first | refine iteT ?_ | refine iteF ?_) | ((with_reducible refine (?_ : And _ _)); refine And.intro (show _ ≤ sizeLine by fail "z") ?_) | ((with_reducible refine (?_ : Exists _)); refine ⟨_, rfl, ?_⟩))
local macro_rules
  | `(tactic| fail "e") => `(tactic| first
    | ((with_reducible refine (?_ : SE _ _ _ _ _ _)); first | refine se_nm rfl ?_ | refine se_tyTuple (by assumption) ?_ | refine se_tyStr (by assumption) ?_ | refine se_tyInt (by assumption) ?_ | refine se_tyBool (by assumption) ?_ | refine se_int ?_ | refine se_str ?_ | refine se_non ?_ | refine se_bl ?_ | refine se_cmp ?_ | refine se_bin ?_ | refine se_backT ?_ | refine se_ix ?_ | refine se_slice ?_ | refine se_tup ?_ | refine se_lst ?_ | ((with_reducible refine (?_ : SE _ _ _ _ (.Call _ _ _ _) _)); first | refine se_any (by assumption) ?_ | refine se_all (by assumption) ?_ | refine se_len (by assumption) ?_ | refine se_min (by assumption) ?_ | refine se_max (by assumption) ?_ | refine se_sorted (by assumption) ?_ | refine se_isi (by assumption) ?_ | refine se_abs (by assumption) ?_ | refine se_sum (by assumption) ?_ | refine se_tupleC (by assumption) ?_ | refine se_listC (by assumption) ?_) | refine se_M rfl (by assumption) (blkOk_by rfl) ?_ | refine se_F rfl (by assumption) (blkOk_by rfl) ?_ | refine se_Dc rfl (by assumption) (blkOk_by rfl) ?_ | refine se_chain ?_ | refine se_indexN ?_ | refine se_not ?_ | refine se_if ?_ | refine se_one ?_ | refine se_and ?_ | refine se_or ?_ | refine se_neg ?_)
    | ((with_reducible refine (?_ : ST _ _ _ _ _ _)); first | refine st_cmp ?_ | refine st_chain ?_ | refine st_not ?_ | refine st_w (sw_and ?_) | refine st_w (sw_or ?_) | refine st_val ?_)
    | ((with_reducible refine (?_ : SWt _ _ _ _ _ _)); first | refine sw_and ?_ | refine sw_and1 ?_ | refine sw_or ?_ | refine sw_or1 ?_)
    | ((with_reducible refine (?_ : SA _ _ _ _ _ _)); first | refine sa_cons ?_ | refine sa_nil ?_)
    | ((with_reducible refine (?_ : SO _ _ _ _ _ _)); first | refine so_none ?_ | refine so_some ?_)
    | ((with_reducible refine (?_ : SG _ _ _ _ _ _ _)); first | refine sg_nm (by assumption) ?_ | refine sg_par rfl ?_ | refine sg_tup rfl ?_)
    | ((with_reducible refine (?_ : SGs _ _ _ _ _ _ _)); first | refine sgs_cons ?_ | refine sgs_nil ?_)
    | ((with_reducible refine (?_ : SGb _ _ _ _ _ _ _ _)); first | refine sgb_nm (by assumption) ?_ (by first | exact vs_self | exact vs_one | exact vs_two) | refine sgb_par rfl ?_ | refine sgb_tup rfl ?_)
    | ((with_reducible refine (?_ : SGbs _ _ _ _ _ _ _ _)); first | refine sgbs_cons ?_ | refine sgbs_nil ?_)
    | ((with_reducible refine (?_ : SW _ _ _ _ _ _ _)); first | refine sw_vals ?_ | refine sw_zipT (by assumption) ?_ | refine sw_range (by assumption) ?_ | refine sw_seq ?_)
    | ((with_reducible refine (?_ : OpV _ _ _ _ _ _ _ _)); first | refine ov_eqN ?_ | refine ov_neN ?_ | refine ov_inN ?_ | refine ov_ninN ?_ | refine ov_inNT ?_ | refine ov_ninNT ?_ | refine oi_add ?_ | refine oi_catT (by fail "z") ?_ | refine ov_cat (by fail "z") ?_ | refine ov_catT (by fail "z") ?_ | refine ov_add ?_ | refine ov_sub ?_ | refine ov_lt ?_ | refine ov_le ?_ | refine ov_gt ?_ | refine ov_ge ?_ | refine ov_eqI ?_ | refine ov_neI ?_ | refine ov_eqS ?_ | refine ov_neS ?_ | refine ov_eqB ?_ | refine ov_neB ?_)
    | ((with_reducible refine (?_ : IxV _ _ _ _ _ _ _)); first | refine iv_cons ?_ | refine iv_consT ?_)
    | ((with_reducible refine (?_ : SlV _ _ _ _ _ _ _ _)); first | refine sv_fromL (by decide) ?_ | refine sv_fromT (by decide) ?_ | refine sv_toL (by decide) ?_ | refine sv_toT (by decide) ?_)
    | ((with_reducible refine (?_ : ClV _ _ _ _ _ _ _)); first | refine cv_anyM rfl ?_ | refine cv_allM rfl ?_ | refine cv_len rfl ?_ | refine cv_tuple rfl ?_ | refine cv_list rfl ?_ | refine cv_abs ?_ | refine cv_isStr rfl ?_ | refine cv_isTup rfl ?_ | refine cv_isInt rfl ?_ | refine cv_isBool rfl ?_ | refine cv_sum rfl ?_)
    | (with_reducible refine turn0I (fun _ _ _ _ _ _ => ?_)) | (with_reducible refine turn1I (fun _ _ _ _ _ _ => ?_)) | (with_reducible refine turnDI (fun _ _ _ _ _ _ => ?_)) | (with_reducible refine abI (fun _ _ _ _ _ => ?_)) | ((with_reducible show (if _ then _ else _)); first | refine iteT ?_ | refine iteF ?_) | ((with_reducible refine (?_ : And _ _)); refine And.intro (show _ ≤ sizeLine by fail "z") ?_) | ((with_reducible refine (?_ : Exists _)); refine ⟨_, rfl, ?_⟩))
namespace W
open PySem L2 D PyProof.Rows
abbrev D_merge_or_none (P : Program) (w : World) (K : PySem.W.Frag) (mg : Str → Option Value) (base : Heap) : Prop := DefOk P w K mg base 2 "merge_or_none" ["lists"] (sp_merge_or_none K)
def listsG (G : Reg) (l : List Nm) : List (List Nm) := l.map (lineG G) ++ [l]
def linesOk (G : Reg) : Prop := ∀ k ∈ G, k.2.2.length ≤ 100
theorem hasG_find {G : Reg} {x : Nm} (h : hasG G x = true) : ∃ k ∈ G, k.1 = x ∧ (G.find? fun k => decide (k.1 = x)) = some k := by
  unfold hasG at h
  cases hq : G.find? fun k => decide (k.1 = x) with
  | none =>
    obtain ⟨k, hk, e⟩ := List.any_eq_true.mp h
    exact absurd e (by simpa using List.find?_eq_none.mp hq k hk)
  | some k => exact ⟨k, List.mem_of_find?_eq_some hq, by simpa using List.find?_some hq, rfl⟩
theorem line_val {G : Reg} {x : Nm} (h : hasG G x = true) : dval (lnD G) (nK x) = some (nT (lineG G x)) := by
  obtain ⟨k, _, _, e⟩ := hasG_find h
  have := dval_map (fun k : Kd => nT k.2.2) (fun k => k.1) x G
  rw [show dval (lnD G) (nK x) = _ from this]
  unfold lineG
  rw [e]; rfl
theorem line_len {G : Reg} (hG : linesOk G) (x : Nm) : (lineG G x).length ≤ 100 := by
  unfold lineG
  cases hq : G.find? fun k => decide (k.1 = x) with
  | none => exact Nat.zero_le _
  | some k => exact hG k (List.mem_of_find?_eq_some hq)
theorem lists_ok {G : Reg} (hG : linesOk G) {l : List Nm} (hl : l.length ≤ 10) : RowsOk (listsG G l) := by
  refine ⟨?_, fun r hr => ?_⟩
  · unfold listsG; rw [List.length_append, List.length_map]; show _ + 1 ≤ _; omega
  · unfold listsG at hr
    rcases List.mem_append.mp hr with h | h
    · obtain ⟨x, _, rfl⟩ := List.mem_map.mp h
      exact line_len hG x
    · rw [List.mem_singleton.mp h]; omega
section
variable {P : Program} {w : World} {K : PySem.W.Frag} {mg : Str → Option Value} {base : Heap} {C : Addr}
abbrev sp_mor1 (K : PySem.W.Frag) : Sp := spP K (fun L : List (List Nm) => [lisD L]) (fun L => RowsOk L ∧ (merge L).isSome = true) (fun L d => ∃ m, merge L = some m ∧ d = .tup [nT m, .non])
theorem ok_mor1 {f : Addr} {fd : FuncData} (Fu : Fun K "merge_or_ring" "merge_or_ring" s_merge_or_ring f fd) (Dn : D_merge_or_none P w K mg base) : FnOk P w K mg base (L2.CX P w) 3 f fd ["lists"] (sp_mor1 K) := by
  refine fn_P Fu sc_merge_or_ring (fun a => rfl) (fun cdv A outer s H E0 F L hp hr => ?_)
  obtain ⟨hL, hm⟩ := hp
  have nd := sc_merge_or_ring.nd
  refine ss_cons (s_st nd (se_fP Dn (hr.mono (by decide)) ?_))
  repeat fail
  refine ⟨hL, ?_⟩
  rintro _ rfl
  repeat fail
  refine ov_isN (by cases merge L <;> exact fun _ z => nomatch z) ?_
  repeat fail
  cases hm' : merge L with
  | none => rw [hm'] at hm; cases hm
  | some m =>
    repeat fail
    exact ⟨rfl, m, rfl, rfl⟩
abbrev D_mor1 (P : Program) (w : World) (K : PySem.W.Frag) (mg : Str → Option Value) (base : Heap) : Prop := DefOk P w K mg base 3 "merge_or_ring" ["lists"] (sp_mor1 K)
/-- lines whose dict is a cell -/
abbrev sp_lined (K : PySem.W.Frag) : Sp := spG K (fun x : Addr × Reg × Nm × List Nm => [.raw (.ref x.1), nD x.2.2.1, nT x.2.2.2]) (fun x => [(x.1, .dk (lnD x.2.1))]) (fun x => linesOk x.2.1 ∧ BasesOk x.2.1 x.2.2.2 ∧ (merge (listsG x.2.1 x.2.2.2)).isSome = true) (fun x c' d => c' = [(x.1, .dk (lnD x.2.1))] ∧ ∃ m, merge (listsG x.2.1 x.2.2.2) = some m ∧ d = nT (x.2.2.1 :: m)) (fun _ _ _ => False)
theorem mergeF_len : ∀ {n : Nat} {R : List (List Nm)} {acc m : List Nm}, mergeF n R acc = some m → m.length ≤ acc.length + total R
  | 0, R, acc, m, h => by
    unfold mergeF at h
    cases h
    exact Nat.le_add_right _ _
  | n + 1, R, acc, m, h => by
    unfold mergeF at h
    split at h
    · cases hn : nextFrom R R with
      | none => rw [hn] at h; cases h
      | some x =>
        rw [hn] at h
        obtain ⟨⟨r, hr⟩, _⟩ := nextFrom_some hn
        have h1 := mergeF_len h
        have h2 := total_without_lt hr (List.mem_cons_self ..)
        rw [List.length_append] at h1
        have h3 : ([x] : List Nm).length = 1 := rfl
        omega
    · cases h; exact Nat.le_add_right _ _
theorem merge_len {R : List (List Nm)} {m : List Nm} (hR : RowsOk R) (h : merge R = some m) : m.length ≤ 10000 := by
  have := mergeF_len h
  have := total_ok hR
  simp at *; omega
theorem ok_lined {f : Addr} {fd : FuncData} (Fu : Fun K "lined" "lined" s_lined f fd) (T : Txt mg) (Dm : D_mor1 P w K mg base) : FnOk P w K mg base (L2.CX P w) 4 f fd ["lines", "name", "bases"] (sp_lined K) := by
  refine fn_G Fu sc_lined (fun a => rfl) (fun cdv A outer s H E0 F x hp hr xt => ?_)
  obtain ⟨p2, G, x, l⟩ := x
  obtain ⟨hG, hB, hm⟩ := hp
  have hG : linesOk G := hG
  have hB : BasesOk G l := hB
  have hm : (merge (listsG G l)).isSome = true := hm
  have hl := hB.1
  have nd := sc_lined.nd
  have ht := T.tuple
  have hL := lists_ok hG hl
  refine ss_cons (s_asg (se_fP Dm hr ?_))
  repeat fail "e"
  refine lcM (fun y => nT (lineG G y)) (by fail "z") ?_ ?_
  · intro y hy
    repeat fail "e"
    refine iv_cel 0 (hu_of hr) rfl rfl (line_val (hB.2.2 y hy)) ?_
    exact ⟨rfl, rfl⟩
  repeat fail "e"
  refine ⟨listsG G l, ?_, ⟨hL, hm⟩, ?_⟩
  · unfold listsG; rw [lisD, List.map_append, List.map_map]; rfl
  rintro _ ⟨m, hm', rfl⟩
  have hz := merge_len hL hm'
  repeat fail
  refine ov_isN (fun _ z => nomatch z) ?_
  repeat fail
  refine ss_nil ?_
  repeat fail
  refine ⟨rfl, m, hm', rfl⟩
abbrev D_lined (P : Program) (w : World) (K : PySem.W.Frag) (mg : Str → Option Value) (base : Heap) : Prop := DefOk P w K mg base 4 "lined" ["lines", "name", "bases"] (sp_lined K)
end
end W
end
section
set_option Elab.async false
set_option linter.all false
set_option maxRecDepth 100000
set_option maxHeartbeats 4000000
open PySem L2 D PyProof.Rows
local macro_rules
  | `(tactic| fail "z") => `(tactic| ((try simp only [List.length_map, List.length_cons, List.length_nil, List.length_append, List.length_drop, List.length_take]); have := big_line; omega))
local macro_rules
  | `(tactic| fail) => `(tactic| first
    | ((with_reducible refine (?_ : SE _ _ _ _ _ _)); first | refine se_nm rfl ?_ | refine se_tyTuple (by assumption) ?_ | refine se_tyStr (by assumption) ?_ | refine se_tyInt (by assumption) ?_ | refine se_tyBool (by assumption) ?_ | refine se_int ?_ | refine se_str ?_ | refine se_non ?_ | refine se_bl ?_ | refine se_cmp ?_ | refine se_bin ?_ | refine se_backT ?_ | refine se_ix ?_ | refine se_slice ?_ | refine se_tup ?_ | refine se_lst ?_ | ((with_reducible refine (?_ : SE _ _ _ _ (.Call _ _ _ _) _)); first | refine se_any (by assumption) ?_ | refine se_all (by assumption) ?_ | refine se_len (by assumption) ?_ | refine se_min (by assumption) ?_ | refine se_max (by assumption) ?_ | refine se_sorted (by assumption) ?_ | refine se_isi (by assumption) ?_ | refine se_abs (by assumption) ?_ | refine se_sum (by assumption) ?_ | refine se_tupleC (by assumption) ?_ | refine se_listC (by assumption) ?_) | refine se_M rfl (by assumption) (blkOk_by rfl) ?_ | refine se_F rfl (by assumption) (blkOk_by rfl) ?_ | refine se_Dc rfl (by assumption) (blkOk_by rfl) ?_ | refine se_chain ?_ | refine se_indexN ?_ | refine se_not ?_ | refine se_if ?_ | refine se_one ?_ | refine se_and ?_ | refine se_or ?_ | refine se_neg ?_)
    | ((with_reducible refine (?_ : ST _ _ _ _ _ _)); first | refine st_cmp ?_ | refine st_chain ?_ | refine st_not ?_ | refine st_w (sw_and ?_) | refine st_w (sw_or ?_) | refine st_val ?_)
    | ((with_reducible refine (?_ : SWt _ _ _ _ _ _)); first | refine sw_and ?_ | refine sw_and1 ?_ | refine sw_or ?_ | refine sw_or1 ?_)
    | ((with_reducible refine (?_ : SA _ _ _ _ _ _)); first | refine sa_cons ?_ | refine sa_nil ?_)
    | ((with_reducible refine (?_ : SO _ _ _ _ _ _)); first | refine so_none ?_ | refine so_some ?_)
    | ((with_reducible refine (?_ : SS _ _ _ _ _ _)); first | refine ss_one ?_ | refine ss_cons ?_)
    | ((with_reducible refine (?_ : S1 _ _ _ _ _ _)); first | refine s_ret ?_ | refine s_if ?_ | refine s_M rfl (by assumption) (blkOk_by rfl) ?_ | refine s_F rfl (by assumption) (blkOk_by rfl) ?_ | refine s_Dc rfl (by assumption) (blkOk_by rfl) ?_ | refine s_st (by assumption) ?_ | refine s_aug (by assumption) rfl ?_ | refine s_asg ?_ | refine s_expr ?_)
    | ((with_reducible refine (?_ : SG _ _ _ _ _ _ _)); first | refine sg_nm (by assumption) ?_ | refine sg_par rfl ?_ | refine sg_tup rfl ?_)
    | ((with_reducible refine (?_ : SGs _ _ _ _ _ _ _)); first | refine sgs_cons ?_ | refine sgs_nil ?_)
    | ((with_reducible refine (?_ : SGb _ _ _ _ _ _ _ _)); first | refine sgb_nm (by assumption) ?_ (by first | exact vs_self | exact vs_one | exact vs_two) | refine sgb_par rfl ?_ | refine sgb_tup rfl ?_)
    | ((with_reducible refine (?_ : SGbs _ _ _ _ _ _ _ _)); first | refine sgbs_cons ?_ | refine sgbs_nil ?_)
    | ((with_reducible refine (?_ : SW _ _ _ _ _ _ _)); first | refine sw_vals ?_ | refine sw_zipT (by assumption) ?_ | refine sw_range (by assumption) ?_ | refine sw_seq ?_)
    | ((with_reducible refine (?_ : OpV _ _ _ _ _ _ _ _)); first | refine ov_eqN ?_ | refine ov_neN ?_ | refine ov_inN ?_ | refine ov_ninN ?_ | refine ov_inNT ?_ | refine ov_ninNT ?_ | refine oi_add ?_ | refine oi_catT (by fail "z") ?_ | refine ov_cat (by fail "z") ?_ | refine ov_catT (by fail "z") ?_ | refine ov_add ?_ | refine ov_sub ?_ | refine ov_lt ?_ | refine ov_le ?_ | refine ov_gt ?_ | refine ov_ge ?_ | refine ov_eqI ?_ | refine ov_neI ?_ | refine ov_eqS ?_ | refine ov_neS ?_ | refine ov_eqB ?_ | refine ov_neB ?_)
    | ((with_reducible refine (?_ : IxV _ _ _ _ _ _ _)); first | refine iv_cons ?_ | refine iv_consT ?_)
    | ((with_reducible refine (?_ : SlV _ _ _ _ _ _ _ _)); first | refine sv_fromL (by decide) ?_ | refine sv_fromT (by decide) ?_ | refine sv_toL (by decide) ?_ | refine sv_toT (by decide) ?_)
    | ((with_reducible refine (?_ : ClV _ _ _ _ _ _ _)); first | refine cv_anyM rfl ?_ | refine cv_allM rfl ?_ | refine cv_len rfl ?_ | refine cv_tuple rfl ?_ | refine cv_list rfl ?_ | refine cv_abs ?_ | refine cv_isStr rfl ?_ | refine cv_isTup rfl ?_ | refine cv_isInt rfl ?_ | refine cv_isBool rfl ?_ | refine cv_sum rfl ?_)
    | (with_reducible refine turn0I (fun _ _ _ _ _ _ => ?_)) | (with_reducible refine turn1I (fun _ _ _ _ _ _ => ?_)) | (with_reducible refine turnDI (fun _ _ _ _ _ _ => ?_)) | (with_reducible refine abI (fun _ _ _ _ _ => ?_)) | ((with_reducible show (if _ then _ else _)); first | refine iteT ?_ | refine iteF ?_) | ((with_reducible refine (?_ : And _ _)); refine And.intro (show _ ≤ sizeLine by fail "z") ?_) | ((with_reducible refine (?_ : Exists _)); refine ⟨_, rfl, ?_⟩))
local macro_rules
  | `(tactic| fail "e") => `(tactic| first
    | ((with_reducible refine (?_ : SE _ _ _ _ _ _)); first | refine se_nm rfl ?_ | refine se_tyTuple (by assumption) ?_ | refine se_tyStr (by assumption) ?_ | refine se_tyInt (by assumption) ?_ | refine se_tyBool (by assumption) ?_ | refine se_int ?_ | refine se_str ?_ | refine se_non ?_ | refine se_bl ?_ | refine se_cmp ?_ | refine se_bin ?_ | refine se_backT ?_ | refine se_ix ?_ | refine se_slice ?_ | refine se_tup ?_ | refine se_lst ?_ | ((with_reducible refine (?_ : SE _ _ _ _ (.Call _ _ _ _) _)); first | refine se_any (by assumption) ?_ | refine se_all (by assumption) ?_ | refine se_len (by assumption) ?_ | refine se_min (by assumption) ?_ | refine se_max (by assumption) ?_ | refine se_sorted (by assumption) ?_ | refine se_isi (by assumption) ?_ | refine se_abs (by assumption) ?_ | refine se_sum (by assumption) ?_ | refine se_tupleC (by assumption) ?_ | refine se_listC (by assumption) ?_) | refine se_M rfl (by assumption) (blkOk_by rfl) ?_ | refine se_F rfl (by assumption) (blkOk_by rfl) ?_ | refine se_Dc rfl (by assumption) (blkOk_by rfl) ?_ | refine se_chain ?_ | refine se_indexN ?_ | refine se_not ?_ | refine se_if ?_ | refine se_one ?_ | refine se_and ?_ | refine se_or ?_ | refine se_neg ?_)
    | ((with_reducible refine (?_ : ST _ _ _ _ _ _)); first | refine st_cmp ?_ | refine st_chain ?_ | refine st_not ?_ | refine st_w (sw_and ?_) | refine st_w (sw_or ?_) | refine st_val ?_)
    | ((with_reducible refine (?_ : SWt _ _ _ _ _ _)); first | refine sw_and ?_ | refine sw_and1 ?_ | refine sw_or ?_ | refine sw_or1 ?_)
    | ((with_reducible refine (?_ : SA _ _ _ _ _ _)); first | refine sa_cons ?_ | refine sa_nil ?_)
    | ((with_reducible refine (?_ : SO _ _ _ _ _ _)); first | refine so_none ?_ | refine so_some ?_)
    | ((with_reducible refine (?_ : SG _ _ _ _ _ _ _)); first | refine sg_nm (by assumption) ?_ | refine sg_par rfl ?_ | refine sg_tup rfl ?_)
    | ((with_reducible refine (?_ : SGs _ _ _ _ _ _ _)); first | refine sgs_cons ?_ | refine sgs_nil ?_)
    | ((with_reducible refine (?_ : SGb _ _ _ _ _ _ _ _)); first | refine sgb_nm (by assumption) ?_ (by first | exact vs_self | exact vs_one | exact vs_two) | refine sgb_par rfl ?_ | refine sgb_tup rfl ?_)
    | ((with_reducible refine (?_ : SGbs _ _ _ _ _ _ _ _)); first | refine sgbs_cons ?_ | refine sgbs_nil ?_)
    | ((with_reducible refine (?_ : SW _ _ _ _ _ _ _)); first | refine sw_vals ?_ | refine sw_zipT (by assumption) ?_ | refine sw_range (by assumption) ?_ | refine sw_seq ?_)
    | ((with_reducible refine (?_ : OpV _ _ _ _ _ _ _ _)); first | refine ov_eqN ?_ | refine ov_neN ?_ | refine ov_inN ?_ | refine ov_ninN ?_ | refine ov_inNT ?_ | refine ov_ninNT ?_ | refine oi_add ?_ | refine oi_catT (by fail "z") ?_ | refine ov_cat (by fail "z") ?_ | refine ov_catT (by fail "z") ?_ | refine ov_add ?_ | refine ov_sub ?_ | refine ov_lt ?_ | refine ov_le ?_ | refine ov_gt ?_ | refine ov_ge ?_ | refine ov_eqI ?_ | refine ov_neI ?_ | refine ov_eqS ?_ | refine ov_neS ?_ | refine ov_eqB ?_ | refine ov_neB ?_)
    | ((with_reducible refine (?_ : IxV _ _ _ _ _ _ _)); first | refine iv_cons ?_ | refine iv_consT ?_)
    | ((with_reducible refine (?_ : SlV _ _ _ _ _ _ _ _)); first | refine sv_fromL (by decide) ?_ | refine sv_fromT (by decide) ?_ | refine sv_toL (by decide) ?_ | refine sv_toT (by decide) ?_)
    | ((with_reducible refine (?_ : ClV _ _ _ _ _ _ _)); first | refine cv_anyM rfl ?_ | refine cv_allM rfl ?_ | refine cv_len rfl ?_ | refine cv_tuple rfl ?_ | refine cv_list rfl ?_ | refine cv_abs ?_ | refine cv_isStr rfl ?_ | refine cv_isTup rfl ?_ | refine cv_isInt rfl ?_ | refine cv_isBool rfl ?_ | refine cv_sum rfl ?_)
    | (with_reducible refine turn0I (fun _ _ _ _ _ _ => ?_)) | (with_reducible refine turn1I (fun _ _ _ _ _ _ => ?_)) | (with_reducible refine turnDI (fun _ _ _ _ _ _ => ?_)) | (with_reducible refine abI (fun _ _ _ _ _ => ?_)) | ((with_reducible show (if _ then _ else _)); first | refine iteT ?_ | refine iteF ?_) | ((with_reducible refine (?_ : And _ _)); refine And.intro (show _ ≤ sizeLine by fail "z") ?_) | ((with_reducible refine (?_ : Exists _)); refine ⟨_, rfl, ?_⟩))
namespace W
open PySem L2 D PyProof.Rows
/-- what lies in a past -/
def PstOk (ps : Pst) : Prop := ps.length ≤ 10000 ∧ ∀ d ∈ ps, nv d = true
section
variable {P : Program} {w : World} {K : PySem.W.Frag} {mg : Str → Option Value} {base : Heap} {C : Addr}
abbrev sp_remember (K : PySem.W.Frag) (C : Addr) : Sp := spG K (fun x : RA × Reg × Pst => [.raw (.ref x.1.a)]) (fun x => regC C x.1 x.2.1 x.2.2) (fun x => x.2.2.length ≤ 10000) (fun x c' d => d = .non ∧ ∃ d', nv d' = true ∧ c' = regC C x.1 x.2.1 (x.2.2 ++ [d'])) (fun _ _ _ => False)
theorem ok_remember {f : Addr} {fd : FuncData} (Fu : Fun K "remember" "Registry.remember" s_Registry_remember f fd) (Cs : Cst0 mg) (R : RegF K C) : FnOk P w K mg base (L2.CX P w) 1 f fd ["self"] (sp_remember K C) := by
  refine fn_G Fu sc_Registry_remember (fun a => rfl) (fun cdv A outer s H E F x hp hr xt => ?_)
  obtain ⟨r, G, ps⟩ := x
  have hp : ps.length ≤ 10000 := hp
  have nd := sc_Registry_remember.nd
  have hd := Cs.dict
  have hbig := big_line
  refine ss_cons (s_st nd (se_tup ?_))
  repeat fail "e"
  refine se_callT (id := "dict") hd ?_
  refine sa_cons (se_fg R ?_)
  repeat fail "e"
  refine ⟨_, _, _, _, _, rfl, rfl, rfl, ?_⟩
  repeat fail "e"
  refine cv_dictC 1 rfl fun b1 => ?_
  repeat fail "e"
  refine se_callT (id := "dict") hd ?_
  refine sa_cons (se_fg R ?_)
  repeat fail "e"
  refine ⟨_, _, _, _, _, rfl, rfl, rfl, ?_⟩
  repeat fail "e"
  refine cv_dictC 2 rfl fun b2 => ?_
  repeat fail "e"
  refine se_callT (id := "dict") hd ?_
  refine sa_cons (se_fg R ?_)
  repeat fail "e"
  refine ⟨_, _, _, _, _, rfl, rfl, rfl, ?_⟩
  repeat fail "e"
  refine cv_dictC 3 rfl fun b3 => ?_
  repeat fail "e"
  refine ss_cons (s_expr (se_append 7 (a := r.p7) (l := ps) ?_))
  refine se_fg R ?_
  repeat fail "e"
  refine ⟨_, _, _, _, _, rfl, rfl, rfl, ?_⟩
  refine ⟨rfl, ⟨_, rfl⟩, ?_⟩
  repeat fail "e"
  refine se_callT (id := "dict") hd ?_
  refine sa_cons (se_fg R ?_)
  repeat fail "e"
  refine ⟨_, _, _, _, _, rfl, rfl, rfl, ?_⟩
  repeat fail "e"
  refine cv_dictC 5 rfl fun b4 => ?_
  repeat fail "e"
  refine se_callT (id := "dict") hd ?_
  refine sa_cons (se_fg R ?_)
  repeat fail "e"
  refine ⟨_, _, _, _, _, rfl, rfl, rfl, ?_⟩
  repeat fail "e"
  refine cv_dictC 6 rfl fun b5 => ?_
  repeat fail "e"
  refine se_fg R ?_
  repeat fail "e"
  refine ⟨_, _, _, _, _, rfl, rfl, rfl, ?_⟩
  repeat fail "e"
  refine se_fg R ?_
  repeat fail "e"
  refine ⟨_, _, _, _, _, rfl, rfl, rfl, ?_⟩
  repeat fail "e"
  refine ⟨rfl, by omega, ?_⟩
  refine ss_dropE [(b1, .dk _), (b2, .dk _), (b3, .dk _), (b4, .dk _), (b5, .dk _)] (regC C r G (ps ++ [_])) ?_
  exact ss_nil ⟨rfl, _, rfl, rfl⟩
abbrev M_remember (P : Program) (w : World) (K : PySem.W.Frag) (mg : Str → Option Value) (base : Heap) (C : Addr) : Prop := MethOk P w K mg base 1 C "remember" ["self"] (sp_remember K C)
/-- in_order of nothing -/
abbrev sp_in_order (K : PySem.W.Frag) (tb : Addr) : Sp := spG K (fun _ : Unit => [.lst []]) (fun _ => [tabC tb lamQ]) (fun _ => True) (fun _ c' d => c' = [tabC tb lamQ] ∧ d = .lst []) (fun _ _ _ => False)
theorem ok_in_order {f cd tb : Addr} {fd : FuncData} (Fu : FunV K "in_order" "in_order" s_in_order f fd (.ref cd)) (TB : LamX.TabB base mg cd tb) (T : Txt mg) : FnOk P w K mg base (L2.CX P w) 1 f fd ["keys"] (sp_in_order K tb) := by
  refine fn_V Fu sc_in_order (fun a => rfl) (fun A outer s H E F x hp hr xt => ?_)
  have nd := sc_in_order.nd
  refine ss_one (s_ret (se_sorted0 T.sorted (Nat.lt_of_le_of_lt (Nat.add_le_add_left (by decide : 2 ≤ 65) _) (room65 hr)) ?_))
  repeat fail "e"
  refine ⟨rfl, se_lam 0 TB rfl rfl (fun g => ⟨g, rfl, rfl, rfl⟩) (hfree := fun y hy h => ?_)⟩
  rcases List.mem_cons.mp hy with rfl | hy
  · cases h
  · rcases List.mem_cons.mp hy with rfl | hy
    · cases h
    · cases hy
abbrev D_in_order (P : Program) (w : World) (K : PySem.W.Frag) (mg : Str → Option Value) (base : Heap) (tb : Addr) : Prop := DefOk P w K mg base 1 "in_order" ["keys"] (sp_in_order K tb)
theorem nv_reg {r : RA} {G : Reg} {ps : Pst} (h : ∀ d ∈ ps, nv d = true) : ∀ q ∈ regC C r G ps, nvG q.2 := by
  have hD : ∀ f : Kd → List Nm, ∀ q ∈ G.map (fun k => (nK k.1, nT (f k))), nv q.2 = true := fun f q hq => by
    obtain ⟨k, _, rfl⟩ := List.mem_map.mp hq
    refine nvs_all fun d hd => ?_
    obtain ⟨y, _, rfl⟩ := List.mem_map.mp hd
    rfl
  have h0 : ∀ q ∈ ([] : List (Key × Dt)), nv q.2 = true := fun q hq => nomatch hq
  intro q hq
  simp only [regC, List.mem_cons, List.mem_nil_iff, or_false] at hq
  rcases hq with rfl | rfl | rfl | rfl | rfl | rfl | rfl | rfl | rfl
  · intro z hz
    simp only [List.mem_cons, List.mem_nil_iff, or_false] at hz
    rcases hz with rfl | rfl | rfl | rfl | rfl | rfl | rfl | rfl | rfl <;> rfl
  · exact hD (fun k => k.2.1)
  · exact hD (fun k => k.2.2)
  · exact h0
  · exact h0
  · exact h0
  · exact h0
  · exact h
  · exact gb_tab
abbrev sp_outdated (K : PySem.W.Frag) (C tb : Addr) : Sp := spG K (fun x : RA × Reg × Pst => [.raw (.ref x.1.a)]) (fun x => regC C x.1 x.2.1 x.2.2) (fun x => x.1.tb = tb ∧ PstOk x.2.2) (fun x c' d => c' = regC C x.1 x.2.1 x.2.2 ∧ d = .lst []) (fun _ _ _ => False)
theorem ok_outdated {f tb : Addr} {fd : FuncData} (Fu : Fun K "outdated" "outdated" s_outdated f fd) (R : RegF K C) (Di : D_in_order P w K mg base tb) : FnOk P w K mg base (L2.CX P w) 2 f fd ["registry"] (sp_outdated K C tb) := by
  refine fn_G Fu sc_outdated (fun a => rfl) (fun cdv A outer s H E F x hp hr xt => ?_)
  obtain ⟨r, G, ps⟩ := x
  obtain ⟨htb, hps⟩ := hp
  have htb : r.tb = tb := htb
  subst htb
  have hps : PstOk ps := hps
  have nd := sc_outdated.nd
  refine ss_cons (s_st nd (se_fG Di hr XT.no (sa_cons ?_)))
  refine se_lock 4 0 "cache" rfl rfl rfl (nv_reg hps.2) ?_
  refine se_F rfl nd (blkOk_by rfl) (sw_itemsL (se_fg R ?_))
  repeat fail "e"
  refine ⟨_, _, _, _, _, rfl, rfl, rfl, _, _, rfl, ?_⟩
  refine lcF (l := ([] : List Unit)) (enc := fun _ => .non) (fun _ => false) (fun _ => .non) (Nat.zero_le _) (fun x hx => nomatch hx) ?_
  refine ⟨rfl, rfl, sa_nil ?_⟩
  refine ⟨(), (regC C r G ps).take 8, [], rfl, rfl, True.intro, ?_, fun _ _ z => z.elim⟩
  rintro _ _ ⟨rfl, rfl⟩
  refine ss_cons (s_for (passes_of rfl) rfl (sw_lst ?_))
  repeat fail "e"
  refine for_t (l := ([] : List Unit)) (enc := fun _ => .non) (fun rest Γ c => rest = [] ∧ ∃ u, Γ = [.dat (.raw (.ref r.a)), .dat (.lst []), u, .un] ∧ c = regC C r G ps) ⟨rfl, _, rfl, rfl⟩ ?_ ?_
  · rintro pre x rest Γ c hl ⟨h, _⟩
    cases h
  · rintro Γ c ⟨_, u, rfl, rfl⟩
    repeat fail
    exact ⟨rfl, rfl⟩
abbrev D_outdated (P : Program) (w : World) (K : PySem.W.Frag) (mg : Str → Option Value) (base : Heap) (C tb : Addr) : Prop := DefOk P w K mg base 2 "outdated" ["registry"] (sp_outdated K C tb)
end
end W
end
section
set_option Elab.async false
set_option linter.all false
set_option maxRecDepth 100000
set_option maxHeartbeats 4000000
open PySem L2 D PyProof.Rows
local macro_rules
  | `(tactic| fail "z") => `(tactic| ((try simp only [List.length_map, List.length_cons, List.length_nil, List.length_append, List.length_drop, List.length_take]); have := big_line; omega))
local macro_rules
  | `(tactic| fail) => `(tactic| first
    | ((with_reducible refine (?_ : SE _ _ _ _ _ _)); first | refine se_nm rfl ?_ | refine se_tyTuple (by assumption) ?_ | refine se_tyStr (by assumption) ?_ | refine se_tyInt (by assumption) ?_ | refine se_tyBool (by assumption) ?_ | refine se_int ?_ | refine se_str ?_ | refine se_non ?_ | refine se_bl ?_ | refine se_cmp ?_ | refine se_bin ?_ | refine se_backT ?_ | refine se_ix ?_ | refine se_slice ?_ | refine se_tup ?_ | refine se_lst ?_ | ((with_reducible refine (?_ : SE _ _ _ _ (.Call _ _ _ _) _)); first | refine se_any (by assumption) ?_ | refine se_all (by assumption) ?_ | refine se_len (by assumption) ?_ | refine se_min (by assumption) ?_ | refine se_max (by assumption) ?_ | refine se_sorted (by assumption) ?_ | refine se_isi (by assumption) ?_ | refine se_abs (by assumption) ?_ | refine se_sum (by assumption) ?_ | refine se_tupleC (by assumption) ?_ | refine se_listC (by assumption) ?_) | refine se_M rfl (by assumption) (blkOk_by rfl) ?_ | refine se_F rfl (by assumption) (blkOk_by rfl) ?_ | refine se_Dc rfl (by assumption) (blkOk_by rfl) ?_ | refine se_chain ?_ | refine se_indexN ?_ | refine se_not ?_ | refine se_if ?_ | refine se_one ?_ | refine se_and ?_ | refine se_or ?_ | refine se_neg ?_)
    | ((with_reducible refine (?_ : ST _ _ _ _ _ _)); first | refine st_cmp ?_ | refine st_chain ?_ | refine st_not ?_ | refine st_w (sw_and ?_) | refine st_w (sw_or ?_) | refine st_val ?_)
    | ((with_reducible refine (?_ : SWt _ _ _ _ _ _)); first | refine sw_and ?_ | refine sw_and1 ?_ | refine sw_or ?_ | refine sw_or1 ?_)
    | ((with_reducible refine (?_ : SA _ _ _ _ _ _)); first | refine sa_cons ?_ | refine sa_nil ?_)
    | ((with_reducible refine (?_ : SO _ _ _ _ _ _)); first | refine so_none ?_ | refine so_some ?_)
    | ((with_reducible refine (?_ : SS _ _ _ _ _ _)); first | refine ss_one ?_ | refine ss_cons ?_)
    | ((with_reducible refine (?_ : S1 _ _ _ _ _ _)); first | refine s_ret ?_ | refine s_if ?_ | refine s_M rfl (by assumption) (blkOk_by rfl) ?_ | refine s_F rfl (by assumption) (blkOk_by rfl) ?_ | refine s_Dc rfl (by assumption) (blkOk_by rfl) ?_ | refine s_st (by assumption) ?_ | refine s_aug (by assumption) rfl ?_ | refine s_asg ?_ | refine s_expr ?_)
    | ((with_reducible refine (?_ : SG _ _ _ _ _ _ _)); first | refine sg_nm (by assumption) ?_ | refine sg_par rfl ?_ | refine sg_tup rfl ?_)
    | ((with_reducible refine (?_ : SGs _ _ _ _ _ _ _)); first | refine sgs_cons ?_ | refine sgs_nil ?_)
    | ((with_reducible refine (?_ : SGb _ _ _ _ _ _ _ _)); first | refine sgb_nm (by assumption) ?_ (by first | exact vs_self | exact vs_one | exact vs_two) | refine sgb_par rfl ?_ | refine sgb_tup rfl ?_)
    | ((with_reducible refine (?_ : SGbs _ _ _ _ _ _ _ _)); first | refine sgbs_cons ?_ | refine sgbs_nil ?_)
    | ((with_reducible refine (?_ : SW _ _ _ _ _ _ _)); first | refine sw_vals ?_ | refine sw_zipT (by assumption) ?_ | refine sw_range (by assumption) ?_ | refine sw_seq ?_)
    | ((with_reducible refine (?_ : OpV _ _ _ _ _ _ _ _)); first | refine ov_eqN ?_ | refine ov_neN ?_ | refine ov_inN ?_ | refine ov_ninN ?_ | refine ov_inNT ?_ | refine ov_ninNT ?_ | refine oi_add ?_ | refine oi_catT (by fail "z") ?_ | refine ov_cat (by fail "z") ?_ | refine ov_catT (by fail "z") ?_ | refine ov_add ?_ | refine ov_sub ?_ | refine ov_lt ?_ | refine ov_le ?_ | refine ov_gt ?_ | refine ov_ge ?_ | refine ov_eqI ?_ | refine ov_neI ?_ | refine ov_eqS ?_ | refine ov_neS ?_ | refine ov_eqB ?_ | refine ov_neB ?_)
    | ((with_reducible refine (?_ : IxV _ _ _ _ _ _ _)); first | refine iv_cons ?_ | refine iv_consT ?_)
    | ((with_reducible refine (?_ : SlV _ _ _ _ _ _ _ _)); first | refine sv_fromL (by decide) ?_ | refine sv_fromT (by decide) ?_ | refine sv_toL (by decide) ?_ | refine sv_toT (by decide) ?_)
    | ((with_reducible refine (?_ : ClV _ _ _ _ _ _ _)); first | refine cv_anyM rfl ?_ | refine cv_allM rfl ?_ | refine cv_len rfl ?_ | refine cv_tuple rfl ?_ | refine cv_list rfl ?_ | refine cv_abs ?_ | refine cv_isStr rfl ?_ | refine cv_isTup rfl ?_ | refine cv_isInt rfl ?_ | refine cv_isBool rfl ?_ | refine cv_sum rfl ?_)
    | (with_reducible refine turn0I (fun _ _ _ _ _ _ => ?_)) | (with_reducible refine turn1I (fun _ _ _ _ _ _ => ?_)) | (with_reducible refine turnDI (fun _ _ _ _ _ _ => ?_)) | (with_reducible refine abI (fun _ _ _ _ _ => ?_)) | ((with_reducible show (if _ then _ else _)); first | refine iteT ?_ | refine iteF ?_) | ((with_reducible refine (?_ : And _ _)); refine And.intro (show _ ≤ sizeLine by fail "z") ?_) | ((with_reducible refine (?_ : Exists _)); refine ⟨_, rfl, ?_⟩))
local macro_rules
  | `(tactic| fail "e") => `(tactic| first
    | ((with_reducible refine (?_ : SE _ _ _ _ _ _)); first | refine se_nm rfl ?_ | refine se_tyTuple (by assumption) ?_ | refine se_tyStr (by assumption) ?_ | refine se_tyInt (by assumption) ?_ | refine se_tyBool (by assumption) ?_ | refine se_int ?_ | refine se_str ?_ | refine se_non ?_ | refine se_bl ?_ | refine se_cmp ?_ | refine se_bin ?_ | refine se_backT ?_ | refine se_ix ?_ | refine se_slice ?_ | refine se_tup ?_ | refine se_lst ?_ | ((with_reducible refine (?_ : SE _ _ _ _ (.Call _ _ _ _) _)); first | refine se_any (by assumption) ?_ | refine se_all (by assumption) ?_ | refine se_len (by assumption) ?_ | refine se_min (by assumption) ?_ | refine se_max (by assumption) ?_ | refine se_sorted (by assumption) ?_ | refine se_isi (by assumption) ?_ | refine se_abs (by assumption) ?_ | refine se_sum (by assumption) ?_ | refine se_tupleC (by assumption) ?_ | refine se_listC (by assumption) ?_) | refine se_M rfl (by assumption) (blkOk_by rfl) ?_ | refine se_F rfl (by assumption) (blkOk_by rfl) ?_ | refine se_Dc rfl (by assumption) (blkOk_by rfl) ?_ | refine se_chain ?_ | refine se_indexN ?_ | refine se_not ?_ | refine se_if ?_ | refine se_one ?_ | refine se_and ?_ | refine se_or ?_ | refine se_neg ?_)
    | ((with_reducible refine (?_ : ST _ _ _ _ _ _)); first | refine st_cmp ?_ | refine st_chain ?_ | refine st_not ?_ | refine st_w (sw_and ?_) | refine st_w (sw_or ?_) | refine st_val ?_)
    | ((with_reducible refine (?_ : SWt _ _ _ _ _ _)); first | refine sw_and ?_ | refine sw_and1 ?_ | refine sw_or ?_ | refine sw_or1 ?_)
    | ((with_reducible refine (?_ : SA _ _ _ _ _ _)); first | refine sa_cons ?_ | refine sa_nil ?_)
    | ((with_reducible refine (?_ : SO _ _ _ _ _ _)); first | refine so_none ?_ | refine so_some ?_)
    | ((with_reducible refine (?_ : SG _ _ _ _ _ _ _)); first | refine sg_nm (by assumption) ?_ | refine sg_par rfl ?_ | refine sg_tup rfl ?_)
    | ((with_reducible refine (?_ : SGs _ _ _ _ _ _ _)); first | refine sgs_cons ?_ | refine sgs_nil ?_)
    | ((with_reducible refine (?_ : SGb _ _ _ _ _ _ _ _)); first | refine sgb_nm (by assumption) ?_ (by first | exact vs_self | exact vs_one | exact vs_two) | refine sgb_par rfl ?_ | refine sgb_tup rfl ?_)
    | ((with_reducible refine (?_ : SGbs _ _ _ _ _ _ _ _)); first | refine sgbs_cons ?_ | refine sgbs_nil ?_)
    | ((with_reducible refine (?_ : SW _ _ _ _ _ _ _)); first | refine sw_vals ?_ | refine sw_zipT (by assumption) ?_ | refine sw_range (by assumption) ?_ | refine sw_seq ?_)
    | ((with_reducible refine (?_ : OpV _ _ _ _ _ _ _ _)); first | refine ov_eqN ?_ | refine ov_neN ?_ | refine ov_inN ?_ | refine ov_ninN ?_ | refine ov_inNT ?_ | refine ov_ninNT ?_ | refine oi_add ?_ | refine oi_catT (by fail "z") ?_ | refine ov_cat (by fail "z") ?_ | refine ov_catT (by fail "z") ?_ | refine ov_add ?_ | refine ov_sub ?_ | refine ov_lt ?_ | refine ov_le ?_ | refine ov_gt ?_ | refine ov_ge ?_ | refine ov_eqI ?_ | refine ov_neI ?_ | refine ov_eqS ?_ | refine ov_neS ?_ | refine ov_eqB ?_ | refine ov_neB ?_)
    | ((with_reducible refine (?_ : IxV _ _ _ _ _ _ _)); first | refine iv_cons ?_ | refine iv_consT ?_)
    | ((with_reducible refine (?_ : SlV _ _ _ _ _ _ _ _)); first | refine sv_fromL (by decide) ?_ | refine sv_fromT (by decide) ?_ | refine sv_toL (by decide) ?_ | refine sv_toT (by decide) ?_)
    | ((with_reducible refine (?_ : ClV _ _ _ _ _ _ _)); first | refine cv_anyM rfl ?_ | refine cv_allM rfl ?_ | refine cv_len rfl ?_ | refine cv_tuple rfl ?_ | refine cv_list rfl ?_ | refine cv_abs ?_ | refine cv_isStr rfl ?_ | refine cv_isTup rfl ?_ | refine cv_isInt rfl ?_ | refine cv_isBool rfl ?_ | refine cv_sum rfl ?_)
    | (with_reducible refine turn0I (fun _ _ _ _ _ _ => ?_)) | (with_reducible refine turn1I (fun _ _ _ _ _ _ => ?_)) | (with_reducible refine turnDI (fun _ _ _ _ _ _ => ?_)) | (with_reducible refine abI (fun _ _ _ _ _ => ?_)) | ((with_reducible show (if _ then _ else _)); first | refine iteT ?_ | refine iteF ?_) | ((with_reducible refine (?_ : And _ _)); refine And.intro (show _ ≤ sizeLine by fail "z") ?_) | ((with_reducible refine (?_ : Exists _)); refine ⟨_, rfl, ?_⟩))
namespace W
open PySem L2 D PyProof.Rows
theorem put_kb {G : Reg} {x : Nm} (h : hasG G x = false) (f : Kd → Dt) (k : Kd) (hk : k.1 = x) : dput (G.map fun k => (nK k.1, f k)) (nK x) (f k) = (G ++ [k]).map fun k => (nK k.1, f k) := by
  rw [dput_map f (fun k => k.1) x (f k) G]
  rw [if_neg (by rw [show (G.any fun p => decide (p.1 = x)) = hasG G x from rfl, h]; exact Bool.false_ne_true), List.map_append]
  rw [← hk]; rfl
/-- what adding asks for -/
structure AddOk (G : Reg) (x : Nm) (l : List Nm) : Prop where
  new : hasG G x = false
  bs : BasesOk G l
  few : G.length < 10
  lok : linesOk G
  mg : (merge (listsG G l)).isSome = true
section
variable {P : Program} {w : World} {K : PySem.W.Frag} {mg : Str → Option Value} {base : Heap} {C : Addr}
abbrev sp_add (K : PySem.W.Frag) (C tb : Addr) : Sp := spG K (fun x : RA × Reg × Pst × Nm × List Nm => [.raw (.ref x.1.a), nD x.2.2.2.1, nT x.2.2.2.2]) (fun x => regC C x.1 x.2.1 x.2.2.1) (fun x => AddOk x.2.1 x.2.2.2.1 x.2.2.2.2 ∧ x.1.tb = tb ∧ PstOk x.2.2.1 ∧ x.2.2.1.length < 10000)
  (fun x c' d => d = .lst [] ∧ ∃ m d', merge (listsG x.2.1 x.2.2.2.2) = some m ∧ nv d' = true ∧ c' = regC C x.1 (x.2.1 ++ [(x.2.2.2.1, x.2.2.2.2, x.2.2.2.1 :: m)]) (x.2.2.1 ++ [d'])) (fun _ _ _ => False)
theorem ok_add {f tb : Addr} {fd : FuncData} {cdv : Value} (Fu : FunV K "add" "Registry.add" s_Registry_add f fd cdv) (T : Txt mg) (R : RegF K C) (hC : mg "Registry" = some (.ref C)) (hK : ClsK K C "MOST_KINDS" (.int 10)) (Dn : D_nameN P w K mg base) (Mh : M_has P w K mg base C) (Ml : M_rlook P w K mg base C) (Dl : D_lined P w K mg base) (Mr : M_remember P w K mg base C) (Do : D_outdated P w K mg base C tb) :
    FnOk P w K mg base (L2.CX P w) 5 f fd ["self", "name", "bases"] (sp_add K C tb) := by
  refine fn_V Fu sc_Registry_add (fun a => rfl) (fun A outer s H E F x hp hr xt => ?_)
  obtain ⟨r, G, ps, x, l⟩ := x
  obtain ⟨ha, htb, hps, hpl⟩ := hp
  have ha : AddOk G x l := ha
  have htb : r.tb = tb := htb
  have hps : PstOk ps := hps
  have hpl : ps.length < 10000 := hpl
  have hbig := big_line
  have hfew := ha.few
  have nd := sc_Registry_add.nd
  have hlen := T.len
  repeat fail
  refine se_fP Dn (hr.mono (by decide)) ?_
  repeat fail "e"
  refine ⟨True.intro, ?_⟩
  rintro _ rfl
  repeat fail
  refine ss_nil ?_
  repeat fail
  refine se_mG Mh R.cl (hr.mono (by decide)) XT.no ?_
  repeat fail "e"
  refine ⟨0, r.a, r.dx, _, rfl, rfl, rfl, ?_⟩
  repeat fail "e"
  refine ⟨(r, G, ps, x), [], [], rfl, rfl, True.intro, ?_, fun _ _ z => z.elim⟩
  rintro _ _ ⟨rfl, rfl⟩
  refine ⟨_, rfl, iteFr ha.new ?_⟩
  repeat fail
  refine ss_nil ?_
  repeat fail
  refine se_mG Ml R.cl hr XT.no ?_
  repeat fail "e"
  refine ⟨0, r.a, r.dx, _, rfl, rfl, rfl, ?_⟩
  repeat fail "e"
  refine ⟨(r, G, ps, l, []), [], [], rfl, rfl, ⟨ha.bs, fun _ _ z => nomatch z⟩, ?_, fun _ _ z => z.elim⟩
  rintro _ _ ⟨rfl, rfl⟩
  repeat fail
  refine se_fg R ?_
  repeat fail "e"
  refine ⟨_, _, _, _, _, rfl, rfl, rfl, ?_⟩
  repeat fail "e"
  refine cv_lenDC 1 rfl ?_
  repeat fail "e"
  refine se_cval hK (fun H => .int 10) ?_
  refine se_glob (u := .ref C) (v := .ref C) rfl hC rfl (fun _ => .raw _) ?_
  refine ⟨rfl, ?_⟩
  repeat fail "e"
  refine iteFr (by rw [List.length_map]; simp; omega) ?_
  repeat fail
  refine ss_nil ?_
  repeat fail
  refine se_fG Dl hr XT.no (sa_cons (se_fg R ?_))
  repeat fail "e"
  refine ⟨_, _, _, _, _, rfl, rfl, rfl, ?_⟩
  repeat fail "e"
  refine ⟨(r.p2, G, x, l), (regC C r G ps).take 2, (regC C r G ps).drop 3, rfl, rfl, ⟨ha.lok, ha.bs, ha.mg⟩, ?_, fun _ _ z => z.elim⟩
  rintro _ _ ⟨rfl, m, hm, rfl⟩
  repeat fail
  refine se_mG0 Mr R.cl (hr.mono (by decide)) XT.no ?_
  repeat fail "e"
  refine ⟨0, r.a, r.dx, _, rfl, rfl, rfl, (r, G, ps), [], [], rfl, rfl, hps.1, ?_, fun _ _ z => z.elim⟩
  rintro _ _ ⟨rfl, d', hd', rfl⟩
  refine ss_cons (s_put2 rfl (hu_of hr) ?_)
  repeat fail "e"
  refine ⟨_, _, rfl, se_fg R ?_⟩
  repeat fail "e"
  refine ⟨_, _, _, _, _, rfl, rfl, rfl, _, rfl, ?_⟩
  repeat fail "e"
  refine ⟨1, _, _, rfl, rfl, by rw [List.length_map]; show G.length < _; omega, se_fg R ?_⟩
  repeat fail "e"
  refine ⟨_, _, _, _, _, rfl, rfl, rfl, _, rfl, ?_⟩
  repeat fail "e"
  refine ⟨2, _, _, rfl, rfl, by rw [List.length_map]; show G.length < _; omega, ?_⟩
  have e1 : dput (kbD G) (nK x) (nT l) = kbD (G ++ [(x, l, x :: m)]) := put_kb ha.new (fun k => nT k.2.1) (x, l, x :: m) rfl
  have e2 : dput (lnD G) (nK x) (nT (x :: m)) = lnD (G ++ [(x, l, x :: m)]) := put_kb ha.new (fun k => nT k.2.2) (x, l, x :: m) rfl
  have hps' : PstOk (ps ++ [d']) := ⟨by rw [List.length_append]; show ps.length + 1 ≤ _; omega, fun d hd => by
    rcases List.mem_append.mp hd with h | h
    · exact hps.2 d h
    · rw [List.mem_singleton.mp h]; exact hd'⟩
  show SS _ _ _ [(r.a, .ins C r.dx (regFs r.p1 r.p2 r.p3 r.p4 r.p5 r.p6 r.p7 0 0)), (r.p1, .dk (dput (kbD G) (nK x) (nT l))), (r.p2, .dk (dput (lnD G) (nK x) (nT (x :: m)))), (r.p3, .dk []), (r.p4, .dk []), (r.p5, .dk []), (r.p6, .dk []), (r.p7, .lst (ps ++ [d'])), tabC r.tb lamQ] _ _
  rw [e1, e2]
  repeat fail
  refine se_fG Do (hr.mono (by decide)) XT.no ?_
  repeat fail "e"
  refine ⟨(r, G ++ [(x, l, x :: m)], ps ++ [d']), [], [], rfl, rfl, ⟨htb, hps'⟩, ?_, fun _ _ z => z.elim⟩
  rintro _ _ ⟨rfl, rfl⟩
  exact ⟨rfl, m, d', hm, hd', rfl⟩
abbrev M_add (P : Program) (w : World) (K : PySem.W.Frag) (mg : Str → Option Value) (base : Heap) (C tb : Addr) : Prop := MethOk P w K mg base 5 C "add" ["self", "name", "bases"] (sp_add K C tb)
end
end W
end
section
set_option Elab.async false
set_option linter.all false
set_option maxRecDepth 100000
set_option maxHeartbeats 2000000
namespace D
open PySem PySem.Spec L2 PyProof.Rows
section
variable {F : Fm} {X : Cx} {Γ : List Sl} {c : Cells} {P : Cells → Dt → Prop} {Φ : PEnds} {pos : Pos}
theorem SE.permC {e : Expr} (h : SE F X Γ c e fun c1 d => ∃ c2, c1.Perm c2 ∧ P c2 d) : SE F X Γ c e P := .mk fun σ H Q S k => h σ H Q S fun v H' c' d p S' e' dv => by
  obtain ⟨c2, hp, p⟩ := p
  exact k v H' c2 d p (S'.perm hp) (by rw [vw_perm hp]; exact e') (by rw [vw_perm hp]; exact dv)
end
end D
end
section
set_option Elab.async false
set_option linter.all false
set_option maxRecDepth 100000
set_option maxHeartbeats 2000000
namespace D
open PySem PySem.Spec L2 PyProof.Rows
end D
end
section
set_option Elab.async false
set_option linter.all false
set_option maxRecDepth 100000
set_option maxHeartbeats 4000000
open PySem L2 D PyProof.Rows
local macro_rules
  | `(tactic| fail "z") => `(tactic| ((try simp only [List.length_map, List.length_cons, List.length_nil, List.length_append, List.length_drop, List.length_take]); have := big_line; omega))
local macro_rules
  | `(tactic| fail) => `(tactic| first
    | ((with_reducible refine (?_ : SE _ _ _ _ _ _)); first | refine se_nm rfl ?_ | refine se_tyTuple (by assumption) ?_ | refine se_tyStr (by assumption) ?_ | refine se_tyInt (by assumption) ?_ | refine se_tyBool (by assumption) ?_ | refine se_int ?_ | refine se_str ?_ | refine se_non ?_ | refine se_bl ?_ | refine se_cmp ?_ | refine se_bin ?_ | refine se_backT ?_ | refine se_ix ?_ | refine se_slice ?_ | refine se_tup ?_ | refine se_lst ?_ | ((with_reducible refine (?_ : SE _ _ _ _ (.Call _ _ _ _) _)); first | refine se_any (by assumption) ?_ | refine se_all (by assumption) ?_ | refine se_len (by assumption) ?_ | refine se_min (by assumption) ?_ | refine se_max (by assumption) ?_ | refine se_sorted (by assumption) ?_ | refine se_isi (by assumption) ?_ | refine se_abs (by assumption) ?_ | refine se_sum (by assumption) ?_ | refine se_tupleC (by assumption) ?_ | refine se_listC (by assumption) ?_) | refine se_M rfl (by assumption) (blkOk_by rfl) ?_ | refine se_F rfl (by assumption) (blkOk_by rfl) ?_ | refine se_Dc rfl (by assumption) (blkOk_by rfl) ?_ | refine se_chain ?_ | refine se_indexN ?_ | refine se_not ?_ | refine se_if ?_ | refine se_one ?_ | refine se_and ?_ | refine se_or ?_ | refine se_neg ?_)
    | ((with_reducible refine (?_ : ST _ _ _ _ _ _)); first | refine st_cmp ?_ | refine st_chain ?_ | refine st_not ?_ | refine st_w (sw_and ?_) | refine st_w (sw_or ?_) | refine st_val ?_)
    | ((with_reducible refine (?_ : SWt _ _ _ _ _ _)); first | refine sw_and ?_ | refine sw_and1 ?_ | refine sw_or ?_ | refine sw_or1 ?_)
    | ((with_reducible refine (?_ : SA _ _ _ _ _ _)); first | refine sa_cons ?_ | refine sa_nil ?_)
    | ((with_reducible refine (?_ : SO _ _ _ _ _ _)); first | refine so_none ?_ | refine so_some ?_)
    | ((with_reducible refine (?_ : SS _ _ _ _ _ _)); first | refine ss_one ?_ | refine ss_cons ?_)
    | ((with_reducible refine (?_ : S1 _ _ _ _ _ _)); first | refine s_ret ?_ | refine s_if ?_ | refine s_M rfl (by assumption) (blkOk_by rfl) ?_ | refine s_F rfl (by assumption) (blkOk_by rfl) ?_ | refine s_Dc rfl (by assumption) (blkOk_by rfl) ?_ | refine s_st (by assumption) ?_ | refine s_aug (by assumption) rfl ?_ | refine s_asg ?_ | refine s_expr ?_)
    | ((with_reducible refine (?_ : SG _ _ _ _ _ _ _)); first | refine sg_nm (by assumption) ?_ | refine sg_par rfl ?_ | refine sg_tup rfl ?_)
    | ((with_reducible refine (?_ : SGs _ _ _ _ _ _ _)); first | refine sgs_cons ?_ | refine sgs_nil ?_)
    | ((with_reducible refine (?_ : SGb _ _ _ _ _ _ _ _)); first | refine sgb_nm (by assumption) ?_ (by first | exact vs_self | exact vs_one | exact vs_two) | refine sgb_par rfl ?_ | refine sgb_tup rfl ?_)
    | ((with_reducible refine (?_ : SGbs _ _ _ _ _ _ _ _)); first | refine sgbs_cons ?_ | refine sgbs_nil ?_)
    | ((with_reducible refine (?_ : SW _ _ _ _ _ _ _)); first | refine sw_vals ?_ | refine sw_zipT (by assumption) ?_ | refine sw_range (by assumption) ?_ | refine sw_seq ?_)
    | ((with_reducible refine (?_ : OpV _ _ _ _ _ _ _ _)); first | refine ov_eqN ?_ | refine ov_neN ?_ | refine ov_inN ?_ | refine ov_ninN ?_ | refine ov_inNT ?_ | refine ov_ninNT ?_ | refine oi_add ?_ | refine oi_catT (by fail "z") ?_ | refine ov_cat (by fail "z") ?_ | refine ov_catT (by fail "z") ?_ | refine ov_add ?_ | refine ov_sub ?_ | refine ov_lt ?_ | refine ov_le ?_ | refine ov_gt ?_ | refine ov_ge ?_ | refine ov_eqI ?_ | refine ov_neI ?_ | refine ov_eqS ?_ | refine ov_neS ?_ | refine ov_eqB ?_ | refine ov_neB ?_)
    | ((with_reducible refine (?_ : IxV _ _ _ _ _ _ _)); first | refine iv_cons ?_ | refine iv_consT ?_)
    | ((with_reducible refine (?_ : SlV _ _ _ _ _ _ _ _)); first | refine sv_fromL (by decide) ?_ | refine sv_fromT (by decide) ?_ | refine sv_toL (by decide) ?_ | refine sv_toT (by decide) ?_)
    | ((with_reducible refine (?_ : ClV _ _ _ _ _ _ _)); first | refine cv_anyM rfl ?_ | refine cv_allM rfl ?_ | refine cv_len rfl ?_ | refine cv_tuple rfl ?_ | refine cv_list rfl ?_ | refine cv_abs ?_ | refine cv_isStr rfl ?_ | refine cv_isTup rfl ?_ | refine cv_isInt rfl ?_ | refine cv_isBool rfl ?_ | refine cv_sum rfl ?_)
    | (with_reducible refine turn0I (fun _ _ _ _ _ _ => ?_)) | (with_reducible refine turn1I (fun _ _ _ _ _ _ => ?_)) | (with_reducible refine turnDI (fun _ _ _ _ _ _ => ?_)) | (with_reducible refine abI (fun _ _ _ _ _ => ?_)) | ((with_reducible show (if _ then _ else _)); first | refine iteT ?_ | refine iteF ?_) | ((with_reducible refine (?_ : And _ _)); refine And.intro (show _ ≤ sizeLine by fail "z") ?_) | ((with_reducible refine (?_ : Exists _)); refine ⟨_, rfl, ?_⟩))
local macro_rules
  | `(tactic| fail "e") => `(tactic| first
    | ((with_reducible refine (?_ : SE _ _ _ _ _ _)); first | refine se_nm rfl ?_ | refine se_tyTuple (by assumption) ?_ | refine se_tyStr (by assumption) ?_ | refine se_tyInt (by assumption) ?_ | refine se_tyBool (by assumption) ?_ | refine se_int ?_ | refine se_str ?_ | refine se_non ?_ | refine se_bl ?_ | refine se_cmp ?_ | refine se_bin ?_ | refine se_backT ?_ | refine se_ix ?_ | refine se_slice ?_ | refine se_tup ?_ | refine se_lst ?_ | ((with_reducible refine (?_ : SE _ _ _ _ (.Call _ _ _ _) _)); first | refine se_any (by assumption) ?_ | refine se_all (by assumption) ?_ | refine se_len (by assumption) ?_ | refine se_min (by assumption) ?_ | refine se_max (by assumption) ?_ | refine se_sorted (by assumption) ?_ | refine se_isi (by assumption) ?_ | refine se_abs (by assumption) ?_ | refine se_sum (by assumption) ?_ | refine se_tupleC (by assumption) ?_ | refine se_listC (by assumption) ?_) | refine se_M rfl (by assumption) (blkOk_by rfl) ?_ | refine se_F rfl (by assumption) (blkOk_by rfl) ?_ | refine se_Dc rfl (by assumption) (blkOk_by rfl) ?_ | refine se_chain ?_ | refine se_indexN ?_ | refine se_not ?_ | refine se_if ?_ | refine se_one ?_ | refine se_and ?_ | refine se_or ?_ | refine se_neg ?_)
    | ((with_reducible refine (?_ : ST _ _ _ _ _ _)); first | refine st_cmp ?_ | refine st_chain ?_ | refine st_not ?_ | refine st_w (sw_and ?_) | refine st_w (sw_or ?_) | refine st_val ?_)
    | ((with_reducible refine (?_ : SWt _ _ _ _ _ _)); first | refine sw_and ?_ | refine sw_and1 ?_ | refine sw_or ?_ | refine sw_or1 ?_)
    | ((with_reducible refine (?_ : SA _ _ _ _ _ _)); first | refine sa_cons ?_ | refine sa_nil ?_)
    | ((with_reducible refine (?_ : SO _ _ _ _ _ _)); first | refine so_none ?_ | refine so_some ?_)
    | ((with_reducible refine (?_ : SG _ _ _ _ _ _ _)); first | refine sg_nm (by assumption) ?_ | refine sg_par rfl ?_ | refine sg_tup rfl ?_)
    | ((with_reducible refine (?_ : SGs _ _ _ _ _ _ _)); first | refine sgs_cons ?_ | refine sgs_nil ?_)
    | ((with_reducible refine (?_ : SGb _ _ _ _ _ _ _ _)); first | refine sgb_nm (by assumption) ?_ (by first | exact vs_self | exact vs_one | exact vs_two) | refine sgb_par rfl ?_ | refine sgb_tup rfl ?_)
    | ((with_reducible refine (?_ : SGbs _ _ _ _ _ _ _ _)); first | refine sgbs_cons ?_ | refine sgbs_nil ?_)
    | ((with_reducible refine (?_ : SW _ _ _ _ _ _ _)); first | refine sw_vals ?_ | refine sw_zipT (by assumption) ?_ | refine sw_range (by assumption) ?_ | refine sw_seq ?_)
    | ((with_reducible refine (?_ : OpV _ _ _ _ _ _ _ _)); first | refine ov_eqN ?_ | refine ov_neN ?_ | refine ov_inN ?_ | refine ov_ninN ?_ | refine ov_inNT ?_ | refine ov_ninNT ?_ | refine oi_add ?_ | refine oi_catT (by fail "z") ?_ | refine ov_cat (by fail "z") ?_ | refine ov_catT (by fail "z") ?_ | refine ov_add ?_ | refine ov_sub ?_ | refine ov_lt ?_ | refine ov_le ?_ | refine ov_gt ?_ | refine ov_ge ?_ | refine ov_eqI ?_ | refine ov_neI ?_ | refine ov_eqS ?_ | refine ov_neS ?_ | refine ov_eqB ?_ | refine ov_neB ?_)
    | ((with_reducible refine (?_ : IxV _ _ _ _ _ _ _)); first | refine iv_cons ?_ | refine iv_consT ?_)
    | ((with_reducible refine (?_ : SlV _ _ _ _ _ _ _ _)); first | refine sv_fromL (by decide) ?_ | refine sv_fromT (by decide) ?_ | refine sv_toL (by decide) ?_ | refine sv_toT (by decide) ?_)
    | ((with_reducible refine (?_ : ClV _ _ _ _ _ _ _)); first | refine cv_anyM rfl ?_ | refine cv_allM rfl ?_ | refine cv_len rfl ?_ | refine cv_tuple rfl ?_ | refine cv_list rfl ?_ | refine cv_abs ?_ | refine cv_isStr rfl ?_ | refine cv_isTup rfl ?_ | refine cv_isInt rfl ?_ | refine cv_isBool rfl ?_ | refine cv_sum rfl ?_)
    | (with_reducible refine turn0I (fun _ _ _ _ _ _ => ?_)) | (with_reducible refine turn1I (fun _ _ _ _ _ _ => ?_)) | (with_reducible refine turnDI (fun _ _ _ _ _ _ => ?_)) | (with_reducible refine abI (fun _ _ _ _ _ => ?_)) | ((with_reducible show (if _ then _ else _)); first | refine iteT ?_ | refine iteF ?_) | ((with_reducible refine (?_ : And _ _)); refine And.intro (show _ ≤ sizeLine by fail "z") ?_) | ((with_reducible refine (?_ : Exists _)); refine ⟨_, rfl, ?_⟩))
namespace W
open PySem L2 D PyProof.Rows
def initPost (C a dx : Addr) (c' : Cells) : Prop := ∃ r : RA, r.a = a ∧ r.dx = dx ∧ c' = (regC C r [] []).take 8
theorem putFD_len {f : Str} {d : Dt} : ∀ {fs : List (Str × Dt)} {n : Nat}, fs.length ≤ n → (putFD f d fs).length ≤ n + 1
  | [], n, _ => by show 1 ≤ n + 1; omega
  | (g, x) :: r, n, h => by
    unfold putFD
    split
    · exact Nat.le_succ_of_le h
    · match n, h with
      | n + 1, h => exact Nat.succ_le_succ (putFD_len (Nat.le_of_succ_le_succ h))
section
variable {P : Program} {w : World} {K : PySem.W.Frag} {mg : Str → Option Value} {base : Heap} {C : Addr}
theorem ok_reg_init {f : Addr} {fd : FuncData} (Fu : Fun K "__init__" "Registry.__init__" s_Registry___init__ f fd) (R : RegF K C) : FnOk P w K mg base (L2.CX P w) 1 f fd ["self"] (spM K C (initPost C)) := by
  refine fn_G Fu sc_Registry___init__ (fun a => rfl) (fun cdv A outer s H E F x hp hr xt => ?_)
  obtain ⟨a, dx⟩ := x
  have nd := sc_Registry___init__.nd
  refine ss_cons (s_fput (se_dnew fun p1 => ?_))
  repeat fail "e"
  refine ⟨0, a, C, dx, _, rfl, rfl, R.cl, R.na _ (by decide +kernel), (by refine Nat.lt_of_le_of_lt (m := 20) ?_ (by decide); repeat (first | exact Nat.zero_le _ | refine putFD_len ?_)), ?_⟩
  refine ss_cons (s_fput (se_dnew fun p2 => ?_))
  repeat fail "e"
  refine ⟨0, a, C, dx, _, rfl, rfl, R.cl, R.na _ (by decide +kernel), (by refine Nat.lt_of_le_of_lt (m := 20) ?_ (by decide); repeat (first | exact Nat.zero_le _ | refine putFD_len ?_)), ?_⟩
  refine ss_cons (s_fput (se_dnew fun p3 => ?_))
  repeat fail "e"
  refine ⟨0, a, C, dx, _, rfl, rfl, R.cl, R.na _ (by decide +kernel), (by refine Nat.lt_of_le_of_lt (m := 20) ?_ (by decide); repeat (first | exact Nat.zero_le _ | refine putFD_len ?_)), ?_⟩
  refine ss_cons (s_fput (se_dnew fun p4 => ?_))
  repeat fail "e"
  refine ⟨0, a, C, dx, _, rfl, rfl, R.cl, R.na _ (by decide +kernel), (by refine Nat.lt_of_le_of_lt (m := 20) ?_ (by decide); repeat (first | exact Nat.zero_le _ | refine putFD_len ?_)), ?_⟩
  refine ss_cons (s_fput (se_dnew fun p5 => ?_))
  repeat fail "e"
  refine ⟨0, a, C, dx, _, rfl, rfl, R.cl, R.na _ (by decide +kernel), (by refine Nat.lt_of_le_of_lt (m := 20) ?_ (by decide); repeat (first | exact Nat.zero_le _ | refine putFD_len ?_)), ?_⟩
  refine ss_cons (s_fput (se_dnew fun p6 => ?_))
  repeat fail "e"
  refine ⟨0, a, C, dx, _, rfl, rfl, R.cl, R.na _ (by decide +kernel), (by refine Nat.lt_of_le_of_lt (m := 20) ?_ (by decide); repeat (first | exact Nat.zero_le _ | refine putFD_len ?_)), ?_⟩
  refine ss_cons (s_fput ?_)
  repeat fail "e"
  refine ⟨0, a, C, dx, _, rfl, rfl, R.cl, R.na _ (by decide +kernel), (by refine Nat.lt_of_le_of_lt (m := 20) ?_ (by decide); repeat (first | exact Nat.zero_le _ | refine putFD_len ?_)), ?_⟩
  refine ss_cons (s_fput ?_)
  repeat fail "e"
  refine ⟨0, a, C, dx, _, rfl, rfl, R.cl, R.na _ (by decide +kernel), (by refine Nat.lt_of_le_of_lt (m := 20) ?_ (by decide); repeat (first | exact Nat.zero_le _ | refine putFD_len ?_)), ?_⟩
  refine ss_one (s_fput (SEL.sc (sel_lst ?_)))
  repeat fail "e"
  intro p7
  repeat fail "e"
  refine ⟨0, a, C, dx, _, rfl, rfl, R.cl, R.na _ (by decide +kernel), (by refine Nat.lt_of_le_of_lt (m := 20) ?_ (by decide); repeat (first | exact Nat.zero_le _ | refine putFD_len ?_)), ?_⟩
  exact ⟨rfl, ⟨a, dx, p1, p2, p3, p4, p5, p6, p7, 0⟩, rfl, rfl, rfl⟩
end
end W
end
section
set_option Elab.async false
set_option linter.all false
set_option maxRecDepth 100000
set_option maxHeartbeats 4000000
open PySem L2 D PyProof.Rows
local macro_rules
  | `(tactic| fail "z") => `(tactic| ((try simp only [List.length_map, List.length_cons, List.length_nil, List.length_append, List.length_drop, List.length_take]); have := big_line; omega))
local macro_rules
  | `(tactic| fail) => `(tactic| first
    | ((with_reducible refine (?_ : SE _ _ _ _ _ _)); first | refine se_nm rfl ?_ | refine se_tyTuple (by assumption) ?_ | refine se_tyStr (by assumption) ?_ | refine se_tyInt (by assumption) ?_ | refine se_tyBool (by assumption) ?_ | refine se_int ?_ | refine se_str ?_ | refine se_non ?_ | refine se_bl ?_ | refine se_cmp ?_ | refine se_bin ?_ | refine se_backT ?_ | refine se_ix ?_ | refine se_slice ?_ | refine se_tup ?_ | refine se_lst ?_ | ((with_reducible refine (?_ : SE _ _ _ _ (.Call _ _ _ _) _)); first | refine se_any (by assumption) ?_ | refine se_all (by assumption) ?_ | refine se_len (by assumption) ?_ | refine se_min (by assumption) ?_ | refine se_max (by assumption) ?_ | refine se_sorted (by assumption) ?_ | refine se_isi (by assumption) ?_ | refine se_abs (by assumption) ?_ | refine se_sum (by assumption) ?_ | refine se_tupleC (by assumption) ?_ | refine se_listC (by assumption) ?_) | refine se_M rfl (by assumption) (blkOk_by rfl) ?_ | refine se_F rfl (by assumption) (blkOk_by rfl) ?_ | refine se_Dc rfl (by assumption) (blkOk_by rfl) ?_ | refine se_chain ?_ | refine se_indexN ?_ | refine se_not ?_ | refine se_if ?_ | refine se_one ?_ | refine se_and ?_ | refine se_or ?_ | refine se_neg ?_)
    | ((with_reducible refine (?_ : ST _ _ _ _ _ _)); first | refine st_cmp ?_ | refine st_chain ?_ | refine st_not ?_ | refine st_w (sw_and ?_) | refine st_w (sw_or ?_) | refine st_val ?_)
    | ((with_reducible refine (?_ : SWt _ _ _ _ _ _)); first | refine sw_and ?_ | refine sw_and1 ?_ | refine sw_or ?_ | refine sw_or1 ?_)
    | ((with_reducible refine (?_ : SA _ _ _ _ _ _)); first | refine sa_cons ?_ | refine sa_nil ?_)
    | ((with_reducible refine (?_ : SO _ _ _ _ _ _)); first | refine so_none ?_ | refine so_some ?_)
    | ((with_reducible refine (?_ : SS _ _ _ _ _ _)); first | refine ss_one ?_ | refine ss_cons ?_)
    | ((with_reducible refine (?_ : S1 _ _ _ _ _ _)); first | refine s_ret ?_ | refine s_if ?_ | refine s_M rfl (by assumption) (blkOk_by rfl) ?_ | refine s_F rfl (by assumption) (blkOk_by rfl) ?_ | refine s_Dc rfl (by assumption) (blkOk_by rfl) ?_ | refine s_st (by assumption) ?_ | refine s_aug (by assumption) rfl ?_ | refine s_asg ?_ | refine s_expr ?_)
    | ((with_reducible refine (?_ : SG _ _ _ _ _ _ _)); first | refine sg_nm (by assumption) ?_ | refine sg_par rfl ?_ | refine sg_tup rfl ?_)
    | ((with_reducible refine (?_ : SGs _ _ _ _ _ _ _)); first | refine sgs_cons ?_ | refine sgs_nil ?_)
    | ((with_reducible refine (?_ : SGb _ _ _ _ _ _ _ _)); first | refine sgb_nm (by assumption) ?_ (by first | exact vs_self | exact vs_one | exact vs_two) | refine sgb_par rfl ?_ | refine sgb_tup rfl ?_)
    | ((with_reducible refine (?_ : SGbs _ _ _ _ _ _ _ _)); first | refine sgbs_cons ?_ | refine sgbs_nil ?_)
    | ((with_reducible refine (?_ : SW _ _ _ _ _ _ _)); first | refine sw_vals ?_ | refine sw_zipT (by assumption) ?_ | refine sw_range (by assumption) ?_ | refine sw_seq ?_)
    | ((with_reducible refine (?_ : OpV _ _ _ _ _ _ _ _)); first | refine ov_eqN ?_ | refine ov_neN ?_ | refine ov_inN ?_ | refine ov_ninN ?_ | refine ov_inNT ?_ | refine ov_ninNT ?_ | refine oi_add ?_ | refine oi_catT (by fail "z") ?_ | refine ov_cat (by fail "z") ?_ | refine ov_catT (by fail "z") ?_ | refine ov_add ?_ | refine ov_sub ?_ | refine ov_lt ?_ | refine ov_le ?_ | refine ov_gt ?_ | refine ov_ge ?_ | refine ov_eqI ?_ | refine ov_neI ?_ | refine ov_eqS ?_ | refine ov_neS ?_ | refine ov_eqB ?_ | refine ov_neB ?_)
    | ((with_reducible refine (?_ : IxV _ _ _ _ _ _ _)); first | refine iv_cons ?_ | refine iv_consT ?_)
    | ((with_reducible refine (?_ : SlV _ _ _ _ _ _ _ _)); first | refine sv_fromL (by decide) ?_ | refine sv_fromT (by decide) ?_ | refine sv_toL (by decide) ?_ | refine sv_toT (by decide) ?_)
    | ((with_reducible refine (?_ : ClV _ _ _ _ _ _ _)); first | refine cv_anyM rfl ?_ | refine cv_allM rfl ?_ | refine cv_len rfl ?_ | refine cv_tuple rfl ?_ | refine cv_list rfl ?_ | refine cv_abs ?_ | refine cv_isStr rfl ?_ | refine cv_isTup rfl ?_ | refine cv_isInt rfl ?_ | refine cv_isBool rfl ?_ | refine cv_sum rfl ?_)
    | (with_reducible refine turn0I (fun _ _ _ _ _ _ => ?_)) | (with_reducible refine turn1I (fun _ _ _ _ _ _ => ?_)) | (with_reducible refine turnDI (fun _ _ _ _ _ _ => ?_)) | (with_reducible refine abI (fun _ _ _ _ _ => ?_)) | ((with_reducible show (if _ then _ else _)); first | refine iteT ?_ | refine iteF ?_) | ((with_reducible refine (?_ : And _ _)); refine And.intro (show _ ≤ sizeLine by fail "z") ?_) | ((with_reducible refine (?_ : Exists _)); refine ⟨_, rfl, ?_⟩))
local macro_rules
  | `(tactic| fail "e") => `(tactic| first
    | ((with_reducible refine (?_ : SE _ _ _ _ _ _)); first | refine se_nm rfl ?_ | refine se_tyTuple (by assumption) ?_ | refine se_tyStr (by assumption) ?_ | refine se_tyInt (by assumption) ?_ | refine se_tyBool (by assumption) ?_ | refine se_int ?_ | refine se_str ?_ | refine se_non ?_ | refine se_bl ?_ | refine se_cmp ?_ | refine se_bin ?_ | refine se_backT ?_ | refine se_ix ?_ | refine se_slice ?_ | refine se_tup ?_ | refine se_lst ?_ | ((with_reducible refine (?_ : SE _ _ _ _ (.Call _ _ _ _) _)); first | refine se_any (by assumption) ?_ | refine se_all (by assumption) ?_ | refine se_len (by assumption) ?_ | refine se_min (by assumption) ?_ | refine se_max (by assumption) ?_ | refine se_sorted (by assumption) ?_ | refine se_isi (by assumption) ?_ | refine se_abs (by assumption) ?_ | refine se_sum (by assumption) ?_ | refine se_tupleC (by assumption) ?_ | refine se_listC (by assumption) ?_) | refine se_M rfl (by assumption) (blkOk_by rfl) ?_ | refine se_F rfl (by assumption) (blkOk_by rfl) ?_ | refine se_Dc rfl (by assumption) (blkOk_by rfl) ?_ | refine se_chain ?_ | refine se_indexN ?_ | refine se_not ?_ | refine se_if ?_ | refine se_one ?_ | refine se_and ?_ | refine se_or ?_ | refine se_neg ?_)
    | ((with_reducible refine (?_ : ST _ _ _ _ _ _)); first | refine st_cmp ?_ | refine st_chain ?_ | refine st_not ?_ | refine st_w (sw_and ?_) | refine st_w (sw_or ?_) | refine st_val ?_)
    | ((with_reducible refine (?_ : SWt _ _ _ _ _ _)); first | refine sw_and ?_ | refine sw_and1 ?_ | refine sw_or ?_ | refine sw_or1 ?_)
    | ((with_reducible refine (?_ : SA _ _ _ _ _ _)); first | refine sa_cons ?_ | refine sa_nil ?_)
    | ((with_reducible refine (?_ : SO _ _ _ _ _ _)); first | refine so_none ?_ | refine so_some ?_)
    | ((with_reducible refine (?_ : SG _ _ _ _ _ _ _)); first | refine sg_nm (by assumption) ?_ | refine sg_par rfl ?_ | refine sg_tup rfl ?_)
    | ((with_reducible refine (?_ : SGs _ _ _ _ _ _ _)); first | refine sgs_cons ?_ | refine sgs_nil ?_)
    | ((with_reducible refine (?_ : SGb _ _ _ _ _ _ _ _)); first | refine sgb_nm (by assumption) ?_ (by first | exact vs_self | exact vs_one | exact vs_two) | refine sgb_par rfl ?_ | refine sgb_tup rfl ?_)
    | ((with_reducible refine (?_ : SGbs _ _ _ _ _ _ _ _)); first | refine sgbs_cons ?_ | refine sgbs_nil ?_)
    | ((with_reducible refine (?_ : SW _ _ _ _ _ _ _)); first | refine sw_vals ?_ | refine sw_zipT (by assumption) ?_ | refine sw_range (by assumption) ?_ | refine sw_seq ?_)
    | ((with_reducible refine (?_ : OpV _ _ _ _ _ _ _ _)); first | refine ov_eqN ?_ | refine ov_neN ?_ | refine ov_inN ?_ | refine ov_ninN ?_ | refine ov_inNT ?_ | refine ov_ninNT ?_ | refine oi_add ?_ | refine oi_catT (by fail "z") ?_ | refine ov_cat (by fail "z") ?_ | refine ov_catT (by fail "z") ?_ | refine ov_add ?_ | refine ov_sub ?_ | refine ov_lt ?_ | refine ov_le ?_ | refine ov_gt ?_ | refine ov_ge ?_ | refine ov_eqI ?_ | refine ov_neI ?_ | refine ov_eqS ?_ | refine ov_neS ?_ | refine ov_eqB ?_ | refine ov_neB ?_)
    | ((with_reducible refine (?_ : IxV _ _ _ _ _ _ _)); first | refine iv_cons ?_ | refine iv_consT ?_)
    | ((with_reducible refine (?_ : SlV _ _ _ _ _ _ _ _)); first | refine sv_fromL (by decide) ?_ | refine sv_fromT (by decide) ?_ | refine sv_toL (by decide) ?_ | refine sv_toT (by decide) ?_)
    | ((with_reducible refine (?_ : ClV _ _ _ _ _ _ _)); first | refine cv_anyM rfl ?_ | refine cv_allM rfl ?_ | refine cv_len rfl ?_ | refine cv_tuple rfl ?_ | refine cv_list rfl ?_ | refine cv_abs ?_ | refine cv_isStr rfl ?_ | refine cv_isTup rfl ?_ | refine cv_isInt rfl ?_ | refine cv_isBool rfl ?_ | refine cv_sum rfl ?_)
    | (with_reducible refine turn0I (fun _ _ _ _ _ _ => ?_)) | (with_reducible refine turn1I (fun _ _ _ _ _ _ => ?_)) | (with_reducible refine turnDI (fun _ _ _ _ _ _ => ?_)) | (with_reducible refine abI (fun _ _ _ _ _ => ?_)) | ((with_reducible show (if _ then _ else _)); first | refine iteT ?_ | refine iteF ?_) | ((with_reducible refine (?_ : And _ _)); refine And.intro (show _ ≤ sizeLine by fail "z") ?_) | ((with_reducible refine (?_ : Exists _)); refine ⟨_, rfl, ?_⟩))
namespace W
open PySem L2 D PyProof.Rows
section
variable {P : Program} {w : World} {K : PySem.W.Frag} {mg : Str → Option Value} {base : Heap} {C : Addr}
/-- what future_line asks of -/
abbrev sp_lists_for (K : PySem.W.Frag) (C : Addr) : Sp := spG K (fun x : RA × Reg × Pst × List Nm => [.raw (.ref x.1.a), nT x.2.2.2]) (fun x => regC C x.1 x.2.1 x.2.2.1) (fun x => BasesOk x.2.1 x.2.2.2) (fun x c' d => c' = regC C x.1 x.2.1 x.2.2.1 ∧ d = lisD (listsG x.2.1 x.2.2.2)) (fun _ _ _ => False)
theorem ok_lists_for {f : Addr} {fd : FuncData} (Fu : Fun K "lists_for" "lists_for" s_lists_for f fd) (T : Txt mg) (R : RegF K C) : FnOk P w K mg base (L2.CX P w) 1 f fd ["registry", "bases"] (sp_lists_for K C) := by
  refine fn_G Fu sc_lists_for (fun a => rfl) (fun cdv A outer s H E F x hp hr xt => ?_)
  obtain ⟨r, G, ps, l⟩ := x
  have hp : BasesOk G l := hp
  have hl := hp.1
  have nd := sc_lists_for.nd
  have ht := T.tuple
  repeat fail
  refine lcM (fun y => nT (lineG G y)) (by fail "z") ?_ ?_
  · intro y hy
    repeat fail "e"
    refine se_fg R ?_
    repeat fail "e"
    refine ⟨_, _, _, _, _, rfl, rfl, rfl, ?_⟩
    repeat fail "e"
    refine iv_cel 2 (hu_of hr) rfl rfl (line_val (hp.2.2 y hy)) ?_
    exact ⟨rfl, rfl⟩
  repeat fail "e"
  refine ⟨rfl, ?_⟩
  unfold listsG; rw [lisD, List.map_append, List.map_map]; rfl
abbrev D_lists_for (P : Program) (w : World) (K : PySem.W.Frag) (mg : Str → Option Value) (base : Heap) (C : Addr) : Prop := DefOk P w K mg base 1 "lists_for" ["registry", "bases"] (sp_lists_for K C)
end
end W
end
section
set_option Elab.async false
set_option linter.all false
set_option maxRecDepth 100000
set_option maxHeartbeats 4000000
open PySem L2 D PyProof.Rows
local macro_rules
  | `(tactic| fail "z") => `(tactic| ((try simp only [List.length_map, List.length_cons, List.length_nil, List.length_append, List.length_drop, List.length_take]); have := big_line; omega))
local macro_rules
  | `(tactic| fail) => `(tactic| first
    | ((with_reducible refine (?_ : SE _ _ _ _ _ _)); first | refine se_nm rfl ?_ | refine se_tyTuple (by assumption) ?_ | refine se_tyStr (by assumption) ?_ | refine se_tyInt (by assumption) ?_ | refine se_tyBool (by assumption) ?_ | refine se_int ?_ | refine se_str ?_ | refine se_non ?_ | refine se_bl ?_ | refine se_cmp ?_ | refine se_bin ?_ | refine se_backT ?_ | refine se_ix ?_ | refine se_slice ?_ | refine se_tup ?_ | refine se_lst ?_ | ((with_reducible refine (?_ : SE _ _ _ _ (.Call _ _ _ _) _)); first | refine se_any (by assumption) ?_ | refine se_all (by assumption) ?_ | refine se_len (by assumption) ?_ | refine se_min (by assumption) ?_ | refine se_max (by assumption) ?_ | refine se_sorted (by assumption) ?_ | refine se_isi (by assumption) ?_ | refine se_abs (by assumption) ?_ | refine se_sum (by assumption) ?_ | refine se_tupleC (by assumption) ?_ | refine se_listC (by assumption) ?_) | refine se_M rfl (by assumption) (blkOk_by rfl) ?_ | refine se_F rfl (by assumption) (blkOk_by rfl) ?_ | refine se_Dc rfl (by assumption) (blkOk_by rfl) ?_ | refine se_chain ?_ | refine se_indexN ?_ | refine se_not ?_ | refine se_if ?_ | refine se_one ?_ | refine se_and ?_ | refine se_or ?_ | refine se_neg ?_)
    | ((with_reducible refine (?_ : ST _ _ _ _ _ _)); first | refine st_cmp ?_ | refine st_chain ?_ | refine st_not ?_ | refine st_w (sw_and ?_) | refine st_w (sw_or ?_) | refine st_val ?_)
    | ((with_reducible refine (?_ : SWt _ _ _ _ _ _)); first | refine sw_and ?_ | refine sw_and1 ?_ | refine sw_or ?_ | refine sw_or1 ?_)
    | ((with_reducible refine (?_ : SA _ _ _ _ _ _)); first | refine sa_cons ?_ | refine sa_nil ?_)
    | ((with_reducible refine (?_ : SO _ _ _ _ _ _)); first | refine so_none ?_ | refine so_some ?_)
    | ((with_reducible refine (?_ : SS _ _ _ _ _ _)); first | refine ss_one ?_ | refine ss_cons ?_)
    | ((with_reducible refine (?_ : S1 _ _ _ _ _ _)); first | refine s_ret ?_ | refine s_if ?_ | refine s_M rfl (by assumption) (blkOk_by rfl) ?_ | refine s_F rfl (by assumption) (blkOk_by rfl) ?_ | refine s_Dc rfl (by assumption) (blkOk_by rfl) ?_ | refine s_st (by assumption) ?_ | refine s_aug (by assumption) rfl ?_ | refine s_asg ?_ | refine s_expr ?_)
    | ((with_reducible refine (?_ : SG _ _ _ _ _ _ _)); first | refine sg_nm (by assumption) ?_ | refine sg_par rfl ?_ | refine sg_tup rfl ?_)
    | ((with_reducible refine (?_ : SGs _ _ _ _ _ _ _)); first | refine sgs_cons ?_ | refine sgs_nil ?_)
    | ((with_reducible refine (?_ : SGb _ _ _ _ _ _ _ _)); first | refine sgb_nm (by assumption) ?_ (by first | exact vs_self | exact vs_one | exact vs_two) | refine sgb_par rfl ?_ | refine sgb_tup rfl ?_)
    | ((with_reducible refine (?_ : SGbs _ _ _ _ _ _ _ _)); first | refine sgbs_cons ?_ | refine sgbs_nil ?_)
    | ((with_reducible refine (?_ : SW _ _ _ _ _ _ _)); first | refine sw_vals ?_ | refine sw_zipT (by assumption) ?_ | refine sw_range (by assumption) ?_ | refine sw_seq ?_)
    | ((with_reducible refine (?_ : OpV _ _ _ _ _ _ _ _)); first | refine ov_eqN ?_ | refine ov_neN ?_ | refine ov_inN ?_ | refine ov_ninN ?_ | refine ov_inNT ?_ | refine ov_ninNT ?_ | refine oi_add ?_ | refine oi_catT (by fail "z") ?_ | refine ov_cat (by fail "z") ?_ | refine ov_catT (by fail "z") ?_ | refine ov_add ?_ | refine ov_sub ?_ | refine ov_lt ?_ | refine ov_le ?_ | refine ov_gt ?_ | refine ov_ge ?_ | refine ov_eqI ?_ | refine ov_neI ?_ | refine ov_eqS ?_ | refine ov_neS ?_ | refine ov_eqB ?_ | refine ov_neB ?_)
    | ((with_reducible refine (?_ : IxV _ _ _ _ _ _ _)); first | refine iv_cons ?_ | refine iv_consT ?_)
    | ((with_reducible refine (?_ : SlV _ _ _ _ _ _ _ _)); first | refine sv_fromL (by decide) ?_ | refine sv_fromT (by decide) ?_ | refine sv_toL (by decide) ?_ | refine sv_toT (by decide) ?_)
    | ((with_reducible refine (?_ : ClV _ _ _ _ _ _ _)); first | refine cv_anyM rfl ?_ | refine cv_allM rfl ?_ | refine cv_len rfl ?_ | refine cv_tuple rfl ?_ | refine cv_list rfl ?_ | refine cv_abs ?_ | refine cv_isStr rfl ?_ | refine cv_isTup rfl ?_ | refine cv_isInt rfl ?_ | refine cv_isBool rfl ?_ | refine cv_sum rfl ?_)
    | (with_reducible refine turn0I (fun _ _ _ _ _ _ => ?_)) | (with_reducible refine turn1I (fun _ _ _ _ _ _ => ?_)) | (with_reducible refine turnDI (fun _ _ _ _ _ _ => ?_)) | (with_reducible refine abI (fun _ _ _ _ _ => ?_)) | ((with_reducible show (if _ then _ else _)); first | refine iteT ?_ | refine iteF ?_) | ((with_reducible refine (?_ : And _ _)); refine And.intro (show _ ≤ sizeLine by fail "z") ?_) | ((with_reducible refine (?_ : Exists _)); refine ⟨_, rfl, ?_⟩))
local macro_rules
  | `(tactic| fail "e") => `(tactic| first
    | ((with_reducible refine (?_ : SE _ _ _ _ _ _)); first | refine se_nm rfl ?_ | refine se_tyTuple (by assumption) ?_ | refine se_tyStr (by assumption) ?_ | refine se_tyInt (by assumption) ?_ | refine se_tyBool (by assumption) ?_ | refine se_int ?_ | refine se_str ?_ | refine se_non ?_ | refine se_bl ?_ | refine se_cmp ?_ | refine se_bin ?_ | refine se_backT ?_ | refine se_ix ?_ | refine se_slice ?_ | refine se_tup ?_ | refine se_lst ?_ | ((with_reducible refine (?_ : SE _ _ _ _ (.Call _ _ _ _) _)); first | refine se_any (by assumption) ?_ | refine se_all (by assumption) ?_ | refine se_len (by assumption) ?_ | refine se_min (by assumption) ?_ | refine se_max (by assumption) ?_ | refine se_sorted (by assumption) ?_ | refine se_isi (by assumption) ?_ | refine se_abs (by assumption) ?_ | refine se_sum (by assumption) ?_ | refine se_tupleC (by assumption) ?_ | refine se_listC (by assumption) ?_) | refine se_M rfl (by assumption) (blkOk_by rfl) ?_ | refine se_F rfl (by assumption) (blkOk_by rfl) ?_ | refine se_Dc rfl (by assumption) (blkOk_by rfl) ?_ | refine se_chain ?_ | refine se_indexN ?_ | refine se_not ?_ | refine se_if ?_ | refine se_one ?_ | refine se_and ?_ | refine se_or ?_ | refine se_neg ?_)
    | ((with_reducible refine (?_ : ST _ _ _ _ _ _)); first | refine st_cmp ?_ | refine st_chain ?_ | refine st_not ?_ | refine st_w (sw_and ?_) | refine st_w (sw_or ?_) | refine st_val ?_)
    | ((with_reducible refine (?_ : SWt _ _ _ _ _ _)); first | refine sw_and ?_ | refine sw_and1 ?_ | refine sw_or ?_ | refine sw_or1 ?_)
    | ((with_reducible refine (?_ : SA _ _ _ _ _ _)); first | refine sa_cons ?_ | refine sa_nil ?_)
    | ((with_reducible refine (?_ : SO _ _ _ _ _ _)); first | refine so_none ?_ | refine so_some ?_)
    | ((with_reducible refine (?_ : SG _ _ _ _ _ _ _)); first | refine sg_nm (by assumption) ?_ | refine sg_par rfl ?_ | refine sg_tup rfl ?_)
    | ((with_reducible refine (?_ : SGs _ _ _ _ _ _ _)); first | refine sgs_cons ?_ | refine sgs_nil ?_)
    | ((with_reducible refine (?_ : SGb _ _ _ _ _ _ _ _)); first | refine sgb_nm (by assumption) ?_ (by first | exact vs_self | exact vs_one | exact vs_two) | refine sgb_par rfl ?_ | refine sgb_tup rfl ?_)
    | ((with_reducible refine (?_ : SGbs _ _ _ _ _ _ _ _)); first | refine sgbs_cons ?_ | refine sgbs_nil ?_)
    | ((with_reducible refine (?_ : SW _ _ _ _ _ _ _)); first | refine sw_vals ?_ | refine sw_zipT (by assumption) ?_ | refine sw_range (by assumption) ?_ | refine sw_seq ?_)
    | ((with_reducible refine (?_ : OpV _ _ _ _ _ _ _ _)); first | refine ov_eqN ?_ | refine ov_neN ?_ | refine ov_inN ?_ | refine ov_ninN ?_ | refine ov_inNT ?_ | refine ov_ninNT ?_ | refine oi_add ?_ | refine oi_catT (by fail "z") ?_ | refine ov_cat (by fail "z") ?_ | refine ov_catT (by fail "z") ?_ | refine ov_add ?_ | refine ov_sub ?_ | refine ov_lt ?_ | refine ov_le ?_ | refine ov_gt ?_ | refine ov_ge ?_ | refine ov_eqI ?_ | refine ov_neI ?_ | refine ov_eqS ?_ | refine ov_neS ?_ | refine ov_eqB ?_ | refine ov_neB ?_)
    | ((with_reducible refine (?_ : IxV _ _ _ _ _ _ _)); first | refine iv_cons ?_ | refine iv_consT ?_)
    | ((with_reducible refine (?_ : SlV _ _ _ _ _ _ _ _)); first | refine sv_fromL (by decide) ?_ | refine sv_fromT (by decide) ?_ | refine sv_toL (by decide) ?_ | refine sv_toT (by decide) ?_)
    | ((with_reducible refine (?_ : ClV _ _ _ _ _ _ _)); first | refine cv_anyM rfl ?_ | refine cv_allM rfl ?_ | refine cv_len rfl ?_ | refine cv_tuple rfl ?_ | refine cv_list rfl ?_ | refine cv_abs ?_ | refine cv_isStr rfl ?_ | refine cv_isTup rfl ?_ | refine cv_isInt rfl ?_ | refine cv_isBool rfl ?_ | refine cv_sum rfl ?_)
    | (with_reducible refine turn0I (fun _ _ _ _ _ _ => ?_)) | (with_reducible refine turn1I (fun _ _ _ _ _ _ => ?_)) | (with_reducible refine turnDI (fun _ _ _ _ _ _ => ?_)) | (with_reducible refine abI (fun _ _ _ _ _ => ?_)) | ((with_reducible show (if _ then _ else _)); first | refine iteT ?_ | refine iteF ?_) | ((with_reducible refine (?_ : And _ _)); refine And.intro (show _ ≤ sizeLine by fail "z") ?_) | ((with_reducible refine (?_ : Exists _)); refine ⟨_, rfl, ?_⟩))
namespace W
open PySem L2 D PyProof.Rows
theorem mod_lt {a b : Int} (h : 0 < b) : 0 ≤ a % b ∧ a % b < b := ⟨Int.emod_nonneg a (by omega), Int.emod_lt_of_pos a h⟩
theorem atI_nat' {α : Type} {l : List α} {i : Int} (h0 : 0 ≤ i) (h1 : i < l.length) : ∃ d, atI l i = some d ∧ d ∈ l := by
  unfold atI L2.ixN
  rw [if_pos h0, if_pos h1]
  have hl : i.toNat < l.length := by omega
  exact ⟨l[i.toNat], List.getElem?_eq_getElem hl, List.getElem_mem hl⟩
section
variable {P : Program} {w : World} {K : PySem.W.Frag} {mg : Str → Option Value} {base : Heap}
abbrev sp_bag (K : PySem.W.Frag) : Sp := spG K (fun x : List Int × Int => [.fzl (x.1.map .int), .int x.2]) (fun _ => []) (fun x => 0 ≤ x.2 ∧ x.2 < 1000) (fun _ c' d => ∃ a, c' = [(a, .bag 0)] ∧ d = .raw (.ref a)) fun _ _ _ => False
theorem ok_bag {f : Addr} {fd : FuncData} (Fu : Fun K "_law_bag" "_law_bag" s__law_bag f fd) (T : Txt mg) : FnOk P w K mg base (L2.CX P w) 1 f fd ["_law_script", "_law_at"] (sp_bag K) := by
  refine fn_G Fu sc__law_bag (fun a => rfl) (fun cdv A outer s H E F x hp hr xt => ?_)
  obtain ⟨ns, i⟩ := x
  obtain ⟨h0, h1⟩ := (show 0 ≤ i ∧ i < 1000 from hp)
  have nd := sc__law_bag.nd
  have habs := T.abs
  have hlen := T.len
  have key2 : ∀ n m : Int, 0 ≤ m → SS F (cxOf (L2.CX P w) P w K mg base n__law_bag "_law_bag" (defScope s__law_bag) f cdv A outer s H E) (((startP n__law_bag [.fzl (ns.map .int), .int i]).set 2 (.dat (.int n))).set 3 (.dat (.int m))) [] ((defBody s__law_bag).drop 2)
      { nx := fun _ c' => ∃ a, c' = [(a, .bag 0)] ∧ Dt.non = .raw (.ref a), rt := fun _ c' d => ∃ a, c' = [(a, .bag 0)] ∧ d = .raw (.ref a) } := by
    intro n m hm
    have hn := mod_lt (a := n) (b := 2147483647) (by decide)
    have hb : (n % 2147483647 + 7121 * i + 11).natAbs < 2 ^ 64 := by omega
    have hx := mod_lt (a := (n % 2147483647 + 7121 * i + 11) ^ (3 : Int).toNat) (b := 2147483629) (by decide)
    refine ss_one (s_ret (SE.closeBag (SEL.sc (sel_lst ?_))))
    repeat fail
    refine ov_mod (by decide) ?_
    repeat fail
    refine ov_mul (.inl ⟨by decide, by decide⟩) ?_
    repeat fail
    refine ov_pow ⟨by decide, by decide, hb⟩ ?_
    repeat fail
    refine ov_mod (by decide) ?_
    repeat fail
    intro a
    exact ⟨0, a, m, _, 0, 0, rfl, hm, hx.1, by omega, by decide, by decide, a, rfl, rfl⟩
  have key : ∀ n : Int, SS F (cxOf (L2.CX P w) P w K mg base n__law_bag "_law_bag" (defScope s__law_bag) f cdv A outer s H E) ((startP n__law_bag [.fzl (ns.map .int), .int i]).set 2 (.dat (.int n))) [] ((defBody s__law_bag).drop 1)
      { nx := fun _ c' => ∃ a, c' = [(a, .bag 0)] ∧ Dt.non = .raw (.ref a), rt := fun _ c' d => ∃ a, c' = [(a, .bag 0)] ∧ d = .raw (.ref a) } := by
    intro n
    repeat fail
    refine ov_pow ⟨by decide, by decide, by decide⟩ ?_
    repeat fail
    refine ite2 (fun h => ?_) (fun h => ?_)
    · repeat fail "e"
      exact key2 n _ (by split <;> omega)
    · repeat fail "e"
      exact key2 n 0 (by decide)
  repeat fail
  refine cv_lenF  ?_
  repeat fail "e"
  refine ite2 (fun h => ?_) (fun h => ?_)
  · repeat fail "e"
    have h := of_decide_eq_true h
    obtain ⟨d, hd, hm⟩ := atI_nat' (l := ns.map Dt.int) h0 (by simpa using h)
    obtain ⟨n, _, rfl⟩ := List.mem_map.mp hm
    exact iv_fzl hd (key n)
  · repeat fail "e"
    exact key 0
abbrev sp_take (K : PySem.W.Frag) : Sp := spB K (fun n : Int => [.int n]) (fun n => 0 < n ∧ n < 1000000) (fun _ => 1) (fun n z => ∃ k, z = .int k ∧ 0 ≤ k ∧ k < n)
theorem ok_take {f : Addr} {fd : FuncData} (Fu : Fun K "_law_take" "_law_take" s__law_take f fd) : FnOk P w K mg base (L2.CX P w) 1 f fd ["_law_bag_here", "_law_many"] (sp_take K) := by
  refine fn_B Fu sc__law_take (fun a => rfl) (fun cdv A outer s H E F b c n hp hc hr => ?_)
  obtain ⟨hn0, hn1⟩ := hp
  have nd := sc__law_take.nd
  have hc' : (c : Int) + 1 ≤ 1000000000 := by have : c + 1 ≤ 1000000000 := hc; omega
  refine ss_openBag 0 rfl fun d s' k' h1 h2 h3 h4 h5 => ?_
  repeat fail
  refine iv_lcel 0 rfl rfl ?_
  repeat fail
  refine ite2 (fun h => ?_) (fun h => ?_)
  · have hd : 0 < d := of_decide_eq_true h
    repeat fail
    refine iv_lcel 0 rfl rfl ?_
    repeat fail "e"
    refine ov_mod hn0 ?_
    refine ss_cons (s_lput ?_)
    repeat fail
    refine iv_lcel 0 rfl rfl ?_
    repeat fail "e"
    refine ov_div ⟨hn0, by omega⟩ ?_
    repeat fail "e"
    refine ⟨0, _, _, 0, rfl, rfl, rfl, ?_⟩
    refine ss_one (s_ret (SE.closeBag ?_))
    repeat fail
    refine ⟨0, b, d / n, s', k', c + 1, rfl, Int.ediv_nonneg (by omega) (by omega), h2, h3, h4, by omega, ?_⟩
    exact ⟨⟨_, Nat.le_refl _, rfl⟩, _, rfl, mod_lt hn0⟩
  · refine ss_nil ?_
    refine ss_cons (s_lput ?_)
    repeat fail "e"
    refine iv_lcel 0 rfl rfl ?_
    repeat fail "e"
    refine ⟨0, _, _, 2, rfl, rfl, rfl, ?_⟩
    refine ss_cons (s_lput ?_)
    repeat fail
    refine iv_lcel 0 rfl rfl ?_
    repeat fail
    refine ov_mul (.inr ⟨by decide, by decide⟩) ?_
    repeat fail
    refine iv_lcel 0 rfl rfl ?_
    repeat fail
    refine ov_mul (.inl ⟨by decide, by decide⟩) ?_
    repeat fail
    refine iv_lcel 0 rfl rfl ?_
    repeat fail
    refine ov_mul (.inr ⟨by omega, by omega⟩) ?_
    repeat fail
    refine ov_mod (by decide) ?_
    repeat fail
    refine ⟨0, _, _, 1, rfl, rfl, rfl, ?_⟩
    have hm := mod_lt (a := s' * 48271 + 6607 * (k' + 1) * (k' + 1) + 5) (b := 2147483647) (by decide)
    have hb : ((s' * 48271 + 6607 * (k' + 1) * (k' + 1) + 5) % 2147483647 / 16).natAbs < 2 ^ 64 := by omega
    refine ss_one (s_ret (SE.closeBag ?_))
    repeat fail
    refine iv_lcel 0 rfl rfl ?_
    repeat fail
    refine ov_div ⟨by decide, by decide⟩ ?_
    repeat fail
    refine ov_pow ⟨by decide, by decide, hb⟩ ?_
    repeat fail
    refine ov_mod (by decide) ?_
    repeat fail
    refine ov_mod hn0 ?_
    refine ⟨0, b, d, _, _, c + 1, rfl, h1, hm.1, hm.2, by omega, by omega, ?_⟩
    exact ⟨⟨_, Nat.le_refl _, rfl⟩, _, rfl, mod_lt hn0⟩
end
end W
end
section
set_option Elab.async false
set_option linter.all false
set_option maxRecDepth 100000
set_option maxHeartbeats 4000000
open PySem L2 D PyProof.Rows
local macro_rules
  | `(tactic| fail "z") => `(tactic| ((try simp only [List.length_map, List.length_cons, List.length_nil, List.length_append, List.length_drop, List.length_take]); have := big_line; omega))
local macro_rules
  | `(tactic| fail) => `(tactic| first
    | ((with_reducible refine (?_ : SE _ _ _ _ _ _)); first | refine se_nm rfl ?_ | refine se_tyTuple (by assumption) ?_ | refine se_tyStr (by assumption) ?_ | refine se_tyInt (by assumption) ?_ | refine se_tyBool (by assumption) ?_ | refine se_int ?_ | refine se_str ?_ | refine se_non ?_ | refine se_bl ?_ | refine se_cmp ?_ | refine se_bin ?_ | refine se_backT ?_ | refine se_ix ?_ | refine se_slice ?_ | refine se_tup ?_ | refine se_lst ?_ | ((with_reducible refine (?_ : SE _ _ _ _ (.Call _ _ _ _) _)); first | refine se_any (by assumption) ?_ | refine se_all (by assumption) ?_ | refine se_len (by assumption) ?_ | refine se_min (by assumption) ?_ | refine se_max (by assumption) ?_ | refine se_sorted (by assumption) ?_ | refine se_isi (by assumption) ?_ | refine se_abs (by assumption) ?_ | refine se_sum (by assumption) ?_ | refine se_tupleC (by assumption) ?_ | refine se_listC (by assumption) ?_) | refine se_M rfl (by assumption) (blkOk_by rfl) ?_ | refine se_F rfl (by assumption) (blkOk_by rfl) ?_ | refine se_Dc rfl (by assumption) (blkOk_by rfl) ?_ | refine se_chain ?_ | refine se_indexN ?_ | refine se_not ?_ | refine se_if ?_ | refine se_one ?_ | refine se_and ?_ | refine se_or ?_ | refine se_neg ?_)
    | ((with_reducible refine (?_ : ST _ _ _ _ _ _)); first | refine st_cmp ?_ | refine st_chain ?_ | refine st_not ?_ | refine st_w (sw_and ?_) | refine st_w (sw_or ?_) | refine st_val ?_)
    | ((with_reducible refine (?_ : SWt _ _ _ _ _ _)); first | refine sw_and ?_ | refine sw_and1 ?_ | refine sw_or ?_ | refine sw_or1 ?_)
    | ((with_reducible refine (?_ : SA _ _ _ _ _ _)); first | refine sa_cons ?_ | refine sa_nil ?_)
    | ((with_reducible refine (?_ : SO _ _ _ _ _ _)); first | refine so_none ?_ | refine so_some ?_)
    | ((with_reducible refine (?_ : SS _ _ _ _ _ _)); first | refine ss_one ?_ | refine ss_cons ?_)
    | ((with_reducible refine (?_ : S1 _ _ _ _ _ _)); first | refine s_ret ?_ | refine s_if ?_ | refine s_M rfl (by assumption) (blkOk_by rfl) ?_ | refine s_F rfl (by assumption) (blkOk_by rfl) ?_ | refine s_Dc rfl (by assumption) (blkOk_by rfl) ?_ | refine s_st (by assumption) ?_ | refine s_aug (by assumption) rfl ?_ | refine s_asg ?_ | refine s_expr ?_)
    | ((with_reducible refine (?_ : SG _ _ _ _ _ _ _)); first | refine sg_nm (by assumption) ?_ | refine sg_par rfl ?_ | refine sg_tup rfl ?_)
    | ((with_reducible refine (?_ : SGs _ _ _ _ _ _ _)); first | refine sgs_cons ?_ | refine sgs_nil ?_)
    | ((with_reducible refine (?_ : SGb _ _ _ _ _ _ _ _)); first | refine sgb_nm (by assumption) ?_ (by first | exact vs_self | exact vs_one | exact vs_two) | refine sgb_par rfl ?_ | refine sgb_tup rfl ?_)
    | ((with_reducible refine (?_ : SGbs _ _ _ _ _ _ _ _)); first | refine sgbs_cons ?_ | refine sgbs_nil ?_)
    | ((with_reducible refine (?_ : SW _ _ _ _ _ _ _)); first | refine sw_vals ?_ | refine sw_zipT (by assumption) ?_ | refine sw_range (by assumption) ?_ | refine sw_seq ?_)
    | ((with_reducible refine (?_ : OpV _ _ _ _ _ _ _ _)); first | refine ov_eqN ?_ | refine ov_neN ?_ | refine ov_inN ?_ | refine ov_ninN ?_ | refine ov_inNT ?_ | refine ov_ninNT ?_ | refine oi_add ?_ | refine oi_catT (by fail "z") ?_ | refine ov_cat (by fail "z") ?_ | refine ov_catT (by fail "z") ?_ | refine ov_add ?_ | refine ov_sub ?_ | refine ov_lt ?_ | refine ov_le ?_ | refine ov_gt ?_ | refine ov_ge ?_ | refine ov_eqI ?_ | refine ov_neI ?_ | refine ov_eqS ?_ | refine ov_neS ?_ | refine ov_eqB ?_ | refine ov_neB ?_)
    | ((with_reducible refine (?_ : IxV _ _ _ _ _ _ _)); first | refine iv_cons ?_ | refine iv_consT ?_)
    | ((with_reducible refine (?_ : SlV _ _ _ _ _ _ _ _)); first | refine sv_fromL (by decide) ?_ | refine sv_fromT (by decide) ?_ | refine sv_toL (by decide) ?_ | refine sv_toT (by decide) ?_)
    | ((with_reducible refine (?_ : ClV _ _ _ _ _ _ _)); first | refine cv_anyM rfl ?_ | refine cv_allM rfl ?_ | refine cv_len rfl ?_ | refine cv_tuple rfl ?_ | refine cv_list rfl ?_ | refine cv_abs ?_ | refine cv_isStr rfl ?_ | refine cv_isTup rfl ?_ | refine cv_isInt rfl ?_ | refine cv_isBool rfl ?_ | refine cv_sum rfl ?_)
    | (with_reducible refine turn0I (fun _ _ _ _ _ _ => ?_)) | (with_reducible refine turn1I (fun _ _ _ _ _ _ => ?_)) | (with_reducible refine turnDI (fun _ _ _ _ _ _ => ?_)) | (with_reducible refine abI (fun _ _ _ _ _ => ?_)) | ((with_reducible show (if _ then _ else _)); first | refine iteT ?_ | refine iteF ?_) | ((with_reducible refine (?_ : And _ _)); refine And.intro (show _ ≤ sizeLine by fail "z") ?_) | ((with_reducible refine (?_ : Exists _)); refine ⟨_, rfl, ?_⟩))
local macro_rules
  | `(tactic| fail "e") => `(tactic| first
    | ((with_reducible refine (?_ : SE _ _ _ _ _ _)); first | refine se_nm rfl ?_ | refine se_tyTuple (by assumption) ?_ | refine se_tyStr (by assumption) ?_ | refine se_tyInt (by assumption) ?_ | refine se_tyBool (by assumption) ?_ | refine se_int ?_ | refine se_str ?_ | refine se_non ?_ | refine se_bl ?_ | refine se_cmp ?_ | refine se_bin ?_ | refine se_backT ?_ | refine se_ix ?_ | refine se_slice ?_ | refine se_tup ?_ | refine se_lst ?_ | ((with_reducible refine (?_ : SE _ _ _ _ (.Call _ _ _ _) _)); first | refine se_any (by assumption) ?_ | refine se_all (by assumption) ?_ | refine se_len (by assumption) ?_ | refine se_min (by assumption) ?_ | refine se_max (by assumption) ?_ | refine se_sorted (by assumption) ?_ | refine se_isi (by assumption) ?_ | refine se_abs (by assumption) ?_ | refine se_sum (by assumption) ?_ | refine se_tupleC (by assumption) ?_ | refine se_listC (by assumption) ?_) | refine se_M rfl (by assumption) (blkOk_by rfl) ?_ | refine se_F rfl (by assumption) (blkOk_by rfl) ?_ | refine se_Dc rfl (by assumption) (blkOk_by rfl) ?_ | refine se_chain ?_ | refine se_indexN ?_ | refine se_not ?_ | refine se_if ?_ | refine se_one ?_ | refine se_and ?_ | refine se_or ?_ | refine se_neg ?_)
    | ((with_reducible refine (?_ : ST _ _ _ _ _ _)); first | refine st_cmp ?_ | refine st_chain ?_ | refine st_not ?_ | refine st_w (sw_and ?_) | refine st_w (sw_or ?_) | refine st_val ?_)
    | ((with_reducible refine (?_ : SWt _ _ _ _ _ _)); first | refine sw_and ?_ | refine sw_and1 ?_ | refine sw_or ?_ | refine sw_or1 ?_)
    | ((with_reducible refine (?_ : SA _ _ _ _ _ _)); first | refine sa_cons ?_ | refine sa_nil ?_)
    | ((with_reducible refine (?_ : SO _ _ _ _ _ _)); first | refine so_none ?_ | refine so_some ?_)
    | ((with_reducible refine (?_ : SG _ _ _ _ _ _ _)); first | refine sg_nm (by assumption) ?_ | refine sg_par rfl ?_ | refine sg_tup rfl ?_)
    | ((with_reducible refine (?_ : SGs _ _ _ _ _ _ _)); first | refine sgs_cons ?_ | refine sgs_nil ?_)
    | ((with_reducible refine (?_ : SGb _ _ _ _ _ _ _ _)); first | refine sgb_nm (by assumption) ?_ (by first | exact vs_self | exact vs_one | exact vs_two) | refine sgb_par rfl ?_ | refine sgb_tup rfl ?_)
    | ((with_reducible refine (?_ : SGbs _ _ _ _ _ _ _ _)); first | refine sgbs_cons ?_ | refine sgbs_nil ?_)
    | ((with_reducible refine (?_ : SW _ _ _ _ _ _ _)); first | refine sw_vals ?_ | refine sw_zipT (by assumption) ?_ | refine sw_range (by assumption) ?_ | refine sw_seq ?_)
    | ((with_reducible refine (?_ : OpV _ _ _ _ _ _ _ _)); first | refine ov_eqN ?_ | refine ov_neN ?_ | refine ov_inN ?_ | refine ov_ninN ?_ | refine ov_inNT ?_ | refine ov_ninNT ?_ | refine oi_add ?_ | refine oi_catT (by fail "z") ?_ | refine ov_cat (by fail "z") ?_ | refine ov_catT (by fail "z") ?_ | refine ov_add ?_ | refine ov_sub ?_ | refine ov_lt ?_ | refine ov_le ?_ | refine ov_gt ?_ | refine ov_ge ?_ | refine ov_eqI ?_ | refine ov_neI ?_ | refine ov_eqS ?_ | refine ov_neS ?_ | refine ov_eqB ?_ | refine ov_neB ?_)
    | ((with_reducible refine (?_ : IxV _ _ _ _ _ _ _)); first | refine iv_cons ?_ | refine iv_consT ?_)
    | ((with_reducible refine (?_ : SlV _ _ _ _ _ _ _ _)); first | refine sv_fromL (by decide) ?_ | refine sv_fromT (by decide) ?_ | refine sv_toL (by decide) ?_ | refine sv_toT (by decide) ?_)
    | ((with_reducible refine (?_ : ClV _ _ _ _ _ _ _)); first | refine cv_anyM rfl ?_ | refine cv_allM rfl ?_ | refine cv_len rfl ?_ | refine cv_tuple rfl ?_ | refine cv_list rfl ?_ | refine cv_abs ?_ | refine cv_isStr rfl ?_ | refine cv_isTup rfl ?_ | refine cv_isInt rfl ?_ | refine cv_isBool rfl ?_ | refine cv_sum rfl ?_)
    | (with_reducible refine turn0I (fun _ _ _ _ _ _ => ?_)) | (with_reducible refine turn1I (fun _ _ _ _ _ _ => ?_)) | (with_reducible refine turnDI (fun _ _ _ _ _ _ => ?_)) | (with_reducible refine abI (fun _ _ _ _ _ => ?_)) | ((with_reducible show (if _ then _ else _)); first | refine iteT ?_ | refine iteF ?_) | ((with_reducible refine (?_ : And _ _)); refine And.intro (show _ ≤ sizeLine by fail "z") ?_) | ((with_reducible refine (?_ : Exists _)); refine ⟨_, rfl, ?_⟩))
namespace W
open PySem L2 D PyProof.Rows
def lett (s : Str) : Prop := s.length = 1 ∧ ∀ a ∈ s.cps.toList, a ∈ abc.cps.toList
theorem pick_abc {k : Int} (h0 : 0 ≤ k) (h1 : k < 26) : ∃ a, atI abc.cps.toList k = some a ∧ a ∈ abc.cps.toList := atI_nat' h0 (by rw [show abc.cps.toList.length = 26 from by decide +kernel]; omega)
theorem lett_sign {a : Nat} (h : a ∈ abc.cps.toList) : lett ⟨#[a]⟩ := ⟨rfl, fun b hb => by simp at hb; subst hb; exact h⟩
/-- the sign at a place of the letters -/
def abcAt (k : Int) : Nat := (atI abc.cps.toList k).getD 97
theorem abcAt_eq {k : Int} (h0 : 0 ≤ k) (h1 : k < 26) : atI abc.cps.toList k = some (abcAt k) := by
  obtain ⟨a, ha, _⟩ := pick_abc h0 h1
  unfold abcAt; rw [ha]; rfl
theorem abcAt_inj {k m : Int} (h0 : 0 ≤ k) (h1 : k < 26) (g0 : 0 ≤ m) (g1 : m < 26) (h : abcAt k = abcAt m) : k = m := by
  have key : ∀ k : Nat, k < 26 → abcAt (k : Int) = 97 + k := by decide +kernel
  have h2 := key k.toNat (by omega)
  have h3 := key m.toNat (by omega)
  rw [Int.toNat_of_nonneg h0] at h2
  rw [Int.toNat_of_nonneg g0] at h3
  omega
theorem seven {f : Int} {i j : Nat} (hi : i < 20) (hj : j < 20) (h : (f + 7 * (i : Int)) % 26 = (f + 7 * (j : Int)) % 26) : i = j := by omega
def wordN (sp : Int) (bs : Str) (a : Nat) : Str := if sp = 0 then bs ++ ⟨#[a]⟩ else ⟨#[a]⟩ ++ bs
theorem word_name {sp : Int} {bs : Str} {a : Nat} (hl : bs.length ≤ 7) (hb : ∀ x ∈ tl bs, x ∈ tl abc) (ha : a ∈ abc.cps.toList) : nameC (wordN sp bs a) = true := by
  have hx := lett_sign ha
  rw [nameC_iff]
  unfold wordN
  split
  · rw [len_app]
    refine ⟨by have := hx.1; omega, by have := hx.1; omega, fun z hz => ?_⟩
    have hz : z ∈ tl (bs ++ ⟨#[a]⟩) := hz
    rw [tl_app] at hz
    rcases List.mem_append.mp hz with q | q
    · exact hb z q
    · exact hx.2 z q
  · rw [len_app]
    refine ⟨by have := hx.1; omega, by have := hx.1; omega, fun z hz => ?_⟩
    have hz : z ∈ tl (⟨#[a]⟩ ++ bs) := hz
    rw [tl_app] at hz
    rcases List.mem_append.mp hz with q | q
    · exact hx.2 z q
    · exact hb z q
theorem word_inj {sp : Int} {bs : Str} {a b : Nat} (h : wordN sp bs a = wordN sp bs b) : a = b := by
  unfold wordN at h
  split at h
  · have := congrArg tl h
    rw [tl_app, tl_app] at this
    have := List.append_cancel_left this
    simpa [tl] using this
  · have := congrArg tl h
    rw [tl_app, tl_app] at this
    have := List.append_cancel_right this
    simpa [tl] using this
section
variable {P : Program} {w : World} {K : PySem.W.Frag} {mg : Str → Option Value} {base : Heap}
abbrev D_take (P : Program) (w : World) (K : PySem.W.Frag) (mg : Str → Option Value) (base : Heap) : Prop := DefOk P w K mg base 1 "_law_take" ["_law_bag_here", "_law_many"] (sp_take K)
abbrev sp_names (K : PySem.W.Frag) : Sp := spB K (fun n : Int => [.int n]) (fun n => 0 ≤ n ∧ n ≤ 20) (fun _ => 10) (fun n z => ∃ l : List Nm, z = nL l ∧ (l.length : Int) = n ∧ l.Nodup)
theorem ok_names {f : Addr} {fd : FuncData} (Fu : Fun K "_law_names" "_law_names" s__law_names f fd) (T : Txt mg) (Dt' : D_take P w K mg base) : FnOk P w K mg base (L2.CX P w) 2 f fd ["_law_bag_here", "_law_many"] (sp_names K) := by
  refine fn_B Fu sc__law_names (fun a => rfl) (fun cdv A outer s H E F b c n hp hc hr => ?_)
  obtain ⟨hn0, hn1⟩ := hp
  have hl : c + 10 ≤ LIM := hc
  have nd := sc__law_names.nd
  have hrg := T.range
  repeat fail
  refine se_fB 0 Dt' hr ?_
  repeat fail
  refine ⟨b, c, 5, rfl, rfl, ⟨by decide, by decide⟩, by show c + 1 ≤ LIM; omega, ?_⟩
  rintro _ ⟨k, rfl, hk0, hk1⟩
  obtain ⟨m, hm, hm0, hm1⟩ : ∃ m : Int, atI [Dt.int 0, .int 0, .int 1, .int 3, .int 7] k = some (.int m) ∧ 0 ≤ m ∧ m ≤ 7 := by
    have hk : k = 0 ∨ k = 1 ∨ k = 2 ∨ k = 3 ∨ k = 4 := by omega
    rcases hk with rfl | rfl | rfl | rfl | rfl
    · exact ⟨0, rfl, by decide, by decide⟩
    · exact ⟨0, rfl, by decide, by decide⟩
    · exact ⟨1, rfl, by decide, by decide⟩
    · exact ⟨3, rfl, by decide, by decide⟩
    · exact ⟨7, rfl, by decide, by decide⟩
  refine iv_tup hm ?_
  repeat fail
  refine se_fB 0 Dt' hr ?_
  repeat fail
  refine ⟨b, c + 1, 2, rfl, rfl, ⟨by decide, by decide⟩, by show c + 1 + 1 ≤ LIM; omega, ?_⟩
  rintro _ ⟨sp, rfl, hs0, hs1⟩
  repeat fail
  refine se_fB 0 Dt' hr ?_
  repeat fail
  refine ⟨b, c + 1 + 1, 26, rfl, rfl, ⟨by decide, by decide⟩, by show c + 1 + 1 + 1 ≤ LIM; omega, ?_⟩
  rintro _ ⟨fi, rfl, hf0, hf1⟩
  repeat fail
  refine se_join (se_str ⟨_, rfl, se_J rfl nd (blkOk_by rfl) (sw_range hrg ?_)⟩)
  repeat fail "e"
  refine ⟨by omega, by omega, ?_⟩
  rw [idxs_eq]
  refine lcJ Dt.str (fun i c' acc => ∃ n', c' = [(b, .bag n')] ∧ n' ≤ c + 3 + i ∧ acc.length = i ∧ ∀ x ∈ acc, lett x) ?_ ⟨_, rfl, by omega, rfl, fun _ h => nomatch h⟩ ?_ ?_
  · rw [List.length_range]; have := big_line; omega
  · rintro i r c' acc hi ⟨n', rfl, hn', hl', hx⟩
    have hi7 : i < 7 := by
      have := (List.getElem?_eq_some_iff.mp hi).1
      rw [List.length_range] at this; omega
    repeat fail "e"
    refine se_fB 0 Dt' hr ?_
    repeat fail "e"
    refine ⟨b, n', 26, rfl, rfl, ⟨by decide, by decide⟩, by show n' + 1 ≤ LIM; omega, ?_⟩
    rintro _ ⟨k', rfl, hk0', hk1'⟩
    obtain ⟨a, ha, ham⟩ := pick_abc hk0' hk1'
    refine iv_str (by decide +kernel) ha ⟨⟨#[a]⟩, rfl, _, rfl, by omega, by rw [List.length_append, hl']; rfl, fun x hx' => ?_⟩
    rcases List.mem_append.mp hx' with h | h
    · exact hx x h
    · rw [List.mem_singleton.mp h]; exact lett_sign ham
  rintro c' l ⟨n', rfl, hn', hl', hx⟩
  rw [List.length_range] at hn' hl'
  have hjl : tl (Txt.join "" l) = (l.map tl).flatten := tl_join0 rfl l
  have hbl : (Txt.join "" l).length ≤ 7 := by
    rw [len_tl, hjl, List.length_flatten, List.map_map]
    have : (l.map (List.length ∘ tl)).sum ≤ l.length := by
      clear hl' hjl
      induction l with
      | nil => exact Nat.le_refl _
      | cons x l ih =>
        have h1 := (hx x (List.mem_cons_self ..)).1
        have h2 := ih fun y hy => hx y (List.mem_cons_of_mem _ hy)
        rw [len_tl] at h1
        rw [List.map_cons, List.sum_cons, List.length_cons]
        show (tl x).length + _ ≤ _
        omega
    omega
  have hbm : ∀ a ∈ tl (Txt.join "" l), a ∈ tl abc := fun a ha => by
    rw [hjl] at ha
    obtain ⟨p, hp, ha⟩ := List.mem_flatten.mp ha
    obtain ⟨x, hx', rfl⟩ := List.mem_map.mp hp
    exact (hx x hx').2 a ha
  refine ⟨l, rfl, ?_, ?_⟩
  · have : (l.map (·.length)).sum ≤ 7 := by
      have e : (l.map (·.length)) = l.map (List.length ∘ tl) := List.map_congr_left fun x _ => len_tl x
      rw [len_tl, hjl, List.length_flatten, List.map_map] at hbl
      rw [e]; exact hbl
    show _ + l.length * 0 ≤ _
    omega
  generalize Txt.join "" l = bs at hbl hbm
  repeat fail
  refine ⟨by omega, by omega, ?_⟩
  rw [idxs_eq]
  refine lcM (fun k => .str ⟨#[abcAt ((fi + 7 * (k : Int)) % 26)]⟩) (by rw [List.length_range]; have := big_line; omega) ?_ ?_
  · intro k hk
    have hmod := mod_lt (a := fi + 7 * (k : Int)) (b := 26) (by decide)
    repeat fail "e"
    refine ov_mul (.inl ⟨by decide, by decide⟩) ?_
    repeat fail "e"
    refine ov_mod (by decide) ?_
    exact iv_str (by decide +kernel) (abcAt_eq hmod.1 hmod.2) ⟨rfl, rfl⟩
  repeat fail
  refine lcM (fun k => .str (wordN sp bs (abcAt ((fi + 7 * (k : Int)) % 26)))) (by rw [List.length_range]; have := big_line; omega) ?_ ?_
  · intro k hk
    have hz : bs.length + 1 ≤ sizeLine := by have := big_line; omega
    repeat fail "e"
    refine ite2 (fun h => ?_) (fun h => ?_)
    · repeat fail "e"
      refine ov_addS hz ⟨rfl, ?_⟩
      unfold wordN; rw [if_pos (of_decide_eq_true h)]
    · repeat fail "e"
      refine ov_addS (by rw [Nat.add_comm]; exact hz) ⟨rfl, ?_⟩
      unfold wordN; rw [if_neg fun z => h (decide_eq_true z)]
  have hok : ∀ k : Nat, nameC (wordN sp bs (abcAt ((fi + 7 * (k : Int)) % 26))) = true := fun k => by
    have hmod := mod_lt (a := fi + 7 * (k : Int)) (b := 26) (by decide)
    obtain ⟨a, ha, ham⟩ := pick_abc hmod.1 hmod.2
    have := abcAt_eq hmod.1 hmod.2
    rw [ha] at this
    rw [← Option.some.inj this]
    exact word_name hbl hbm ham
  refine ⟨⟨_, by omega, rfl⟩, (List.range n.toNat).map fun k => ⟨_, hok k⟩, ?_, ?_, ?_⟩
  · rw [nL, List.map_map]; rfl
  · rw [List.length_map, List.length_range]; omega
  · rw [List.Nodup, List.pairwise_map]
    refine List.Pairwise.imp_of_mem ?_ List.nodup_range
    intro i j hi hj hne e
    have e := congrArg Subtype.val e
    have e : wordN sp bs (abcAt ((fi + 7 * (i : Int)) % 26)) = wordN sp bs (abcAt ((fi + 7 * (j : Int)) % 26)) := e
    have h1 := mod_lt (a := fi + 7 * (i : Int)) (b := 26) (by decide)
    have h2 := mod_lt (a := fi + 7 * (j : Int)) (b := 26) (by decide)
    have hi := List.mem_range.mp hi
    have hj := List.mem_range.mp hj
    exact hne (seven (by omega) (by omega) (abcAt_inj h1.1 h1.2 h2.1 h2.2 (word_inj e)))
end
end W
end
section
set_option Elab.async false
set_option linter.all false
set_option maxRecDepth 100000
set_option maxHeartbeats 4000000
open PySem L2 D PyProof.Rows
local macro_rules
  | `(tactic| fail "z") => `(tactic| ((try simp only [List.length_map, List.length_cons, List.length_nil, List.length_append, List.length_drop, List.length_take]); have := big_line; omega))
local macro_rules
  | `(tactic| fail) => `(tactic| first
    | ((with_reducible refine (?_ : SE _ _ _ _ _ _)); first | refine se_nm rfl ?_ | refine se_tyTuple (by assumption) ?_ | refine se_tyStr (by assumption) ?_ | refine se_tyInt (by assumption) ?_ | refine se_tyBool (by assumption) ?_ | refine se_int ?_ | refine se_str ?_ | refine se_non ?_ | refine se_bl ?_ | refine se_cmp ?_ | refine se_bin ?_ | refine se_backT ?_ | refine se_ix ?_ | refine se_slice ?_ | refine se_tup ?_ | refine se_lst ?_ | ((with_reducible refine (?_ : SE _ _ _ _ (.Call _ _ _ _) _)); first | refine se_any (by assumption) ?_ | refine se_all (by assumption) ?_ | refine se_len (by assumption) ?_ | refine se_min (by assumption) ?_ | refine se_max (by assumption) ?_ | refine se_sorted (by assumption) ?_ | refine se_isi (by assumption) ?_ | refine se_abs (by assumption) ?_ | refine se_sum (by assumption) ?_ | refine se_tupleC (by assumption) ?_ | refine se_listC (by assumption) ?_) | refine se_M rfl (by assumption) (blkOk_by rfl) ?_ | refine se_F rfl (by assumption) (blkOk_by rfl) ?_ | refine se_Dc rfl (by assumption) (blkOk_by rfl) ?_ | refine se_chain ?_ | refine se_indexN ?_ | refine se_not ?_ | refine se_if ?_ | refine se_one ?_ | refine se_and ?_ | refine se_or ?_ | refine se_neg ?_)
    | ((with_reducible refine (?_ : ST _ _ _ _ _ _)); first | refine st_cmp ?_ | refine st_chain ?_ | refine st_not ?_ | refine st_w (sw_and ?_) | refine st_w (sw_or ?_) | refine st_val ?_)
    | ((with_reducible refine (?_ : SWt _ _ _ _ _ _)); first | refine sw_and ?_ | refine sw_and1 ?_ | refine sw_or ?_ | refine sw_or1 ?_)
    | ((with_reducible refine (?_ : SA _ _ _ _ _ _)); first | refine sa_cons ?_ | refine sa_nil ?_)
    | ((with_reducible refine (?_ : SO _ _ _ _ _ _)); first | refine so_none ?_ | refine so_some ?_)
    | ((with_reducible refine (?_ : SS _ _ _ _ _ _)); first | refine ss_one ?_ | refine ss_cons ?_)
    | ((with_reducible refine (?_ : S1 _ _ _ _ _ _)); first | refine s_ret ?_ | refine s_if ?_ | refine s_M rfl (by assumption) (blkOk_by rfl) ?_ | refine s_F rfl (by assumption) (blkOk_by rfl) ?_ | refine s_Dc rfl (by assumption) (blkOk_by rfl) ?_ | refine s_st (by assumption) ?_ | refine s_aug (by assumption) rfl ?_ | refine s_asg ?_ | refine s_expr ?_)
    | ((with_reducible refine (?_ : SG _ _ _ _ _ _ _)); first | refine sg_nm (by assumption) ?_ | refine sg_par rfl ?_ | refine sg_tup rfl ?_)
    | ((with_reducible refine (?_ : SGs _ _ _ _ _ _ _)); first | refine sgs_cons ?_ | refine sgs_nil ?_)
    | ((with_reducible refine (?_ : SGb _ _ _ _ _ _ _ _)); first | refine sgb_nm (by assumption) ?_ (by first | exact vs_self | exact vs_one | exact vs_two) | refine sgb_par rfl ?_ | refine sgb_tup rfl ?_)
    | ((with_reducible refine (?_ : SGbs _ _ _ _ _ _ _ _)); first | refine sgbs_cons ?_ | refine sgbs_nil ?_)
    | ((with_reducible refine (?_ : SW _ _ _ _ _ _ _)); first | refine sw_vals ?_ | refine sw_zipT (by assumption) ?_ | refine sw_range (by assumption) ?_ | refine sw_seq ?_)
    | ((with_reducible refine (?_ : OpV _ _ _ _ _ _ _ _)); first | refine ov_eqN ?_ | refine ov_neN ?_ | refine ov_inN ?_ | refine ov_ninN ?_ | refine ov_inNT ?_ | refine ov_ninNT ?_ | refine oi_add ?_ | refine oi_catT (by fail "z") ?_ | refine ov_cat (by fail "z") ?_ | refine ov_catT (by fail "z") ?_ | refine ov_add ?_ | refine ov_sub ?_ | refine ov_lt ?_ | refine ov_le ?_ | refine ov_gt ?_ | refine ov_ge ?_ | refine ov_eqI ?_ | refine ov_neI ?_ | refine ov_eqS ?_ | refine ov_neS ?_ | refine ov_eqB ?_ | refine ov_neB ?_)
    | ((with_reducible refine (?_ : IxV _ _ _ _ _ _ _)); first | refine iv_cons ?_ | refine iv_consT ?_)
    | ((with_reducible refine (?_ : SlV _ _ _ _ _ _ _ _)); first | refine sv_fromL (by decide) ?_ | refine sv_fromT (by decide) ?_ | refine sv_toL (by decide) ?_ | refine sv_toT (by decide) ?_)
    | ((with_reducible refine (?_ : ClV _ _ _ _ _ _ _)); first | refine cv_anyM rfl ?_ | refine cv_allM rfl ?_ | refine cv_len rfl ?_ | refine cv_tuple rfl ?_ | refine cv_list rfl ?_ | refine cv_abs ?_ | refine cv_isStr rfl ?_ | refine cv_isTup rfl ?_ | refine cv_isInt rfl ?_ | refine cv_isBool rfl ?_ | refine cv_sum rfl ?_)
    | (with_reducible refine turn0I (fun _ _ _ _ _ _ => ?_)) | (with_reducible refine turn1I (fun _ _ _ _ _ _ => ?_)) | (with_reducible refine turnDI (fun _ _ _ _ _ _ => ?_)) | (with_reducible refine abI (fun _ _ _ _ _ => ?_)) | ((with_reducible show (if _ then _ else _)); first | refine iteT ?_ | refine iteF ?_) | ((with_reducible refine (?_ : And _ _)); refine And.intro (show _ ≤ sizeLine by fail "z") ?_) | ((with_reducible refine (?_ : Exists _)); refine ⟨_, rfl, ?_⟩))
local macro_rules
  | `(tactic| fail "e") => `(tactic| first
    | ((with_reducible refine (?_ : SE _ _ _ _ _ _)); first | refine se_nm rfl ?_ | refine se_tyTuple (by assumption) ?_ | refine se_tyStr (by assumption) ?_ | refine se_tyInt (by assumption) ?_ | refine se_tyBool (by assumption) ?_ | refine se_int ?_ | refine se_str ?_ | refine se_non ?_ | refine se_bl ?_ | refine se_cmp ?_ | refine se_bin ?_ | refine se_backT ?_ | refine se_ix ?_ | refine se_slice ?_ | refine se_tup ?_ | refine se_lst ?_ | ((with_reducible refine (?_ : SE _ _ _ _ (.Call _ _ _ _) _)); first | refine se_any (by assumption) ?_ | refine se_all (by assumption) ?_ | refine se_len (by assumption) ?_ | refine se_min (by assumption) ?_ | refine se_max (by assumption) ?_ | refine se_sorted (by assumption) ?_ | refine se_isi (by assumption) ?_ | refine se_abs (by assumption) ?_ | refine se_sum (by assumption) ?_ | refine se_tupleC (by assumption) ?_ | refine se_listC (by assumption) ?_) | refine se_M rfl (by assumption) (blkOk_by rfl) ?_ | refine se_F rfl (by assumption) (blkOk_by rfl) ?_ | refine se_Dc rfl (by assumption) (blkOk_by rfl) ?_ | refine se_chain ?_ | refine se_indexN ?_ | refine se_not ?_ | refine se_if ?_ | refine se_one ?_ | refine se_and ?_ | refine se_or ?_ | refine se_neg ?_)
    | ((with_reducible refine (?_ : ST _ _ _ _ _ _)); first | refine st_cmp ?_ | refine st_chain ?_ | refine st_not ?_ | refine st_w (sw_and ?_) | refine st_w (sw_or ?_) | refine st_val ?_)
    | ((with_reducible refine (?_ : SWt _ _ _ _ _ _)); first | refine sw_and ?_ | refine sw_and1 ?_ | refine sw_or ?_ | refine sw_or1 ?_)
    | ((with_reducible refine (?_ : SA _ _ _ _ _ _)); first | refine sa_cons ?_ | refine sa_nil ?_)
    | ((with_reducible refine (?_ : SO _ _ _ _ _ _)); first | refine so_none ?_ | refine so_some ?_)
    | ((with_reducible refine (?_ : SG _ _ _ _ _ _ _)); first | refine sg_nm (by assumption) ?_ | refine sg_par rfl ?_ | refine sg_tup rfl ?_)
    | ((with_reducible refine (?_ : SGs _ _ _ _ _ _ _)); first | refine sgs_cons ?_ | refine sgs_nil ?_)
    | ((with_reducible refine (?_ : SGb _ _ _ _ _ _ _ _)); first | refine sgb_nm (by assumption) ?_ (by first | exact vs_self | exact vs_one | exact vs_two) | refine sgb_par rfl ?_ | refine sgb_tup rfl ?_)
    | ((with_reducible refine (?_ : SGbs _ _ _ _ _ _ _ _)); first | refine sgbs_cons ?_ | refine sgbs_nil ?_)
    | ((with_reducible refine (?_ : SW _ _ _ _ _ _ _)); first | refine sw_vals ?_ | refine sw_zipT (by assumption) ?_ | refine sw_range (by assumption) ?_ | refine sw_seq ?_)
    | ((with_reducible refine (?_ : OpV _ _ _ _ _ _ _ _)); first | refine ov_eqN ?_ | refine ov_neN ?_ | refine ov_inN ?_ | refine ov_ninN ?_ | refine ov_inNT ?_ | refine ov_ninNT ?_ | refine oi_add ?_ | refine oi_catT (by fail "z") ?_ | refine ov_cat (by fail "z") ?_ | refine ov_catT (by fail "z") ?_ | refine ov_add ?_ | refine ov_sub ?_ | refine ov_lt ?_ | refine ov_le ?_ | refine ov_gt ?_ | refine ov_ge ?_ | refine ov_eqI ?_ | refine ov_neI ?_ | refine ov_eqS ?_ | refine ov_neS ?_ | refine ov_eqB ?_ | refine ov_neB ?_)
    | ((with_reducible refine (?_ : IxV _ _ _ _ _ _ _)); first | refine iv_cons ?_ | refine iv_consT ?_)
    | ((with_reducible refine (?_ : SlV _ _ _ _ _ _ _ _)); first | refine sv_fromL (by decide) ?_ | refine sv_fromT (by decide) ?_ | refine sv_toL (by decide) ?_ | refine sv_toT (by decide) ?_)
    | ((with_reducible refine (?_ : ClV _ _ _ _ _ _ _)); first | refine cv_anyM rfl ?_ | refine cv_allM rfl ?_ | refine cv_len rfl ?_ | refine cv_tuple rfl ?_ | refine cv_list rfl ?_ | refine cv_abs ?_ | refine cv_isStr rfl ?_ | refine cv_isTup rfl ?_ | refine cv_isInt rfl ?_ | refine cv_isBool rfl ?_ | refine cv_sum rfl ?_)
    | (with_reducible refine turn0I (fun _ _ _ _ _ _ => ?_)) | (with_reducible refine turn1I (fun _ _ _ _ _ _ => ?_)) | (with_reducible refine turnDI (fun _ _ _ _ _ _ => ?_)) | (with_reducible refine abI (fun _ _ _ _ _ => ?_)) | ((with_reducible show (if _ then _ else _)); first | refine iteT ?_ | refine iteF ?_) | ((with_reducible refine (?_ : And _ _)); refine And.intro (show _ ≤ sizeLine by fail "z") ?_) | ((with_reducible refine (?_ : Exists _)); refine ⟨_, rfl, ?_⟩))
namespace W
open PySem L2 D PyProof.Rows
theorem erase_perm {α : Type} : ∀ {l : List α} {k : Nat} (h : k < l.length), l.Perm (l[k] :: l.eraseIdx k)
  | x :: l, 0, _ => .refl _
  | x :: l, k + 1, h => by
    have := erase_perm (l := l) (k := k) (by simpa using h)
    exact (List.Perm.cons x this).trans (List.Perm.swap ..)
theorem erase_map {α β : Type} (f : α → β) : ∀ (l : List α) (k : Nat), (l.map f).eraseIdx k = (l.eraseIdx k).map f
  | [], k => by simp
  | x :: l, 0 => rfl
  | x :: l, k + 1 => by simp [erase_map f l k]
section
variable {P : Program} {w : World} {K : PySem.W.Frag} {mg : Str → Option Value} {base : Heap}
abbrev sp_some (K : PySem.W.Frag) : Sp := spB K (fun x : List Nm × Int => [nL x.1, .int x.2]) (fun x => x.1.Nodup ∧ x.1.length ≤ 100 ∧ 0 ≤ x.2 ∧ x.2 ≤ 100) (fun x => x.2.toNat + 1) (fun x z => ∃ r : List Nm, z = nT r ∧ r.Nodup ∧ (∀ y ∈ r, y ∈ x.1) ∧ (r.length : Int) ≤ x.2)
theorem ok_some {f : Addr} {fd : FuncData} (Fu : Fun K "_law_some" "_law_some" s__law_some f fd) (T : Txt mg) (Dt' : D_take P w K mg base) : FnOk P w K mg base (L2.CX P w) 2 f fd ["_law_bag_here", "_law_things", "_law_most"] (sp_some K) := by
  refine fn_B Fu sc__law_some (fun a => rfl) (fun cdv A outer s H E F b c x hp hc hr => ?_)
  obtain ⟨l, mo⟩ := x
  obtain ⟨hnd, hl, hm0, hm1⟩ := (show l.Nodup ∧ l.length ≤ 100 ∧ 0 ≤ mo ∧ mo ≤ 100 from hp)
  have hc : c + (mo.toNat + 1) ≤ LIM := hc
  have nd := sc__law_some.nd
  have hrg := T.range
  have hmin := T.min
  have hlen := T.len
  have hlist := T.list
  have htup := T.tuple
  refine ss_cons (s_par 3 4 rfl nd (by decide) (sa_cons (SEL.sc (sel_list hlist ?_))))
  repeat fail "e"
  intro al
  refine sa_cons (SEL.sc (sel_lst ?_))
  repeat fail "e"
  intro af
  repeat fail "e"
  refine ⟨_, _, rfl, ?_⟩
  refine ss_cons (s_for (passes_of rfl) rfl (sw_range hrg ?_))
  repeat fail "e"
  refine se_fB 0 Dt' hr ?_
  repeat fail "e"
  refine ⟨b, c, mo + 1, rfl, rfl, ⟨by omega, by omega⟩, by show c + 1 ≤ LIM; omega, ?_⟩
  rintro _ ⟨k, rfl, hk0, hk1⟩
  repeat fail "e"
  refine cv_lenC 1 rfl ?_
  repeat fail "e"
  refine cv_min2 rfl ?_
  repeat fail "e"
  rw [List.length_map]
  obtain ⟨m, hmdef⟩ : ∃ m : Nat, (m : Int) = if (l.length : Int) < k then (l.length : Int) else k := ⟨(if (l.length : Int) < k then (l.length : Int) else k).toNat, by split <;> omega⟩
  have hmk : (m : Int) ≤ k ∧ m ≤ l.length := by split at hmdef <;> omega
  rw [← hmdef]
  refine ⟨by omega, by omega, ?_⟩
  rw [Int.toNat_natCast, idxs_eq]
  refine for_t (fun rest Γ cc => ∃ u, Γ = [.dat (.raw (.ref b)), .dat (nL l), .dat (.int mo), .dat (.raw (.ref al)), .dat (.raw (.ref af)), u] ∧ ∃ n' l' r, cc = [(b, .bag n'), (al, .lst (l'.map nD)), (af, .lst (r.map nD))] ∧ n' ≤ c + 1 + r.length ∧ r.length + rest.length = m ∧ l'.length + r.length = l.length ∧ (l' ++ r).Nodup ∧ ∀ y ∈ l' ++ r, y ∈ l)
    ⟨_, rfl, c + 1, l, [], rfl, Nat.le_refl _, by simp, rfl, by simpa using hnd, by simp⟩ ?_ ?_
  · rintro pre i rest Γ cc hpre ⟨u, rfl, n', l', r, rfl, hn', hrl, hll, hnd', hmem⟩
    rw [List.length_cons] at hrl
    have hl'0 : 0 < l'.length := by omega
    repeat fail
    refine se_append 2 (l := r.map nD) (a := af) ?_
    repeat fail "e"
    refine ⟨rfl, ⟨_, rfl⟩, ?_⟩
    refine se_popAt ?_
    repeat fail "e"
    refine ⟨al, 1, _, rfl, rfl, ?_⟩
    refine se_fB 0 Dt' hr ?_
    repeat fail "e"
    refine cv_lenC 1 rfl ?_
    repeat fail "e"
    refine ⟨b, n', (l'.map nD).length, rfl, rfl, ⟨by rw [List.length_map]; omega, by rw [List.length_map]; omega⟩, by show n' + 1 ≤ LIM; omega, ?_⟩
    rintro _ ⟨k', rfl, hk0', hk1'⟩
    rw [List.length_map] at hk1'
    have hkl : k'.toNat < l'.length := by omega
    refine ⟨l'.map nD, k', k'.toNat, nD l'[k'.toNat], rfl, rfl, ?_, by omega, by omega, ?_, ?_⟩
    · unfold L2.ixN; rw [if_pos hk0', List.length_map, if_pos hk1']
    · rw [List.getElem?_map, List.getElem?_eq_getElem hkl]; rfl
    refine ⟨rfl, ?_, ?_⟩
    · rw [List.length_map]; have := big_line; omega
    have hperm : (l'.eraseIdx k'.toNat ++ (r ++ [l'[k'.toNat]])).Perm (l' ++ r) := by
      have h1 : l'.Perm (l'[k'.toNat] :: l'.eraseIdx k'.toNat) := erase_perm hkl
      have h2 : (l'.eraseIdx k'.toNat ++ (r ++ [l'[k'.toNat]])).Perm (l'[k'.toNat] :: (l'.eraseIdx k'.toNat ++ r)) := by
        rw [← List.append_assoc]; exact List.perm_append_singleton _ _
      exact h2.trans (List.Perm.append_right r h1.symm)
    refine ⟨_, rfl, n' + 1, l'.eraseIdx k'.toNat, r ++ [l'[k'.toNat]], ?_, ?_, ?_, ?_, hperm.nodup_iff.mpr hnd', fun y hy => hmem y (hperm.mem_iff.mp hy)⟩
    · rw [List.map_append]
      have : (l'.map nD).eraseIdx k'.toNat = (l'.eraseIdx k'.toNat).map nD := erase_map nD l' _
      show [(b, Cel.bag (n' + 1)), (al, Cel.lst ((l'.map nD).eraseIdx k'.toNat)), (af, Cel.lst (r.map nD ++ [nD l'[k'.toNat]]))] = _
      rw [this]; rfl
    · rw [List.length_append]; show _ ≤ c + 1 + (r.length + 1); omega
    · rw [List.length_append]; show r.length + 1 + _ = m; omega
    · rw [List.length_append, List.length_eraseIdx_of_lt hkl]; show l'.length - 1 + (r.length + 1) = _; omega
  · rintro Γ cc ⟨u, rfl, n', l', r, rfl, hn', hrl, hll, hnd', hmem⟩
    refine ss_freeze 4 2 rfl rfl ?_
    refine ss_dropC 1 rfl ?_
    repeat fail
    refine ⟨⟨n', by show n' ≤ c + (mo.toNat + 1); simp at hrl; omega, rfl⟩, r, rfl, (List.nodup_append.mp hnd').2.1, fun y hy => hmem y (List.mem_append_right _ hy), ?_⟩
    show (r.length : Int) ≤ mo
    simp at hrl; omega
end
end W
end
section
set_option Elab.async false
set_option linter.all false
set_option maxRecDepth 100000
set_option maxHeartbeats 4000000
open PySem L2 D PyProof.Rows
local macro_rules
  | `(tactic| fail "z") => `(tactic| ((try simp only [List.length_map, List.length_cons, List.length_nil, List.length_append, List.length_drop, List.length_take]); have := big_line; omega))
local macro_rules
  | `(tactic| fail) => `(tactic| first
    | ((with_reducible refine (?_ : SE _ _ _ _ _ _)); first | refine se_nm rfl ?_ | refine se_tyTuple (by assumption) ?_ | refine se_tyStr (by assumption) ?_ | refine se_tyInt (by assumption) ?_ | refine se_tyBool (by assumption) ?_ | refine se_int ?_ | refine se_str ?_ | refine se_non ?_ | refine se_bl ?_ | refine se_cmp ?_ | refine se_bin ?_ | refine se_backT ?_ | refine se_ix ?_ | refine se_slice ?_ | refine se_tup ?_ | refine se_lst ?_ | ((with_reducible refine (?_ : SE _ _ _ _ (.Call _ _ _ _) _)); first | refine se_any (by assumption) ?_ | refine se_all (by assumption) ?_ | refine se_len (by assumption) ?_ | refine se_min (by assumption) ?_ | refine se_max (by assumption) ?_ | refine se_sorted (by assumption) ?_ | refine se_isi (by assumption) ?_ | refine se_abs (by assumption) ?_ | refine se_sum (by assumption) ?_ | refine se_tupleC (by assumption) ?_ | refine se_listC (by assumption) ?_) | refine se_M rfl (by assumption) (blkOk_by rfl) ?_ | refine se_F rfl (by assumption) (blkOk_by rfl) ?_ | refine se_Dc rfl (by assumption) (blkOk_by rfl) ?_ | refine se_chain ?_ | refine se_indexN ?_ | refine se_not ?_ | refine se_if ?_ | refine se_one ?_ | refine se_and ?_ | refine se_or ?_ | refine se_neg ?_)
    | ((with_reducible refine (?_ : ST _ _ _ _ _ _)); first | refine st_cmp ?_ | refine st_chain ?_ | refine st_not ?_ | refine st_w (sw_and ?_) | refine st_w (sw_or ?_) | refine st_val ?_)
    | ((with_reducible refine (?_ : SWt _ _ _ _ _ _)); first | refine sw_and ?_ | refine sw_and1 ?_ | refine sw_or ?_ | refine sw_or1 ?_)
    | ((with_reducible refine (?_ : SA _ _ _ _ _ _)); first | refine sa_cons ?_ | refine sa_nil ?_)
    | ((with_reducible refine (?_ : SO _ _ _ _ _ _)); first | refine so_none ?_ | refine so_some ?_)
    | ((with_reducible refine (?_ : SS _ _ _ _ _ _)); first | refine ss_one ?_ | refine ss_cons ?_)
    | ((with_reducible refine (?_ : S1 _ _ _ _ _ _)); first | refine s_ret ?_ | refine s_if ?_ | refine s_M rfl (by assumption) (blkOk_by rfl) ?_ | refine s_F rfl (by assumption) (blkOk_by rfl) ?_ | refine s_Dc rfl (by assumption) (blkOk_by rfl) ?_ | refine s_st (by assumption) ?_ | refine s_aug (by assumption) rfl ?_ | refine s_asg ?_ | refine s_expr ?_)
    | ((with_reducible refine (?_ : SG _ _ _ _ _ _ _)); first | refine sg_nm (by assumption) ?_ | refine sg_par rfl ?_ | refine sg_tup rfl ?_)
    | ((with_reducible refine (?_ : SGs _ _ _ _ _ _ _)); first | refine sgs_cons ?_ | refine sgs_nil ?_)
    | ((with_reducible refine (?_ : SGb _ _ _ _ _ _ _ _)); first | refine sgb_nm (by assumption) ?_ (by first | exact vs_self | exact vs_one | exact vs_two) | refine sgb_par rfl ?_ | refine sgb_tup rfl ?_)
    | ((with_reducible refine (?_ : SGbs _ _ _ _ _ _ _ _)); first | refine sgbs_cons ?_ | refine sgbs_nil ?_)
    | ((with_reducible refine (?_ : SW _ _ _ _ _ _ _)); first | refine sw_vals ?_ | refine sw_zipT (by assumption) ?_ | refine sw_range (by assumption) ?_ | refine sw_seq ?_)
    | ((with_reducible refine (?_ : OpV _ _ _ _ _ _ _ _)); first | refine ov_eqN ?_ | refine ov_neN ?_ | refine ov_inN ?_ | refine ov_ninN ?_ | refine ov_inNT ?_ | refine ov_ninNT ?_ | refine oi_add ?_ | refine oi_catT (by fail "z") ?_ | refine ov_cat (by fail "z") ?_ | refine ov_catT (by fail "z") ?_ | refine ov_add ?_ | refine ov_sub ?_ | refine ov_lt ?_ | refine ov_le ?_ | refine ov_gt ?_ | refine ov_ge ?_ | refine ov_eqI ?_ | refine ov_neI ?_ | refine ov_eqS ?_ | refine ov_neS ?_ | refine ov_eqB ?_ | refine ov_neB ?_)
    | ((with_reducible refine (?_ : IxV _ _ _ _ _ _ _)); first | refine iv_cons ?_ | refine iv_consT ?_)
    | ((with_reducible refine (?_ : SlV _ _ _ _ _ _ _ _)); first | refine sv_fromL (by decide) ?_ | refine sv_fromT (by decide) ?_ | refine sv_toL (by decide) ?_ | refine sv_toT (by decide) ?_)
    | ((with_reducible refine (?_ : ClV _ _ _ _ _ _ _)); first | refine cv_anyM rfl ?_ | refine cv_allM rfl ?_ | refine cv_len rfl ?_ | refine cv_tuple rfl ?_ | refine cv_list rfl ?_ | refine cv_abs ?_ | refine cv_isStr rfl ?_ | refine cv_isTup rfl ?_ | refine cv_isInt rfl ?_ | refine cv_isBool rfl ?_ | refine cv_sum rfl ?_)
    | (with_reducible refine turn0I (fun _ _ _ _ _ _ => ?_)) | (with_reducible refine turn1I (fun _ _ _ _ _ _ => ?_)) | (with_reducible refine turnDI (fun _ _ _ _ _ _ => ?_)) | (with_reducible refine abI (fun _ _ _ _ _ => ?_)) | ((with_reducible show (if _ then _ else _)); first | refine iteT ?_ | refine iteF ?_) | ((with_reducible refine (?_ : And _ _)); refine And.intro (show _ ≤ sizeLine by fail "z") ?_) | ((with_reducible refine (?_ : Exists _)); refine ⟨_, rfl, ?_⟩))
local macro_rules
  | `(tactic| fail "e") => `(tactic| first
    | ((with_reducible refine (?_ : SE _ _ _ _ _ _)); first | refine se_nm rfl ?_ | refine se_tyTuple (by assumption) ?_ | refine se_tyStr (by assumption) ?_ | refine se_tyInt (by assumption) ?_ | refine se_tyBool (by assumption) ?_ | refine se_int ?_ | refine se_str ?_ | refine se_non ?_ | refine se_bl ?_ | refine se_cmp ?_ | refine se_bin ?_ | refine se_backT ?_ | refine se_ix ?_ | refine se_slice ?_ | refine se_tup ?_ | refine se_lst ?_ | ((with_reducible refine (?_ : SE _ _ _ _ (.Call _ _ _ _) _)); first | refine se_any (by assumption) ?_ | refine se_all (by assumption) ?_ | refine se_len (by assumption) ?_ | refine se_min (by assumption) ?_ | refine se_max (by assumption) ?_ | refine se_sorted (by assumption) ?_ | refine se_isi (by assumption) ?_ | refine se_abs (by assumption) ?_ | refine se_sum (by assumption) ?_ | refine se_tupleC (by assumption) ?_ | refine se_listC (by assumption) ?_) | refine se_M rfl (by assumption) (blkOk_by rfl) ?_ | refine se_F rfl (by assumption) (blkOk_by rfl) ?_ | refine se_Dc rfl (by assumption) (blkOk_by rfl) ?_ | refine se_chain ?_ | refine se_indexN ?_ | refine se_not ?_ | refine se_if ?_ | refine se_one ?_ | refine se_and ?_ | refine se_or ?_ | refine se_neg ?_)
    | ((with_reducible refine (?_ : ST _ _ _ _ _ _)); first | refine st_cmp ?_ | refine st_chain ?_ | refine st_not ?_ | refine st_w (sw_and ?_) | refine st_w (sw_or ?_) | refine st_val ?_)
    | ((with_reducible refine (?_ : SWt _ _ _ _ _ _)); first | refine sw_and ?_ | refine sw_and1 ?_ | refine sw_or ?_ | refine sw_or1 ?_)
    | ((with_reducible refine (?_ : SA _ _ _ _ _ _)); first | refine sa_cons ?_ | refine sa_nil ?_)
    | ((with_reducible refine (?_ : SO _ _ _ _ _ _)); first | refine so_none ?_ | refine so_some ?_)
    | ((with_reducible refine (?_ : SG _ _ _ _ _ _ _)); first | refine sg_nm (by assumption) ?_ | refine sg_par rfl ?_ | refine sg_tup rfl ?_)
    | ((with_reducible refine (?_ : SGs _ _ _ _ _ _ _)); first | refine sgs_cons ?_ | refine sgs_nil ?_)
    | ((with_reducible refine (?_ : SGb _ _ _ _ _ _ _ _)); first | refine sgb_nm (by assumption) ?_ (by first | exact vs_self | exact vs_one | exact vs_two) | refine sgb_par rfl ?_ | refine sgb_tup rfl ?_)
    | ((with_reducible refine (?_ : SGbs _ _ _ _ _ _ _ _)); first | refine sgbs_cons ?_ | refine sgbs_nil ?_)
    | ((with_reducible refine (?_ : SW _ _ _ _ _ _ _)); first | refine sw_vals ?_ | refine sw_zipT (by assumption) ?_ | refine sw_range (by assumption) ?_ | refine sw_seq ?_)
    | ((with_reducible refine (?_ : OpV _ _ _ _ _ _ _ _)); first | refine ov_eqN ?_ | refine ov_neN ?_ | refine ov_inN ?_ | refine ov_ninN ?_ | refine ov_inNT ?_ | refine ov_ninNT ?_ | refine oi_add ?_ | refine oi_catT (by fail "z") ?_ | refine ov_cat (by fail "z") ?_ | refine ov_catT (by fail "z") ?_ | refine ov_add ?_ | refine ov_sub ?_ | refine ov_lt ?_ | refine ov_le ?_ | refine ov_gt ?_ | refine ov_ge ?_ | refine ov_eqI ?_ | refine ov_neI ?_ | refine ov_eqS ?_ | refine ov_neS ?_ | refine ov_eqB ?_ | refine ov_neB ?_)
    | ((with_reducible refine (?_ : IxV _ _ _ _ _ _ _)); first | refine iv_cons ?_ | refine iv_consT ?_)
    | ((with_reducible refine (?_ : SlV _ _ _ _ _ _ _ _)); first | refine sv_fromL (by decide) ?_ | refine sv_fromT (by decide) ?_ | refine sv_toL (by decide) ?_ | refine sv_toT (by decide) ?_)
    | ((with_reducible refine (?_ : ClV _ _ _ _ _ _ _)); first | refine cv_anyM rfl ?_ | refine cv_allM rfl ?_ | refine cv_len rfl ?_ | refine cv_tuple rfl ?_ | refine cv_list rfl ?_ | refine cv_abs ?_ | refine cv_isStr rfl ?_ | refine cv_isTup rfl ?_ | refine cv_isInt rfl ?_ | refine cv_isBool rfl ?_ | refine cv_sum rfl ?_)
    | (with_reducible refine turn0I (fun _ _ _ _ _ _ => ?_)) | (with_reducible refine turn1I (fun _ _ _ _ _ _ => ?_)) | (with_reducible refine turnDI (fun _ _ _ _ _ _ => ?_)) | (with_reducible refine abI (fun _ _ _ _ _ => ?_)) | ((with_reducible show (if _ then _ else _)); first | refine iteT ?_ | refine iteF ?_) | ((with_reducible refine (?_ : And _ _)); refine And.intro (show _ ≤ sizeLine by fail "z") ?_) | ((with_reducible refine (?_ : Exists _)); refine ⟨_, rfl, ?_⟩))
namespace W
open PySem L2 D PyProof.Rows
abbrev lltD (L : List (List Nm)) : Dt := .lst (L.map nT)
def readyB (R : List (List Nm)) : List Nm → Bool
  | [] => false
  | x :: _ => freeIn R x
def headD' : List Nm → Dt
  | [] => .non
  | x :: _ => nD x
def readyF (R : List (List Nm)) : List (List Nm) → List Nm
  | [] => []
  | [] :: rest => readyF R rest
  | (x :: _) :: rest => if freeIn R x = true then x :: readyF R rest else readyF R rest
theorem ready_eq (R : List (List Nm)) : ∀ S : List (List Nm), (S.filter (readyB R)).map headD' = (readyF R S).map nD
  | [] => rfl
  | [] :: rest => by
    rw [List.filter_cons_of_neg (by exact Bool.false_ne_true)]
    exact ready_eq R rest
  | (x :: r) :: rest => by
    unfold readyF
    by_cases h : freeIn R x = true
    · rw [List.filter_cons_of_pos (by exact h), if_pos h, List.map_cons, List.map_cons, ready_eq R rest]; rfl
    · rw [List.filter_cons_of_neg (by exact h), if_neg h]; exact ready_eq R rest
theorem ready_next (R : List (List Nm)) : ∀ S : List (List Nm), nextFrom R S = (readyF R S).head?
  | [] => rfl
  | [] :: rest => by
    show nextFrom R rest = _
    rw [ready_next R rest]; rfl
  | (x :: r) :: rest => by
    unfold nextFrom readyF
    by_cases h : freeIn R x = true
    · rw [if_pos h, if_pos h]; rfl
    · rw [if_neg h, if_neg h]; exact ready_next R rest
theorem any_filter (R : List (List Nm)) : (R.any fun r => !r.isEmpty) = !(R.filter fun r => !r.isEmpty).isEmpty := by
  induction R with
  | nil => rfl
  | cons r R ih =>
    cases r with
    | nil => exact ih
    | cons x r => rfl
theorem atI_snoc {α : Type} (l : List α) (d : α) : atI (l ++ [d]) (-1) = some d := by
  unfold atI L2.ixN
  rw [if_neg (by decide), if_pos (by rw [List.length_append]; show _ ≤ _; simp; omega)]
  have e : ((-1 : Int) + ((l ++ [d]).length : Int)).toNat = l.length := by rw [List.length_append]; simp; omega
  simp only [Option.bind_some]
  rw [e]; simp
theorem fit_rows (l : List (List Nm)) : Fit 64 (.lst (l.map nL)) := (fit_lst (n := 1) fun d hd => by
  obtain ⟨r, _, rfl⟩ := List.mem_map.mp hd
  exact fit_nL r).mono (by decide)
section
variable {P : Program} {w : World} {K : PySem.W.Frag} {mg : Str → Option Value} {base : Heap}
abbrev sp_lmerge (K : PySem.W.Frag) : Sp := spP K (fun L : List (List Nm) => [lltD L]) RowsOk (fun L d => d = optT (merge L))
theorem ok_lmerge {f : Addr} {fd : FuncData} (Fu : Fun K "_law_merge" "_law_merge" s__law_merge f fd) (T : Txt mg) : FnOk P w K mg base (L2.CX P w) 1 f fd ["_law_lists"] (sp_lmerge K) := by
  refine fn_P Fu sc__law_merge (fun a => rfl) (fun cdv A outer s H E F L hp hr => ?_)
  have nd := sc__law_merge.nd
  have hany := T.any
  have hlist := T.list
  have hok := hp
  obtain ⟨hp1, hp2⟩ := hp
  refine ss_cons (s_asg (se_tup ?_))
  repeat fail "e"
  refine lcM nL (by fail "z") ?_ ?_
  · intro o ho
    repeat fail "e"
    exact ⟨rfl, rfl⟩
  repeat fail
  refine s_while (passes_of rfl) (fun m Γ c => ∃ d1 d2 u3 u4 u5 u6, (Γ = [.dat (lltD L), .dat d1, .dat d2, u3, u4, u5, u6] ∧ c = []) ∧ ∃ R acc, d1 = rowsD R ∧ d2 = nT acc ∧ m = total R ∧ RowsOk R ∧ acc.length + total R ≤ 10000 ∧ mergeF (m + 1) R acc = merge L) (total L) ⟨_, _, _, _, _, _, ⟨rfl, rfl⟩, L, [], rfl, rfl, rfl, hok, by have := total_ok hok; simpa using this, rfl⟩ ?_
  rintro m Γ c ⟨_, _, u3, u4, u5, u6, ⟨rfl, rfl⟩, R, acc, rfl, rfl, rfl, hR, hz, hm⟩
  have hR1 := hR.1
  repeat fail
  refine lcF (fun r : List Nm => !r.isEmpty) nL (by fail "z") ?_ ?_
  · intro r hr'
    repeat fail "e"
    refine ov_neNil hr.units (fit_nL r) ?_
    repeat fail "e"
    refine filt_end (fun h => ?_) (fun h => ?_)
    · repeat fail "e"
      exact ⟨h, rfl, rfl⟩
    · exact ⟨rfl, h⟩
  repeat fail "e"
  refine ov_neNil hr.units (fit_rows _) ?_
  rw [← any_filter]
  repeat fail "e"
  refine ite2 (fun h => ?_) (fun h => ?_)
  · unfold mergeF at hm
    rw [if_pos h] at hm
    refine ss_cons (s_F rfl nd (blkOk_by rfl) ?_)
    repeat fail "e"
    refine lcF (readyB R) headD' (by fail "z") ?_ ?_
    · intro r hr'
      repeat fail "e"
      refine ov_neNil hr.units (fit_nL r) ?_
      repeat fail "e"
      refine ite2 (fun h => ?_) (fun h => ?_)
      · cases r with
        | nil => cases h
        | cons x r =>
          repeat fail "e"
          refine lcM (fun r => .bl (decide (x ∈ r.drop 1))) (by fail "z") ?_ ?_
          · intro r hr'
            repeat fail "e"
            exact ⟨rfl, rfl⟩
          repeat fail "e"
          refine filt_end (fun h => ?_) (fun h => ?_)
          · repeat fail "e"
            exact ⟨h, rfl, rfl⟩
          · exact ⟨rfl, h⟩
      · repeat fail "e"
        cases r with
        | nil => exact ⟨rfl, rfl⟩
        | cons x r => exact absurd rfl h
    rw [ready_eq]
    repeat fail
    refine ov_eqNil hr.units (fit_nL (readyF R R)) ?_
    repeat fail
    rw [ready_next] at hm
    cases hn : readyF R R with
    | nil =>
      rw [hn] at hm
      repeat fail
      exact ⟨rfl, by rw [← hm]; rfl⟩
    | cons x rs =>
      have hn' : nextFrom R R = some x := by rw [ready_next, hn]; rfl
      obtain ⟨⟨r, hr1⟩, hf⟩ := nextFrom_some hn'
      have hlt := total_without_lt hr1 (List.mem_cons_self ..)
      rw [hn] at hm
      have hm : mergeF (total R) (without R x) (acc ++ [x]) = merge L := hm
      repeat fail
      refine ss_nil ?_
      repeat fail
      refine lcM (fun r => nL (r.filter fun o => !decide (o = x))) (by fail "z") ?_ ?_
      · intro r' hr'
        have := hR.2 r' hr'
        repeat fail "e"
        refine lcF (fun o => !decide (o = x)) nD (by fail "z") ?_ ?_
        · intro o ho
          repeat fail "e"
          refine iv_tup (d := nD x) (atI_snoc _ _) ?_
          repeat fail "e"
          refine filt_end (fun h => ?_) (fun h => ?_)
          · repeat fail "e"
            exact ⟨h, rfl, rfl⟩
          · exact ⟨rfl, h⟩
        repeat fail "e"
        exact ⟨rfl, rfl⟩
      refine ⟨_, hlt, _, _, _, _, _, _, ⟨rfl, rfl⟩, without R x, acc ++ [x], ?_, ?_, rfl, ok_without hR x, ?_, ?_⟩
      · unfold without; rw [rowsD, List.map_map]; rfl
      · rw [nT, List.map_append]; rfl
      · rw [List.length_append]; show acc.length + 1 + _ ≤ _; omega
      · rw [← hm]; exact (mergeF_fuel (by omega)).symm
  · unfold mergeF at hm
    rw [if_neg h] at hm
    repeat fail
    exact ⟨rfl, by rw [← hm]; rfl⟩
end
end W
end
section
set_option Elab.async false
set_option linter.all false
namespace W
open PySem L2 D PyProof.Rows
def Ranked (R : List (List Nm)) (f : Nm → Nat) : Prop := ∀ r ∈ R, r.Pairwise fun a b => f a < f b
abbrev Rows1 (R : List (List Nm)) : Prop := ∀ r ∈ R, r.Nodup
theorem least_by (f : Nm → Nat) : ∀ {l : List Nm}, l ≠ [] → ∃ x ∈ l, ∀ y ∈ l, f x ≤ f y
  | [x], _ => ⟨x, List.mem_singleton.mpr rfl, fun y hy => by rw [List.mem_singleton.mp hy]; exact Nat.le_refl _⟩
  | x :: y :: l, _ => by
    obtain ⟨z, hz, h⟩ := least_by f (l := y :: l) (List.cons_ne_nil _ _)
    by_cases e : f x ≤ f z
    · refine ⟨x, List.mem_cons_self .., fun u hu => ?_⟩
      rcases List.mem_cons.mp hu with q | q
      · rw [q]; exact Nat.le_refl _
      · exact Nat.le_trans e (h u q)
    · refine ⟨z, List.mem_cons_of_mem _ hz, fun u hu => ?_⟩
      rcases List.mem_cons.mp hu with q | q
      · rw [q]; omega
      · exact h u q
theorem freeIn_iff {R : List (List Nm)} {x : Nm} : freeIn R x = true ↔ ∀ o ∈ R, x ∉ o.drop 1 := by
  unfold freeIn
  rw [Bool.not_eq_true', List.any_eq_false]
  constructor
  · intro h o ho; have := h o ho; simpa using this
  · intro h o ho; have := h o ho; simpa using this
theorem any_ne {R : List (List Nm)} : (R.any fun r => !r.isEmpty) = true ↔ R.flatten ≠ [] := by
  rw [List.any_eq_true]
  constructor
  · rintro ⟨r, hr, h⟩ z
    cases r with
    | nil => simp at h
    | cons x r =>
      have : x ∈ R.flatten := List.mem_flatten.mpr ⟨_, hr, List.mem_cons_self ..⟩
      rw [z] at this; cases this
  · intro h
    obtain ⟨x, hx⟩ := List.exists_mem_of_ne_nil _ h
    obtain ⟨r, hr, hx⟩ := List.mem_flatten.mp hx
    refine ⟨r, hr, ?_⟩
    cases r with
    | nil => cases hx
    | cons y r => rfl
/-- the least name is at the head of its rows, and free -/
theorem ranked_free {R : List (List Nm)} {f : Nm → Nat} (h : Ranked R f) (hne : R.flatten ≠ []) : ∃ x r, (x :: r) ∈ R ∧ freeIn R x = true := by
  obtain ⟨x, hx, hmin⟩ := least_by f hne
  have hno : ∀ o ∈ R, x ∉ o.drop 1 := fun o ho hxo => by
    cases o with
    | nil => cases hxo
    | cons y o =>
      have h1 := (List.pairwise_cons.mp (h _ ho)).1 x hxo
      have h2 := hmin y (List.mem_flatten.mpr ⟨_, ho, List.mem_cons_self ..⟩)
      omega
  obtain ⟨o, ho, hxo⟩ := List.mem_flatten.mp hx
  cases o with
  | nil => cases hxo
  | cons y o =>
    rcases List.mem_cons.mp hxo with e | hxo
    · subst e; exact ⟨x, o, ho, freeIn_iff.mpr hno⟩
    · exact absurd hxo (hno _ ho)
theorem ranked_filter {R : List (List Nm)} {f : Nm → Nat} (h : Ranked R f) (q : Nm → Bool) : Ranked (R.map fun r => r.filter q) f := fun r hr => by
  obtain ⟨r', h1, rfl⟩ := List.mem_map.mp hr
  exact (h r' h1).filter q
theorem mergeF_some {f : Nm → Nat} : ∀ (n : Nat) {R : List (List Nm)} (acc : List Nm), Ranked R f → mergeF n R acc ≠ none
  | 0, R, acc, _ => by simp [mergeF]
  | n + 1, R, acc, h => by
    unfold mergeF
    split
    · rename_i hany
      obtain ⟨x, r, hr, hf⟩ := ranked_free h (any_ne.mp hany)
      cases hn : nextFrom R R with
      | none =>
        have := nextFrom_none hn x r hr
        rw [hf] at this; cases this
      | some y => exact mergeF_some n _ (ranked_filter h _)
    · simp
theorem merge_some {R : List (List Nm)} {f : Nm → Nat} (h : Ranked R f) : ∃ m, merge R = some m := by
  cases e : merge R with
  | none => exact absurd e (mergeF_some _ _ h)
  | some m => exact ⟨m, rfl⟩
theorem mem_without {R : List (List Nm)} {x y : Nm} : y ∈ (without R x).flatten ↔ y ∈ R.flatten ∧ y ≠ x := by
  unfold without
  rw [List.mem_flatten, List.mem_flatten]
  constructor
  · rintro ⟨r, hr, hy⟩
    obtain ⟨r', h1, rfl⟩ := List.mem_map.mp hr
    obtain ⟨h2, h3⟩ := List.mem_filter.mp hy
    exact ⟨⟨r', h1, h2⟩, by simpa using h3⟩
  · rintro ⟨⟨r, hr, hy⟩, ne⟩
    exact ⟨_, List.mem_map.mpr ⟨r, hr, rfl⟩, List.mem_filter.mpr ⟨hy, by simpa using ne⟩⟩
/-- what a merge is -/
structure Mg (R : List (List Nm)) (m : List Nm) : Prop where
  nd : m.Nodup
  mem : ∀ x, x ∈ m ↔ x ∈ R.flatten
  keep : ∀ r ∈ R, (m.filter fun x => decide (x ∈ r)) = r
theorem filter_self {m : List Nm} {r : List Nm} (h : ∀ x ∈ m, x ∈ r) : (m.filter fun x => decide (x ∈ r)) = m := List.filter_eq_self.mpr fun x hx => decide_eq_true (h x hx)
theorem mergeF_mg : ∀ (n : Nat) {R : List (List Nm)} {acc m : List Nm}, Rows1 R → total R < n → mergeF n R acc = some m → ∃ m', m = acc ++ m' ∧ Mg R m'
  | 0, R, acc, m, _, h, _ => absurd h (Nat.not_lt_zero _)
  | n + 1, R, acc, m, h1, hn, hm => by
    unfold mergeF at hm
    by_cases hany : (R.any fun r => !r.isEmpty) = true
    · rw [if_pos hany] at hm
      cases hx : nextFrom R R with
      | none => rw [hx] at hm; cases hm
      | some x =>
        rw [hx] at hm
        obtain ⟨⟨r0, hr0⟩, hf⟩ := nextFrom_some hx
        have hlt := total_without_lt hr0 (List.mem_cons_self ..)
        have h1' : Rows1 (without R x) := fun r hr => by
          obtain ⟨r', g1, rfl⟩ := List.mem_map.mp hr
          exact (h1 r' g1).filter _
        obtain ⟨m', rfl, hM⟩ := mergeF_mg n h1' (by omega) hm
        have hxm : x ∉ m' := fun z => (mem_without.mp ((hM.mem x).mp z)).2 rfl
        refine ⟨x :: m', by rw [List.append_assoc]; rfl, List.nodup_cons.mpr ⟨hxm, hM.nd⟩, fun y => ?_, fun r hr => ?_⟩
        · rw [List.mem_cons, hM.mem, mem_without]
          constructor
          · rintro (rfl | ⟨h, _⟩)
            · exact List.mem_flatten.mpr ⟨_, hr0, List.mem_cons_self ..⟩
            · exact h
          · intro h
            by_cases e : y = x
            · exact .inl e
            · exact .inr ⟨h, e⟩
        · have hk := hM.keep _ (List.mem_map.mpr ⟨r, hr, rfl⟩)
          have e1 : (m'.filter fun y => decide (y ∈ r)) = r.filter fun o => !decide (o = x) := by
            conv => rhs; rw [← hk]
            refine List.filter_congr fun y hy => ?_
            have ne : y ≠ x := fun e => hxm (e ▸ hy)
            congr 1
            exact propext ⟨fun h => List.mem_filter.mpr ⟨h, by simpa using ne⟩, fun h => (List.mem_filter.mp h).1⟩
          by_cases hxr : x ∈ r
          · rw [List.filter_cons_of_pos (by simpa using hxr), e1]
            have hfr := freeIn_iff.mp hf r hr
            cases r with
            | nil => cases hxr
            | cons y r =>
              have hyx : y = x := by
                rcases List.mem_cons.mp hxr with e | e
                · exact e.symm
                · exact absurd e hfr
              subst hyx
              rw [List.filter_cons_of_neg (by simp)]
              congr 1
              refine List.filter_eq_self.mpr fun z hz => ?_
              have : z ≠ y := fun e => hfr (by rw [← e]; exact hz)
              simpa using this
          · rw [List.filter_cons_of_neg (by simpa using hxr), e1]
            refine List.filter_eq_self.mpr fun z hz => ?_
            have : z ≠ x := fun e => hxr (e ▸ hz)
            simpa using this
    · rw [if_neg hany] at hm
      cases hm
      have hfl : R.flatten = [] := Classical.byContradiction fun z => hany (any_ne.mpr z)
      refine ⟨[], by simp, .nil, fun x => by rw [hfl], fun r hr => ?_⟩
      cases r with
      | nil => rfl
      | cons y r =>
        have : y ∈ R.flatten := List.mem_flatten.mpr ⟨_, hr, List.mem_cons_self ..⟩
        rw [hfl] at this; cases this
theorem merge_mg {R : List (List Nm)} {m : List Nm} (h1 : Rows1 R) (h : merge R = some m) : Mg R m := by
  obtain ⟨m', rfl, hM⟩ := mergeF_mg _ h1 (Nat.lt_succ_self _) h
  exact hM
theorem ix_rise : ∀ {m : List Nm}, m.Nodup → m.Pairwise fun a b => ixN m a < ixN m b
  | [], _ => .nil
  | x :: m, h => by
    have n2 := List.nodup_cons.mp h
    refine List.pairwise_cons.mpr ⟨fun b hb => ?_, ?_⟩
    · have : ¬ x = b := fun e => n2.1 (e ▸ hb)
      simp [D.ixN, this]
    · refine (ix_rise n2.2).imp_of_mem ?_
      intro a b ha hb hab
      have h1 : ¬ x = a := fun e => n2.1 (e ▸ ha)
      have h2 : ¬ x = b := fun e => n2.1 (e ▸ hb)
      simp [D.ixN, h1, h2]; exact hab
theorem mg_ranked {R : List (List Nm)} {m : List Nm} (h : Mg R m) : Ranked R (ixN m) := fun r hr => by
  rw [← h.keep r hr]
  exact (ix_rise h.nd).filter _
/-- rows that are parts of rows -/
theorem ranked_sub {R R' : List (List Nm)} {f : Nm → Nat} (h : Ranked R f) (hs : ∀ r' ∈ R', ∃ r ∈ R, List.Sublist r' r) : Ranked R' f := fun r' hr' => by
  obtain ⟨r, hr, s⟩ := hs r' hr'
  exact (h r hr).sublist s
/-- the merge of rows among which their merge stands -/
theorem merge_with {R' : List (List Nm)} {m : List Nm} (hnd : m.Nodup) (hm : m ∈ R') (hs : ∀ r' ∈ R', List.Sublist r' m) : merge R' = some m := by
  have hr : Ranked R' (ixN m) := fun r' hr' => (ix_rise hnd).sublist (hs r' hr')
  obtain ⟨m', hm'⟩ := merge_some hr
  have hM := merge_mg (fun r' hr' => hnd.sublist (hs r' hr')) hm'
  have h1 : m'.filter (fun x => decide (x ∈ m)) = m := hM.keep m hm
  have h2 : ∀ x ∈ m', x ∈ m := fun x hx => by
    obtain ⟨r, hr, hx⟩ := List.mem_flatten.mp ((hM.mem x).mp hx)
    exact (hs r hr).subset hx
  rw [filter_self h2] at h1
  rw [hm', h1]
theorem mg_sub {R : List (List Nm)} {m : List Nm} (h : Mg R m) : ∀ r ∈ R, List.Sublist r m := fun r hr => by
  have := List.filter_sublist (p := fun x => decide (x ∈ r)) (l := m)
  rw [h.keep r hr] at this
  exact this
end W
end
section
set_option linter.all false
namespace W
open PySem L2 D PyProof.Rows
/-- what is built kind by kind -/
inductive Built : Reg → Prop
  | nil : Built []
  | snoc {G : Reg} {x : Nm} {l m : List Nm} : Built G → hasG G x = false → BasesOk G l → merge (listsG G l) = some m → Built (G ++ [(x, l, x :: m)])
theorem hasG_iff {G : Reg} {x : Nm} : hasG G x = true ↔ x ∈ G.map (·.1) := by
  unfold hasG
  rw [List.any_eq_true]
  constructor
  · rintro ⟨k, hk, e⟩; exact List.mem_map.mpr ⟨k, hk, of_decide_eq_true e⟩
  · intro h
    obtain ⟨k, hk, e⟩ := List.mem_map.mp h
    exact ⟨k, hk, decide_eq_true e⟩
theorem lineG_old {G : Reg} {k : Kd} {y : Nm} (h : hasG G y = true) : lineG (G ++ [k]) y = lineG G y := by
  unfold lineG
  obtain ⟨k', _, _, e⟩ := hasG_find h
  rw [List.find?_append, e]; rfl
theorem lineG_new {G : Reg} {k : Kd} (h : hasG G k.1 = false) : lineG (G ++ [k]) k.1 = k.2.2 := by
  unfold lineG
  have : (G.find? fun k' => decide (k'.1 = k.1)) = none := by
    rw [List.find?_eq_none]
    intro k' hk' e
    rw [hasG, List.any_eq_false] at h
    exact h k' hk' e
  rw [List.find?_append, this]
  simp
theorem hasG_app {G : Reg} {k : Kd} {y : Nm} : hasG (G ++ [k]) y = (hasG G y || decide (k.1 = y)) := by
  unfold hasG; rw [List.any_append]; simp
/-- lines begin with their kinds, name each kind once, and keep the lines of all that they name -/
structure LinesG (G : Reg) : Prop where
  nd : (G.map (·.1)).Nodup
  hd : ∀ x, hasG G x = true → ∃ m, lineG G x = x :: m
  ln : ∀ x, hasG G x = true → (lineG G x).Nodup
  cl : ∀ x, hasG G x = true → ∀ y ∈ lineG G x, hasG G y = true ∧ (lineG G y).Sublist (lineG G x)
theorem LinesG.mg {G : Reg} (h : LinesG G) {l m : List Nm} (hB : BasesOk G l) (hm : merge (listsG G l) = some m) : Mg (listsG G l) m := by
  refine merge_mg (fun r hr => ?_) hm
  unfold listsG at hr
  rcases List.mem_append.mp hr with hr | hr
  · obtain ⟨y, hy, rfl⟩ := List.mem_map.mp hr
    exact h.ln y (hB.2.2 y hy)
  · rw [List.mem_singleton.mp hr]; exact hB.2.1
/-- members of a merge: kinds, with their lines kept -/
theorem LinesG.closed {G : Reg} (h : LinesG G) {l m : List Nm} (hB : BasesOk G l) (hm : merge (listsG G l) = some m) : ∀ y ∈ m, hasG G y = true ∧ (lineG G y).Sublist m := fun y hy => by
  have M := h.mg hB hm
  obtain ⟨r, hr, hyr⟩ := List.mem_flatten.mp ((M.mem y).mp hy)
  have hs := mg_sub M
  have key : ∀ z ∈ l, (lineG G z).Sublist m := fun z hz => hs _ (by unfold listsG; exact List.mem_append_left _ (List.mem_map.mpr ⟨z, hz, rfl⟩))
  unfold listsG at hr
  rcases List.mem_append.mp hr with hr | hr
  · obtain ⟨z, hz, rfl⟩ := List.mem_map.mp hr
    obtain ⟨h1, h2⟩ := h.cl z (hB.2.2 z hz) y hyr
    exact ⟨h1, h2.trans (key z hz)⟩
  · rw [List.mem_singleton.mp hr] at hyr
    exact ⟨hB.2.2 y hyr, key y hyr⟩
theorem Built.lines {G : Reg} (h : Built G) : LinesG G := by
  induction h with
  | nil => exact ⟨List.Pairwise.nil, (fun x h => by cases h), (fun x h => by cases h), (fun x h => by cases h)⟩
  | @snoc G x l m hb hx hB hm ih =>
    have hc := ih.closed hB hm
    have M := ih.mg hB hm
    have hxm : x ∉ m := fun z => by rw [(hc x z).1] at hx; cases hx
    have old : ∀ y, hasG G y = true → lineG (G ++ [(x, l, x :: m)]) y = lineG G y := fun y hy => lineG_old hy
    have new : lineG (G ++ [(x, l, x :: m)]) x = x :: m := lineG_new (k := (x, l, x :: m)) hx
    have hmem : ∀ y, hasG (G ++ [(x, l, x :: m)]) y = true → hasG G y = true ∨ y = x := fun y hy => by
      rw [hasG_app, Bool.or_eq_true] at hy
      exact hy.imp id fun e => (of_decide_eq_true e).symm
    have up : ∀ y, hasG G y = true → hasG (G ++ [(x, l, x :: m)]) y = true := fun y hy => by rw [hasG_app, hy]; rfl
    refine ⟨?_, fun y hy => ?_, fun y hy => ?_, fun y hy z hz => ?_⟩
    · rw [List.map_append]
      refine List.nodup_append.mpr ⟨ih.nd, List.nodup_cons.mpr ⟨List.not_mem_nil, List.Pairwise.nil⟩, fun a ha b hb e => ?_⟩
      rw [List.mem_singleton.mp hb] at e
      rw [e] at ha
      rw [hasG_iff.mpr ha] at hx; cases hx
    · rcases hmem y hy with h | rfl
      · rw [old y h]; exact ih.hd y h
      · exact ⟨m, new⟩
    · rcases hmem y hy with h | rfl
      · rw [old y h]; exact ih.ln y h
      · rw [new]; exact List.nodup_cons.mpr ⟨hxm, M.nd⟩
    · rcases hmem y hy with h | rfl
      · rw [old y h] at hz ⊢
        obtain ⟨h1, h2⟩ := ih.cl y h z hz
        exact ⟨up z h1, by rw [old z h1]; exact h2⟩
      · rw [new] at hz ⊢
        rcases List.mem_cons.mp hz with e | hz
        · rw [e]; exact ⟨hy, by rw [new]; exact List.Sublist.refl _⟩
        · obtain ⟨h1, h2⟩ := hc z hz
          exact ⟨up z h1, by rw [old z h1]; exact h2.cons _⟩
/-- one base: its line -/
theorem LinesG.one {G : Reg} (h : LinesG G) {x : Nm} (hx : hasG G x = true) : merge (listsG G [x]) = some (lineG G x) := by
  refine merge_with (h.ln x hx) (by unfold listsG; exact List.mem_cons_self ..) fun r hr => ?_
  unfold listsG at hr
  rcases List.mem_append.mp hr with hr | hr
  · obtain ⟨y, hy, rfl⟩ := List.mem_map.mp hr
    rw [List.mem_singleton.mp hy]; exact List.Sublist.refl _
  · rw [List.mem_singleton.mp hr]
    obtain ⟨m, e⟩ := h.hd x hx
    rw [e]; exact (List.nil_sublist m).cons₂ x
end W
end
section
set_option linter.all false
namespace D
section
variable {κ : Type} [DecidableEq κ]
theorem dval_dput {l : List (κ × Dt)} {k : κ} {d : Dt} : dval (dput l k d) k = some d := by
  unfold dput
  by_cases h : (l.any fun kv => decide (kv.1 = k)) = true
  · rw [if_pos h]
    induction l with
    | nil => cases h
    | cons p l ih =>
      rw [List.map_cons]
      by_cases e : p.1 = k
      · rw [if_pos e]; exact dval_pos e
      · rw [if_neg e, dval_neg e]
        refine ih ?_
        rw [List.any_cons, decide_eq_false e, Bool.false_or] at h
        exact h
  · rw [if_neg h]
    induction l with
    | nil => exact dval_pos rfl
    | cons p l ih =>
      rw [List.any_cons, Bool.or_eq_true, not_or] at h
      rw [List.cons_append, dval_neg (fun e => h.1 (decide_eq_true e))]
      exact ih h.2
theorem any_dput {l : List (κ × Dt)} {k : κ} {d : Dt} : ((dput l k d).any fun kv => decide (kv.1 = k)) = true := by
  rw [dval_any, dval_dput]; rfl
theorem dput_dput {l : List (κ × Dt)} {k : κ} {d d' : Dt} : dput (dput l k d) k d' = dput l k d' := by
  have h1 : ((dput l k d).any fun kv => decide (kv.1 = k)) = true := any_dput
  show (if ((dput l k d).any fun kv => decide (kv.1 = k)) = true then (dput l k d).map (fun kv => if kv.1 = k then (kv.1, d') else kv) else dput l k d ++ [(k, d')]) = _
  rw [if_pos h1]
  unfold dput
  by_cases h : (l.any fun kv => decide (kv.1 = k)) = true
  · rw [if_pos h, if_pos h, List.map_map]
    refine List.map_congr_left fun p _ => ?_
    show (if (if p.1 = k then (p.1, d) else p).1 = k then ((if p.1 = k then (p.1, d) else p).1, d') else (if p.1 = k then (p.1, d) else p)) = _
    by_cases e : p.1 = k
    · rw [if_pos e, if_pos e, if_pos e]
    · rw [if_neg e, if_neg e]
  · rw [if_neg h, if_neg h, List.map_append, List.map_cons, List.map_nil, if_pos rfl]
    congr 1
    refine (List.map_congr_left fun p hp => ?_).trans (List.map_id l)
    rw [if_neg fun e => h (List.any_eq_true.mpr ⟨p, hp, decide_eq_true e⟩)]; rfl
end
end D
namespace W
open PySem L2 D PyProof.Rows
theorem nodup_le : ∀ {l m : List Nm}, l.Nodup → (∀ x ∈ l, x ∈ m) → l.length ≤ m.length
  | [], _, _, _ => Nat.zero_le _
  | x :: l, m, h, hs => by
    have n2 := List.nodup_cons.mp h
    have hx := hs x (List.mem_cons_self ..)
    have := nodup_le (l := l) (m := m.erase x) n2.2 fun y hy => by
      have ne : y ≠ x := fun e => n2.1 (e ▸ hy)
      exact (List.mem_erase_of_ne ne).mpr (hs y (List.mem_cons_of_mem _ hy))
    rw [List.length_erase_of_mem hx] at this
    have h1 := List.length_pos_of_mem hx
    rw [List.length_cons]; omega
def baseG (G : Reg) (x : Nm) : List Nm := ((G.find? fun k => decide (k.1 = x)).map fun k => k.2.1).getD []
theorem find_mem {G : Reg} (nd : (G.map (·.1)).Nodup) {k : Kd} (hk : k ∈ G) : (G.find? fun k' => decide (k'.1 = k.1)) = some k := by
  induction G with
  | nil => cases hk
  | cons g G ih =>
    have n2 := List.nodup_cons.mp (show (g.1 :: G.map (·.1)).Nodup from nd)
    rw [List.find?_cons]
    rcases List.mem_cons.mp hk with e | hk
    · rw [← e, decide_eq_true rfl]
    · have ne : ¬ g.1 = k.1 := fun e => n2.1 (by rw [e]; exact List.mem_map.mpr ⟨k, hk, rfl⟩)
      rw [decide_eq_false ne]
      exact ih n2.2 hk
theorem lineG_mem {G : Reg} (nd : (G.map (·.1)).Nodup) {k : Kd} (hk : k ∈ G) : lineG G k.1 = k.2.2 := by unfold lineG; rw [find_mem nd hk]; rfl
theorem baseG_mem {G : Reg} (nd : (G.map (·.1)).Nodup) {k : Kd} (hk : k ∈ G) : baseG G k.1 = k.2.1 := by unfold baseG; rw [find_mem nd hk]; rfl
theorem hasG_mem {G : Reg} {k : Kd} (hk : k ∈ G) : hasG G k.1 = true := hasG_iff.mpr (List.mem_map.mpr ⟨k, hk, rfl⟩)
theorem base_val {G : Reg} {x : Nm} (h : hasG G x = true) : dval (kbD G) (nK x) = some (nT (baseG G x)) := by
  obtain ⟨k, _, _, e⟩ := hasG_find h
  have := dval_map (fun k : Kd => nT k.2.1) (fun k => k.1) x G
  rw [show dval (kbD G) (nK x) = _ from this]
  unfold baseG
  rw [e]; rfl
theorem LinesG.len {G : Reg} (h : LinesG G) {x : Nm} (hx : hasG G x = true) : (lineG G x).length ≤ G.length := by
  have := nodup_le (h.ln x hx) (m := G.map (·.1)) fun y hy => hasG_iff.mp (h.cl x hx y hy).1
  rwa [List.length_map] at this
theorem LinesG.lok {G : Reg} (h : LinesG G) (hl : G.length ≤ 100) : linesOk G := fun k hk => by
  have h1 := h.len (hasG_mem hk)
  rw [lineG_mem h.nd hk] at h1
  omega
theorem listsG_app {G : Reg} {k : Kd} {l : List Nm} (h : ∀ y ∈ l, hasG G y = true) : listsG (G ++ [k]) l = listsG G l := by
  unfold listsG
  congr 1
  exact List.map_congr_left fun y hy => lineG_old (h y hy)
theorem hasG_up {G : Reg} {k : Kd} {y : Nm} (h : hasG G y = true) : hasG (G ++ [k]) y = true := by rw [hasG_app, h]; rfl
theorem BasesOk.up {G : Reg} {k : Kd} {l : List Nm} (h : BasesOk G l) : BasesOk (G ++ [k]) l := ⟨h.1, h.2.1, fun y hy => hasG_up (h.2.2 y hy)⟩
theorem baseG_old {G : Reg} {k : Kd} {y : Nm} (h : hasG G y = true) : baseG (G ++ [k]) y = baseG G y := by
  unfold baseG
  obtain ⟨k', _, _, e⟩ := hasG_find h
  rw [List.find?_append, e]; rfl
theorem baseG_new {G : Reg} {k : Kd} (h : hasG G k.1 = false) : baseG (G ++ [k]) k.1 = k.2.1 := by
  unfold baseG
  have : (G.find? fun k' => decide (k'.1 = k.1)) = none := by
    rw [List.find?_eq_none]
    intro k' hk' e
    rw [hasG, List.any_eq_false] at h
    exact h k' hk' e
  rw [List.find?_append, this]
  simp
/-- each kind: its bases are kinds, its line is the merge -/
theorem Built.at_ {G : Reg} (h : Built G) : ∀ x, hasG G x = true → BasesOk G (baseG G x) ∧ ∃ m, merge (listsG G (baseG G x)) = some m ∧ lineG G x = x :: m := by
  induction h with
  | nil => intro x h; cases h
  | @snoc G x l m hb hx hB hm ih =>
    intro y hy
    rw [hasG_app, Bool.or_eq_true] at hy
    rcases hy with hy | hy
    · obtain ⟨h1, m', h2, h3⟩ := ih y hy
      rw [baseG_old hy, lineG_old hy]
      exact ⟨h1.up, m', by rw [listsG_app h1.2.2]; exact h2, h3⟩
    · obtain rfl := of_decide_eq_true hy
      rw [show baseG (G ++ [(x, l, x :: m)]) x = l from baseG_new (k := (x, l, x :: m)) hx, show lineG (G ++ [(x, l, x :: m)]) x = x :: m from lineG_new (k := (x, l, x :: m)) hx]
      exact ⟨hB.up, m, by rw [listsG_app hB.2.2]; exact hm, rfl⟩
/-- an order in which each kind stands behind its bases -/
structure OrdOk (G : Reg) (o : List Nm) : Prop where
  nd : o.Nodup
  sub : ∀ x ∈ o, hasG G x = true
  ahead : ∀ pre x post, o = pre ++ x :: post → ∀ y ∈ baseG G x, y ∈ pre
theorem OrdOk.nil {G : Reg} : OrdOk G [] := ⟨.nil, (fun _ h => nomatch h), fun pre x post h => by
  have := congrArg List.length h; simp at this⟩
theorem OrdOk.snoc {G : Reg} {o : List Nm} {x : Nm} (h : OrdOk G o) (hx : hasG G x = true) (hn : x ∉ o) (hb : ∀ y ∈ baseG G x, y ∈ o) : OrdOk G (o ++ [x]) := by
  refine ⟨List.nodup_append.mpr ⟨h.nd, by simp, fun a ha b hb e => by rw [List.mem_singleton.mp hb] at e; subst e; exact hn ha⟩, fun y hy => ?_, fun pre y post e z hz => ?_⟩
  · rcases List.mem_append.mp hy with q | q
    · exact h.sub y q
    · rw [List.mem_singleton.mp q]; exact hx
  · rcases List.append_eq_append_iff.mp e with ⟨t, h1, h2⟩ | ⟨t, h1, h2⟩
    · cases t with
      | nil =>
        rw [List.append_nil] at h1
        simp at h2
        obtain ⟨rfl, rfl⟩ := h2
        rw [h1]; exact hb z hz
      | cons u t => simp at h2
    · cases t with
      | nil =>
        rw [List.append_nil] at h1
        simp at h2
        obtain ⟨rfl, rfl⟩ := h2
        rw [← h1]; exact hb z hz
      | cons u t =>
        rw [List.cons_append] at h2
        injection h2 with h2 h3
        subst h2
        exact h.ahead pre y t h1 z hz
/-- what has been built so far of G -/
structure PartG (G G' : Reg) (o : List Nm) : Prop where
  b : Built G'
  names : G'.map (·.1) = o
  line : ∀ x ∈ o, lineG G' x = lineG G x
  base : ∀ x ∈ o, baseG G' x = baseG G x
theorem PartG.snoc {G G' : Reg} {o : List Nm} {x : Nm} (hG : Built G) (h : PartG G G' o) (hx : hasG G x = true) (hn : x ∉ o) (hb : ∀ y ∈ baseG G x, y ∈ o) :
    hasG G' x = false ∧ BasesOk G' (baseG G x) ∧ ∃ m, merge (listsG G' (baseG G x)) = some m ∧ PartG G (G' ++ [(x, baseG G x, x :: m)]) (o ++ [x]) := by
  obtain ⟨h1, m, h2, h3⟩ := hG.at_ x hx
  have hx' : hasG G' x = false := by
    cases q : hasG G' x with
    | false => rfl
    | true => exact absurd (by rw [← h.names]; exact hasG_iff.mp q) hn
  have hB : BasesOk G' (baseG G x) := ⟨h1.1, h1.2.1, fun y hy => hasG_iff.mpr (by rw [h.names]; exact hb y hy)⟩
  have hL : listsG G' (baseG G x) = listsG G (baseG G x) := by
    unfold listsG
    congr 1
    exact List.map_congr_left fun y hy => h.line y (hb y hy)
  have hm : merge (listsG G' (baseG G x)) = some m := by rw [hL]; exact h2
  refine ⟨hx', hB, m, hm, .snoc h.b hx' hB hm, by rw [List.map_append, h.names]; rfl, fun y hy => ?_, fun y hy => ?_⟩
  · rcases List.mem_append.mp hy with q | q
    · rw [lineG_old (hasG_iff.mpr (by rw [h.names]; exact q))]; exact h.line y q
    · rw [List.mem_singleton.mp q, show lineG (G' ++ [(x, baseG G x, x :: m)]) x = x :: m from lineG_new (k := (x, baseG G x, x :: m)) hx', h3]
  · rcases List.mem_append.mp hy with q | q
    · rw [baseG_old (hasG_iff.mpr (by rw [h.names]; exact q))]; exact h.base y q
    · rw [List.mem_singleton.mp q, show baseG (G' ++ [(x, baseG G x, x :: m)]) x = baseG G x from baseG_new (k := (x, baseG G x, x :: m)) hx']
/-- is o ahead of n in a line of one of every -/
def aheadG (G : Reg) (ev : List Nm) (o n : Nm) : Bool := ev.any fun z => decide (o ∈ lineG G z) && decide (n ∈ (lineG G z).drop (D.ixN (lineG G z) o + 1))
/-- lines cut in what was taken and what is left -/
def CutsG (G : Reg) (ev fd lf : List Nm) : Prop := ∀ z ∈ ev, lineG G z = (fd.filter fun x => decide (x ∈ lineG G z)) ++ ((lineG G z).filter fun x => decide (x ∈ lf))
theorem filter_first : ∀ {l lf : List Nm} {x : Nm}, l.Nodup → x ∈ l → x ∈ lf → lf.Nodup → (∀ o ∈ lf, ¬ (o ∈ l ∧ x ∈ l.drop (D.ixN l o + 1))) → (l.filter fun y => decide (y ∈ lf)) = x :: l.filter fun y => decide (y ∈ lf.erase x)
  | [], _, _, _, h, _, _, _ => nomatch h
  | u :: l, lf, x, nd, hx, hxf, ndf, hf => by
    have n2 := List.nodup_cons.mp nd
    by_cases e : u = x
    · subst e
      rw [List.filter_cons_of_pos (by simpa using hxf), List.filter_cons_of_neg (by simpa using fun z => (List.Nodup.mem_erase_iff ndf).mp z |>.1 rfl)]
      congr 1
      refine List.filter_congr fun y hy => ?_
      have ne : y ≠ u := fun e => n2.1 (e ▸ hy)
      exact decide_eq_decide.mpr (List.mem_erase_of_ne ne).symm
    · have hxl : x ∈ l := by rcases List.mem_cons.mp hx with q | q; exact absurd q.symm e; exact q
      have hu : u ∉ lf := fun z => hf u z ⟨List.mem_cons_self .., by simp [D.ixN]; exact hxl⟩
      have hu2 : u ∉ lf.erase x := fun z => hu (List.mem_of_mem_erase z)
      rw [List.filter_cons_of_neg (by simpa using hu), List.filter_cons_of_neg (by simpa using hu2)]
      refine filter_first n2.2 hxl hxf ndf fun o ho ⟨h1, h2⟩ => hf o ho ⟨List.mem_cons_of_mem _ h1, ?_⟩
      have ne : ¬ u = o := fun e => n2.1 (e ▸ h1)
      have : D.ixN (u :: l) o = D.ixN l o + 1 := by simp [D.ixN, ne]
      rw [this]
      exact h2
theorem CutsG.step {G : Reg} {ev fd lf : List Nm} {x : Nm} (h : CutsG G ev fd lf) (hn : ∀ z ∈ ev, (lineG G z).Nodup) (hx : x ∈ lf) (hnl : lf.Nodup) (hfree : ∀ o ∈ lf, aheadG G ev o x = false) : CutsG G ev (fd ++ [x]) (lf.erase x) := by
  intro z hz
  have hz' := h z hz
  have nd := hn z hz
  rw [List.filter_append]
  by_cases hm : x ∈ lineG G z
  · have hf := filter_first nd hm hx hnl fun o ho ⟨h1, h2⟩ => by
      have h3 := hfree o ho
      unfold aheadG at h3
      rw [List.any_eq_false] at h3
      exact h3 z hz (by rw [decide_eq_true h1, decide_eq_true h2]; rfl)
    rw [hf] at hz'
    rw [List.filter_cons_of_pos (by simpa using hm), List.filter_nil, List.append_assoc]
    exact hz'
  · rw [List.filter_cons_of_neg (by simpa using hm), List.filter_nil, List.append_nil]
    have e : ((lineG G z).filter fun y => decide (y ∈ lf.erase x)) = (lineG G z).filter fun y => decide (y ∈ lf) := List.filter_congr fun y hy => decide_eq_decide.mpr (List.mem_erase_of_ne fun e => hm (e ▸ hy))
    rw [e]
    exact hz'
theorem CutsG.start {G : Reg} {ev : List Nm} (hc : ∀ z ∈ ev, ∀ y ∈ lineG G z, y ∈ ev) : CutsG G ev [] ev := fun z hz => by
  rw [List.filter_nil, List.nil_append]
  exact (filter_self' fun y hy => hc z hz y hy).symm
where
  filter_self' {l ev : List Nm} (h : ∀ y ∈ l, y ∈ ev) : (l.filter fun y => decide (y ∈ ev)) = l := List.filter_eq_self.mpr fun y hy => decide_eq_true (h y hy)
theorem CutsG.done {G : Reg} {ev fd : List Nm} (h : CutsG G ev fd []) : ∀ z ∈ ev, (lineG G z).Sublist fd := fun z hz => by
  have e := h z hz
  have e2 : ((lineG G z).filter fun x => decide (x ∈ ([] : List Nm))) = [] := List.filter_eq_nil_iff.mpr fun y _ => by simp
  rw [e2, List.append_nil] at e
  rw [e]
  exact List.filter_sublist
end W
end
section
set_option Elab.async false
set_option linter.all false
set_option maxRecDepth 100000
namespace D
open PySem L2 PyProof.Rows
end D
end
section
set_option Elab.async false
set_option linter.all false
set_option maxRecDepth 100000
namespace D
open PySem L2 PyProof.Rows
end D
end
section
set_option Elab.async false
set_option linter.all false
set_option maxRecDepth 100000
set_option maxHeartbeats 4000000
open PySem L2 D PyProof.Rows
local macro_rules
  | `(tactic| fail "z") => `(tactic| ((try simp only [List.length_map, List.length_cons, List.length_nil, List.length_append, List.length_drop, List.length_take]); have := big_line; omega))
local macro_rules
  | `(tactic| fail) => `(tactic| first
    | ((with_reducible refine (?_ : SE _ _ _ _ _ _)); first | refine se_nm rfl ?_ | refine se_tyTuple (by assumption) ?_ | refine se_tyStr (by assumption) ?_ | refine se_tyInt (by assumption) ?_ | refine se_tyBool (by assumption) ?_ | refine se_int ?_ | refine se_str ?_ | refine se_non ?_ | refine se_bl ?_ | refine se_cmp ?_ | refine se_bin ?_ | refine se_backT ?_ | refine se_ix ?_ | refine se_slice ?_ | refine se_tup ?_ | refine se_lst ?_ | ((with_reducible refine (?_ : SE _ _ _ _ (.Call _ _ _ _) _)); first | refine se_any (by assumption) ?_ | refine se_all (by assumption) ?_ | refine se_len (by assumption) ?_ | refine se_min (by assumption) ?_ | refine se_max (by assumption) ?_ | refine se_sorted (by assumption) ?_ | refine se_isi (by assumption) ?_ | refine se_abs (by assumption) ?_ | refine se_sum (by assumption) ?_ | refine se_tupleC (by assumption) ?_ | refine se_listC (by assumption) ?_) | refine se_M rfl (by assumption) (blkOk_by rfl) ?_ | refine se_F rfl (by assumption) (blkOk_by rfl) ?_ | refine se_Dc rfl (by assumption) (blkOk_by rfl) ?_ | refine se_chain ?_ | refine se_indexN ?_ | refine se_not ?_ | refine se_if ?_ | refine se_one ?_ | refine se_and ?_ | refine se_or ?_ | refine se_neg ?_)
    | ((with_reducible refine (?_ : ST _ _ _ _ _ _)); first | refine st_cmp ?_ | refine st_chain ?_ | refine st_not ?_ | refine st_w (sw_and ?_) | refine st_w (sw_or ?_) | refine st_val ?_)
    | ((with_reducible refine (?_ : SWt _ _ _ _ _ _)); first | refine sw_and ?_ | refine sw_and1 ?_ | refine sw_or ?_ | refine sw_or1 ?_)
    | ((with_reducible refine (?_ : SA _ _ _ _ _ _)); first | refine sa_cons ?_ | refine sa_nil ?_)
    | ((with_reducible refine (?_ : SO _ _ _ _ _ _)); first | refine so_none ?_ | refine so_some ?_)
    | ((with_reducible refine (?_ : SS _ _ _ _ _ _)); first | refine ss_one ?_ | refine ss_cons ?_)
    | ((with_reducible refine (?_ : S1 _ _ _ _ _ _)); first | refine s_ret ?_ | refine s_if ?_ | refine s_M rfl (by assumption) (blkOk_by rfl) ?_ | refine s_F rfl (by assumption) (blkOk_by rfl) ?_ | refine s_Dc rfl (by assumption) (blkOk_by rfl) ?_ | refine s_st (by assumption) ?_ | refine s_aug (by assumption) rfl ?_ | refine s_asg ?_ | refine s_expr ?_)
    | ((with_reducible refine (?_ : SG _ _ _ _ _ _ _)); first | refine sg_nm (by assumption) ?_ | refine sg_par rfl ?_ | refine sg_tup rfl ?_)
    | ((with_reducible refine (?_ : SGs _ _ _ _ _ _ _)); first | refine sgs_cons ?_ | refine sgs_nil ?_)
    | ((with_reducible refine (?_ : SGb _ _ _ _ _ _ _ _)); first | refine sgb_nm (by assumption) ?_ (by first | exact vs_self | exact vs_one | exact vs_two) | refine sgb_par rfl ?_ | refine sgb_tup rfl ?_)
    | ((with_reducible refine (?_ : SGbs _ _ _ _ _ _ _ _)); first | refine sgbs_cons ?_ | refine sgbs_nil ?_)
    | ((with_reducible refine (?_ : SW _ _ _ _ _ _ _)); first | refine sw_vals ?_ | refine sw_zipT (by assumption) ?_ | refine sw_range (by assumption) ?_ | refine sw_seq ?_)
    | ((with_reducible refine (?_ : OpV _ _ _ _ _ _ _ _)); first | refine ov_eqN ?_ | refine ov_neN ?_ | refine ov_inN ?_ | refine ov_ninN ?_ | refine ov_inNT ?_ | refine ov_ninNT ?_ | refine oi_add ?_ | refine oi_catT (by fail "z") ?_ | refine ov_cat (by fail "z") ?_ | refine ov_catT (by fail "z") ?_ | refine ov_add ?_ | refine ov_sub ?_ | refine ov_lt ?_ | refine ov_le ?_ | refine ov_gt ?_ | refine ov_ge ?_ | refine ov_eqI ?_ | refine ov_neI ?_ | refine ov_eqS ?_ | refine ov_neS ?_ | refine ov_eqB ?_ | refine ov_neB ?_)
    | ((with_reducible refine (?_ : IxV _ _ _ _ _ _ _)); first | refine iv_cons ?_ | refine iv_consT ?_)
    | ((with_reducible refine (?_ : SlV _ _ _ _ _ _ _ _)); first | refine sv_fromL (by decide) ?_ | refine sv_fromT (by decide) ?_ | refine sv_toL (by decide) ?_ | refine sv_toT (by decide) ?_)
    | ((with_reducible refine (?_ : ClV _ _ _ _ _ _ _)); first | refine cv_anyM rfl ?_ | refine cv_allM rfl ?_ | refine cv_len rfl ?_ | refine cv_tuple rfl ?_ | refine cv_list rfl ?_ | refine cv_abs ?_ | refine cv_isStr rfl ?_ | refine cv_isTup rfl ?_ | refine cv_isInt rfl ?_ | refine cv_isBool rfl ?_ | refine cv_sum rfl ?_)
    | (with_reducible refine turn0I (fun _ _ _ _ _ _ => ?_)) | (with_reducible refine turn1I (fun _ _ _ _ _ _ => ?_)) | (with_reducible refine turnDI (fun _ _ _ _ _ _ => ?_)) | (with_reducible refine abI (fun _ _ _ _ _ => ?_)) | ((with_reducible show (if _ then _ else _)); first | refine iteT ?_ | refine iteF ?_) | ((with_reducible refine (?_ : And _ _)); refine And.intro (show _ ≤ sizeLine by fail "z") ?_) | ((with_reducible refine (?_ : Exists _)); refine ⟨_, rfl, ?_⟩))
local macro_rules
  | `(tactic| fail "e") => `(tactic| first
    | ((with_reducible refine (?_ : SE _ _ _ _ _ _)); first | refine se_nm rfl ?_ | refine se_tyTuple (by assumption) ?_ | refine se_tyStr (by assumption) ?_ | refine se_tyInt (by assumption) ?_ | refine se_tyBool (by assumption) ?_ | refine se_int ?_ | refine se_str ?_ | refine se_non ?_ | refine se_bl ?_ | refine se_cmp ?_ | refine se_bin ?_ | refine se_backT ?_ | refine se_ix ?_ | refine se_slice ?_ | refine se_tup ?_ | refine se_lst ?_ | ((with_reducible refine (?_ : SE _ _ _ _ (.Call _ _ _ _) _)); first | refine se_any (by assumption) ?_ | refine se_all (by assumption) ?_ | refine se_len (by assumption) ?_ | refine se_min (by assumption) ?_ | refine se_max (by assumption) ?_ | refine se_sorted (by assumption) ?_ | refine se_isi (by assumption) ?_ | refine se_abs (by assumption) ?_ | refine se_sum (by assumption) ?_ | refine se_tupleC (by assumption) ?_ | refine se_listC (by assumption) ?_) | refine se_M rfl (by assumption) (blkOk_by rfl) ?_ | refine se_F rfl (by assumption) (blkOk_by rfl) ?_ | refine se_Dc rfl (by assumption) (blkOk_by rfl) ?_ | refine se_chain ?_ | refine se_indexN ?_ | refine se_not ?_ | refine se_if ?_ | refine se_one ?_ | refine se_and ?_ | refine se_or ?_ | refine se_neg ?_)
    | ((with_reducible refine (?_ : ST _ _ _ _ _ _)); first | refine st_cmp ?_ | refine st_chain ?_ | refine st_not ?_ | refine st_w (sw_and ?_) | refine st_w (sw_or ?_) | refine st_val ?_)
    | ((with_reducible refine (?_ : SWt _ _ _ _ _ _)); first | refine sw_and ?_ | refine sw_and1 ?_ | refine sw_or ?_ | refine sw_or1 ?_)
    | ((with_reducible refine (?_ : SA _ _ _ _ _ _)); first | refine sa_cons ?_ | refine sa_nil ?_)
    | ((with_reducible refine (?_ : SO _ _ _ _ _ _)); first | refine so_none ?_ | refine so_some ?_)
    | ((with_reducible refine (?_ : SG _ _ _ _ _ _ _)); first | refine sg_nm (by assumption) ?_ | refine sg_par rfl ?_ | refine sg_tup rfl ?_)
    | ((with_reducible refine (?_ : SGs _ _ _ _ _ _ _)); first | refine sgs_cons ?_ | refine sgs_nil ?_)
    | ((with_reducible refine (?_ : SGb _ _ _ _ _ _ _ _)); first | refine sgb_nm (by assumption) ?_ (by first | exact vs_self | exact vs_one | exact vs_two) | refine sgb_par rfl ?_ | refine sgb_tup rfl ?_)
    | ((with_reducible refine (?_ : SGbs _ _ _ _ _ _ _ _)); first | refine sgbs_cons ?_ | refine sgbs_nil ?_)
    | ((with_reducible refine (?_ : SW _ _ _ _ _ _ _)); first | refine sw_vals ?_ | refine sw_zipT (by assumption) ?_ | refine sw_range (by assumption) ?_ | refine sw_seq ?_)
    | ((with_reducible refine (?_ : OpV _ _ _ _ _ _ _ _)); first | refine ov_eqN ?_ | refine ov_neN ?_ | refine ov_inN ?_ | refine ov_ninN ?_ | refine ov_inNT ?_ | refine ov_ninNT ?_ | refine oi_add ?_ | refine oi_catT (by fail "z") ?_ | refine ov_cat (by fail "z") ?_ | refine ov_catT (by fail "z") ?_ | refine ov_add ?_ | refine ov_sub ?_ | refine ov_lt ?_ | refine ov_le ?_ | refine ov_gt ?_ | refine ov_ge ?_ | refine ov_eqI ?_ | refine ov_neI ?_ | refine ov_eqS ?_ | refine ov_neS ?_ | refine ov_eqB ?_ | refine ov_neB ?_)
    | ((with_reducible refine (?_ : IxV _ _ _ _ _ _ _)); first | refine iv_cons ?_ | refine iv_consT ?_)
    | ((with_reducible refine (?_ : SlV _ _ _ _ _ _ _ _)); first | refine sv_fromL (by decide) ?_ | refine sv_fromT (by decide) ?_ | refine sv_toL (by decide) ?_ | refine sv_toT (by decide) ?_)
    | ((with_reducible refine (?_ : ClV _ _ _ _ _ _ _)); first | refine cv_anyM rfl ?_ | refine cv_allM rfl ?_ | refine cv_len rfl ?_ | refine cv_tuple rfl ?_ | refine cv_list rfl ?_ | refine cv_abs ?_ | refine cv_isStr rfl ?_ | refine cv_isTup rfl ?_ | refine cv_isInt rfl ?_ | refine cv_isBool rfl ?_ | refine cv_sum rfl ?_)
    | (with_reducible refine turn0I (fun _ _ _ _ _ _ => ?_)) | (with_reducible refine turn1I (fun _ _ _ _ _ _ => ?_)) | (with_reducible refine turnDI (fun _ _ _ _ _ _ => ?_)) | (with_reducible refine abI (fun _ _ _ _ _ => ?_)) | ((with_reducible show (if _ then _ else _)); first | refine iteT ?_ | refine iteF ?_) | ((with_reducible refine (?_ : And _ _)); refine And.intro (show _ ≤ sizeLine by fail "z") ?_) | ((with_reducible refine (?_ : Exists _)); refine ⟨_, rfl, ?_⟩))
namespace W
open PySem L2 D PyProof.Rows
section
variable {P : Program} {w : World} {K : PySem.W.Frag} {mg : Str → Option Value} {base : Heap}
abbrev D_lmerge (P : Program) (w : World) (K : PySem.W.Frag) (mg : Str → Option Value) (base : Heap) : Prop := DefOk P w K mg base 1 "_law_merge" ["_law_lists"] (sp_lmerge K)
abbrev D_some (P : Program) (w : World) (K : PySem.W.Frag) (mg : Str → Option Value) (base : Heap) : Prop := DefOk P w K mg base 2 "_law_some" ["_law_bag_here", "_law_things", "_law_most"] (sp_some K)
abbrev sp_kinds (K : PySem.W.Frag) : Sp := spG K (fun x : Addr × Nat × List Nm => [.raw (.ref x.1), nL x.2.2]) (fun x => [(x.1, .bag x.2.1)]) (fun x => x.2.2.Nodup ∧ x.2.2.length ≤ 8 ∧ x.2.1 + 40 ≤ LIM)
  (fun x c' d => ∃ n pa pl G, n ≤ x.2.1 + 40 ∧ Built G ∧ G.map (·.1) = x.2.2 ∧ c' = [(x.1, .bag n), (pa, .dk (kbD G)), (pl, .dk (lnD G))] ∧ d = .tup [.raw (.ref pa), .raw (.ref pl)]) (fun _ _ _ => False)
theorem ok_kinds {f : Addr} {fd : FuncData} (Fu : Fun K "_law_kinds" "_law_kinds" s__law_kinds f fd) (T : Txt mg) (Dm : D_lmerge P w K mg base) (Ds : D_some P w K mg base) : FnOk P w K mg base (L2.CX P w) 3 f fd ["_law_bag_here", "_law_names_here"] (sp_kinds K) := by
  refine fn_G Fu sc__law_kinds (fun a => rfl) (fun cdv A outer s H E F x hp hr xt => ?_)
  obtain ⟨b, n, l⟩ := x
  obtain ⟨hnd, hl, hn⟩ := hp
  have hnd : l.Nodup := hnd
  have hl : l.length ≤ 8 := hl
  have hn : n + 40 ≤ LIM := hn
  have nd := sc__law_kinds.nd
  have hen := T.enumerate
  have hbig := big_line
  refine ss_cons (s_asg (se_tup ?_))
  refine sa_cons (se_dnew fun pa => ?_)
  refine sa_cons (se_dnew fun pl => ?_)
  repeat fail "e"
  refine ss_cons (s_for (passes_of rfl) rfl (sw_enum hen ?_))
  repeat fail "e"
  rw [enumD_map]
  refine for_t (fun rest Γ c => ∃ n' G u4 u5 u6, Γ = [.dat (.raw (.ref b)), .dat (nL l), .dat (.raw (.ref pa)), .dat (.raw (.ref pl)), u4, u5, u6, .un] ∧ c = [(b, .bag n'), (pa, .dk (kbD G)), (pl, .dk (lnD G))] ∧ n' + 5 * rest.length ≤ n + 40 ∧ Built G ∧ G.map (·.1) ++ rest.map (·.1) = l) ⟨n, [], _, _, _, rfl, rfl, by rw [List.length_zipIdx]; omega, .nil, by simp⟩ ?_ ?_
  · rintro pre ⟨x, i⟩ rest Γ c hl' ⟨n', G, u4, u5, u6, rfl, rfl, hn', hG, hGl⟩
    repeat fail "e"
    have hz : l = l.take i ++ x :: rest.map (·.1) := zip_cut hl'
    have hil : i < l.length := (zip_rest hl').2.1
    have hpre : G.map (·.1) = l.take i := by
      have e1 : G.map (·.1) ++ x :: rest.map (·.1) = l.take i ++ x :: rest.map (·.1) := by rw [← hz]; exact hGl
      exact List.append_cancel_right e1
    have hLn := hG.lines
    rw [List.length_cons] at hn'
    refine ss_cons (s_dput (hu_of hr) (se_fB 0 Ds (hr.mono (by decide)) ?_))
    repeat fail "e"
    refine sv_toL (by omega) ?_
    repeat fail "e"
    refine ⟨b, n', (l.take i, 3), rfl, rfl, ⟨?_, ?_, (show (0 : Int) ≤ 3 by decide), (show (3 : Int) ≤ 100 by decide)⟩, ?_, ?_⟩
    · exact hnd.sublist (List.take_sublist _ _)
    · rw [List.length_take]; omega
    · show n' + 4 ≤ LIM; omega
    rintro _ ⟨r, rfl, hr1, hr2, hr3⟩
    have hr3 : (r.length : Int) ≤ 3 := hr3
    have hxG : hasG G x = false := by
      cases hq : hasG G x with
      | false => rfl
      | true =>
        have h1 := hasG_iff.mp hq
        rw [hpre] at h1
        rw [hz] at hnd
        exact absurd rfl ((List.nodup_append.mp hnd).2.2 x h1 x (List.mem_cons_self ..))
    have hGlen : G.length = i := by
      have := congrArg List.length hpre
      rw [List.length_map, List.length_take] at this
      omega
    have hB : BasesOk G r := ⟨by omega, hr1, fun y hy => hasG_iff.mpr (by rw [hpre]; exact hr2 y hy)⟩
    repeat fail "e"
    refine ⟨1, _, nK x, rfl, rfl, by rw [List.length_map]; omega, ?_⟩
    refine ss_cons (s_st nd (se_fP Dm (hr.mono (by decide)) ?_))
    repeat fail "e"
    refine iv_cel 1 (hu_of hr) rfl rfl dval_dput ?_
    repeat fail "e"
    refine lcM (fun y => nT (lineG G y)) (by fail "z") ?_ ?_
    · intro y hy
      repeat fail "e"
      refine iv_cel 2 (hu_of hr) rfl rfl (line_val (hB.2.2 y hy)) ?_
      exact ⟨rfl, rfl⟩
    repeat fail "e"
    refine iv_cel 1 (hu_of hr) rfl rfl dval_dput ?_
    repeat fail "e"
    refine ⟨listsG G r, ?_, lists_ok (hLn.lok (by omega)) hB.1, ?_⟩
    · unfold listsG; rw [lltD, List.map_append, List.map_map]; rfl
    rintro _ rfl
    refine ss_mid (fun Γ cc => ∃ (r' m : List Nm), (merge (listsG G r') = some m ∧ BasesOk G r' ∧ m.length ≤ 10000) ∧ Γ = [.dat (.raw (.ref b)), .dat (nL l), .dat (.raw (.ref pa)), .dat (.raw (.ref pl)), .dat (.int (i : Nat)), .dat (nD x), .dat (nT m), .un] ∧ cc = [(b, .bag (n' + 4)), (pa, .dk (dput (kbD G) (nK x) (nT r'))), (pl, .dk (lnD G))]) (s_if ?_) ?_
    · repeat fail
      refine ov_isN (by cases merge (listsG G r) <;> exact fun _ z => nomatch z) ?_
      repeat fail
      cases hm : merge (listsG G r) with
      | none =>
        cases r with
        | nil => exact nomatch (show (some [] : Option (List Nm)) = none from hm)
        | cons y r =>
          have hy := hB.2.2 y (List.mem_cons_self ..)
          refine iteTr rfl ?_
          refine ss_cons (s_dput (hu_of hr) ?_)
          repeat fail "e"
          refine iv_cel 1 (hu_of hr) rfl rfl dval_dput ?_
          repeat fail "e"
          refine ⟨1, _, nK x, rfl, rfl, Nat.lt_of_le_of_lt (dput_length _ _ _) (by rw [List.length_map]; omega), ?_⟩
          refine ss_one (s_st nd ?_)
          repeat fail "e"
          refine iv_cel 1 (hu_of hr) rfl rfl dval_dput ?_
          repeat fail "e"
          refine iv_cel 2 (hu_of hr) rfl rfl (line_val hy) ?_
          have hly := hLn.len hy
          refine ⟨[y], lineG G y, ⟨hLn.one hy, ⟨(show 1 ≤ 10 by decide), by simp, fun z hz => by rw [List.mem_singleton.mp hz]; exact hy⟩, by omega⟩, rfl, ?_⟩
          show [(b, Cel.bag (n' + 4)), (pa, .dk (dput (dput (kbD G) (nK x) _) (nK x) (nT [y]))), (pl, .dk (lnD G))] = _
          rw [dput_dput]
      | some m =>
        refine iteFr rfl ?_
        exact ss_nil ⟨r, m, ⟨hm, hB, merge_len (lists_ok (hLn.lok (by omega)) hB.1) hm⟩, rfl, rfl⟩
    rintro Γ cc ⟨r', m, ⟨hm, hB', hml⟩, rfl, rfl⟩
    refine ss_one (s_dput (hu_of hr) ?_)
    repeat fail "e"
    refine ⟨2, _, nK x, rfl, rfl, by rw [List.length_map]; omega, ?_⟩
    refine ⟨n' + 4, G ++ [(x, r', x :: m)], _, _, _, rfl, ?_, by omega, .snoc hG hxG hB' hm, ?_⟩
    · have e1 : dput (kbD G) (nK x) (nT r') = kbD (G ++ [(x, r', x :: m)]) := put_kb hxG (fun k => nT k.2.1) (x, r', x :: m) rfl
      have e2 : dput (lnD G) (nK x) (nT (x :: m)) = lnD (G ++ [(x, r', x :: m)]) := put_kb hxG (fun k => nT k.2.2) (x, r', x :: m) rfl
      show [(b, Cel.bag (n' + 4)), (pa, .dk (dput (kbD G) (nK x) (nT r'))), (pl, .dk (dput (lnD G) (nK x) (nT (x :: m))))] = _
      rw [e1, e2]
    · rw [List.map_append, List.append_assoc]; exact hGl
  · rintro Γ c ⟨n', G, u4, u5, u6, rfl, rfl, hn', hG, hGl⟩
    repeat fail
    rw [List.map_nil, List.append_nil] at hGl
    exact ⟨n', pa, pl, G, by simp at hn'; omega, hG, hGl, rfl, rfl⟩
end
end W
end
section
set_option linter.all false
namespace W
open PySem L2 D PyProof.Rows
/-- what stands ahead of a kind was built, and the kind upon it -/
theorem Built.cut {G : Reg} (h : Built G) : ∀ (done : Reg) (k : Kd) (rest : Reg), G = done ++ k :: rest → Built done ∧ hasG done k.1 = false ∧ BasesOk done k.2.1 ∧ ∃ m, merge (listsG done k.2.1) = some m ∧ k.2.2 = k.1 :: m := by
  induction h with
  | nil =>
    intro done k rest e
    have := congrArg List.length e
    simp at this
  | @snoc G x l m hb hx hB hm ih =>
    intro done k rest e
    rcases List.append_eq_append_iff.mp e with ⟨t, h1, h2⟩ | ⟨t, h1, h2⟩
    · cases t with
      | nil =>
        rw [List.append_nil] at h1
        simp at h2
        obtain ⟨rfl, rfl⟩ := h2
        subst h1
        exact ⟨hb, hx, hB, m, hm, rfl⟩
      | cons u t => simp at h2
    · cases t with
      | nil =>
        rw [List.append_nil] at h1
        simp at h2
        obtain ⟨rfl, rfl⟩ := h2
        subst h1
        exact ⟨hb, hx, hB, m, hm, rfl⟩
      | cons u t =>
        rw [List.cons_append] at h2
        injection h2 with h2 h3
        subst h2
        exact ih done k t h1
/-- a base list that has a line -/
def futB (G : Reg) (l : List Nm) : Bool := (merge (listsG G l)).isSome
/-- a part of a base list that has a line has one -/
theorem LinesG.part {G : Reg} (h : LinesG G) {p q : List Nm} (hB : BasesOk G q) (hq : futB G q = true) (hs : p.Sublist q) : futB G p = true := by
  obtain ⟨m, hm⟩ := Option.isSome_iff_exists.mp hq
  have M := h.mg hB hm
  have hr := ranked_sub (mg_ranked M) (R' := listsG G p) fun r' hr' => by
    unfold listsG at hr' ⊢
    rcases List.mem_append.mp hr' with z | z
    · exact ⟨r', List.mem_append_left _ (by
        obtain ⟨y, hy, rfl⟩ := List.mem_map.mp z
        exact List.mem_map.mpr ⟨y, hs.subset hy, rfl⟩), List.Sublist.refl _⟩
    · rw [List.mem_singleton.mp z]
      exact ⟨q, List.mem_append_right _ (List.mem_singleton.mpr rfl), hs⟩
  obtain ⟨m', hm'⟩ := merge_some hr
  unfold futB
  rw [hm']; rfl
theorem BasesOk.part {G : Reg} {p q : List Nm} (hB : BasesOk G q) (hs : p.Sublist q) : BasesOk G p := ⟨Nat.le_trans hs.length_le hB.1, hB.2.1.sublist hs, fun y hy => hB.2.2 y (hs.subset hy)⟩
def subs : List Nm → Nat → List (List Nm)
  | _, 0 => [[]]
  | [], _ + 1 => []
  | x :: l, s + 1 => (subs l s).map (x :: ·) ++ subs l (s + 1)
theorem mem_subs : ∀ {l : List Nm} {s : Nat} {p : List Nm}, p ∈ subs l s ↔ p.Sublist l ∧ p.length = s
  | l, 0, p => by
    unfold subs
    rw [List.mem_singleton]
    exact ⟨fun h => by subst h; exact ⟨List.nil_sublist _, rfl⟩, fun h => List.eq_nil_of_length_eq_zero h.2⟩
  | [], s + 1, p => by
    unfold subs
    exact ⟨(fun h => nomatch h), fun h => by
      have := List.sublist_nil.mp h.1
      rw [this] at h; cases h.2⟩
  | x :: l, s + 1, p => by
    unfold subs
    rw [List.mem_append, List.mem_map]
    constructor
    · rintro (⟨q, hq, rfl⟩ | h)
      · obtain ⟨h1, h2⟩ := mem_subs.mp hq
        exact ⟨h1.cons_cons x, by rw [List.length_cons, h2]⟩
      · obtain ⟨h1, h2⟩ := mem_subs.mp h
        exact ⟨h1.cons x, h2⟩
    · rintro ⟨h1, h2⟩
      cases h1 with
      | cons _ h => exact .inr (mem_subs.mpr ⟨h, h2⟩)
      | @cons_cons q _ _ h => exact .inl ⟨q, mem_subs.mpr ⟨h, by simpa using h2⟩, rfl⟩
theorem len_subs : ∀ (l : List Nm) (s : Nat), (subs l s).length ≤ 2 ^ l.length
  | l, 0 => by unfold subs; exact Nat.one_le_two_pow
  | [], s + 1 => by unfold subs; exact Nat.zero_le _
  | x :: l, s + 1 => by
    unfold subs
    have h1 := len_subs l s
    have h2 := len_subs l (s + 1)
    rw [List.length_append, List.length_map, List.length_cons, Nat.pow_succ]
    omega
theorem subs_short : ∀ {l : List Nm} {s : Nat}, l.length < s → subs l s = []
  | l, 0, h => absurd h (Nat.not_lt_zero _)
  | [], s + 1, _ => rfl
  | x :: l, s + 1, h => by
    rw [List.length_cons] at h
    unfold subs
    rw [subs_short (l := l) (s := s) (by omega), subs_short (l := l) (s := s + 1) (by omega)]; rfl
theorem subs_drop {l : List Nm} {i s : Nat} (hi : i < l.length) : subs (l.drop i) (s + 1) = (subs (l.drop (i + 1)) s).map (l[i] :: ·) ++ subs (l.drop (i + 1)) (s + 1) := by
  rw [List.drop_eq_getElem_cons hi]
  conv => lhs; unfold subs
end W
end
section
set_option Elab.async false
set_option linter.all false
set_option maxRecDepth 100000
namespace D
open PySem L2 PyProof.Rows
theorem str_ext2 {a b : Str} (h : a.cps.toList = b.cps.toList) : a = b := by
  cases a; cases b; exact congrArg Str.mk (Array.toList_inj.mp h)
theorem eqvNm : ∀ a b : List Nm, PyData.eqvAll (pys (a.map nD)) (pys (b.map nD)) = decide (a = b)
  | [], [] => rfl
  | [], _ :: _ => rfl
  | _ :: _, [] => rfl
  | x :: a, y :: b => by
    show (PyData.eqv (.str x.1) (.str y.1) && PyData.eqvAll (pys (a.map nD)) (pys (b.map nD))) = _
    rw [eqvNm a b]
    have h : PyData.eqv (.str x.1) (.str y.1) = decide (x = y) := by
      rw [← nm_eq x y]
      by_cases e : x.1 = y.1
      · rw [e]; simp [PyData.eqv]
      · have : ¬ x.1.cps.toList = y.1.cps.toList := fun z => e (str_ext2 z)
        simp [PyData.eqv, e, this]
    rw [h]
    by_cases e1 : x = y <;> by_cases e2 : a = b <;> simp [e1, e2]
theorem eqdT (a b : List Nm) : eqd (nT a) (nT b) = decide (a = b) := eqvNm a b
section
variable {F : Fm} {X : Cx} {Γ : List Sl} {c : Cells} {P : Cells → Dt → Prop}
theorem ov_neNT {a b : List Nm} (hu : X.A.units + 64 < cLine) (p : P c (.bl (!decide (a = b)))) : OpV F X Γ c (compareOp .NotEq) (nT a) (nT b) P := ov_neD hu (fit_nT a) (fit_nT b) (by rw [eqdT]; exact p)
end
end D
end
section
set_option Elab.async false
set_option linter.all false
set_option maxRecDepth 100000
set_option maxHeartbeats 2000000
namespace D
open PySem PySem.Spec L2 PyProof.Rows
section
variable {M : Model} {A : Around} {E : Value → Shared → Prop} {s : Shared}
theorem wpAny_inplaceOp_iconcat {a b : Value} {T id : String} {Q : Value → Shared → Prop} (ha : s.TypeIs a T) (hb : s.TypeIs b T)
    (hfi : fillsInplaceSlot (.type T) "add" (Operator.Add == .Add) = pure false) (hfill : fillsNumberSlot (.type T) "add" = pure false) (hseq : seqSlot? (.type T) (dunderI "add") = pure (some (.builtin id)))
    (hc : wpAny M A (call (.builtin id) [a, b]) Q E s) : wpAny M A (inplaceOp .Add a b) Q E s := by
  unfold inplaceOp
  refine wpAny_holding ?_
  refine wpAny_bind (wpAny_typeOf ha (wpAny_bind (wpAny_of_eq hfi ?_)))
  show wpAny M A (if false = true then _ else _) Q E s
  rw [if_neg Bool.false_ne_true]
  refine wpAny_bind (wpAny_binaryOp1_none (nm := "add") ha hb hfill ?_)
  refine wpAny_bind (wpAny_of_eq hseq ?_)
  exact wpAny_bind (wpAny_rule hc)
end
theorem li_fi : fillsInplaceSlot (.type "list") "add" (Operator.Add == .Add) = pure false := by rfl
theorem li_fill : fillsNumberSlot (.type "list") "add" = pure false := by rfl
theorem li_seq : seqSlot? (.type "list") (dunderI "add") = pure (some (.builtin "list.__iadd__")) := by rfl
section
variable {X : Cx}
def rICatL : R2 := fun x y H Q => ∃ l b xs zs, x = .ref l ∧ y = .ref b ∧ H l = some (.lst xs) ∧ H b = some (.lst zs) ∧ xs.length + zs.length ≤ sizeLine ∧ Q (.ref l) (upd H l (.lst (xs ++ zs)))
theorem iop_catL : OpR X (inplaceOp .Add) rICatL := fun pins s σ H x y v u Q I rx ry ⟨l, b, xs, zs, ex, ey, hH, hB, hz, q⟩ => by
  subst ex ey
  cases rx
  cases ry
  obtain ⟨z, its, n, r, hl, e⟩ := I.lstM hH
  obtain ⟨z2, its2, n2, r2, hl2, e2⟩ := I.lstM hB
  have hsz : its.toArray.size + its2.toArray.size ≤ sizeLine := by rw [List.size_toArray, List.size_toArray]; omega
  have hlong : ¬ (!its.toArray.isEmpty && Builtin.List.listTooLong (its.toArray.size + its2.toArray.size)) = true := by
    rw [L2.notLongL hsz, Bool.and_false]
    exact Bool.false_ne_true
  refine wpAny_inplaceOp_iconcat (T := "list") ⟨_, e, rfl⟩ ⟨_, e2, rfl⟩ li_fi li_fill li_seq ?_
  refine call_meets F.slot_list_iadd ⟨_, e, rfl⟩ F.entry_list_iadd (F.args_list_iadd_2 _ _)
    (AutoSeq1.list___iadd___list_list_0 l its.toArray n b its2.toArray n2 hlong (by rw [List.size_toArray]; omega) (by omega)) ⟨e, e2, ?_⟩
  refine ⟨.ref l, _, I.lset (its' := its ++ its2) hH e (by simp) (r.append r2) ?_, rfl, q⟩
  rw [List.length_append]
  omega
end
section
variable {F : Fm} {X : Cx} {Γ : List Sl} {c : Cells} {P : Cells → Dt → Prop}
theorem oi_catLC (j : Nat) {a : Addr} {l m : List Dt} (hj : c[j]? = some (a, .lst l)) (hz : l.length + m.length ≤ sizeLine) (p : P (c.set j (a, .lst (l ++ m))) (.raw (.ref a))) : OpV F X Γ c (inplaceOp .Add) (.raw (.ref a)) (.lst m) P :=
  OpV.of iop_catL fun σ H x y Q S h1 h2 k => by
    cases h1
    obtain ⟨xs, ha, t⟩ := S.cat hj
    cases h2 with
    | lst b u =>
      refine ⟨a, _, xs, _, rfl, rfl, ha, (of_mask b).2, by rw [t.length, u.length]; exact hz, ?_⟩
      obtain ⟨S2, e2⟩ := S.updC (q' := .lst (l ++ m)) (o := .lst (xs ++ _)) hj rfl rfl ⟨_, upd_same, t.append u⟩
      exact k _ _ _ _ p S2 e2 (.raw _)
end
end D
end
section
set_option Elab.async false
set_option linter.all false
set_option maxRecDepth 100000
set_option maxHeartbeats 2000000
namespace D
open PySem L2 PyProof.Rows PyProof
open PySem.W (EachIs AllAlike Sortable dataLe list_sort_data alike alikeAll)
abbrev kN (l : List Nm) : List L2.Key := l.map fun x => .inr x.1
def encT (l : List Nm) : PyData := encK (kN l)
theorem alike_names : ∀ a b : List Nm, alikeAll ((kN a).map kP) ((kN b).map kP) = true
  | [], _ => by simp [alikeAll]
  | _ :: _, [] => by simp [alikeAll]
  | x :: a, y :: b => by
    show (alike (.str x.1) (.str y.1) && alikeAll ((kN a).map kP) ((kN b).map kP)) = true
    rw [alike_names a b]; simp [alike]
theorem alike_encT (a b : List Nm) : alike (encT a) (encT b) = true := by
  show alike (.tuple _) (.tuple _) = true
  unfold alike
  exact alike_names a b
section
variable {X : Cx}
def rSortTT (K : PySem.W.Frag) : List V → Hp → VK → Prop := fun xs H Q => ∃ (a : Addr) (bs : List (Addr × List Nm)), xs = [.ref a] ∧ SqL K H a (bs.map fun b => V.ref b.1) ∧ (∀ b ∈ bs, SqF K H b.1 (b.2.map fun x => V.str x.1) ∧ b.2 ≠ []) ∧
  ∀ p : Addr, H p = none → Q (.ref p) (upd H p (.lst ((bs.mergeSort (dataLe false fun b : Addr × List Nm => encT b.2)).map fun b => V.ref b.1)))
theorem each_refs {H : Heap} : ∀ {bs : List (Addr × List Nm)} {its : List Value}, Vals (bs.map fun b => V.ref b.1) its → EachIs (fun v b => v = Value.ref b.1) its bs
  | [], _, .nil => .nil
  | b :: bs, _, .cons r t => .cons r (each_refs (H := H) t)
theorem vals_refs : ∀ {out : List Value} {zs : List (Addr × List Nm)}, EachIs (fun v b => v = Value.ref b.1) out zs → Vals (zs.map fun b => V.ref b.1) out
  | _, _, .nil => .nil
  | _, _, .cons h t => .cons h (vals_refs t)
theorem call_sortedTT (hu : X.A.units + 16 < cLine) : CallR X (.builtin "sorted") (rSortTT X.K) := fun pn sa sg HH xs us QQ I r ⟨a, bs, ex, hq, hb, q⟩ => by
  subst ex
  rw [Vals.ref1 r]
  obtain ⟨its, rv, ⟨⟨cls, dd, data, sl⟩, n, ho, hc, hdn, hd⟩, hz⟩ := I.list hq
  simp only at hc hd hdn
  have hal : its.length = bs.length := by have := rv.length; rw [List.length_map] at this; exact this.symm
  rw [List.length_map] at hz
  refine Calls.call_function_entry PyProof.Rows.kind_sorted PyProof.Rows.plain_sorted PyProof.Rows.entry_sorted (PyProof.Rows.args_sorted1 _) ?_
  unfold Builtin.«sorted»
  refine wpAny_bind (wpAny_pure ?_)
  refine wpAny_bind (wpAny_collect_seq a (.inl rfl) ho hc hd (fun h' hk => ?_) (by rw [List.size_toArray, hal]; exact hz))
  have I1 : Inv X pn sg HH { sa with heap := h' } := I.kept (t' := sa.toks) hk
  refine wpAny_bind (wpAny_newList ?_ (by show its.length ≤ _; rw [hal]; exact hz))
  have hoL : (h'.push (seqObj "list" its.toArray 0)).get? h'.objs.size = some (seqObj "list" its.toArray 0) := Heap.get?_push_size _ rfl
  show wpAny _ _ _ _ _ { sa with heap := h'.push (seqObj "list" its.toArray 0) }
  have I2 : Inv X pn sg HH { sa with heap := h'.push (seqObj "list" its.toArray 0) } := I1.kept (t' := sa.toks) fun b o e => Heap.get?_push_of_some _ e
  have hR : EachIs (fun v (b : Addr × List Nm) => v = Value.ref b.1) its bs := each_refs (H := h') rv
  have hR2 : EachIs (fun v (b : Addr × List Nm) => v = Value.ref b.1 ∧ b ∈ bs) its bs := each_at hal fun i v b hv hb' => by
    have e := hR
    exact ⟨by
      clear hq q
      revert hv hb'
      have : ∀ {l : List Value} {m : List (Addr × List Nm)} (i : Nat), EachIs (fun v (b : Addr × List Nm) => v = Value.ref b.1) l m → l[i]? = some v → m[i]? = some b → v = Value.ref b.1 := by
        intro l m i h
        induction h generalizing i with
        | nil => intro h; simp at h
        | cons h t ih =>
          intro h1 h2
          cases i with
          | zero => simp at h1 h2; rw [← h1, ← h2]; exact h
          | succ i => exact ih i (by simpa using h1) (by simpa using h2)
      exact this i e, List.mem_of_getElem? hb'⟩
  have hE : EachIs (fun v (b : Addr × List Nm) => ∃ as, Reads (h'.push (seqObj "list" its.toArray 0)) v (encT b.2) as ∧ h'.objs.size ∉ as) its bs := hR2.mono fun v b ⟨e1, e2⟩ => by
    subst e1
    obtain ⟨us, rv2, ⟨o, h1, h2, n, h3⟩, _⟩ := I2.tuple (hb b e2).1.t
    have e : (b.2.map fun x => V.str x.1) = (kN b.2).map kV := by unfold kN; rw [List.map_map]; rfl
    rw [e] at rv2
    exact ⟨[], .tuple h1 h2 h3 (reads_keys rv2), fun z => nomatch z⟩
  have hal2 : AllAlike (bs.map fun b : Addr × List Nm => encT b.2) := fun d hd d' hd' => by
    obtain ⟨b, _, rfl⟩ := List.mem_map.mp hd
    obtain ⟨b', _, rfl⟩ := List.mem_map.mp hd'
    exact alike_encT _ _
  have hso : Sortable (bs.map fun b : Addr × List Nm => encT b.2) := .inl fun d hd => by
    obtain ⟨b, hbm, rfl⟩ := List.mem_map.mp hd
    have hne := (hb b hbm).2
    cases h : b.2 with
    | nil => exact absurd h hne
    | cons x l => exact ⟨.str x.1, (kN l).map kP, rfl⟩
  refine wpAny_bind (wpAny_holding (list_sort_data (enc := fun b : Addr × List Nm => encT b.2) (n := 0) (a := h'.objs.size) (vs := its) (bs := bs) (s := { sa with heap := h'.push (seqObj "list" its.toArray 0) }) hoL hR hE hal2 hso hz (fun b _ => ?_) fun out hol ho2 => ?_))
  · have := depth_encK (kN b.2)
    show X.A.in1.units + 1 + (encK (kN b.2)).depth < cLine
    have e : X.A.in1.units ≤ X.A.units + 1 := by first | exact Nat.le_refl _ | exact Nat.le_succ _ | (unfold Around.in1; simp)
    omega
  have g1 := vals_refs ho2
  obtain ⟨e', he'⟩ := PyProof.Rows.sortedHeap_at (vs := its) (out := out.toArray) hoL
  have hlz : ((bs.mergeSort (dataLe false fun b : Addr × List Nm => encT b.2)).map fun b => V.ref b.1).length ≤ sizeLine := by
    rw [List.length_map, List.length_mergeSort]; exact hz
  refine wpAny_pure ⟨_, rfl, .ref h'.objs.size, upd HH h'.objs.size (.lst ((bs.mergeSort (dataLe false fun b : Addr × List Nm => encT b.2)).map fun b => V.ref b.1)), I1.laid (t' := sa.toks) (fun b u e => ?_) (Nat.le_refl _)
    (show ObjOk X.prog X.w _ _ _ (.lst _) from ⟨hlz, out, e', g1, he'⟩), rfl, q _ (I1.hok.fresh (Nat.le_refl _))⟩
  have hb' : b < h'.objs.size := Heap.lt_size e
  rw [PyProof.Rows.sortedHeap_old (Nat.ne_of_lt hb') (by rw [size_push']; exact Nat.lt_succ_of_lt hb')]
  exact Heap.get?_push_of_some _ e
end
/-- the order of tuples of names -/
def leT (a b : List Nm) : Bool := dataLe false encT a b
def sortT (L : List (List Nm)) : List (List Nm) := L.mergeSort leT
theorem sortT_perm (L : List (List Nm)) : (sortT L).Perm L := List.mergeSort_perm _ _
section
variable {F : Fm} {X : Cx} {Γ : List Sl} {c : Cells} {P : Cells → Dt → Prop}
theorem dvs_tups {K : PySem.W.Frag} {H : Hp} : ∀ {xs : List V} {L : List (List Nm)}, DVs K H xs (L.map nT) → ∃ bs : List (Addr × List Nm), xs = bs.map (fun b => V.ref b.1) ∧ L = bs.map (·.2) ∧ ∀ b ∈ bs, SqF K H b.1 (b.2.map fun x => V.str x.1)
  | _, [], .nil => ⟨[], rfl, rfl, fun _ h => nomatch h⟩
  | _, l :: L, .cons (.tup (a := a) h t) u => by
    obtain ⟨bs, e1, e2, e3⟩ := dvs_tups u
    refine ⟨(a, l) :: bs, by rw [e1]; rfl, by rw [e2]; rfl, fun b hb => ?_⟩
    rcases List.mem_cons.mp hb with e | hb
    · subst e
      have el : l.map nD = (l.map (·.1)).map Dt.str := by rw [List.map_map]; rfl
      rw [el] at t
      have := DVs.of_strs t
      rw [this, List.map_map] at h
      exact h
    · exact e3 b hb
theorem dvs_of_tups {K : PySem.W.Frag} {H : Hp} : ∀ {bs : List (Addr × List Nm)}, (∀ b ∈ bs, SqF K H b.1 (b.2.map fun x => V.str x.1)) → DVs K H (bs.map fun b => V.ref b.1) (bs.map fun b => nT b.2)
  | [], _ => .nil
  | b :: bs, h => by
    refine .cons (.tup (h b (List.mem_cons_self ..)) ?_) (dvs_of_tups fun y hy => h y (List.mem_cons_of_mem _ hy))
    have := DVs.strs (K := K) (H := H) (b.2.map (·.1))
    rw [List.map_map, List.map_map] at this
    exact this
theorem cv_sortedTT {L : List (List Nm)} (hu : X.A.units + 16 < cLine) (hne : ∀ l ∈ L, l ≠ []) (p : P c (.lst ((sortT L).map nT))) : ClV F X Γ c (.builtin "sorted") [.lst (L.map nT)] P :=
  ClV.of (call_sortedTT hu) fun σ H vs Q S dvs k => by
    cases dvs with
    | cons dv t =>
      cases t
      cases dv with
      | lst ha t =>
        obtain ⟨bs, rfl, rfl, hb⟩ := dvs_tups t
        have e : (sortT (bs.map (·.2))).map nT = (bs.mergeSort (dataLe false fun b : Addr × List Nm => encT b.2)).map fun b => nT b.2 := by
          unfold sortT
          rw [← List.map_mergeSort (r := dataLe false fun b : Addr × List Nm => encT b.2) (s := leT) (f := fun b => b.2) (l := bs) fun a _ b _ => rfl, List.map_map]
          rfl
        rw [e] at p
        refine ⟨_, bs, rfl, .inl (.inl (of_mask ha).2), fun b hbm => ⟨(hb b hbm).mono (mask_ex _ _), hne b.2 (List.mem_map.mpr ⟨b, hbm, rfl⟩)⟩, fun q hq => ?_⟩
        refine k _ _ c _ p (S.new hq) (Kp.new (F := F) hq).hid (S.newL hq (dvs_of_tups fun b hbm => ?_))
        exact hb b ((List.mergeSort_perm _ _).mem_iff.mp hbm)
end
end D
end
section
set_option Elab.async false
set_option linter.all false
set_option maxRecDepth 100000
set_option maxHeartbeats 4000000
set_option pp.maxSteps 1500
open PySem L2 D PyProof.Rows
local macro_rules
  | `(tactic| fail "z") => `(tactic| ((try simp only [List.length_map, List.length_cons, List.length_nil, List.length_append, List.length_drop, List.length_take]); have := big_line; omega))
local macro_rules
  | `(tactic| fail) => `(tactic| first
    | ((with_reducible refine (?_ : SE _ _ _ _ _ _)); first | refine se_nm rfl ?_ | refine se_tyTuple (by assumption) ?_ | refine se_tyStr (by assumption) ?_ | refine se_tyInt (by assumption) ?_ | refine se_tyBool (by assumption) ?_ | refine se_int ?_ | refine se_str ?_ | refine se_non ?_ | refine se_bl ?_ | refine se_cmp ?_ | refine se_bin ?_ | refine se_backT ?_ | refine se_ix ?_ | refine se_slice ?_ | refine se_tup ?_ | refine se_lst ?_ | ((with_reducible refine (?_ : SE _ _ _ _ (.Call _ _ _ _) _)); first | refine se_any (by assumption) ?_ | refine se_all (by assumption) ?_ | refine se_len (by assumption) ?_ | refine se_min (by assumption) ?_ | refine se_max (by assumption) ?_ | refine se_sorted (by assumption) ?_ | refine se_isi (by assumption) ?_ | refine se_abs (by assumption) ?_ | refine se_sum (by assumption) ?_ | refine se_tupleC (by assumption) ?_ | refine se_listC (by assumption) ?_) | refine se_M rfl (by assumption) (blkOk_by rfl) ?_ | refine se_F rfl (by assumption) (blkOk_by rfl) ?_ | refine se_Dc rfl (by assumption) (blkOk_by rfl) ?_ | refine se_chain ?_ | refine se_indexN ?_ | refine se_not ?_ | refine se_if ?_ | refine se_one ?_ | refine se_and ?_ | refine se_or ?_ | refine se_neg ?_)
    | ((with_reducible refine (?_ : ST _ _ _ _ _ _)); first | refine st_cmp ?_ | refine st_chain ?_ | refine st_not ?_ | refine st_w (sw_and ?_) | refine st_w (sw_or ?_) | refine st_val ?_)
    | ((with_reducible refine (?_ : SWt _ _ _ _ _ _)); first | refine sw_and ?_ | refine sw_and1 ?_ | refine sw_or ?_ | refine sw_or1 ?_)
    | ((with_reducible refine (?_ : SA _ _ _ _ _ _)); first | refine sa_cons ?_ | refine sa_nil ?_)
    | ((with_reducible refine (?_ : SO _ _ _ _ _ _)); first | refine so_none ?_ | refine so_some ?_)
    | ((with_reducible refine (?_ : SS _ _ _ _ _ _)); first | refine ss_one ?_ | refine ss_cons ?_)
    | ((with_reducible refine (?_ : S1 _ _ _ _ _ _)); first | refine s_ret ?_ | refine s_if ?_ | refine s_M rfl (by assumption) (blkOk_by rfl) ?_ | refine s_F rfl (by assumption) (blkOk_by rfl) ?_ | refine s_Dc rfl (by assumption) (blkOk_by rfl) ?_ | refine s_st (by assumption) ?_ | refine s_aug (by assumption) rfl ?_ | refine s_asg ?_ | refine s_expr ?_)
    | ((with_reducible refine (?_ : SG _ _ _ _ _ _ _)); first | refine sg_nm (by assumption) ?_ | refine sg_par rfl ?_ | refine sg_tup rfl ?_)
    | ((with_reducible refine (?_ : SGs _ _ _ _ _ _ _)); first | refine sgs_cons ?_ | refine sgs_nil ?_)
    | ((with_reducible refine (?_ : SGb _ _ _ _ _ _ _ _)); first | refine sgb_nm (by assumption) ?_ (by first | exact vs_self | exact vs_one | exact vs_two) | refine sgb_par rfl ?_ | refine sgb_tup rfl ?_)
    | ((with_reducible refine (?_ : SGbs _ _ _ _ _ _ _ _)); first | refine sgbs_cons ?_ | refine sgbs_nil ?_)
    | ((with_reducible refine (?_ : SW _ _ _ _ _ _ _)); first | refine sw_vals ?_ | refine sw_zipT (by assumption) ?_ | refine sw_range (by assumption) ?_ | refine sw_seq ?_)
    | ((with_reducible refine (?_ : OpV _ _ _ _ _ _ _ _)); first | refine ov_eqN ?_ | refine ov_neN ?_ | refine ov_inN ?_ | refine ov_ninN ?_ | refine ov_inNT ?_ | refine ov_ninNT ?_ | refine oi_add ?_ | refine oi_catT (by fail "z") ?_ | refine ov_cat (by fail "z") ?_ | refine ov_catT (by fail "z") ?_ | refine ov_add ?_ | refine ov_sub ?_ | refine ov_lt ?_ | refine ov_le ?_ | refine ov_gt ?_ | refine ov_ge ?_ | refine ov_eqI ?_ | refine ov_neI ?_ | refine ov_eqS ?_ | refine ov_neS ?_ | refine ov_eqB ?_ | refine ov_neB ?_)
    | ((with_reducible refine (?_ : IxV _ _ _ _ _ _ _)); first | refine iv_cons ?_ | refine iv_consT ?_)
    | ((with_reducible refine (?_ : SlV _ _ _ _ _ _ _ _)); first | refine sv_fromL (by decide) ?_ | refine sv_fromT (by decide) ?_ | refine sv_toL (by decide) ?_ | refine sv_toT (by decide) ?_)
    | ((with_reducible refine (?_ : ClV _ _ _ _ _ _ _)); first | refine cv_anyM rfl ?_ | refine cv_allM rfl ?_ | refine cv_len rfl ?_ | refine cv_tuple rfl ?_ | refine cv_list rfl ?_ | refine cv_abs ?_ | refine cv_isStr rfl ?_ | refine cv_isTup rfl ?_ | refine cv_isInt rfl ?_ | refine cv_isBool rfl ?_ | refine cv_sum rfl ?_)
    | (with_reducible refine turn0I (fun _ _ _ _ _ _ => ?_)) | (with_reducible refine turn1I (fun _ _ _ _ _ _ => ?_)) | (with_reducible refine turnDI (fun _ _ _ _ _ _ => ?_)) | (with_reducible refine abI (fun _ _ _ _ _ => ?_)) | ((with_reducible show (if _ then _ else _)); first | refine iteT ?_ | refine iteF ?_) | ((with_reducible refine (?_ : And _ _)); refine And.intro (show _ ≤ sizeLine by fail "z") ?_) | ((with_reducible refine (?_ : Exists _)); refine ⟨_, rfl, ?_⟩))
local macro_rules
  | `(tactic| fail "e") => `(tactic| first
    | ((with_reducible refine (?_ : SE _ _ _ _ _ _)); first | refine se_nm rfl ?_ | refine se_tyTuple (by assumption) ?_ | refine se_tyStr (by assumption) ?_ | refine se_tyInt (by assumption) ?_ | refine se_tyBool (by assumption) ?_ | refine se_int ?_ | refine se_str ?_ | refine se_non ?_ | refine se_bl ?_ | refine se_cmp ?_ | refine se_bin ?_ | refine se_backT ?_ | refine se_ix ?_ | refine se_slice ?_ | refine se_tup ?_ | refine se_lst ?_ | ((with_reducible refine (?_ : SE _ _ _ _ (.Call _ _ _ _) _)); first | refine se_any (by assumption) ?_ | refine se_all (by assumption) ?_ | refine se_len (by assumption) ?_ | refine se_min (by assumption) ?_ | refine se_max (by assumption) ?_ | refine se_sorted (by assumption) ?_ | refine se_isi (by assumption) ?_ | refine se_abs (by assumption) ?_ | refine se_sum (by assumption) ?_ | refine se_tupleC (by assumption) ?_ | refine se_listC (by assumption) ?_) | refine se_M rfl (by assumption) (blkOk_by rfl) ?_ | refine se_F rfl (by assumption) (blkOk_by rfl) ?_ | refine se_Dc rfl (by assumption) (blkOk_by rfl) ?_ | refine se_chain ?_ | refine se_indexN ?_ | refine se_not ?_ | refine se_if ?_ | refine se_one ?_ | refine se_and ?_ | refine se_or ?_ | refine se_neg ?_)
    | ((with_reducible refine (?_ : ST _ _ _ _ _ _)); first | refine st_cmp ?_ | refine st_chain ?_ | refine st_not ?_ | refine st_w (sw_and ?_) | refine st_w (sw_or ?_) | refine st_val ?_)
    | ((with_reducible refine (?_ : SWt _ _ _ _ _ _)); first | refine sw_and ?_ | refine sw_and1 ?_ | refine sw_or ?_ | refine sw_or1 ?_)
    | ((with_reducible refine (?_ : SA _ _ _ _ _ _)); first | refine sa_cons ?_ | refine sa_nil ?_)
    | ((with_reducible refine (?_ : SO _ _ _ _ _ _)); first | refine so_none ?_ | refine so_some ?_)
    | ((with_reducible refine (?_ : SG _ _ _ _ _ _ _)); first | refine sg_nm (by assumption) ?_ | refine sg_par rfl ?_ | refine sg_tup rfl ?_)
    | ((with_reducible refine (?_ : SGs _ _ _ _ _ _ _)); first | refine sgs_cons ?_ | refine sgs_nil ?_)
    | ((with_reducible refine (?_ : SGb _ _ _ _ _ _ _ _)); first | refine sgb_nm (by assumption) ?_ (by first | exact vs_self | exact vs_one | exact vs_two) | refine sgb_par rfl ?_ | refine sgb_tup rfl ?_)
    | ((with_reducible refine (?_ : SGbs _ _ _ _ _ _ _ _)); first | refine sgbs_cons ?_ | refine sgbs_nil ?_)
    | ((with_reducible refine (?_ : SW _ _ _ _ _ _ _)); first | refine sw_vals ?_ | refine sw_zipT (by assumption) ?_ | refine sw_range (by assumption) ?_ | refine sw_seq ?_)
    | ((with_reducible refine (?_ : OpV _ _ _ _ _ _ _ _)); first | refine ov_eqN ?_ | refine ov_neN ?_ | refine ov_inN ?_ | refine ov_ninN ?_ | refine ov_inNT ?_ | refine ov_ninNT ?_ | refine oi_add ?_ | refine oi_catT (by fail "z") ?_ | refine ov_cat (by fail "z") ?_ | refine ov_catT (by fail "z") ?_ | refine ov_add ?_ | refine ov_sub ?_ | refine ov_lt ?_ | refine ov_le ?_ | refine ov_gt ?_ | refine ov_ge ?_ | refine ov_eqI ?_ | refine ov_neI ?_ | refine ov_eqS ?_ | refine ov_neS ?_ | refine ov_eqB ?_ | refine ov_neB ?_)
    | ((with_reducible refine (?_ : IxV _ _ _ _ _ _ _)); first | refine iv_cons ?_ | refine iv_consT ?_)
    | ((with_reducible refine (?_ : SlV _ _ _ _ _ _ _ _)); first | refine sv_fromL (by decide) ?_ | refine sv_fromT (by decide) ?_ | refine sv_toL (by decide) ?_ | refine sv_toT (by decide) ?_)
    | ((with_reducible refine (?_ : ClV _ _ _ _ _ _ _)); first | refine cv_anyM rfl ?_ | refine cv_allM rfl ?_ | refine cv_len rfl ?_ | refine cv_tuple rfl ?_ | refine cv_list rfl ?_ | refine cv_abs ?_ | refine cv_isStr rfl ?_ | refine cv_isTup rfl ?_ | refine cv_isInt rfl ?_ | refine cv_isBool rfl ?_ | refine cv_sum rfl ?_)
    | (with_reducible refine turn0I (fun _ _ _ _ _ _ => ?_)) | (with_reducible refine turn1I (fun _ _ _ _ _ _ => ?_)) | (with_reducible refine turnDI (fun _ _ _ _ _ _ => ?_)) | (with_reducible refine abI (fun _ _ _ _ _ => ?_)) | ((with_reducible show (if _ then _ else _)); first | refine iteT ?_ | refine iteF ?_) | ((with_reducible refine (?_ : And _ _)); refine And.intro (show _ ≤ sizeLine by fail "z") ?_) | ((with_reducible refine (?_ : Exists _)); refine ⟨_, rfl, ?_⟩))
namespace W
open PySem L2 D PyProof.Rows
theorem keys_kb (G : Reg) : keysD (kbD G) = G.map fun k => nD k.1 := by
  unfold keysD; rw [List.map_map]; rfl
section
variable {P : Program} {w : World} {K : PySem.W.Frag} {mg : Str → Option Value} {base : Heap} {C tb : Addr}
abbrev M_mkR (P : Program) (w : World) (K : PySem.W.Frag) (mg : Str → Option Value) (base : Heap) (C : Addr) : Prop := MkC P w K mg base 1 "Registry" C (initPost C)
abbrev sp_set (K : PySem.W.Frag) (C tb : Addr) : Sp := spG K (fun x : Reg × Dt × Addr => [.dct (kbD x.1), x.2.1, .raw (.ref x.2.2)]) (fun x => [(x.2.2, .dk []), tabC tb lamQ]) (fun x => Built x.1 ∧ x.1.length ≤ 9)
  (fun x c' d => ∃ (r : RA) (ps : Pst), (r.tb = tb ∧ PstOk ps ∧ ps.length ≤ 10) ∧ c' = (x.2.2, .dk []) :: regC C r x.1 ps ∧ d = .raw (.ref r.a)) (fun _ _ _ => False)
theorem ok_set {f : Addr} {fd : FuncData} (Fu : Fun K "_law_set" "_law_set" s__law_set f fd) (T : Txt mg) (R : RegF K C) (Mk' : M_mkR P w K mg base C) (Ma : M_add P w K mg base C tb) : FnOk P w K mg base (L2.CX P w) 6 f fd ["_law_above", "_law_lines", "_law_bodies"] (sp_set K C tb) := by
  refine fn_G Fu sc__law_set (fun a => rfl) (fun cdv A outer s H E F x hp hr xt => ?_)
  obtain ⟨G, ln, e⟩ := x
  obtain ⟨hG, hl⟩ := hp
  have hG : Built G := hG
  have hl : G.length ≤ 9 := hl
  have nd := sc__law_set.nd
  have hbig := big_line
  have hs := T.sorted
  refine ss_cons (s_st nd (se_make Mk' (hr.mono (by decide)) ?_))
  rintro a dx c' ⟨r0, rfl, rfl, rfl⟩
  obtain ⟨r, hr1, hr2⟩ : ∃ r : RA, r.a = r0.a ∧ r = ⟨r0.a, r0.dx, r0.p1, r0.p2, r0.p3, r0.p4, r0.p5, r0.p6, r0.p7, tb⟩ := ⟨⟨r0.a, r0.dx, r0.p1, r0.p2, r0.p3, r0.p4, r0.p5, r0.p6, r0.p7, tb⟩, rfl, rfl⟩
  have hrt : r.tb = tb := by rw [hr2]
  have ec : (regC C r0 [] []).take 8 = (regC C r [] []).take 8 := by rw [hr2]; rfl
  rw [ec, ← hr1]
  clear ec
  refine ss_perm (c' := (e, .dk []) :: regC C r [] []) ?_ ?_
  · refine .cons _ ?_
    rw [show regC C r [] [] = (regC C r [] []).take 8 ++ [tabC tb lamQ] by rw [← hrt]; rfl]
    exact List.perm_append_comm (l₁ := [tabC tb lamQ])
  refine ss_cons (s_for (passes_of rfl) rfl (sw_keys ?_))
  repeat fail "e"
  rw [keys_kb]
  refine for_t (fun rest Γ c => ∃ u4 ps done, Γ = [.dat (.dct (kbD G)), .dat ln, .dat (.raw (.ref e)), .dat (.raw (.ref r.a)), u4, .un] ∧ c = (e, .dk []) :: regC C r done ps ∧ done ++ rest = G ∧ PstOk ps ∧ ps.length = done.length) ⟨_, [], [], rfl, rfl, rfl, ⟨Nat.zero_le _, fun _ h => nomatch h⟩, rfl⟩ ?_ ?_
  · rintro pre k rest Γ c hcut ⟨u4, ps, done, rfl, rfl, hd, hps, hpl⟩
    obtain ⟨hb, hx', hB, m, hm, hk2⟩ := hG.cut done k rest hd.symm
    have hkG : k ∈ G := by rw [← hd]; simp
    have hbase : baseG G k.1 = k.2.1 := baseG_mem hG.lines.nd hkG
    have hdl : done.length + (rest.length + 1) = G.length := by rw [← hd, List.length_append]; rfl
    repeat fail "e"
    refine ss_one (s_expr (se_mG Ma R.cl (hr.mono (by decide)) XT.no ?_))
    repeat fail "e"
    refine ⟨1, r.a, r.dx, _, rfl, rfl, rfl, ?_⟩
    repeat fail "e"
    refine iv_dct (hu_of hr) rfl (base_val (hasG_mem hkG)) ?_
    rw [hbase]
    repeat fail "e"
    refine ⟨(r, done, ps, k.1, k.2.1), [(e, .dk [])], [], rfl, rfl, ⟨⟨hx', hB, (show done.length < 10 by omega), hb.lines.lok (by omega), by rw [hm]; rfl⟩, hrt, hps, (show ps.length < 10000 by omega)⟩, ?_, fun _ _ z => z.elim⟩
    rintro _ _ ⟨rfl, m', d', hm', hd', rfl⟩
    have hm2 : m' = m := Option.some.inj (hm'.symm.trans hm)
    subst hm2
    have ek : (k.1, k.2.1, k.1 :: m') = k := by rw [← hk2]
    refine ⟨_, ps ++ [d'], done ++ [k], rfl, ?_, by rw [List.append_assoc]; exact hd, ⟨by rw [List.length_append]; show ps.length + 1 ≤ _; omega, fun d hdm => ?_⟩, by rw [List.length_append, List.length_append, hpl]; rfl⟩
    · show (e, Cel.dk []) :: regC C r (done ++ [(k.1, k.2.1, k.1 :: m')]) (ps ++ [d']) = _
      rw [ek]
    · rcases List.mem_append.mp hdm with q | q
      · exact hps.2 d q
      · rw [List.mem_singleton.mp q]; exact hd'
  · rintro Γ c ⟨u4, ps, done, rfl, rfl, hd, hps, hpl⟩
    rw [List.append_nil] at hd
    subst hd
    refine ss_cons (s_for (passes_of rfl) rfl (sw_lst (se_sorted hs ?_)))
    repeat fail "e"
    refine cv_sortedDC (l := []) (f := fun _ => .non) 0 rfl rfl (by decide) fun ys hys _ => ?_
    obtain rfl : ys = [] := List.perm_nil.mp hys
    refine ⟨_, rfl, ?_⟩
    refine for_t (l := ([] : List Nm)) (enc := nD) (fun rest Γ c => rest = [] ∧ ∃ u4 u5, Γ = [.dat (.dct (kbD done)), .dat ln, .dat (.raw (.ref e)), .dat (.raw (.ref r.a)), u4, u5] ∧ c = (e, .dk []) :: regC C r done ps) ⟨rfl, _, _, rfl, rfl⟩ ?_ ?_
    · rintro pre x rest Γ c hl ⟨h, _⟩
      cases h
    · rintro Γ c ⟨_, u4, u5, rfl, rfl⟩
      repeat fail
      exact ⟨r, ps, ⟨hrt, hps, by omega⟩, rfl, rfl⟩
abbrev D_set (P : Program) (w : World) (K : PySem.W.Frag) (mg : Str → Option Value) (base : Heap) (C tb : Addr) : Prop := DefOk P w K mg base 6 "_law_set" ["_law_above", "_law_lines", "_law_bodies"] (sp_set K C tb)
abbrev sp_bases (K : PySem.W.Frag) : Sp := spB K (fun l : List Nm => [nL l]) (fun l => l.Nodup ∧ l ≠ [] ∧ l.length ≤ 10) (fun l => l.length + 1) (fun l z => ∃ r : List Nm, z = nT r ∧ r.Nodup ∧ r ≠ [] ∧ (∀ y ∈ r, y ∈ l) ∧ r.length ≤ l.length)
theorem ok_bases {f : Addr} {fd : FuncData} (Fu : Fun K "_law_bases" "_law_bases" s__law_bases f fd) (T : Txt mg) (Ds : D_some P w K mg base) : FnOk P w K mg base (L2.CX P w) 3 f fd ["_law_bag_here", "_law_names_here"] (sp_bases K) := by
  refine fn_B Fu sc__law_bases (fun a => rfl) (fun cdv A outer s H E F b c l hp hc hr => ?_)
  obtain ⟨hnd, hne, hl⟩ := hp
  have hc : c + (l.length + 1) ≤ LIM := hc
  have nd := sc__law_bases.nd
  have hlen := T.len
  refine ss_cons (s_st nd (se_fB 0 Ds (hr.mono (by decide)) ?_))
  repeat fail "e"
  refine ⟨b, c, (l, (l.length : Int)), rfl, by rw [List.length_map], ⟨hnd, by show l.length ≤ 100; omega, by show (0 : Int) ≤ l.length; omega, by show (l.length : Int) ≤ 100; omega⟩, by show c + ((l.length : Int).toNat + 1) ≤ LIM; omega, ?_⟩
  rintro _ ⟨r, rfl, hr1, hr2, hr3⟩
  have hr3 : (r.length : Int) ≤ l.length := hr3
  cases r with
  | cons y r =>
    repeat fail
    refine ov_neNT (a := y :: r) (b := []) hr.units ?_
    repeat fail "e"
    exact ⟨⟨_, by show c + ((l.length : Int).toNat + 1) ≤ c + (l.length + 1); omega, rfl⟩, y :: r, rfl, hr1, List.cons_ne_nil _ _, hr2, by omega⟩
  | nil =>
    cases l with
    | nil => exact absurd rfl hne
    | cons x l =>
      repeat fail
      refine ov_neNT (a := []) (b := []) hr.units ?_
      repeat fail "e"
      refine ⟨⟨_, by show c + (((x :: l).length : Int).toNat + 1) ≤ c + ((x :: l).length + 1); omega, rfl⟩, [x], rfl, by simp, by simp, fun y hy => by rw [List.mem_singleton.mp hy]; exact List.mem_cons_self .., by simp⟩
abbrev D_bases (P : Program) (w : World) (K : PySem.W.Frag) (mg : Str → Option Value) (base : Heap) : Prop := DefOk P w K mg base 3 "_law_bases" ["_law_bag_here", "_law_names_here"] (sp_bases K)
end
end W
end
section
set_option Elab.async false
set_option linter.all false
set_option maxRecDepth 100000
set_option maxHeartbeats 4000000
open PySem L2 D PyProof.Rows
local macro_rules
  | `(tactic| fail "z") => `(tactic| ((try simp only [List.length_map, List.length_cons, List.length_nil, List.length_append, List.length_drop, List.length_take]); have := big_line; omega))
local macro_rules
  | `(tactic| fail) => `(tactic| first
    | ((with_reducible refine (?_ : SE _ _ _ _ _ _)); first | refine se_nm rfl ?_ | refine se_tyTuple (by assumption) ?_ | refine se_tyStr (by assumption) ?_ | refine se_tyInt (by assumption) ?_ | refine se_tyBool (by assumption) ?_ | refine se_int ?_ | refine se_str ?_ | refine se_non ?_ | refine se_bl ?_ | refine se_cmp ?_ | refine se_bin ?_ | refine se_backT ?_ | refine se_ix ?_ | refine se_slice ?_ | refine se_tup ?_ | refine se_lst ?_ | ((with_reducible refine (?_ : SE _ _ _ _ (.Call _ _ _ _) _)); first | refine se_any (by assumption) ?_ | refine se_all (by assumption) ?_ | refine se_len (by assumption) ?_ | refine se_min (by assumption) ?_ | refine se_max (by assumption) ?_ | refine se_sorted (by assumption) ?_ | refine se_isi (by assumption) ?_ | refine se_abs (by assumption) ?_ | refine se_sum (by assumption) ?_ | refine se_tupleC (by assumption) ?_ | refine se_listC (by assumption) ?_) | refine se_M rfl (by assumption) (blkOk_by rfl) ?_ | refine se_F rfl (by assumption) (blkOk_by rfl) ?_ | refine se_Dc rfl (by assumption) (blkOk_by rfl) ?_ | refine se_chain ?_ | refine se_indexN ?_ | refine se_not ?_ | refine se_if ?_ | refine se_one ?_ | refine se_and ?_ | refine se_or ?_ | refine se_neg ?_)
    | ((with_reducible refine (?_ : ST _ _ _ _ _ _)); first | refine st_cmp ?_ | refine st_chain ?_ | refine st_not ?_ | refine st_w (sw_and ?_) | refine st_w (sw_or ?_) | refine st_val ?_)
    | ((with_reducible refine (?_ : SWt _ _ _ _ _ _)); first | refine sw_and ?_ | refine sw_and1 ?_ | refine sw_or ?_ | refine sw_or1 ?_)
    | ((with_reducible refine (?_ : SA _ _ _ _ _ _)); first | refine sa_cons ?_ | refine sa_nil ?_)
    | ((with_reducible refine (?_ : SO _ _ _ _ _ _)); first | refine so_none ?_ | refine so_some ?_)
    | ((with_reducible refine (?_ : SS _ _ _ _ _ _)); first | refine ss_one ?_ | refine ss_cons ?_)
    | ((with_reducible refine (?_ : S1 _ _ _ _ _ _)); first | refine s_ret ?_ | refine s_if ?_ | refine s_M rfl (by assumption) (blkOk_by rfl) ?_ | refine s_F rfl (by assumption) (blkOk_by rfl) ?_ | refine s_Dc rfl (by assumption) (blkOk_by rfl) ?_ | refine s_st (by assumption) ?_ | refine s_aug (by assumption) rfl ?_ | refine s_asg ?_ | refine s_expr ?_)
    | ((with_reducible refine (?_ : SG _ _ _ _ _ _ _)); first | refine sg_nm (by assumption) ?_ | refine sg_par rfl ?_ | refine sg_tup rfl ?_)
    | ((with_reducible refine (?_ : SGs _ _ _ _ _ _ _)); first | refine sgs_cons ?_ | refine sgs_nil ?_)
    | ((with_reducible refine (?_ : SGb _ _ _ _ _ _ _ _)); first | refine sgb_nm (by assumption) ?_ (by first | exact vs_self | exact vs_one | exact vs_two) | refine sgb_par rfl ?_ | refine sgb_tup rfl ?_)
    | ((with_reducible refine (?_ : SGbs _ _ _ _ _ _ _ _)); first | refine sgbs_cons ?_ | refine sgbs_nil ?_)
    | ((with_reducible refine (?_ : SW _ _ _ _ _ _ _)); first | refine sw_vals ?_ | refine sw_zipT (by assumption) ?_ | refine sw_range (by assumption) ?_ | refine sw_seq ?_)
    | ((with_reducible refine (?_ : OpV _ _ _ _ _ _ _ _)); first | refine ov_eqN ?_ | refine ov_neN ?_ | refine ov_inN ?_ | refine ov_ninN ?_ | refine ov_inNT ?_ | refine ov_ninNT ?_ | refine oi_add ?_ | refine oi_catT (by fail "z") ?_ | refine ov_cat (by fail "z") ?_ | refine ov_catT (by fail "z") ?_ | refine ov_add ?_ | refine ov_sub ?_ | refine ov_lt ?_ | refine ov_le ?_ | refine ov_gt ?_ | refine ov_ge ?_ | refine ov_eqI ?_ | refine ov_neI ?_ | refine ov_eqS ?_ | refine ov_neS ?_ | refine ov_eqB ?_ | refine ov_neB ?_)
    | ((with_reducible refine (?_ : IxV _ _ _ _ _ _ _)); first | refine iv_cons ?_ | refine iv_consT ?_)
    | ((with_reducible refine (?_ : SlV _ _ _ _ _ _ _ _)); first | refine sv_fromL (by decide) ?_ | refine sv_fromT (by decide) ?_ | refine sv_toL (by decide) ?_ | refine sv_toT (by decide) ?_)
    | ((with_reducible refine (?_ : ClV _ _ _ _ _ _ _)); first | refine cv_anyM rfl ?_ | refine cv_allM rfl ?_ | refine cv_len rfl ?_ | refine cv_tuple rfl ?_ | refine cv_list rfl ?_ | refine cv_abs ?_ | refine cv_isStr rfl ?_ | refine cv_isTup rfl ?_ | refine cv_isInt rfl ?_ | refine cv_isBool rfl ?_ | refine cv_sum rfl ?_)
    | (with_reducible refine turn0I (fun _ _ _ _ _ _ => ?_)) | (with_reducible refine turn1I (fun _ _ _ _ _ _ => ?_)) | (with_reducible refine turnDI (fun _ _ _ _ _ _ => ?_)) | (with_reducible refine abI (fun _ _ _ _ _ => ?_)) | ((with_reducible show (if _ then _ else _)); first | refine iteT ?_ | refine iteF ?_) | ((with_reducible refine (?_ : And _ _)); refine And.intro (show _ ≤ sizeLine by fail "z") ?_) | ((with_reducible refine (?_ : Exists _)); refine ⟨_, rfl, ?_⟩))
local macro_rules
  | `(tactic| fail "e") => `(tactic| first
    | ((with_reducible refine (?_ : SE _ _ _ _ _ _)); first | refine se_nm rfl ?_ | refine se_tyTuple (by assumption) ?_ | refine se_tyStr (by assumption) ?_ | refine se_tyInt (by assumption) ?_ | refine se_tyBool (by assumption) ?_ | refine se_int ?_ | refine se_str ?_ | refine se_non ?_ | refine se_bl ?_ | refine se_cmp ?_ | refine se_bin ?_ | refine se_backT ?_ | refine se_ix ?_ | refine se_slice ?_ | refine se_tup ?_ | refine se_lst ?_ | ((with_reducible refine (?_ : SE _ _ _ _ (.Call _ _ _ _) _)); first | refine se_any (by assumption) ?_ | refine se_all (by assumption) ?_ | refine se_len (by assumption) ?_ | refine se_min (by assumption) ?_ | refine se_max (by assumption) ?_ | refine se_sorted (by assumption) ?_ | refine se_isi (by assumption) ?_ | refine se_abs (by assumption) ?_ | refine se_sum (by assumption) ?_ | refine se_tupleC (by assumption) ?_ | refine se_listC (by assumption) ?_) | refine se_M rfl (by assumption) (blkOk_by rfl) ?_ | refine se_F rfl (by assumption) (blkOk_by rfl) ?_ | refine se_Dc rfl (by assumption) (blkOk_by rfl) ?_ | refine se_chain ?_ | refine se_indexN ?_ | refine se_not ?_ | refine se_if ?_ | refine se_one ?_ | refine se_and ?_ | refine se_or ?_ | refine se_neg ?_)
    | ((with_reducible refine (?_ : ST _ _ _ _ _ _)); first | refine st_cmp ?_ | refine st_chain ?_ | refine st_not ?_ | refine st_w (sw_and ?_) | refine st_w (sw_or ?_) | refine st_val ?_)
    | ((with_reducible refine (?_ : SWt _ _ _ _ _ _)); first | refine sw_and ?_ | refine sw_and1 ?_ | refine sw_or ?_ | refine sw_or1 ?_)
    | ((with_reducible refine (?_ : SA _ _ _ _ _ _)); first | refine sa_cons ?_ | refine sa_nil ?_)
    | ((with_reducible refine (?_ : SO _ _ _ _ _ _)); first | refine so_none ?_ | refine so_some ?_)
    | ((with_reducible refine (?_ : SG _ _ _ _ _ _ _)); first | refine sg_nm (by assumption) ?_ | refine sg_par rfl ?_ | refine sg_tup rfl ?_)
    | ((with_reducible refine (?_ : SGs _ _ _ _ _ _ _)); first | refine sgs_cons ?_ | refine sgs_nil ?_)
    | ((with_reducible refine (?_ : SGb _ _ _ _ _ _ _ _)); first | refine sgb_nm (by assumption) ?_ (by first | exact vs_self | exact vs_one | exact vs_two) | refine sgb_par rfl ?_ | refine sgb_tup rfl ?_)
    | ((with_reducible refine (?_ : SGbs _ _ _ _ _ _ _ _)); first | refine sgbs_cons ?_ | refine sgbs_nil ?_)
    | ((with_reducible refine (?_ : SW _ _ _ _ _ _ _)); first | refine sw_vals ?_ | refine sw_zipT (by assumption) ?_ | refine sw_range (by assumption) ?_ | refine sw_seq ?_)
    | ((with_reducible refine (?_ : OpV _ _ _ _ _ _ _ _)); first | refine ov_eqN ?_ | refine ov_neN ?_ | refine ov_inN ?_ | refine ov_ninN ?_ | refine ov_inNT ?_ | refine ov_ninNT ?_ | refine oi_add ?_ | refine oi_catT (by fail "z") ?_ | refine ov_cat (by fail "z") ?_ | refine ov_catT (by fail "z") ?_ | refine ov_add ?_ | refine ov_sub ?_ | refine ov_lt ?_ | refine ov_le ?_ | refine ov_gt ?_ | refine ov_ge ?_ | refine ov_eqI ?_ | refine ov_neI ?_ | refine ov_eqS ?_ | refine ov_neS ?_ | refine ov_eqB ?_ | refine ov_neB ?_)
    | ((with_reducible refine (?_ : IxV _ _ _ _ _ _ _)); first | refine iv_cons ?_ | refine iv_consT ?_)
    | ((with_reducible refine (?_ : SlV _ _ _ _ _ _ _ _)); first | refine sv_fromL (by decide) ?_ | refine sv_fromT (by decide) ?_ | refine sv_toL (by decide) ?_ | refine sv_toT (by decide) ?_)
    | ((with_reducible refine (?_ : ClV _ _ _ _ _ _ _)); first | refine cv_anyM rfl ?_ | refine cv_allM rfl ?_ | refine cv_len rfl ?_ | refine cv_tuple rfl ?_ | refine cv_list rfl ?_ | refine cv_abs ?_ | refine cv_isStr rfl ?_ | refine cv_isTup rfl ?_ | refine cv_isInt rfl ?_ | refine cv_isBool rfl ?_ | refine cv_sum rfl ?_)
    | (with_reducible refine turn0I (fun _ _ _ _ _ _ => ?_)) | (with_reducible refine turn1I (fun _ _ _ _ _ _ => ?_)) | (with_reducible refine turnDI (fun _ _ _ _ _ _ => ?_)) | (with_reducible refine abI (fun _ _ _ _ _ => ?_)) | ((with_reducible show (if _ then _ else _)); first | refine iteT ?_ | refine iteF ?_) | ((with_reducible refine (?_ : And _ _)); refine And.intro (show _ ≤ sizeLine by fail "z") ?_) | ((with_reducible refine (?_ : Exists _)); refine ⟨_, rfl, ?_⟩))
namespace W
open PySem L2 D PyProof.Rows
theorem mem_flat_take {L : List (List Nm)} {i : Nat} {r : List Nm} (h : L[i]? = some r) : (L.take (i + 1)).flatten = (L.take i).flatten ++ r := by
  rw [List.take_add_one, h, List.flatten_append]; simp
theorem flat_len {L : List (List Nm)} (h : RowsOk L) (i : Nat) : (L.take i).flatten.length ≤ 10000 := by
  have h1 : (L.take i).flatten.length = total (L.take i) := by rw [List.length_flatten]; rfl
  have h2 := total_le (R := L.take i) (n := 100) fun r hr => h.2 r (List.mem_of_mem_take hr)
  have h3 : (L.take i).length ≤ 100 := Nat.le_trans (by rw [List.length_take]; exact Nat.min_le_right _ _) h.1
  have := Nat.mul_le_mul_right 100 h3
  omega
theorem addK_len (acc : List Nm) (x : Nm) : (addK acc x).length ≤ acc.length + 1 := by
  unfold addK; split <;> simp
theorem keysOf_len (l : List Nm) : (keysOf l).length ≤ l.length := by
  have : ∀ (l acc : List Nm), (l.foldl addK acc).length ≤ acc.length + l.length := by
    intro l
    induction l with
    | nil => intro acc; simp
    | cons x l ih => intro acc; have h1 := ih (addK acc x); have h2 := addK_len acc x; rw [List.foldl_cons, List.length_cons]; omega
  have h := this l []
  rw [List.length_nil, Nat.zero_add] at h
  exact h
section
variable {P : Program} {w : World} {K : PySem.W.Frag} {mg : Str → Option Value} {base : Heap}
abbrev sp_earliest (K : PySem.W.Frag) : Sp := spP K (fun L : List (List Nm) => [lisD L]) RowsOk (fun L d => d = demD (earliest L))
/-- the inner dicts hold few: each a name of the lists -/
def Few (L : List (List Nm)) (E : Dem) : Prop := E.map (·.1) = keysOf L.flatten ∧ ∀ p ∈ E, (p.2.map (·.1)).Nodup ∧ ∀ q ∈ p.2, q.1 ∈ L.flatten
theorem few_init (L : List (List Nm)) : Few L (initE L) := by
  refine ⟨by unfold initE; rw [List.map_map]; exact List.map_id _, fun p hp => ?_⟩
  obtain ⟨x, _, rfl⟩ := List.mem_map.mp hp
  exact ⟨.nil, fun q hq => nomatch hq⟩
theorem few_put {L : List (List Nm)} {E : Dem} (h : Few L E) (x : Nm) {y : Nm} (hy : y ∈ L.flatten) (i : Nat) : Few L (demPut E x y i) := by
  refine ⟨by rw [demPut_keys]; exact h.1, fun p hp => ?_⟩
  obtain ⟨q, hq, rfl⟩ := List.mem_map.mp hp
  obtain ⟨h1, h2⟩ := h.2 q hq
  split
  · unfold setDef
    split
    · exact ⟨h1, h2⟩
    · rename_i e
      refine ⟨?_, fun z hz => ?_⟩
      · rw [List.map_append]
        refine List.nodup_append.mpr ⟨h1, by simp, fun a ha b hb eq => e ?_⟩
        obtain ⟨z, hz, rfl⟩ := List.mem_map.mp ha
        rw [List.map_singleton, List.mem_singleton] at hb
        rw [List.any_eq_true]
        exact ⟨z, hz, by rw [eq, hb]; simp⟩
      · rcases List.mem_append.mp hz with z | z
        · exact h2 _ z
        · rw [List.mem_singleton.mp z]; exact hy
  · exact ⟨h1, h2⟩
theorem sub_len : ∀ {l m : List Nm} (nd : l.Nodup) (h : ∀ x ∈ l, x ∈ m), l.length ≤ m.length
  | [], m, _, _ => Nat.zero_le _
  | x :: l, m, nd, h => by
    obtain ⟨s1, s2, rfl⟩ := List.append_of_mem (h x (List.mem_cons_self ..))
    have n2 := List.nodup_cons.mp nd
    have := sub_len (l := l) (m := s1 ++ s2) n2.2 fun y hy => by
      rcases List.mem_append.mp (h y (List.mem_cons_of_mem _ hy)) with z | z
      · exact List.mem_append_left _ z
      · rcases List.mem_cons.mp z with z | z
        · exact absurd (z ▸ hy) n2.1
        · exact List.mem_append_right _ z
    rw [List.length_append] at this
    rw [List.length_append, List.length_cons, List.length_cons]
    omega
theorem few_len {L : List (List Nm)} (hL : RowsOk L) {E : Dem} (h : Few L E) {p : Nm × List (Nm × Nat)} (hp : p ∈ E) : p.2.length ≤ 10000 := by
  obtain ⟨h1, h2⟩ := h.2 p hp
  have := sub_len h1 (m := L.flatten) fun x hx => by
    obtain ⟨q, hq, rfl⟩ := List.mem_map.mp hx
    exact h2 q hq
  have h3 := flat_len hL L.length
  rw [List.take_length] at h3
  rw [List.length_map] at this
  omega
theorem ok_earliest_demands {f : Addr} {fd : FuncData} (Fu : Fun K "earliest_demands" "earliest_demands" s_earliest_demands f fd) (T : Txt mg) : FnOk P w K mg base (L2.CX P w) 1 f fd ["lists"] (sp_earliest K) := by
  refine fn_P Fu sc_earliest_demands (fun a => rfl) (fun cdv A outer s H E F L hp hr => ?_)
  have nd := sc_earliest_demands.nd
  have hen := T.enumerate
  refine ss_cons (s_Dc2 rfl nd (blkOk_by rfl) ?_)
  repeat fail
  refine ⟨fun i c acc => Mk (L.take i).flatten c acc ∧ acc.length ≤ 10000, ⟨⟨fun _ => 0, rfl, fun x hx => absurd hx List.not_mem_nil, List.Pairwise.nil⟩, Nat.zero_le _⟩, ?_, ?_⟩
  · rintro i d c acc hd ⟨hm, hz⟩ F'
    rw [List.getElem?_map] at hd
    obtain ⟨r, hr', rfl⟩ := Option.map_eq_some_iff.mp hd
    repeat fail
    refine ⟨?_, fun j c acc => Mk ((L.take i).flatten ++ r.take j) c acc, ?_, ?_, ?_⟩
    · have := hp.2 r (List.mem_of_getElem? hr')
      fail "z"
    · show Mk ((L.take i).flatten ++ r.take 0) c acc
      rw [List.take_zero, List.append_nil]; exact hm
    · rintro j e c acc' he hm' F'
      rw [List.getElem?_map] at he
      obtain ⟨x, hx, rfl⟩ := Option.map_eq_some_iff.mp he
      repeat fail
      refine SE.ndP (se_dnew fun a nd' => ?_)
      show Mk ((L.take i).flatten ++ r.take (j + 1)) _ _
      rw [List.take_add_one, hx, Option.toList_some, ← List.append_assoc]
      exact hm'.step x a nd'
    · intro c acc' hm'
      have hm' : Mk ((L.take i).flatten ++ r.take (r.map nD).length) c acc' := hm'
      rw [List.length_map, List.take_length, ← mem_flat_take hr'] at hm'
      refine ⟨hm', ?_⟩
      obtain ⟨ad, rfl, _⟩ := hm'
      rw [List.length_map]
      exact Nat.le_trans (keysOf_len _) (flat_len hp _)
  · rintro c acc ⟨hm, _⟩ a
    have hm : Mk (L.take (L.map nT).length).flatten c acc := hm
    rw [List.length_map, List.take_length] at hm
    refine SS.nd fun nd' => ?_
    have hN := hm.nest a nd'
    refine ss_cons (s_for (passes_of rfl) rfl ?_)
    refine sw_enumT hen ?_
    repeat fail
    rw [enumD_map]
    refine for_t (fun rest Γ c => ∃ u2 u3 u4 u5 u6, (Γ = [.dat (lisD L), .dat (.raw (.ref a)), u2, u3, u4, u5, u6]) ∧ ∃ E, Nest a E c ∧ Few L E ∧ demRows E rest = earliest L) ⟨_, _, _, _, _, rfl, initE L, hN, few_init L, rfl⟩ ?_ ?_
    · rintro pre ⟨r, i⟩ rest Γ c hl ⟨u2, u3, u4, u5, u6, rfl, E, hN, hF, hE⟩
      have hrL := (zip_rest hl).2.2
      repeat fail
      refine s_for (passes_of rfl) rfl ?_
      refine sw_enumT hen ?_
      repeat fail
      rw [enumD_map]
      refine for_t (fun left Γ c => ∃ u4 u5 u6, (Γ = [.dat (lisD L), .dat (.raw (.ref a)), .dat (.int (i : Nat)), .dat (nT r), u4, u5, u6]) ∧ ∃ E, Nest a E c ∧ Few L E ∧ demRows (demRow i E (left.map (·.1))) rest = earliest L) ⟨_, _, _, rfl, E, hN, hF, ?_⟩ ?_ ?_
      · rw [← hE]; simp [demRows]
      · rintro pre' ⟨x, k⟩ left Γ c hl' ⟨u4, u5, u6, rfl, E, hN, hF, hE⟩
        obtain ⟨hdrop, hk, hxr⟩ := zip_rest hl'
        repeat fail
        refine s_for (passes_of rfl) rfl ?_
        repeat fail
        refine sv_fromT (by omega) ?_
        repeat fail
        refine for_t (fun todo Γ c => ∃ u6, (Γ = [.dat (lisD L), .dat (.raw (.ref a)), .dat (.int (i : Nat)), .dat (nT r), .dat (.int (k : Nat)), .dat (nD x), u6]) ∧ ∃ E, Nest a E c ∧ Few L E ∧ demRows (demRow i (demPuts i x E todo) (left.map (·.1))) rest = earliest L) ⟨_, rfl, E, hN, hF, ?_⟩ ?_ ?_
        · rw [← hE, show ((k : Int) + 1).toNat = k + 1 by omega, hdrop]; rfl
        · rintro pre2 y todo Γ c hl2 ⟨u6, rfl, E, hN, hF, hE⟩
          have hy : y ∈ L.flatten := List.mem_flatten.mpr ⟨r, hrL, List.mem_of_mem_drop (by rw [hl2]; simp)⟩
          obtain ⟨ad, h1, h2, h3⟩ := hN.ex
          have hxk : x ∈ E.map (·.1) := by rw [hF.1, mem_keysOf]; exact List.mem_flatten.mpr ⟨r, hrL, hxr⟩
          obtain ⟨p, hp', rfl⟩ := List.mem_map.mp hxk
          obtain ⟨j0, hj0⟩ := List.getElem?_of_mem h1
          obtain ⟨j1, hj1⟩ := List.getElem?_of_mem (h2 p hp')
          repeat fail
          refine se_setdef ?_
          repeat fail
          refine iv_cel j0 (hu_of hr) hj0 rfl (d' := .raw (.ref (ad p.1))) ?_ ⟨_, j1, _, rfl, hj1, ?_⟩
          · rw [dval_map (fun q : Nm × List (Nm × Nat) => .raw (.ref (ad q.1))) (fun q => q.1), find_key hN.nd hp' rfl]; rfl
          repeat fail
          refine ⟨_, _, _, _, rfl, hj1, rfl, ?_, ?_, ?_⟩
          · have := few_len hp hF hp'
            show (List.map _ _).length < _
            rw [List.length_map]; have := big_line; omega
          · intro d hd
            have : (p.2.any fun q => decide (q.1 = y)) = true := by rw [← inE_any, hd]; rfl
            refine ⟨_, rfl, E, hN, hF, ?_⟩
            rw [← hE]
            show _ = demRows (demRow i (demPuts i p.1 (demPut E p.1 y i) todo) _) _
            rw [demPut_same hN.nd hp' rfl this]
          · intro hd
            have : (p.2.any fun q => decide (q.1 = y)) = false := by rw [← inE_any, hd]; rfl
            refine ⟨_, rfl, demPut E p.1 y i, ?_, few_put hF _ hy _, by rw [← hE]; rfl⟩
            rw [inE_put _ _ _ this]
            exact hN.put h1 h2 h3 hp' rfl hj1
        · rintro Γ c ⟨u6, rfl, E, hN, hF, hE⟩
          exact ⟨_, _, _, rfl, E, hN, hF, by rw [← hE]; rfl⟩
      · rintro Γ c ⟨u4, u5, u6, rfl, E, hN, hF, hE⟩
        exact ⟨_, _, _, _, _, rfl, E, hN, hF, by rw [← hE]; rfl⟩
    · rintro Γ c ⟨u2, u3, u4, u5, u6, rfl, E, hN, hF, hE⟩
      obtain ⟨ad, h1, h2, h3⟩ := hN.ex
      refine ss_frzDD (fun p : Nm × List (Nm × Nat) => nK p.1) (fun p => ad p.1) (fun p => inE p.2) E 1 rfl h1 h2 h3 ?_
      repeat fail
      exact ⟨rfl, by rw [← hE]; rfl⟩
end
end W
end
section
set_option Elab.async false
set_option linter.all false
set_option maxRecDepth 100000
set_option maxHeartbeats 4000000
open PySem L2 D PyProof.Rows
local macro_rules
  | `(tactic| fail "z") => `(tactic| ((try simp only [List.length_map, List.length_cons, List.length_nil, List.length_append, List.length_drop, List.length_take]); have := big_line; omega))
local macro_rules
  | `(tactic| fail) => `(tactic| first
    | ((with_reducible refine (?_ : SE _ _ _ _ _ _)); first | refine se_nm rfl ?_ | refine se_tyTuple (by assumption) ?_ | refine se_tyStr (by assumption) ?_ | refine se_tyInt (by assumption) ?_ | refine se_tyBool (by assumption) ?_ | refine se_int ?_ | refine se_str ?_ | refine se_non ?_ | refine se_bl ?_ | refine se_cmp ?_ | refine se_bin ?_ | refine se_backT ?_ | refine se_ix ?_ | refine se_slice ?_ | refine se_tup ?_ | refine se_lst ?_ | ((with_reducible refine (?_ : SE _ _ _ _ (.Call _ _ _ _) _)); first | refine se_any (by assumption) ?_ | refine se_all (by assumption) ?_ | refine se_len (by assumption) ?_ | refine se_min (by assumption) ?_ | refine se_max (by assumption) ?_ | refine se_sorted (by assumption) ?_ | refine se_isi (by assumption) ?_ | refine se_abs (by assumption) ?_ | refine se_sum (by assumption) ?_ | refine se_tupleC (by assumption) ?_ | refine se_listC (by assumption) ?_) | refine se_M rfl (by assumption) (blkOk_by rfl) ?_ | refine se_F rfl (by assumption) (blkOk_by rfl) ?_ | refine se_Dc rfl (by assumption) (blkOk_by rfl) ?_ | refine se_chain ?_ | refine se_indexN ?_ | refine se_not ?_ | refine se_if ?_ | refine se_one ?_ | refine se_and ?_ | refine se_or ?_ | refine se_neg ?_)
    | ((with_reducible refine (?_ : ST _ _ _ _ _ _)); first | refine st_cmp ?_ | refine st_chain ?_ | refine st_not ?_ | refine st_w (sw_and ?_) | refine st_w (sw_or ?_) | refine st_val ?_)
    | ((with_reducible refine (?_ : SWt _ _ _ _ _ _)); first | refine sw_and ?_ | refine sw_and1 ?_ | refine sw_or ?_ | refine sw_or1 ?_)
    | ((with_reducible refine (?_ : SA _ _ _ _ _ _)); first | refine sa_cons ?_ | refine sa_nil ?_)
    | ((with_reducible refine (?_ : SO _ _ _ _ _ _)); first | refine so_none ?_ | refine so_some ?_)
    | ((with_reducible refine (?_ : SS _ _ _ _ _ _)); first | refine ss_one ?_ | refine ss_cons ?_)
    | ((with_reducible refine (?_ : S1 _ _ _ _ _ _)); first | refine s_ret ?_ | refine s_if ?_ | refine s_M rfl (by assumption) (blkOk_by rfl) ?_ | refine s_F rfl (by assumption) (blkOk_by rfl) ?_ | refine s_Dc rfl (by assumption) (blkOk_by rfl) ?_ | refine s_st (by assumption) ?_ | refine s_aug (by assumption) rfl ?_ | refine s_asg ?_ | refine s_expr ?_)
    | ((with_reducible refine (?_ : SG _ _ _ _ _ _ _)); first | refine sg_nm (by assumption) ?_ | refine sg_par rfl ?_ | refine sg_tup rfl ?_)
    | ((with_reducible refine (?_ : SGs _ _ _ _ _ _ _)); first | refine sgs_cons ?_ | refine sgs_nil ?_)
    | ((with_reducible refine (?_ : SGb _ _ _ _ _ _ _ _)); first | refine sgb_nm (by assumption) ?_ (by first | exact vs_self | exact vs_one | exact vs_two) | refine sgb_par rfl ?_ | refine sgb_tup rfl ?_)
    | ((with_reducible refine (?_ : SGbs _ _ _ _ _ _ _ _)); first | refine sgbs_cons ?_ | refine sgbs_nil ?_)
    | ((with_reducible refine (?_ : SW _ _ _ _ _ _ _)); first | refine sw_vals ?_ | refine sw_zipT (by assumption) ?_ | refine sw_range (by assumption) ?_ | refine sw_seq ?_)
    | ((with_reducible refine (?_ : OpV _ _ _ _ _ _ _ _)); first | refine ov_eqN ?_ | refine ov_neN ?_ | refine ov_inN ?_ | refine ov_ninN ?_ | refine ov_inNT ?_ | refine ov_ninNT ?_ | refine oi_add ?_ | refine oi_catT (by fail "z") ?_ | refine ov_cat (by fail "z") ?_ | refine ov_catT (by fail "z") ?_ | refine ov_add ?_ | refine ov_sub ?_ | refine ov_lt ?_ | refine ov_le ?_ | refine ov_gt ?_ | refine ov_ge ?_ | refine ov_eqI ?_ | refine ov_neI ?_ | refine ov_eqS ?_ | refine ov_neS ?_ | refine ov_eqB ?_ | refine ov_neB ?_)
    | ((with_reducible refine (?_ : IxV _ _ _ _ _ _ _)); first | refine iv_cons ?_ | refine iv_consT ?_)
    | ((with_reducible refine (?_ : SlV _ _ _ _ _ _ _ _)); first | refine sv_fromL (by decide) ?_ | refine sv_fromT (by decide) ?_ | refine sv_toL (by decide) ?_ | refine sv_toT (by decide) ?_)
    | ((with_reducible refine (?_ : ClV _ _ _ _ _ _ _)); first | refine cv_anyM rfl ?_ | refine cv_allM rfl ?_ | refine cv_len rfl ?_ | refine cv_tuple rfl ?_ | refine cv_list rfl ?_ | refine cv_abs ?_ | refine cv_isStr rfl ?_ | refine cv_isTup rfl ?_ | refine cv_isInt rfl ?_ | refine cv_isBool rfl ?_ | refine cv_sum rfl ?_)
    | (with_reducible refine turn0I (fun _ _ _ _ _ _ => ?_)) | (with_reducible refine turn1I (fun _ _ _ _ _ _ => ?_)) | (with_reducible refine turnDI (fun _ _ _ _ _ _ => ?_)) | (with_reducible refine abI (fun _ _ _ _ _ => ?_)) | ((with_reducible show (if _ then _ else _)); first | refine iteT ?_ | refine iteF ?_) | ((with_reducible refine (?_ : And _ _)); refine And.intro (show _ ≤ sizeLine by fail "z") ?_) | ((with_reducible refine (?_ : Exists _)); refine ⟨_, rfl, ?_⟩))
local macro_rules
  | `(tactic| fail "e") => `(tactic| first
    | ((with_reducible refine (?_ : SE _ _ _ _ _ _)); first | refine se_nm rfl ?_ | refine se_tyTuple (by assumption) ?_ | refine se_tyStr (by assumption) ?_ | refine se_tyInt (by assumption) ?_ | refine se_tyBool (by assumption) ?_ | refine se_int ?_ | refine se_str ?_ | refine se_non ?_ | refine se_bl ?_ | refine se_cmp ?_ | refine se_bin ?_ | refine se_backT ?_ | refine se_ix ?_ | refine se_slice ?_ | refine se_tup ?_ | refine se_lst ?_ | ((with_reducible refine (?_ : SE _ _ _ _ (.Call _ _ _ _) _)); first | refine se_any (by assumption) ?_ | refine se_all (by assumption) ?_ | refine se_len (by assumption) ?_ | refine se_min (by assumption) ?_ | refine se_max (by assumption) ?_ | refine se_sorted (by assumption) ?_ | refine se_isi (by assumption) ?_ | refine se_abs (by assumption) ?_ | refine se_sum (by assumption) ?_ | refine se_tupleC (by assumption) ?_ | refine se_listC (by assumption) ?_) | refine se_M rfl (by assumption) (blkOk_by rfl) ?_ | refine se_F rfl (by assumption) (blkOk_by rfl) ?_ | refine se_Dc rfl (by assumption) (blkOk_by rfl) ?_ | refine se_chain ?_ | refine se_indexN ?_ | refine se_not ?_ | refine se_if ?_ | refine se_one ?_ | refine se_and ?_ | refine se_or ?_ | refine se_neg ?_)
    | ((with_reducible refine (?_ : ST _ _ _ _ _ _)); first | refine st_cmp ?_ | refine st_chain ?_ | refine st_not ?_ | refine st_w (sw_and ?_) | refine st_w (sw_or ?_) | refine st_val ?_)
    | ((with_reducible refine (?_ : SWt _ _ _ _ _ _)); first | refine sw_and ?_ | refine sw_and1 ?_ | refine sw_or ?_ | refine sw_or1 ?_)
    | ((with_reducible refine (?_ : SA _ _ _ _ _ _)); first | refine sa_cons ?_ | refine sa_nil ?_)
    | ((with_reducible refine (?_ : SO _ _ _ _ _ _)); first | refine so_none ?_ | refine so_some ?_)
    | ((with_reducible refine (?_ : SG _ _ _ _ _ _ _)); first | refine sg_nm (by assumption) ?_ | refine sg_par rfl ?_ | refine sg_tup rfl ?_)
    | ((with_reducible refine (?_ : SGs _ _ _ _ _ _ _)); first | refine sgs_cons ?_ | refine sgs_nil ?_)
    | ((with_reducible refine (?_ : SGb _ _ _ _ _ _ _ _)); first | refine sgb_nm (by assumption) ?_ (by first | exact vs_self | exact vs_one | exact vs_two) | refine sgb_par rfl ?_ | refine sgb_tup rfl ?_)
    | ((with_reducible refine (?_ : SGbs _ _ _ _ _ _ _ _)); first | refine sgbs_cons ?_ | refine sgbs_nil ?_)
    | ((with_reducible refine (?_ : SW _ _ _ _ _ _ _)); first | refine sw_vals ?_ | refine sw_zipT (by assumption) ?_ | refine sw_range (by assumption) ?_ | refine sw_seq ?_)
    | ((with_reducible refine (?_ : OpV _ _ _ _ _ _ _ _)); first | refine ov_eqN ?_ | refine ov_neN ?_ | refine ov_inN ?_ | refine ov_ninN ?_ | refine ov_inNT ?_ | refine ov_ninNT ?_ | refine oi_add ?_ | refine oi_catT (by fail "z") ?_ | refine ov_cat (by fail "z") ?_ | refine ov_catT (by fail "z") ?_ | refine ov_add ?_ | refine ov_sub ?_ | refine ov_lt ?_ | refine ov_le ?_ | refine ov_gt ?_ | refine ov_ge ?_ | refine ov_eqI ?_ | refine ov_neI ?_ | refine ov_eqS ?_ | refine ov_neS ?_ | refine ov_eqB ?_ | refine ov_neB ?_)
    | ((with_reducible refine (?_ : IxV _ _ _ _ _ _ _)); first | refine iv_cons ?_ | refine iv_consT ?_)
    | ((with_reducible refine (?_ : SlV _ _ _ _ _ _ _ _)); first | refine sv_fromL (by decide) ?_ | refine sv_fromT (by decide) ?_ | refine sv_toL (by decide) ?_ | refine sv_toT (by decide) ?_)
    | ((with_reducible refine (?_ : ClV _ _ _ _ _ _ _)); first | refine cv_anyM rfl ?_ | refine cv_allM rfl ?_ | refine cv_len rfl ?_ | refine cv_tuple rfl ?_ | refine cv_list rfl ?_ | refine cv_abs ?_ | refine cv_isStr rfl ?_ | refine cv_isTup rfl ?_ | refine cv_isInt rfl ?_ | refine cv_isBool rfl ?_ | refine cv_sum rfl ?_)
    | (with_reducible refine turn0I (fun _ _ _ _ _ _ => ?_)) | (with_reducible refine turn1I (fun _ _ _ _ _ _ => ?_)) | (with_reducible refine turnDI (fun _ _ _ _ _ _ => ?_)) | (with_reducible refine abI (fun _ _ _ _ _ => ?_)) | ((with_reducible show (if _ then _ else _)); first | refine iteT ?_ | refine iteF ?_) | ((with_reducible refine (?_ : And _ _)); refine And.intro (show _ ≤ sizeLine by fail "z") ?_) | ((with_reducible refine (?_ : Exists _)); refine ⟨_, rfl, ?_⟩))
namespace W
open PySem L2 D PyProof.Rows
theorem keysD_map {α : Type} (f : α → Dt) (k : α → Nm) (l : List α) : keysD (l.map fun p => (nK (k p), f p)) = l.map fun p => nD (k p) := by
  unfold keysD; rw [List.map_map]; rfl
def hasK (l : List (Nm × Nat)) (y : Nm) : Bool := l.any fun q => decide (q.1 = y)
def nextL (E : Dem) (found : List (Nm × Nat)) (level : List Nm) : List Nm := (E.filter fun p => !hasK found p.1 && level.any fun y => hasK p.2 y).map (·.1)
def distF : Nat → Dem → List (Nm × Nat) → List Nm → Nat → List (Nm × Nat)
  | 0, _, found, _, _ => found
  | n + 1, E, found, level, s => if level.isEmpty = true then found else distF n E (found ++ (nextL E found level).map fun x => (x, s + 1)) (nextL E found level) (s + 1)
def dist (E : Dem) (g : Nm) : List (Nm × Nat) := distF (E.length + 2) E [] [g] 0
theorem dput_new {l : List (Key × Dt)} {k : Key} (d : Dt) (h : (l.any fun kv => decide (kv.1 = k)) = false) : dput l k d = l ++ [(k, d)] := by
  unfold dput; rw [h]; rfl
theorem fold_new : ∀ (m l : List (Nm × Nat)), (m.map (·.1)).Nodup → (∀ q ∈ m, hasK l q.1 = false) → (inE m).foldl (fun acc kv => dput acc kv.1 kv.2) (inE l) = inE (l ++ m)
  | [], l, _, _ => by simp
  | q :: m, l, nd, h => by
    have n2 := List.nodup_cons.mp nd
    show (inE m).foldl (fun acc kv => dput acc kv.1 kv.2) (dput (inE l) (nK q.1) (.int (q.2 : Nat))) = _
    have hq := h q (List.mem_cons_self ..)
    rw [dput_new _ (by rw [inE, any_nK (fun q : Nm × Nat => .int (q.2 : Nat)) (fun q => q.1)]; exact hq)]
    have e : inE l ++ [(nK q.1, Dt.int (q.2 : Nat))] = inE (l ++ [q]) := by simp [inE]
    rw [e, fold_new m (l ++ [q]) n2.2 fun r hr => ?_]
    · simp
    · unfold hasK
      rw [List.any_append]
      have h1 := h r (List.mem_cons_of_mem _ hr)
      unfold hasK at h1
      rw [h1]
      have : ¬ q.1 = r.1 := fun e => n2.1 (List.mem_map.mpr ⟨r, hr, e.symm⟩)
      simp [this]
theorem nextL_nodup {E : Dem} (nd : (E.map (·.1)).Nodup) (found : List (Nm × Nat)) (level : List Nm) : (nextL E found level).Nodup := nd.sublist (List.filter_sublist.map _)
theorem nextL_len (E : Dem) (found : List (Nm × Nat)) (level : List Nm) : (nextL E found level).length ≤ E.length := by
  unfold nextL; rw [List.length_map]; exact List.length_filter_le _ _
theorem nextL_fresh {E : Dem} {found : List (Nm × Nat)} {level : List Nm} {x : Nm} (h : x ∈ nextL E found level) : hasK found x = false ∧ x ∈ E.map (·.1) := by
  obtain ⟨p, hp, rfl⟩ := List.mem_map.mp h
  obtain ⟨h1, h2⟩ := List.mem_filter.mp hp
  rw [Bool.and_eq_true] at h2
  exact ⟨by simpa using h2.1, List.mem_map.mpr ⟨p, h1, rfl⟩⟩
theorem hasK_iff {l : List (Nm × Nat)} {y : Nm} : hasK l y = true ↔ y ∈ l.map (·.1) := by
  unfold hasK
  rw [List.any_eq_true]
  constructor
  · rintro ⟨q, hq, e⟩; exact List.mem_map.mpr ⟨q, hq, of_decide_eq_true e⟩
  · intro h; obtain ⟨q, hq, e⟩ := List.mem_map.mp h; exact ⟨q, hq, decide_eq_true e⟩
abbrev EOk (E : Dem) : Prop := E.length ≤ 10000 ∧ (E.map (·.1)).Nodup
/-- what has been found: distinct names of the demands -/
def FOk (E : Dem) (found : List (Nm × Nat)) : Prop := (found.map (·.1)).Nodup ∧ ∀ q ∈ found, q.1 ∈ E.map (·.1)
theorem FOk.len {E : Dem} {found : List (Nm × Nat)} (h : FOk E found) : found.length ≤ E.length := by
  have := sub_len h.1 (m := E.map (·.1)) fun x hx => by
    obtain ⟨q, hq, rfl⟩ := List.mem_map.mp hx
    exact h.2 q hq
  rwa [List.length_map, List.length_map] at this
theorem FOk.next {E : Dem} (hE : EOk E) {found : List (Nm × Nat)} (h : FOk E found) (level : List Nm) (s : Nat) : FOk E (found ++ (nextL E found level).map fun x => (x, s)) := by
  refine ⟨?_, fun q hq => ?_⟩
  · rw [List.map_append, List.map_map, show ((fun q : Nm × Nat => q.1) ∘ fun x => (x, s)) = id from rfl, List.map_id]
    refine List.nodup_append.mpr ⟨h.1, nextL_nodup hE.2 _ _, fun a ha b hb e => ?_⟩
    subst e
    have := (nextL_fresh hb).1
    rw [hasK_iff.mpr ha] at this; cases this
  · rcases List.mem_append.mp hq with z | z
    · exact h.2 q z
    · obtain ⟨x, hx, rfl⟩ := List.mem_map.mp z
      exact (nextL_fresh hx).2
section
variable {P : Program} {w : World} {K : PySem.W.Frag} {mg : Str → Option Value} {base : Heap}
abbrev sp_distances (K : PySem.W.Frag) : Sp := spP K (fun x : Dem × Nm => [demD x.1, nD x.2]) (fun x => EOk x.1) (fun x d => d = .dct (inE (dist x.1 x.2)))
theorem ok_distances_to {f : Addr} {fd : FuncData} (Fu : Fun K "distances_to" "distances_to" s_distances_to f fd) (T : Txt mg) : FnOk P w K mg base (L2.CX P w) 1 f fd ["demands", "goal"] (sp_distances K) := by
  refine fn_P Fu sc_distances_to (fun a => rfl) (fun cdv A outer s H E0 F x hp hr => ?_)
  obtain ⟨E, g⟩ := x
  have hE : EOk E := hp
  have nd := sc_distances_to.nd
  have hany := T.any
  have hu := hu_of hr
  refine ss_cons (s_st nd (se_dnew fun a => ?_))
  repeat fail
  refine s_while (passes_of rfl) (fun m Γ c => ∃ d3 d4 u5 u6, (Γ = [.dat (demD E), .dat (nD g), .dat (.raw (.ref a)), .dat d3, .dat d4, u5, u6]) ∧ ∃ found level st n, c = [(a, .dk (inE found))] ∧ d3 = nL level ∧ d4 = .int (st : Nat) ∧ level.length ≤ 10000 ∧ FOk E found ∧
    m = (E.length - found.length) + (if level.isEmpty = true then 0 else 1) ∧ m < n ∧ distF n E found level st = dist E g) (E.length + 1) ⟨_, _, _, _, rfl, [], [g], 0, E.length + 2, rfl, rfl, rfl, by show 1 ≤ 10000; decide, ⟨.nil, fun q hq => nomatch hq⟩, rfl, Nat.lt_succ_self _, rfl⟩ ?_
  rintro m Γ c ⟨_, _, u5, u6, rfl, found, level, st, n, rfl, rfl, rfl, hlv, hF, rfl, hn, hd⟩
  cases n with
  | zero => omega
  | succ n =>
  unfold distF at hd
  repeat fail
  refine ov_neNil hr.units (fit_nL level) ?_
  repeat fail
  refine ite2 (fun h => ?_) (fun h => ?_)
  · have hlne : level.isEmpty = false := by simpa using h
    rw [hlne, if_neg Bool.false_ne_true] at hd
    rw [hlne, if_neg Bool.false_ne_true] at hn
    repeat fail
    rw [keysD_map (fun p : Nm × List (Nm × Nat) => .dct (inE p.2)) (fun p => p.1)]
    refine lcF (fun p => !hasK found p.1 && level.any fun y => hasK p.2 y) (fun p => nD p.1) ?_ ?_ ?_
    · have := hE.1
      fail "z"
    · intro p hp'
      repeat fail
      refine ov_notCel 0 hu rfl rfl ?_
      rw [inE_any]
      repeat fail
      refine ite2 (fun h1 => ?_) (fun h1 => ?_)
      · repeat fail
        apply lcM
        · fail "z"
        · intro y hy
          repeat fail
          refine iv_dct hu rfl (d' := .dct (inE p.2)) ?_ ?_
          · rw [dval_map (fun p : Nm × List (Nm × Nat) => .dct (inE p.2)) (fun p => p.1), find_key hE.2 hp' rfl]; rfl
          refine ov_inDct hu rfl ?_
          exact ⟨rfl, rfl⟩
        repeat fail
        refine filt_end (fun h2 => ?_) (fun h2 => ?_)
        · repeat fail
          refine ⟨?_, rfl, rfl⟩
          rw [show hasK found p.1 = (found.any fun q => decide (q.1 = p.1)) from rfl, h1, Bool.true_and]
          rw [← h2]; congr 1; funext y; exact (inE_any p.2 y).symm
        · refine ⟨rfl, ?_⟩
          rw [show hasK found p.1 = (found.any fun q => decide (q.1 = p.1)) from rfl, h1, Bool.true_and]
          rw [← h2]; congr 1; funext y; exact (inE_any p.2 y).symm
      · repeat fail
        refine ⟨rfl, ?_⟩
        rw [show hasK found p.1 = (found.any fun q => decide (q.1 = p.1)) from rfl]
        simp only [Bool.not_eq_true] at h1
        rw [h1, Bool.false_and]
    · repeat fail
      refine se_update ?_
      repeat fail
      refine ⟨a, 0, _, rfl, rfl, ?_⟩
      repeat fail
      have enx : (E.filter fun p => !hasK found p.1 && level.any fun y => hasK p.2 y).map (fun p => nD p.1) = (nextL E found level).map nD := by unfold nextL; rw [List.map_map]; rfl
      rw [enx]
      have hlen := nextL_len E found level
      have hE1 := hE.1
      have hFl := hF.len
      refine lcD nK (fun _ => .int ((st : Int) + 1)) ?_ ?_ ?_
      · fail "z"
      · intro y hy
        repeat fail
        exact ⟨rfl, rfl, rfl⟩
      intro b
      have hnd := nextL_nodup hE.2 found level
      have e0 : ((nextL E found level).map fun r => (nK r, Dt.int ((st : Int) + 1))).foldl (fun acc kv => dput acc kv.1 kv.2) [] = inE ((nextL E found level).map fun x => (x, st + 1)) := by
        have := fold_new ((nextL E found level).map fun x => (x, st + 1)) [] (by rw [List.map_map, show ((fun q : Nm × Nat => q.1) ∘ fun x => (x, st + 1)) = id from rfl, List.map_id]; exact hnd) (fun _ _ => rfl)
        rw [List.nil_append] at this
        rw [← this]
        have e9 : inE ((nextL E found level).map fun x => (x, st + 1)) = (nextL E found level).map fun r => (nK r, Dt.int ((st : Int) + 1)) := by rw [inE, List.map_map]; rfl
        rw [e9]
        rfl
      rw [e0]
      have e1 := fold_new ((nextL E found level).map fun x => (x, st + 1)) found (by rw [List.map_map, show ((fun q : Nm × Nat => q.1) ∘ fun x => (x, st + 1)) = id from rfl, List.map_id]; exact hnd) (fun q hq => by
        obtain ⟨x, hx, rfl⟩ := List.mem_map.mp hq
        exact (nextL_fresh hx).1)
      refine ⟨b, [(a, .dk (inE found))], _, _, rfl, rfl, rfl, ?_, ?_⟩
      · rw [inE, inE, List.length_map, List.length_map, List.length_map]; have := big_line; omega
      rw [e1]
      have hF2 := hF.next hE level (st + 1)
      refine ⟨_, ?_, _, _, _, _, rfl, _, nextL E found level, st + 1, n, rfl, rfl, rfl, by omega, hF2, rfl, ?_, hd⟩
      · have l2 := hF2.len
        rw [hlne, if_neg Bool.false_ne_true]
        rw [List.length_append, List.length_map] at l2 ⊢
        cases hx : nextL E found level with
        | nil => simp
        | cons x l => rw [hx] at l2; simp at l2 ⊢ <;> omega
      · have l2 := hF2.len
        rw [List.length_append, List.length_map] at l2 ⊢
        cases hx : nextL E found level with
        | nil => simp <;> omega
        | cons x l => rw [hx] at l2; simp at l2 ⊢ <;> omega
  · have hlne : level.isEmpty = true := by simpa using h
    rw [hlne, if_pos rfl] at hd
    refine ss_freezeD 2 0 rfl rfl ?_
    repeat fail
    exact ⟨rfl, by rw [← hd]⟩
end
end W
end
section
set_option Elab.async false
set_option linter.all false
set_option maxRecDepth 100000
set_option maxHeartbeats 4000000
open PySem L2 D PyProof.Rows
local macro_rules
  | `(tactic| fail "z") => `(tactic| ((try simp only [List.length_map, List.length_cons, List.length_nil, List.length_append, List.length_drop, List.length_take]); have := big_line; omega))
local macro_rules
  | `(tactic| fail) => `(tactic| first
    | ((with_reducible refine (?_ : SE _ _ _ _ _ _)); first | refine se_nm rfl ?_ | refine se_tyTuple (by assumption) ?_ | refine se_tyStr (by assumption) ?_ | refine se_tyInt (by assumption) ?_ | refine se_tyBool (by assumption) ?_ | refine se_int ?_ | refine se_str ?_ | refine se_non ?_ | refine se_bl ?_ | refine se_cmp ?_ | refine se_bin ?_ | refine se_backT ?_ | refine se_ix ?_ | refine se_slice ?_ | refine se_tup ?_ | refine se_lst ?_ | ((with_reducible refine (?_ : SE _ _ _ _ (.Call _ _ _ _) _)); first | refine se_any (by assumption) ?_ | refine se_all (by assumption) ?_ | refine se_len (by assumption) ?_ | refine se_min (by assumption) ?_ | refine se_max (by assumption) ?_ | refine se_sorted (by assumption) ?_ | refine se_isi (by assumption) ?_ | refine se_abs (by assumption) ?_ | refine se_sum (by assumption) ?_ | refine se_tupleC (by assumption) ?_ | refine se_listC (by assumption) ?_) | refine se_M rfl (by assumption) (blkOk_by rfl) ?_ | refine se_F rfl (by assumption) (blkOk_by rfl) ?_ | refine se_Dc rfl (by assumption) (blkOk_by rfl) ?_ | refine se_chain ?_ | refine se_indexN ?_ | refine se_not ?_ | refine se_if ?_ | refine se_one ?_ | refine se_and ?_ | refine se_or ?_ | refine se_neg ?_)
    | ((with_reducible refine (?_ : ST _ _ _ _ _ _)); first | refine st_cmp ?_ | refine st_chain ?_ | refine st_not ?_ | refine st_w (sw_and ?_) | refine st_w (sw_or ?_) | refine st_val ?_)
    | ((with_reducible refine (?_ : SWt _ _ _ _ _ _)); first | refine sw_and ?_ | refine sw_and1 ?_ | refine sw_or ?_ | refine sw_or1 ?_)
    | ((with_reducible refine (?_ : SA _ _ _ _ _ _)); first | refine sa_cons ?_ | refine sa_nil ?_)
    | ((with_reducible refine (?_ : SO _ _ _ _ _ _)); first | refine so_none ?_ | refine so_some ?_)
    | ((with_reducible refine (?_ : SS _ _ _ _ _ _)); first | refine ss_one ?_ | refine ss_cons ?_)
    | ((with_reducible refine (?_ : S1 _ _ _ _ _ _)); first | refine s_ret ?_ | refine s_if ?_ | refine s_M rfl (by assumption) (blkOk_by rfl) ?_ | refine s_F rfl (by assumption) (blkOk_by rfl) ?_ | refine s_Dc rfl (by assumption) (blkOk_by rfl) ?_ | refine s_st (by assumption) ?_ | refine s_aug (by assumption) rfl ?_ | refine s_asg ?_ | refine s_expr ?_)
    | ((with_reducible refine (?_ : SG _ _ _ _ _ _ _)); first | refine sg_nm (by assumption) ?_ | refine sg_par rfl ?_ | refine sg_tup rfl ?_)
    | ((with_reducible refine (?_ : SGs _ _ _ _ _ _ _)); first | refine sgs_cons ?_ | refine sgs_nil ?_)
    | ((with_reducible refine (?_ : SGb _ _ _ _ _ _ _ _)); first | refine sgb_nm (by assumption) ?_ (by first | exact vs_self | exact vs_one | exact vs_two) | refine sgb_par rfl ?_ | refine sgb_tup rfl ?_)
    | ((with_reducible refine (?_ : SGbs _ _ _ _ _ _ _ _)); first | refine sgbs_cons ?_ | refine sgbs_nil ?_)
    | ((with_reducible refine (?_ : SW _ _ _ _ _ _ _)); first | refine sw_vals ?_ | refine sw_zipT (by assumption) ?_ | refine sw_range (by assumption) ?_ | refine sw_seq ?_)
    | ((with_reducible refine (?_ : OpV _ _ _ _ _ _ _ _)); first | refine ov_eqN ?_ | refine ov_neN ?_ | refine ov_inN ?_ | refine ov_ninN ?_ | refine ov_inNT ?_ | refine ov_ninNT ?_ | refine oi_add ?_ | refine oi_catT (by fail "z") ?_ | refine ov_cat (by fail "z") ?_ | refine ov_catT (by fail "z") ?_ | refine ov_add ?_ | refine ov_sub ?_ | refine ov_lt ?_ | refine ov_le ?_ | refine ov_gt ?_ | refine ov_ge ?_ | refine ov_eqI ?_ | refine ov_neI ?_ | refine ov_eqS ?_ | refine ov_neS ?_ | refine ov_eqB ?_ | refine ov_neB ?_)
    | ((with_reducible refine (?_ : IxV _ _ _ _ _ _ _)); first | refine iv_cons ?_ | refine iv_consT ?_)
    | ((with_reducible refine (?_ : SlV _ _ _ _ _ _ _ _)); first | refine sv_fromL (by decide) ?_ | refine sv_fromT (by decide) ?_ | refine sv_toL (by decide) ?_ | refine sv_toT (by decide) ?_)
    | ((with_reducible refine (?_ : ClV _ _ _ _ _ _ _)); first | refine cv_anyM rfl ?_ | refine cv_allM rfl ?_ | refine cv_len rfl ?_ | refine cv_tuple rfl ?_ | refine cv_list rfl ?_ | refine cv_abs ?_ | refine cv_isStr rfl ?_ | refine cv_isTup rfl ?_ | refine cv_isInt rfl ?_ | refine cv_isBool rfl ?_ | refine cv_sum rfl ?_)
    | (with_reducible refine turn0I (fun _ _ _ _ _ _ => ?_)) | (with_reducible refine turn1I (fun _ _ _ _ _ _ => ?_)) | (with_reducible refine turnDI (fun _ _ _ _ _ _ => ?_)) | (with_reducible refine abI (fun _ _ _ _ _ => ?_)) | ((with_reducible show (if _ then _ else _)); first | refine iteT ?_ | refine iteF ?_) | ((with_reducible refine (?_ : And _ _)); refine And.intro (show _ ≤ sizeLine by fail "z") ?_) | ((with_reducible refine (?_ : Exists _)); refine ⟨_, rfl, ?_⟩))
local macro_rules
  | `(tactic| fail "e") => `(tactic| first
    | ((with_reducible refine (?_ : SE _ _ _ _ _ _)); first | refine se_nm rfl ?_ | refine se_tyTuple (by assumption) ?_ | refine se_tyStr (by assumption) ?_ | refine se_tyInt (by assumption) ?_ | refine se_tyBool (by assumption) ?_ | refine se_int ?_ | refine se_str ?_ | refine se_non ?_ | refine se_bl ?_ | refine se_cmp ?_ | refine se_bin ?_ | refine se_backT ?_ | refine se_ix ?_ | refine se_slice ?_ | refine se_tup ?_ | refine se_lst ?_ | ((with_reducible refine (?_ : SE _ _ _ _ (.Call _ _ _ _) _)); first | refine se_any (by assumption) ?_ | refine se_all (by assumption) ?_ | refine se_len (by assumption) ?_ | refine se_min (by assumption) ?_ | refine se_max (by assumption) ?_ | refine se_sorted (by assumption) ?_ | refine se_isi (by assumption) ?_ | refine se_abs (by assumption) ?_ | refine se_sum (by assumption) ?_ | refine se_tupleC (by assumption) ?_ | refine se_listC (by assumption) ?_) | refine se_M rfl (by assumption) (blkOk_by rfl) ?_ | refine se_F rfl (by assumption) (blkOk_by rfl) ?_ | refine se_Dc rfl (by assumption) (blkOk_by rfl) ?_ | refine se_chain ?_ | refine se_indexN ?_ | refine se_not ?_ | refine se_if ?_ | refine se_one ?_ | refine se_and ?_ | refine se_or ?_ | refine se_neg ?_)
    | ((with_reducible refine (?_ : ST _ _ _ _ _ _)); first | refine st_cmp ?_ | refine st_chain ?_ | refine st_not ?_ | refine st_w (sw_and ?_) | refine st_w (sw_or ?_) | refine st_val ?_)
    | ((with_reducible refine (?_ : SWt _ _ _ _ _ _)); first | refine sw_and ?_ | refine sw_and1 ?_ | refine sw_or ?_ | refine sw_or1 ?_)
    | ((with_reducible refine (?_ : SA _ _ _ _ _ _)); first | refine sa_cons ?_ | refine sa_nil ?_)
    | ((with_reducible refine (?_ : SO _ _ _ _ _ _)); first | refine so_none ?_ | refine so_some ?_)
    | ((with_reducible refine (?_ : SG _ _ _ _ _ _ _)); first | refine sg_nm (by assumption) ?_ | refine sg_par rfl ?_ | refine sg_tup rfl ?_)
    | ((with_reducible refine (?_ : SGs _ _ _ _ _ _ _)); first | refine sgs_cons ?_ | refine sgs_nil ?_)
    | ((with_reducible refine (?_ : SGb _ _ _ _ _ _ _ _)); first | refine sgb_nm (by assumption) ?_ (by first | exact vs_self | exact vs_one | exact vs_two) | refine sgb_par rfl ?_ | refine sgb_tup rfl ?_)
    | ((with_reducible refine (?_ : SGbs _ _ _ _ _ _ _ _)); first | refine sgbs_cons ?_ | refine sgbs_nil ?_)
    | ((with_reducible refine (?_ : SW _ _ _ _ _ _ _)); first | refine sw_vals ?_ | refine sw_zipT (by assumption) ?_ | refine sw_range (by assumption) ?_ | refine sw_seq ?_)
    | ((with_reducible refine (?_ : OpV _ _ _ _ _ _ _ _)); first | refine ov_eqN ?_ | refine ov_neN ?_ | refine ov_inN ?_ | refine ov_ninN ?_ | refine ov_inNT ?_ | refine ov_ninNT ?_ | refine oi_add ?_ | refine oi_catT (by fail "z") ?_ | refine ov_cat (by fail "z") ?_ | refine ov_catT (by fail "z") ?_ | refine ov_add ?_ | refine ov_sub ?_ | refine ov_lt ?_ | refine ov_le ?_ | refine ov_gt ?_ | refine ov_ge ?_ | refine ov_eqI ?_ | refine ov_neI ?_ | refine ov_eqS ?_ | refine ov_neS ?_ | refine ov_eqB ?_ | refine ov_neB ?_)
    | ((with_reducible refine (?_ : IxV _ _ _ _ _ _ _)); first | refine iv_cons ?_ | refine iv_consT ?_)
    | ((with_reducible refine (?_ : SlV _ _ _ _ _ _ _ _)); first | refine sv_fromL (by decide) ?_ | refine sv_fromT (by decide) ?_ | refine sv_toL (by decide) ?_ | refine sv_toT (by decide) ?_)
    | ((with_reducible refine (?_ : ClV _ _ _ _ _ _ _)); first | refine cv_anyM rfl ?_ | refine cv_allM rfl ?_ | refine cv_len rfl ?_ | refine cv_tuple rfl ?_ | refine cv_list rfl ?_ | refine cv_abs ?_ | refine cv_isStr rfl ?_ | refine cv_isTup rfl ?_ | refine cv_isInt rfl ?_ | refine cv_isBool rfl ?_ | refine cv_sum rfl ?_)
    | (with_reducible refine turn0I (fun _ _ _ _ _ _ => ?_)) | (with_reducible refine turn1I (fun _ _ _ _ _ _ => ?_)) | (with_reducible refine turnDI (fun _ _ _ _ _ _ => ?_)) | (with_reducible refine abI (fun _ _ _ _ _ => ?_)) | ((with_reducible show (if _ then _ else _)); first | refine iteT ?_ | refine iteF ?_) | ((with_reducible refine (?_ : And _ _)); refine And.intro (show _ ≤ sizeLine by fail "z") ?_) | ((with_reducible refine (?_ : Exists _)); refine ⟨_, rfl, ?_⟩))
namespace W
open PySem L2 D PyProof.Rows
def outs (E : Dem) (x : Nm) : List (Nm × Nat) := ((E.find? fun p => decide (p.1 = x)).map (·.2)).getD []
def natAt (l : List (Nm × Nat)) (x : Nm) : Option Nat := (l.find? fun q => decide (q.1 = x)).map (·.2)
def optI : Option Nat → Dt
  | none => .non
  | some n => .int (n : Nat)
def nearer (E : Dem) (ds : List (Nm × Nat)) (g x : Nm) (left : Nat) : List Nm := ((outs E x).filter fun q => (decide (q.1 = g) && decide (left = 0)) || (decide (0 < left) && decide (natAt ds q.1 = some left))).map (·.1)
def roadF (E : Dem) (ds : List (Nm × Nat)) (g : Nm) : Nat → Nm → List (Nm × Nm × Nat)
  | 0, _ => []
  | n + 1, x => match nearer E ds g x n with
    | [] => []
    | y :: ys => (x, minN y ys, (natAt (outs E x) (minN y ys)).getD 0) :: roadF E ds g n (minN y ys)
def leastRoad (E : Dem) (s g : Nm) : List (Nm × Nm × Nat) := roadF E (dist E g) g ((natAt (dist E g) s).getD 0) s
abbrev demD1 (t : Nm × Nm × Nat) : Dt := .tup [nD t.1, nD t.2.1, .int (t.2.2 : Nat)]
abbrev roadD (r : List (Nm × Nm × Nat)) : Dt := .tup (r.map demD1)
theorem natAt_mem {l : List (Nm × Nat)} (nd : (l.map (·.1)).Nodup) {q : Nm × Nat} (hq : q ∈ l) : natAt l q.1 = some q.2 := by
  unfold natAt
  induction l with
  | nil => cases hq
  | cons p l ih =>
    rw [List.find?_cons]
    rcases List.mem_cons.mp hq with e | h
    · subst e; simp
    · have n2 := List.nodup_cons.mp nd
      rw [decide_eq_false fun e => n2.1 (List.mem_map.mpr ⟨q, h, e.symm⟩)]
      exact ih n2.2 h
theorem natAt_some {l : List (Nm × Nat)} {x : Nm} {n : Nat} (h : natAt l x = some n) : (x, n) ∈ l := by
  unfold natAt at h
  obtain ⟨q, hq, rfl⟩ := Option.map_eq_some_iff.mp h
  have h1 := List.mem_of_find?_eq_some hq
  have h2 : q.1 = x := by simpa using List.find?_some hq
  rw [← h2]; exact h1
theorem outs_of {E : Dem} (hE : EOk E) {p : Nm × List (Nm × Nat)} (hp : p ∈ E) : outs E p.1 = p.2 := by
  unfold outs; rw [find_key hE.2 hp rfl]; rfl
/-- how the found ones came -/
def Came (E : Dem) (g : Nm) (found : List (Nm × Nat)) : Prop := ∀ q ∈ found, ∃ k, q.2 = k + 1 ∧ q.1 ∈ E.map (·.1) ∧ ∃ y, hasK (outs E q.1) y = true ∧ ((k = 0 ∧ y = g) ∨ (0 < k ∧ (y, k) ∈ found))
theorem distF_came {E : Dem} (hE : EOk E) {g : Nm} : ∀ (n : Nat) (found : List (Nm × Nat)) (level : List Nm) (s : Nat), FOk E found → Came E g found → (s = 0 ∧ level = [g] ∨ 0 < s ∧ ∀ y ∈ level, (y, s) ∈ found) → FOk E (distF n E found level s) ∧ Came E g (distF n E found level s)
  | 0, found, level, s, hF, hC, _ => ⟨hF, hC⟩
  | n + 1, found, level, s, hF, hC, hl => by
    unfold distF
    split
    · exact ⟨hF, hC⟩
    refine distF_came hE n _ _ _ (hF.next hE level (s + 1)) ?_ (.inr ⟨Nat.succ_pos _, fun y hy => List.mem_append_right _ (List.mem_map.mpr ⟨y, hy, rfl⟩)⟩)
    intro q hq
    rcases List.mem_append.mp hq with h | h
    · obtain ⟨k, h1, h0, y, h2, h3⟩ := hC q h
      exact ⟨k, h1, h0, y, h2, h3.imp id fun ⟨a, b⟩ => ⟨a, List.mem_append_left _ b⟩⟩
    · obtain ⟨x, hx, rfl⟩ := List.mem_map.mp h
      obtain ⟨p, hp, rfl⟩ := List.mem_map.mp hx
      obtain ⟨hpE, hp2⟩ := List.mem_filter.mp hp
      rw [Bool.and_eq_true, List.any_eq_true] at hp2
      obtain ⟨_, y, hy, hk⟩ := hp2
      refine ⟨s, rfl, List.mem_map.mpr ⟨p, hpE, rfl⟩, y, by rw [outs_of hE hpE]; exact hk, ?_⟩
      rcases hl with ⟨rfl, rfl⟩ | ⟨h0, hl⟩
      · exact .inl ⟨rfl, List.mem_singleton.mp hy⟩
      · exact .inr ⟨h0, List.mem_append_left _ (hl y hy)⟩
theorem dist_came {E : Dem} (hE : EOk E) (g : Nm) : FOk E (dist E g) ∧ Came E g (dist E g) :=
  distF_came hE _ [] [g] 0 ⟨.nil, fun _ h => nomatch h⟩ (fun _ h => nomatch h) (.inl ⟨rfl, rfl⟩)
theorem distF_top {E : Dem} : ∀ (n : Nat) (found : List (Nm × Nat)) (level : List Nm) (s : Nat), (∀ q ∈ found, q.2 ≤ s) → ∀ q ∈ distF n E found level s, q.2 ≤ s + n
  | 0, found, level, s, h, q, hq => h q hq
  | n + 1, found, level, s, h, q, hq => by
    unfold distF at hq
    split at hq
    · have := h q hq; omega
    · have := distF_top n _ _ (s + 1) (fun q hq => by
        rcases List.mem_append.mp hq with z | z
        · have := h q z; omega
        · obtain ⟨x, _, rfl⟩ := List.mem_map.mp z; exact Nat.le_refl _) q hq
      omega
theorem nearer_ne {E : Dem} (hE : EOk E) {g x : Nm} {k : Nat} (h : natAt (dist E g) x = some (k + 1)) : nearer E (dist E g) g x k ≠ [] := by
  obtain ⟨hF, hC⟩ := dist_came hE g
  obtain ⟨k', e, _, y, hy, hc⟩ := hC _ (natAt_some h)
  cases e
  obtain ⟨q, hq, e⟩ := List.any_eq_true.mp (show (List.any _ _) = true from hy)
  have e := of_decide_eq_true e
  intro z
  have : q.1 ∈ nearer E (dist E g) g x k := by
    refine List.mem_map.mpr ⟨q, List.mem_filter.mpr ⟨hq, ?_⟩, rfl⟩
    rcases hc with ⟨rfl, h2⟩ | ⟨h1, h2⟩
    · simp [e, h2]
    · have := natAt_mem hF.1 h2
      simp [e, h1, this]
  rw [z] at this; cases this
theorem near_min {E : Dem} {ds : List (Nm × Nat)} {g x y : Nm} {ys : List Nm} {k : Nat} (h : nearer E ds g x k = y :: ys) : (∃ q ∈ outs E x, q.1 = minN y ys) ∧ ((k = 0 ∧ minN y ys = g) ∨ (0 < k ∧ natAt ds (minN y ys) = some k)) := by
  have hm : minN y ys ∈ nearer E ds g x k := by rw [h]; exact minBy_mem _ _ _
  obtain ⟨q, hq, e⟩ := List.mem_map.mp hm
  obtain ⟨h1, h2⟩ := List.mem_filter.mp hq
  refine ⟨⟨q, h1, e⟩, ?_⟩
  rw [← e]
  simp only [Bool.or_eq_true, Bool.and_eq_true, decide_eq_true_eq] at h2
  rcases h2 with ⟨a, b⟩ | ⟨a, b⟩
  · exact .inl ⟨b, a⟩
  · exact .inr ⟨a, b⟩
theorem dval_inE (l : List (Nm × Nat)) (y : Nm) : (dval (inE l) (nK y)).getD .non = optI (natAt l y) := by
  rw [inE, dval_map (fun q : Nm × Nat => .int (q.2 : Nat)) (fun q => q.1)]
  unfold natAt
  cases l.find? fun q => decide (q.1 = y) <;> rfl
theorem keysD_inE (l : List (Nm × Nat)) : keysD (inE l) = l.map fun q => nD q.1 := keysD_map (fun q : Nm × Nat => .int (q.2 : Nat)) (fun q => q.1) l
theorem fit_optI {n : Nat} (o : Option Nat) : Fit n (optI o) := by
  cases o with
  | none => exact fit_non
  | some n => exact fit_int
theorem eqd_optI (o : Option Nat) (k : Nat) : eqd (optI o) (.int (k : Nat)) = decide (o = some k) := by
  cases o with
  | none => rfl
  | some n =>
    show PyData.eqv (.int (n : Int)) (.int (k : Int)) = _
    by_cases h : n = k
    · subst h; simp [PyData.eqv]
    · have : ¬ (n : Int) = (k : Int) := by omega
      simp [PyData.eqv, h, this]
theorem range_pre {n r : Nat} {pre rest : List Nat} (h : List.range n = pre ++ r :: rest) : r + rest.length + 1 = n := by
  have h1 : (List.range n)[pre.length]? = some r := by rw [h]; simp
  have hl := congrArg List.length h
  rw [List.length_range, List.length_append, List.length_cons] at hl
  rw [List.getElem?_range (by omega)] at h1
  have : pre.length = r := Option.some.inj h1
  omega
section
variable {P : Program} {w : World} {K : PySem.W.Frag} {mg : Str → Option Value} {base : Heap}
abbrev D_distances_to (P : Program) (w : World) (K : PySem.W.Frag) (mg : Str → Option Value) (base : Heap) : Prop := DefOk P w K mg base 1 "distances_to" ["demands", "goal"] (sp_distances K)
abbrev DmOk (E : Dem) : Prop := EOk E ∧ ∀ p ∈ E, p.2.length ≤ 10000
abbrev sp_least_road (K : PySem.W.Frag) : Sp := spP K (fun x : Dem × Nm × Nm => [demD x.1, nD x.2.1, nD x.2.2]) (fun x => DmOk x.1 ∧ (natAt (dist x.1 x.2.2) x.2.1).isSome = true) (fun x d => d = roadD (leastRoad x.1 x.2.1 x.2.2))
theorem ok_least_road {f : Addr} {fd : FuncData} (Fu : Fun K "least_road" "least_road" s_least_road f fd) (T : Txt mg) (Dd : D_distances_to P w K mg base) : FnOk P w K mg base (L2.CX P w) 2 f fd ["demands", "start", "goal"] (sp_least_road K) := by
  refine fn_P Fu sc_least_road (fun a => rfl) (fun cdv A outer s H E0 F x hp hr => ?_)
  obtain ⟨E, st, g⟩ := x
  obtain ⟨⟨hE, hE2⟩, hs⟩ := (show DmOk E ∧ (natAt (dist E g) st).isSome = true from hp)
  obtain ⟨n, hn⟩ := Option.isSome_iff_exists.mp hs
  have hlr : leastRoad E st g = roadF E (dist E g) g n st := by unfold leastRoad; rw [hn]; rfl
  obtain ⟨hF, hC⟩ := dist_came hE g
  have nd := sc_least_road.nd
  have hmin := T.min
  have hrange := T.range
  have hu := hu_of hr
  have hn1 : n ≤ 10002 := by
    have := distF_top (E := E) (E.length + 2) [] [g] 0 (fun _ h => nomatch h) _ (natAt_some hn)
    have := hE.1
    simp at *; omega
  refine ss_cons (s_st nd (se_fP Dd (hr.mono (by decide)) ?_))
  repeat fail
  refine ⟨(E, g), rfl, hE, ?_⟩
  rintro _ rfl
  repeat fail
  refine s_for (passes_of rfl) rfl (sw_down hrange ?_)
  repeat fail
  refine iv_dct hu rfl (d' := .int (n : Nat)) ?_ ?_
  · have := dval_map (fun q : Nm × Nat => .int (q.2 : Nat)) (fun q => q.1) st (dist E g)
    rw [inE, this]
    unfold natAt at hn
    obtain ⟨q, hq, e⟩ := Option.map_eq_some_iff.mp hn
    rw [hq, ← e]; rfl
  repeat fail
  refine ⟨_, _, rfl, by omega, by omega, by omega, by omega, ?_⟩
  rw [show ((n : Int) - 1 - -1).toNat = n by omega]
  refine for_t (fun rest Γ c => ∃ d4 d5 u6 u7 u8, (Γ = [.dat (demD E), .dat (nD st), .dat (nD g), .dat (.dct (inE (dist E g))), .dat d4, .dat d5, u6, u7, u8] ∧ c = []) ∧ ∃ acc x, d4 = roadD acc ∧ d5 = nD x ∧ acc.length + rest.length = n ∧ acc ++ roadF E (dist E g) g rest.length x = roadF E (dist E g) g n st ∧ (0 < rest.length → natAt (dist E g) x = some rest.length))
    ⟨_, _, _, _, _, ⟨rfl, rfl⟩, [], st, rfl, rfl, by simp, by simp, fun _ => by simpa using hn⟩ ?_ ?_
  · rintro pre r rest Γ c hl ⟨_, _, u6, u7, u8, ⟨rfl, rfl⟩, acc, x, rfl, rfl, hlen, hacc, hx⟩
    have hrn := range_pre hl
    have hx := hx (Nat.succ_pos _)
    rw [List.length_cons] at hx hlen
    have hleft : (n : Int) - 1 + (r : Int) * (-1) = (rest.length : Int) := by omega
    obtain ⟨k0, ek, hxk, _⟩ := hC _ (natAt_some hx)
    obtain ⟨p, hpE, e⟩ := List.mem_map.mp hxk
    have e : p.1 = x := e
    subst e
    have hout := outs_of hE hpE
    have hdv : dval ((E.map fun p => (nK p.1, Dt.dct (inE p.2)))) (nK p.1) = some (.dct (inE p.2)) := by
      rw [dval_map (fun p : Nm × List (Nm × Nat) => .dct (inE p.2)) (fun p => p.1), find_key hE.2 hpE rfl]; rfl
    have hp2 := hE2 p hpE
    rw [hleft]
    repeat fail
    refine iv_dct hu rfl hdv ?_
    repeat fail
    rw [keysD_inE]
    refine lcF (fun q => (decide (q.1 = g) && decide (rest.length = 0)) || (decide (0 < rest.length) && decide (natAt (dist E g) q.1 = some rest.length))) (fun q => nD q.1) (by fail "z") ?_ ?_
    · intro q hq
      repeat fail
      refine ite2 (fun h1 => ?_) (fun h1 => ?_)
      · repeat fail
        refine ite2 (fun h2 => ?_) (fun h2 => ?_)
        · repeat fail
          have h2' : rest.length = 0 := by have := of_decide_eq_true h2; omega
          refine ⟨?_, rfl, rfl⟩
          rw [h1, decide_eq_true h2']; rfl
        · have h2' : ¬ rest.length = 0 := fun z => h2 (decide_eq_true (by omega))
          repeat fail
          refine ite2 (fun h3 => ?_) (fun h3 => ?_)
          · have h3' : 0 < rest.length := by have := of_decide_eq_true h3; omega
            repeat fail
            refine se_get hu ?_
            repeat fail
            rw [dval_inE]
            refine ov_eqD hr.units (fit_optI _) fit_int ?_
            rw [eqd_optI]
            repeat fail
            refine filt_end (fun h4 => ?_) (fun h4 => ?_)
            · repeat fail
              refine ⟨?_, rfl, rfl⟩
              rw [h4, decide_eq_true h3']; simp
            · refine ⟨rfl, ?_⟩
              rw [h4]; have : ¬ rest.length = 0 := by omega
              simp [this]
          · have h3' : ¬ 0 < rest.length := fun z => h3 (decide_eq_true (by omega))
            repeat fail
            refine ⟨rfl, ?_⟩
            exact absurd (Nat.pos_of_ne_zero h2') h3'
      · have h1' : decide (q.1 = g) = false := by simpa using h1
        repeat fail
        refine ite2 (fun h3 => ?_) (fun h3 => ?_)
        · have h3' : 0 < rest.length := by have := of_decide_eq_true h3; omega
          repeat fail
          refine se_get hu ?_
          repeat fail
          rw [dval_inE]
          refine ov_eqD hr.units (fit_optI _) fit_int ?_
          rw [eqd_optI]
          repeat fail
          refine filt_end (fun h4 => ?_) (fun h4 => ?_)
          · repeat fail
            refine ⟨?_, rfl, rfl⟩
            rw [h4, decide_eq_true h3']; simp
          · refine ⟨rfl, ?_⟩
            rw [h4]; have : ¬ rest.length = 0 := by omega
            simp [this]
        · have h3' : ¬ 0 < rest.length := fun z => h3 (decide_eq_true (by omega))
          repeat fail
          refine ⟨rfl, ?_⟩
          rw [h1']; simp [h3']
    · have enear : ((outs E p.1).filter fun q => (decide (q.1 = g) && decide (rest.length = 0)) || (decide (0 < rest.length) && decide (natAt (dist E g) q.1 = some rest.length))).map (fun q => nD q.1) = (nearer E (dist E g) g p.1 rest.length).map nD := by
        unfold nearer; rw [List.map_map]; rfl
      rw [hout] at enear
      rw [enear]
      cases hnr : nearer E (dist E g) g p.1 rest.length with
      | nil => exact absurd hnr (nearer_ne hE hx)
      | cons y ys =>
        obtain ⟨⟨q, hq, eq⟩, hnext⟩ := near_min hnr
        rw [hout] at hq
        have hdv2 : dval (inE p.2) (nK (minN y ys)) = some (.int (((natAt p.2 (minN y ys)).getD 0 : Nat) : Int)) := by
          have h1 : (dval (inE p.2) (nK (minN y ys))).isSome = true := by
            rw [inE_any, List.any_eq_true]; exact ⟨q, hq, decide_eq_true eq⟩
          have h2 := dval_inE p.2 (minN y ys)
          obtain ⟨d, hd⟩ := Option.isSome_iff_exists.mp h1
          rw [hd] at h2 ⊢
          have h2 : d = optI (natAt p.2 (minN y ys)) := h2
          cases hn2 : natAt p.2 (minN y ys) with
          | none =>
            rw [inE, dval_map (fun q : Nm × Nat => .int (q.2 : Nat)) (fun q => q.1)] at hd
            unfold natAt at hn2
            rw [Option.map_eq_none_iff] at hn2
            rw [hn2] at hd; cases hd
          | some k => rw [h2, hn2]; rfl
        repeat fail
        refine cv_minN rfl (room65 hr) ?_
        repeat fail
        refine iv_dct hu rfl hdv ?_
        repeat fail
        refine iv_dct hu rfl hdv2 ?_
        repeat fail
        refine ⟨_, _, _, _, _, ⟨rfl, rfl⟩, acc ++ [(p.1, minN y ys, (natAt p.2 (minN y ys)).getD 0)], minN y ys, ?_, rfl, ?_, ?_, ?_⟩
        · rw [roadD, List.map_append]; rfl
        · rw [List.length_append]; show acc.length + 1 + _ = _; omega
        · rw [← hacc, List.append_assoc]
          conv => rhs; rw [List.length_cons, roadF, hnr, hout]
          rfl
        · intro h0
          rcases hnext with ⟨z, _⟩ | ⟨_, z⟩
          · omega
          · exact z
  · rintro Γ c ⟨_, _, u6, u7, u8, ⟨rfl, rfl⟩, acc, x, rfl, rfl, hlen, hacc, hx⟩
    repeat fail
    refine ⟨rfl, ?_⟩
    rw [hlr, ← hacc]; simp [roadF]
end
end W
end
section
set_option Elab.async false
set_option linter.all false
set_option maxRecDepth 100000
set_option maxHeartbeats 4000000
open PySem L2 D PyProof.Rows
local macro_rules
  | `(tactic| fail "z") => `(tactic| ((try simp only [List.length_map, List.length_cons, List.length_nil, List.length_append, List.length_drop, List.length_take]); have := big_line; omega))
local macro_rules
  | `(tactic| fail) => `(tactic| first
    | ((with_reducible refine (?_ : SE _ _ _ _ _ _)); first | refine se_nm rfl ?_ | refine se_tyTuple (by assumption) ?_ | refine se_tyStr (by assumption) ?_ | refine se_tyInt (by assumption) ?_ | refine se_tyBool (by assumption) ?_ | refine se_int ?_ | refine se_str ?_ | refine se_non ?_ | refine se_bl ?_ | refine se_cmp ?_ | refine se_bin ?_ | refine se_backT ?_ | refine se_ix ?_ | refine se_slice ?_ | refine se_tup ?_ | refine se_lst ?_ | ((with_reducible refine (?_ : SE _ _ _ _ (.Call _ _ _ _) _)); first | refine se_any (by assumption) ?_ | refine se_all (by assumption) ?_ | refine se_len (by assumption) ?_ | refine se_min (by assumption) ?_ | refine se_max (by assumption) ?_ | refine se_sorted (by assumption) ?_ | refine se_isi (by assumption) ?_ | refine se_abs (by assumption) ?_ | refine se_sum (by assumption) ?_ | refine se_tupleC (by assumption) ?_ | refine se_listC (by assumption) ?_) | refine se_M rfl (by assumption) (blkOk_by rfl) ?_ | refine se_F rfl (by assumption) (blkOk_by rfl) ?_ | refine se_Dc rfl (by assumption) (blkOk_by rfl) ?_ | refine se_chain ?_ | refine se_indexN ?_ | refine se_not ?_ | refine se_if ?_ | refine se_one ?_ | refine se_and ?_ | refine se_or ?_ | refine se_neg ?_)
    | ((with_reducible refine (?_ : ST _ _ _ _ _ _)); first | refine st_cmp ?_ | refine st_chain ?_ | refine st_not ?_ | refine st_w (sw_and ?_) | refine st_w (sw_or ?_) | refine st_val ?_)
    | ((with_reducible refine (?_ : SWt _ _ _ _ _ _)); first | refine sw_and ?_ | refine sw_and1 ?_ | refine sw_or ?_ | refine sw_or1 ?_)
    | ((with_reducible refine (?_ : SA _ _ _ _ _ _)); first | refine sa_cons ?_ | refine sa_nil ?_)
    | ((with_reducible refine (?_ : SO _ _ _ _ _ _)); first | refine so_none ?_ | refine so_some ?_)
    | ((with_reducible refine (?_ : SS _ _ _ _ _ _)); first | refine ss_one ?_ | refine ss_cons ?_)
    | ((with_reducible refine (?_ : S1 _ _ _ _ _ _)); first | refine s_ret ?_ | refine s_if ?_ | refine s_M rfl (by assumption) (blkOk_by rfl) ?_ | refine s_F rfl (by assumption) (blkOk_by rfl) ?_ | refine s_Dc rfl (by assumption) (blkOk_by rfl) ?_ | refine s_st (by assumption) ?_ | refine s_aug (by assumption) rfl ?_ | refine s_asg ?_ | refine s_expr ?_)
    | ((with_reducible refine (?_ : SG _ _ _ _ _ _ _)); first | refine sg_nm (by assumption) ?_ | refine sg_par rfl ?_ | refine sg_tup rfl ?_)
    | ((with_reducible refine (?_ : SGs _ _ _ _ _ _ _)); first | refine sgs_cons ?_ | refine sgs_nil ?_)
    | ((with_reducible refine (?_ : SGb _ _ _ _ _ _ _ _)); first | refine sgb_nm (by assumption) ?_ (by first | exact vs_self | exact vs_one | exact vs_two) | refine sgb_par rfl ?_ | refine sgb_tup rfl ?_)
    | ((with_reducible refine (?_ : SGbs _ _ _ _ _ _ _ _)); first | refine sgbs_cons ?_ | refine sgbs_nil ?_)
    | ((with_reducible refine (?_ : SW _ _ _ _ _ _ _)); first | refine sw_vals ?_ | refine sw_zipT (by assumption) ?_ | refine sw_range (by assumption) ?_ | refine sw_seq ?_)
    | ((with_reducible refine (?_ : OpV _ _ _ _ _ _ _ _)); first | refine ov_eqN ?_ | refine ov_neN ?_ | refine ov_inN ?_ | refine ov_ninN ?_ | refine ov_inNT ?_ | refine ov_ninNT ?_ | refine oi_add ?_ | refine oi_catT (by fail "z") ?_ | refine ov_cat (by fail "z") ?_ | refine ov_catT (by fail "z") ?_ | refine ov_add ?_ | refine ov_sub ?_ | refine ov_lt ?_ | refine ov_le ?_ | refine ov_gt ?_ | refine ov_ge ?_ | refine ov_eqI ?_ | refine ov_neI ?_ | refine ov_eqS ?_ | refine ov_neS ?_ | refine ov_eqB ?_ | refine ov_neB ?_)
    | ((with_reducible refine (?_ : IxV _ _ _ _ _ _ _)); first | refine iv_cons ?_ | refine iv_consT ?_)
    | ((with_reducible refine (?_ : SlV _ _ _ _ _ _ _ _)); first | refine sv_fromL (by decide) ?_ | refine sv_fromT (by decide) ?_ | refine sv_toL (by decide) ?_ | refine sv_toT (by decide) ?_)
    | ((with_reducible refine (?_ : ClV _ _ _ _ _ _ _)); first | refine cv_anyM rfl ?_ | refine cv_allM rfl ?_ | refine cv_len rfl ?_ | refine cv_tuple rfl ?_ | refine cv_list rfl ?_ | refine cv_abs ?_ | refine cv_isStr rfl ?_ | refine cv_isTup rfl ?_ | refine cv_isInt rfl ?_ | refine cv_isBool rfl ?_ | refine cv_sum rfl ?_)
    | (with_reducible refine turn0I (fun _ _ _ _ _ _ => ?_)) | (with_reducible refine turn1I (fun _ _ _ _ _ _ => ?_)) | (with_reducible refine turnDI (fun _ _ _ _ _ _ => ?_)) | (with_reducible refine abI (fun _ _ _ _ _ => ?_)) | ((with_reducible show (if _ then _ else _)); first | refine iteT ?_ | refine iteF ?_) | ((with_reducible refine (?_ : And _ _)); refine And.intro (show _ ≤ sizeLine by fail "z") ?_) | ((with_reducible refine (?_ : Exists _)); refine ⟨_, rfl, ?_⟩))
local macro_rules
  | `(tactic| fail "e") => `(tactic| first
    | ((with_reducible refine (?_ : SE _ _ _ _ _ _)); first | refine se_nm rfl ?_ | refine se_tyTuple (by assumption) ?_ | refine se_tyStr (by assumption) ?_ | refine se_tyInt (by assumption) ?_ | refine se_tyBool (by assumption) ?_ | refine se_int ?_ | refine se_str ?_ | refine se_non ?_ | refine se_bl ?_ | refine se_cmp ?_ | refine se_bin ?_ | refine se_backT ?_ | refine se_ix ?_ | refine se_slice ?_ | refine se_tup ?_ | refine se_lst ?_ | ((with_reducible refine (?_ : SE _ _ _ _ (.Call _ _ _ _) _)); first | refine se_any (by assumption) ?_ | refine se_all (by assumption) ?_ | refine se_len (by assumption) ?_ | refine se_min (by assumption) ?_ | refine se_max (by assumption) ?_ | refine se_sorted (by assumption) ?_ | refine se_isi (by assumption) ?_ | refine se_abs (by assumption) ?_ | refine se_sum (by assumption) ?_ | refine se_tupleC (by assumption) ?_ | refine se_listC (by assumption) ?_) | refine se_M rfl (by assumption) (blkOk_by rfl) ?_ | refine se_F rfl (by assumption) (blkOk_by rfl) ?_ | refine se_Dc rfl (by assumption) (blkOk_by rfl) ?_ | refine se_chain ?_ | refine se_indexN ?_ | refine se_not ?_ | refine se_if ?_ | refine se_one ?_ | refine se_and ?_ | refine se_or ?_ | refine se_neg ?_)
    | ((with_reducible refine (?_ : ST _ _ _ _ _ _)); first | refine st_cmp ?_ | refine st_chain ?_ | refine st_not ?_ | refine st_w (sw_and ?_) | refine st_w (sw_or ?_) | refine st_val ?_)
    | ((with_reducible refine (?_ : SWt _ _ _ _ _ _)); first | refine sw_and ?_ | refine sw_and1 ?_ | refine sw_or ?_ | refine sw_or1 ?_)
    | ((with_reducible refine (?_ : SA _ _ _ _ _ _)); first | refine sa_cons ?_ | refine sa_nil ?_)
    | ((with_reducible refine (?_ : SO _ _ _ _ _ _)); first | refine so_none ?_ | refine so_some ?_)
    | ((with_reducible refine (?_ : SG _ _ _ _ _ _ _)); first | refine sg_nm (by assumption) ?_ | refine sg_par rfl ?_ | refine sg_tup rfl ?_)
    | ((with_reducible refine (?_ : SGs _ _ _ _ _ _ _)); first | refine sgs_cons ?_ | refine sgs_nil ?_)
    | ((with_reducible refine (?_ : SGb _ _ _ _ _ _ _ _)); first | refine sgb_nm (by assumption) ?_ (by first | exact vs_self | exact vs_one | exact vs_two) | refine sgb_par rfl ?_ | refine sgb_tup rfl ?_)
    | ((with_reducible refine (?_ : SGbs _ _ _ _ _ _ _ _)); first | refine sgbs_cons ?_ | refine sgbs_nil ?_)
    | ((with_reducible refine (?_ : SW _ _ _ _ _ _ _)); first | refine sw_vals ?_ | refine sw_zipT (by assumption) ?_ | refine sw_range (by assumption) ?_ | refine sw_seq ?_)
    | ((with_reducible refine (?_ : OpV _ _ _ _ _ _ _ _)); first | refine ov_eqN ?_ | refine ov_neN ?_ | refine ov_inN ?_ | refine ov_ninN ?_ | refine ov_inNT ?_ | refine ov_ninNT ?_ | refine oi_add ?_ | refine oi_catT (by fail "z") ?_ | refine ov_cat (by fail "z") ?_ | refine ov_catT (by fail "z") ?_ | refine ov_add ?_ | refine ov_sub ?_ | refine ov_lt ?_ | refine ov_le ?_ | refine ov_gt ?_ | refine ov_ge ?_ | refine ov_eqI ?_ | refine ov_neI ?_ | refine ov_eqS ?_ | refine ov_neS ?_ | refine ov_eqB ?_ | refine ov_neB ?_)
    | ((with_reducible refine (?_ : IxV _ _ _ _ _ _ _)); first | refine iv_cons ?_ | refine iv_consT ?_)
    | ((with_reducible refine (?_ : SlV _ _ _ _ _ _ _ _)); first | refine sv_fromL (by decide) ?_ | refine sv_fromT (by decide) ?_ | refine sv_toL (by decide) ?_ | refine sv_toT (by decide) ?_)
    | ((with_reducible refine (?_ : ClV _ _ _ _ _ _ _)); first | refine cv_anyM rfl ?_ | refine cv_allM rfl ?_ | refine cv_len rfl ?_ | refine cv_tuple rfl ?_ | refine cv_list rfl ?_ | refine cv_abs ?_ | refine cv_isStr rfl ?_ | refine cv_isTup rfl ?_ | refine cv_isInt rfl ?_ | refine cv_isBool rfl ?_ | refine cv_sum rfl ?_)
    | (with_reducible refine turn0I (fun _ _ _ _ _ _ => ?_)) | (with_reducible refine turn1I (fun _ _ _ _ _ _ => ?_)) | (with_reducible refine turnDI (fun _ _ _ _ _ _ => ?_)) | (with_reducible refine abI (fun _ _ _ _ _ => ?_)) | ((with_reducible show (if _ then _ else _)); first | refine iteT ?_ | refine iteF ?_) | ((with_reducible refine (?_ : And _ _)); refine And.intro (show _ ≤ sizeLine by fail "z") ?_) | ((with_reducible refine (?_ : Exists _)); refine ⟨_, rfl, ?_⟩))
namespace W
open PySem L2 D PyProof.Rows
def sz (E : Dem) (x : Nm) : Option Nat := natAt (dist E x) x
def szs (E : Dem) : List Int := (E.filter fun p => (sz E p.1).isSome).map fun p => (((sz E p.1).getD 0 : Nat) : Int)
def leastSz (E : Dem) : Int := match szs E with
  | [] => 0
  | x :: xs => minBy ltI x xs
def starts (E : Dem) : List Nm := (E.filter fun p => decide ((sz E p.1).map (fun n : Nat => (n : Int)) = some (leastSz E))).map (·.1)
def startOf (E : Dem) : Option Nm := match starts E with
  | [] => none
  | x :: xs => some (minN x xs)
def leastRing (L : List (List Nm)) : List (Nm × Nm × Nat) := match startOf (earliest L) with
  | none => []
  | some s => leastRoad (earliest L) s s
theorem few_puts {L : List (List Nm)} (i : Nat) (x : Nm) : ∀ (r : List Nm) (E : Dem), (∀ y ∈ r, y ∈ L.flatten) → Few L E → Few L (demPuts i x E r)
  | [], E, _, h => h
  | y :: r, E, hr, h => few_puts i x r (demPut E x y i) (fun z hz => hr z (List.mem_cons_of_mem _ hz)) (few_put h x (hr y (List.mem_cons_self ..)) i)
theorem few_row {L : List (List Nm)} (i : Nat) : ∀ (r : List Nm) (E : Dem), (∀ y ∈ r, y ∈ L.flatten) → Few L E → Few L (demRow i E r)
  | [], E, _, h => h
  | x :: r, E, hr, h => few_row i r _ (fun z hz => hr z (List.mem_cons_of_mem _ hz)) (few_puts i x r E (fun z hz => hr z (List.mem_cons_of_mem _ hz)) h)
theorem few_rows {L : List (List Nm)} : ∀ (R : List (List Nm × Nat)) (E : Dem), (∀ p ∈ R, ∀ y ∈ p.1, y ∈ L.flatten) → Few L E → Few L (demRows E R)
  | [], E, _, h => h
  | (r, i) :: R, E, hr, h => few_rows R _ (fun p hp => hr p (List.mem_cons_of_mem _ hp)) (few_row i r E (hr _ (List.mem_cons_self ..)) h)
theorem few_earliest (L : List (List Nm)) : Few L (earliest L) := few_rows _ _ (fun p hp y hy => List.mem_flatten.mpr ⟨p.1, by
  obtain ⟨i, hi⟩ := List.getElem?_of_mem hp
  rw [List.getElem?_zipIdx] at hi
  obtain ⟨r, h1, rfl⟩ := Option.map_eq_some_iff.mp hi
  exact List.mem_of_getElem? h1, hy⟩) (few_init L)
theorem dmOk_earliest {L : List (List Nm)} (h : RowsOk L) : DmOk (earliest L) := by
  have hf := few_earliest L
  refine ⟨⟨?_, by rw [hf.1]; exact nodup_keysOf _⟩, fun p hp => few_len h hf hp⟩
  have h1 := congrArg List.length hf.1
  rw [List.length_map] at h1
  have h2 := keysOf_len L.flatten
  have h3 := flat_len h L.length
  rw [List.take_length] at h3
  omega
theorem fold_all' {α : Type} (f : α → Dt) (k : α → Nm) : ∀ (l : List α) (acc : List α), ((acc ++ l).map k).Nodup → (l.map fun p => (nK (k p), f p)).foldl (fun acc kv => dput acc kv.1 kv.2) (acc.map fun p => (nK (k p), f p)) = (acc ++ l).map fun p => (nK (k p), f p)
  | [], acc, _ => by simp
  | p :: l, acc, nd => by
    have hno : (acc.any fun q => decide (k q = k p)) = false := by
      rw [List.any_eq_false]
      intro q hq e
      have e := of_decide_eq_true e
      rw [List.map_append] at nd
      exact (List.nodup_append.mp nd).2.2 (k q) (List.mem_map.mpr ⟨q, hq, rfl⟩) (k p) (List.mem_map.mpr ⟨p, List.mem_cons_self .., rfl⟩) e
    show (l.map fun p => (nK (k p), f p)).foldl (fun acc kv => dput acc kv.1 kv.2) (dput (acc.map fun p => (nK (k p), f p)) (nK (k p)) (f p)) = _
    rw [dput_new _ (by rw [any_nK]; exact hno)]
    have e : (acc.map fun p => (nK (k p), f p)) ++ [(nK (k p), f p)] = (acc ++ [p]).map fun p => (nK (k p), f p) := by simp
    rw [e, fold_all' f k l (acc ++ [p]) (by simpa using nd)]
    simp
theorem fold_all {α : Type} (f : α → Dt) (k : α → Nm) (l : List α) (nd : (l.map k).Nodup) : (l.map fun p => (nK (k p), f p)).foldl (fun acc kv => dput acc kv.1 kv.2) [] = l.map fun p => (nK (k p), f p) := fold_all' f k l [] (by simpa using nd)
theorem eqd_optZ (o : Option Nat) (k : Int) : eqd (optI o) (.int k) = decide (o.map (fun n : Nat => (n : Int)) = some k) := by
  cases o with
  | none => rfl
  | some n =>
    show PyData.eqv (.int (n : Int)) (.int k) = _
    by_cases h : (n : Int) = k
    · subst h; simp [PyData.eqv]
    · simp [PyData.eqv, h]
theorem starts_ne {E : Dem} (h : ∃ p ∈ E, (sz E p.1).isSome = true) : starts E ≠ [] := by
  obtain ⟨p, hp, hs⟩ := h
  have hne : szs E ≠ [] := by
    intro z
    have : (((sz E p.1).getD 0 : Nat) : Int) ∈ szs E := List.mem_map.mpr ⟨p, List.mem_filter.mpr ⟨hp, hs⟩, rfl⟩
    rw [z] at this; cases this
  have hm : leastSz E ∈ szs E := by
    unfold leastSz
    cases e : szs E with
    | nil => exact absurd e hne
    | cons x xs => exact minBy_mem _ _ _
  obtain ⟨q, hq, e⟩ := List.mem_map.mp hm
  obtain ⟨hqE, hqs⟩ := List.mem_filter.mp hq
  intro z
  have : q.1 ∈ starts E := by
    refine List.mem_map.mpr ⟨q, List.mem_filter.mpr ⟨hqE, decide_eq_true ?_⟩, rfl⟩
    obtain ⟨n, hn⟩ := Option.isSome_iff_exists.mp hqs
    rw [← e, hn]; rfl
  rw [z] at this; cases this
theorem start_sz {E : Dem} {s : Nm} (h : startOf E = some s) : (sz E s).map (fun n : Nat => (n : Int)) = some (leastSz E) ∧ s ∈ E.map (·.1) := by
  unfold startOf at h
  cases e : starts E with
  | nil => rw [e] at h; cases h
  | cons x xs =>
    rw [e] at h
    cases h
    have : minN x xs ∈ starts E := by rw [e]; exact minBy_mem _ _ _
    obtain ⟨q, hq, e2⟩ := List.mem_map.mp this
    obtain ⟨h1, h2⟩ := List.mem_filter.mp hq
    rw [← e2]
    exact ⟨of_decide_eq_true h2, List.mem_map.mpr ⟨q, h1, rfl⟩⟩
section
variable {P : Program} {w : World} {K : PySem.W.Frag} {mg : Str → Option Value} {base : Heap}
abbrev D_earliest (P : Program) (w : World) (K : PySem.W.Frag) (mg : Str → Option Value) (base : Heap) : Prop := DefOk P w K mg base 1 "earliest_demands" ["lists"] (sp_earliest K)
abbrev D_least_road (P : Program) (w : World) (K : PySem.W.Frag) (mg : Str → Option Value) (base : Heap) : Prop := DefOk P w K mg base 2 "least_road" ["demands", "start", "goal"] (sp_least_road K)
/-- some name comes back to itself -/
def HasRing (L : List (List Nm)) : Prop := ∃ p ∈ earliest L, (sz (earliest L) p.1).isSome = true
abbrev sp_least_ring (K : PySem.W.Frag) : Sp := spP K (fun L : List (List Nm) => [lisD L]) (fun L => RowsOk L ∧ HasRing L) (fun L d => d = roadD (leastRing L))
theorem ok_least_ring {f : Addr} {fd : FuncData} (Fu : Fun K "least_ring" "least_ring" s_least_ring f fd) (T : Txt mg) (De : D_earliest P w K mg base) (Dd : D_distances_to P w K mg base) (Dr : D_least_road P w K mg base) : FnOk P w K mg base (L2.CX P w) 3 f fd ["lists"] (sp_least_ring K) := by
  refine fn_P Fu sc_least_ring (fun a => rfl) (fun cdv A outer s H E0 F L hp hr => ?_)
  obtain ⟨hL, hring⟩ := hp
  have nd := sc_least_ring.nd
  have hmin := T.min
  have hu := hu_of hr
  have hdm := dmOk_earliest hL
  refine ss_cons (s_st nd (se_fP De (hr.mono (by decide)) ?_))
  repeat fail
  refine ⟨hL, ?_⟩
  rintro _ rfl
  unfold HasRing at hring
  rw [show leastRing L = match startOf (earliest L) with
    | none => []
    | some s => leastRoad (earliest L) s s from rfl]
  generalize earliest L = E at hring hdm ⊢
  have hE1 := hdm.1.1
  repeat fail
  rw [keysD_map (fun p : Nm × List (Nm × Nat) => .dct (inE p.2)) (fun p => p.1)]
  refine lcD (fun p => nK p.1) (fun p => optI (sz E p.1)) (by fail "z") ?_ ?_
  · intro p hp'
    repeat fail
    refine se_get hu (se_fP Dd (hr.mono (by decide)) ?_)
    repeat fail
    refine ⟨(E, p.1), rfl, hdm.1, ?_⟩
    rintro _ rfl
    repeat fail
    refine ⟨rfl, rfl, ?_⟩
    rw [dval_inE]; rfl
  intro a
  have hfold : (E.map fun p => (nK p.1, optI (sz E p.1))).foldl (fun acc kv => dput acc kv.1 kv.2) [] = E.map fun p => (nK p.1, optI (sz E p.1)) := fold_all (fun p : Nm × List (Nm × Nat) => optI (sz E p.1)) (fun p => p.1) E hdm.1.2
  rw [hfold]
  refine ss_freezeD 2 0 rfl rfl ?_
  repeat fail
  rw [show valsD (E.map fun p => (nK p.1, optI (sz E p.1))) = E.map fun p => optI (sz E p.1) by unfold valsD; rw [List.map_map]; rfl]
  refine lcF (fun p => (sz E p.1).isSome) (fun p => .int (((sz E p.1).getD 0 : Nat) : Int)) (by fail "z") ?_ ?_
  · intro p hp'
    repeat fail
    refine ov_notN (by cases sz E p.1 <;> exact fun _ z => nomatch z) ?_
    repeat fail
    refine filt_end (fun h1 => ?_) (fun h1 => ?_)
    · repeat fail
      cases hs : sz E p.1 with
      | none => rw [hs] at h1; cases h1
      | some n => exact ⟨rfl, rfl, rfl⟩
    · cases hs : sz E p.1 with
      | none => exact ⟨rfl, rfl⟩
      | some n => rw [hs] at h1; cases h1
  have hszs : (E.filter fun p => (sz E p.1).isSome).map (fun p => Dt.int (((sz E p.1).getD 0 : Nat) : Int)) = (szs E).map Dt.int := by unfold szs; rw [List.map_map]; rfl
  rw [hszs]
  have hst := starts_ne hring
  have hls : leastSz E = match szs E with
    | [] => 0
    | x :: xs => minBy ltI x xs := rfl
  cases hz : szs E with
  | nil =>
    obtain ⟨p, hp', hs⟩ := hring
    have : (((sz E p.1).getD 0 : Nat) : Int) ∈ szs E := List.mem_map.mpr ⟨p, List.mem_filter.mpr ⟨hp', hs⟩, rfl⟩
    rw [hz] at this; cases this
  | cons z zs =>
  rw [hz] at hls
  repeat fail
  refine cv_minI rfl (room65 hr) ?_
  have hls : leastSz E = minBy ltI z zs := hls
  rw [← hls]
  repeat fail
  rw [keysD_map (fun p : Nm × List (Nm × Nat) => optI (sz E p.1)) (fun p => p.1)]
  refine lcF (fun p => decide ((sz E p.1).map (fun n : Nat => (n : Int)) = some (leastSz E))) (fun p => nD p.1) (by fail "z") ?_ ?_
  · intro p hp'
    repeat fail
    refine iv_dct hu rfl (d' := optI (sz E p.1)) ?_ ?_
    · rw [dval_map (fun p : Nm × List (Nm × Nat) => optI (sz E p.1)) (fun p => p.1), find_key hdm.1.2 hp' rfl]; rfl
    repeat fail
    refine ov_eqD hr.units (fit_optI _) fit_int ?_
    rw [eqd_optZ]
    repeat fail
    refine filt_end (fun h1 => ?_) (fun h1 => ?_)
    · repeat fail
      exact ⟨h1, rfl, rfl⟩
    · exact ⟨rfl, h1⟩
  have hsts : (E.filter fun p => decide ((sz E p.1).map (fun n : Nat => (n : Int)) = some (leastSz E))).map (fun p => nD p.1) = (starts E).map nD := by unfold starts; rw [List.map_map]; rfl
  rw [hsts]
  cases hst2 : starts E with
  | nil => exact absurd hst2 hst
  | cons x xs =>
  repeat fail
  refine cv_minN rfl (room65 hr) ?_
  have hso : startOf E = some (minN x xs) := by unfold startOf; rw [hst2]
  have hss := start_sz hso
  repeat fail
  refine se_fP Dr hr ?_
  repeat fail
  refine ⟨(E, minN x xs, minN x xs), rfl, ⟨hdm, ?_⟩, ?_⟩
  · obtain ⟨n, hn, _⟩ := Option.map_eq_some_iff.mp hss.1
    show (sz E (minN x xs)).isSome = true
    rw [hn]; rfl
  · rintro _ rfl
    refine ⟨rfl, ?_⟩
    rw [hso]
end
end W
end
section
set_option Elab.async false
set_option linter.all false
set_option maxRecDepth 100000
set_option maxHeartbeats 4000000
open PySem L2 D PyProof.Rows
local macro_rules
  | `(tactic| fail "z") => `(tactic| ((try simp only [List.length_map, List.length_cons, List.length_nil, List.length_append, List.length_drop, List.length_take]); have := big_line; omega))
local macro_rules
  | `(tactic| fail) => `(tactic| first
    | ((with_reducible refine (?_ : SE _ _ _ _ _ _)); first | refine se_nm rfl ?_ | refine se_tyTuple (by assumption) ?_ | refine se_tyStr (by assumption) ?_ | refine se_tyInt (by assumption) ?_ | refine se_tyBool (by assumption) ?_ | refine se_int ?_ | refine se_str ?_ | refine se_non ?_ | refine se_bl ?_ | refine se_cmp ?_ | refine se_bin ?_ | refine se_backT ?_ | refine se_ix ?_ | refine se_slice ?_ | refine se_tup ?_ | refine se_lst ?_ | ((with_reducible refine (?_ : SE _ _ _ _ (.Call _ _ _ _) _)); first | refine se_any (by assumption) ?_ | refine se_all (by assumption) ?_ | refine se_len (by assumption) ?_ | refine se_min (by assumption) ?_ | refine se_max (by assumption) ?_ | refine se_sorted (by assumption) ?_ | refine se_isi (by assumption) ?_ | refine se_abs (by assumption) ?_ | refine se_sum (by assumption) ?_ | refine se_tupleC (by assumption) ?_ | refine se_listC (by assumption) ?_) | refine se_M rfl (by assumption) (blkOk_by rfl) ?_ | refine se_F rfl (by assumption) (blkOk_by rfl) ?_ | refine se_Dc rfl (by assumption) (blkOk_by rfl) ?_ | refine se_chain ?_ | refine se_indexN ?_ | refine se_not ?_ | refine se_if ?_ | refine se_one ?_ | refine se_and ?_ | refine se_or ?_ | refine se_neg ?_)
    | ((with_reducible refine (?_ : ST _ _ _ _ _ _)); first | refine st_cmp ?_ | refine st_chain ?_ | refine st_not ?_ | refine st_w (sw_and ?_) | refine st_w (sw_or ?_) | refine st_val ?_)
    | ((with_reducible refine (?_ : SWt _ _ _ _ _ _)); first | refine sw_and ?_ | refine sw_and1 ?_ | refine sw_or ?_ | refine sw_or1 ?_)
    | ((with_reducible refine (?_ : SA _ _ _ _ _ _)); first | refine sa_cons ?_ | refine sa_nil ?_)
    | ((with_reducible refine (?_ : SO _ _ _ _ _ _)); first | refine so_none ?_ | refine so_some ?_)
    | ((with_reducible refine (?_ : SS _ _ _ _ _ _)); first | refine ss_one ?_ | refine ss_cons ?_)
    | ((with_reducible refine (?_ : S1 _ _ _ _ _ _)); first | refine s_ret ?_ | refine s_if ?_ | refine s_M rfl (by assumption) (blkOk_by rfl) ?_ | refine s_F rfl (by assumption) (blkOk_by rfl) ?_ | refine s_Dc rfl (by assumption) (blkOk_by rfl) ?_ | refine s_st (by assumption) ?_ | refine s_aug (by assumption) rfl ?_ | refine s_asg ?_ | refine s_expr ?_)
    | ((with_reducible refine (?_ : SG _ _ _ _ _ _ _)); first | refine sg_nm (by assumption) ?_ | refine sg_par rfl ?_ | refine sg_tup rfl ?_)
    | ((with_reducible refine (?_ : SGs _ _ _ _ _ _ _)); first | refine sgs_cons ?_ | refine sgs_nil ?_)
    | ((with_reducible refine (?_ : SGb _ _ _ _ _ _ _ _)); first | refine sgb_nm (by assumption) ?_ (by first | exact vs_self | exact vs_one | exact vs_two) | refine sgb_par rfl ?_ | refine sgb_tup rfl ?_)
    | ((with_reducible refine (?_ : SGbs _ _ _ _ _ _ _ _)); first | refine sgbs_cons ?_ | refine sgbs_nil ?_)
    | ((with_reducible refine (?_ : SW _ _ _ _ _ _ _)); first | refine sw_vals ?_ | refine sw_zipT (by assumption) ?_ | refine sw_range (by assumption) ?_ | refine sw_seq ?_)
    | ((with_reducible refine (?_ : OpV _ _ _ _ _ _ _ _)); first | refine ov_eqN ?_ | refine ov_neN ?_ | refine ov_inN ?_ | refine ov_ninN ?_ | refine ov_inNT ?_ | refine ov_ninNT ?_ | refine oi_add ?_ | refine oi_catT (by fail "z") ?_ | refine ov_cat (by fail "z") ?_ | refine ov_catT (by fail "z") ?_ | refine ov_add ?_ | refine ov_sub ?_ | refine ov_lt ?_ | refine ov_le ?_ | refine ov_gt ?_ | refine ov_ge ?_ | refine ov_eqI ?_ | refine ov_neI ?_ | refine ov_eqS ?_ | refine ov_neS ?_ | refine ov_eqB ?_ | refine ov_neB ?_)
    | ((with_reducible refine (?_ : IxV _ _ _ _ _ _ _)); first | refine iv_cons ?_ | refine iv_consT ?_)
    | ((with_reducible refine (?_ : SlV _ _ _ _ _ _ _ _)); first | refine sv_fromL (by decide) ?_ | refine sv_fromT (by decide) ?_ | refine sv_toL (by decide) ?_ | refine sv_toT (by decide) ?_)
    | ((with_reducible refine (?_ : ClV _ _ _ _ _ _ _)); first | refine cv_anyM rfl ?_ | refine cv_allM rfl ?_ | refine cv_len rfl ?_ | refine cv_tuple rfl ?_ | refine cv_list rfl ?_ | refine cv_abs ?_ | refine cv_isStr rfl ?_ | refine cv_isTup rfl ?_ | refine cv_isInt rfl ?_ | refine cv_isBool rfl ?_ | refine cv_sum rfl ?_)
    | (with_reducible refine turn0I (fun _ _ _ _ _ _ => ?_)) | (with_reducible refine turn1I (fun _ _ _ _ _ _ => ?_)) | (with_reducible refine turnDI (fun _ _ _ _ _ _ => ?_)) | (with_reducible refine abI (fun _ _ _ _ _ => ?_)) | ((with_reducible show (if _ then _ else _)); first | refine iteT ?_ | refine iteF ?_) | ((with_reducible refine (?_ : And _ _)); refine And.intro (show _ ≤ sizeLine by fail "z") ?_) | ((with_reducible refine (?_ : Exists _)); refine ⟨_, rfl, ?_⟩))
local macro_rules
  | `(tactic| fail "e") => `(tactic| first
    | ((with_reducible refine (?_ : SE _ _ _ _ _ _)); first | refine se_nm rfl ?_ | refine se_tyTuple (by assumption) ?_ | refine se_tyStr (by assumption) ?_ | refine se_tyInt (by assumption) ?_ | refine se_tyBool (by assumption) ?_ | refine se_int ?_ | refine se_str ?_ | refine se_non ?_ | refine se_bl ?_ | refine se_cmp ?_ | refine se_bin ?_ | refine se_backT ?_ | refine se_ix ?_ | refine se_slice ?_ | refine se_tup ?_ | refine se_lst ?_ | ((with_reducible refine (?_ : SE _ _ _ _ (.Call _ _ _ _) _)); first | refine se_any (by assumption) ?_ | refine se_all (by assumption) ?_ | refine se_len (by assumption) ?_ | refine se_min (by assumption) ?_ | refine se_max (by assumption) ?_ | refine se_sorted (by assumption) ?_ | refine se_isi (by assumption) ?_ | refine se_abs (by assumption) ?_ | refine se_sum (by assumption) ?_ | refine se_tupleC (by assumption) ?_ | refine se_listC (by assumption) ?_) | refine se_M rfl (by assumption) (blkOk_by rfl) ?_ | refine se_F rfl (by assumption) (blkOk_by rfl) ?_ | refine se_Dc rfl (by assumption) (blkOk_by rfl) ?_ | refine se_chain ?_ | refine se_indexN ?_ | refine se_not ?_ | refine se_if ?_ | refine se_one ?_ | refine se_and ?_ | refine se_or ?_ | refine se_neg ?_)
    | ((with_reducible refine (?_ : ST _ _ _ _ _ _)); first | refine st_cmp ?_ | refine st_chain ?_ | refine st_not ?_ | refine st_w (sw_and ?_) | refine st_w (sw_or ?_) | refine st_val ?_)
    | ((with_reducible refine (?_ : SWt _ _ _ _ _ _)); first | refine sw_and ?_ | refine sw_and1 ?_ | refine sw_or ?_ | refine sw_or1 ?_)
    | ((with_reducible refine (?_ : SA _ _ _ _ _ _)); first | refine sa_cons ?_ | refine sa_nil ?_)
    | ((with_reducible refine (?_ : SO _ _ _ _ _ _)); first | refine so_none ?_ | refine so_some ?_)
    | ((with_reducible refine (?_ : SG _ _ _ _ _ _ _)); first | refine sg_nm (by assumption) ?_ | refine sg_par rfl ?_ | refine sg_tup rfl ?_)
    | ((with_reducible refine (?_ : SGs _ _ _ _ _ _ _)); first | refine sgs_cons ?_ | refine sgs_nil ?_)
    | ((with_reducible refine (?_ : SGb _ _ _ _ _ _ _ _)); first | refine sgb_nm (by assumption) ?_ (by first | exact vs_self | exact vs_one | exact vs_two) | refine sgb_par rfl ?_ | refine sgb_tup rfl ?_)
    | ((with_reducible refine (?_ : SGbs _ _ _ _ _ _ _ _)); first | refine sgbs_cons ?_ | refine sgbs_nil ?_)
    | ((with_reducible refine (?_ : SW _ _ _ _ _ _ _)); first | refine sw_vals ?_ | refine sw_zipT (by assumption) ?_ | refine sw_range (by assumption) ?_ | refine sw_seq ?_)
    | ((with_reducible refine (?_ : OpV _ _ _ _ _ _ _ _)); first | refine ov_eqN ?_ | refine ov_neN ?_ | refine ov_inN ?_ | refine ov_ninN ?_ | refine ov_inNT ?_ | refine ov_ninNT ?_ | refine oi_add ?_ | refine oi_catT (by fail "z") ?_ | refine ov_cat (by fail "z") ?_ | refine ov_catT (by fail "z") ?_ | refine ov_add ?_ | refine ov_sub ?_ | refine ov_lt ?_ | refine ov_le ?_ | refine ov_gt ?_ | refine ov_ge ?_ | refine ov_eqI ?_ | refine ov_neI ?_ | refine ov_eqS ?_ | refine ov_neS ?_ | refine ov_eqB ?_ | refine ov_neB ?_)
    | ((with_reducible refine (?_ : IxV _ _ _ _ _ _ _)); first | refine iv_cons ?_ | refine iv_consT ?_)
    | ((with_reducible refine (?_ : SlV _ _ _ _ _ _ _ _)); first | refine sv_fromL (by decide) ?_ | refine sv_fromT (by decide) ?_ | refine sv_toL (by decide) ?_ | refine sv_toT (by decide) ?_)
    | ((with_reducible refine (?_ : ClV _ _ _ _ _ _ _)); first | refine cv_anyM rfl ?_ | refine cv_allM rfl ?_ | refine cv_len rfl ?_ | refine cv_tuple rfl ?_ | refine cv_list rfl ?_ | refine cv_abs ?_ | refine cv_isStr rfl ?_ | refine cv_isTup rfl ?_ | refine cv_isInt rfl ?_ | refine cv_isBool rfl ?_ | refine cv_sum rfl ?_)
    | (with_reducible refine turn0I (fun _ _ _ _ _ _ => ?_)) | (with_reducible refine turn1I (fun _ _ _ _ _ _ => ?_)) | (with_reducible refine turnDI (fun _ _ _ _ _ _ => ?_)) | (with_reducible refine abI (fun _ _ _ _ _ => ?_)) | ((with_reducible show (if _ then _ else _)); first | refine iteT ?_ | refine iteF ?_) | ((with_reducible refine (?_ : And _ _)); refine And.intro (show _ ≤ sizeLine by fail "z") ?_) | ((with_reducible refine (?_ : Exists _)); refine ⟨_, rfl, ?_⟩))
namespace W
open PySem L2 D PyProof.Rows
def morD (L : List (List Nm)) : Dt := match merge L with
  | none => .tup [.non, roadD (leastRing L)]
  | some m => .tup [nT m, .non]
section
variable {P : Program} {w : World} {K : PySem.W.Frag} {mg : Str → Option Value} {base : Heap}
abbrev D_least_ring (P : Program) (w : World) (K : PySem.W.Frag) (mg : Str → Option Value) (base : Heap) : Prop := DefOk P w K mg base 3 "least_ring" ["lists"] (sp_least_ring K)
abbrev MOk (L : List (List Nm)) : Prop := RowsOk L ∧ (merge L = none → HasRing L)
abbrev sp_merge_or_ring (K : PySem.W.Frag) : Sp := spP K (fun L : List (List Nm) => [lisD L]) MOk (fun L d => d = morD L)
theorem ok_merge_or_ring {f : Addr} {fd : FuncData} (Fu : Fun K "merge_or_ring" "merge_or_ring" s_merge_or_ring f fd) (Dn : D_merge_or_none P w K mg base) (Dl : D_least_ring P w K mg base) : FnOk P w K mg base (L2.CX P w) 4 f fd ["lists"] (sp_merge_or_ring K) := by
  refine fn_P Fu sc_merge_or_ring (fun a => rfl) (fun cdv A outer s H E0 F L hp hr => ?_)
  obtain ⟨hL, hring⟩ := hp
  have nd := sc_merge_or_ring.nd
  refine ss_cons (s_st nd (se_fP Dn (hr.mono (by decide)) ?_))
  repeat fail
  refine ⟨hL, ?_⟩
  rintro _ rfl
  repeat fail
  refine ov_isN (by cases merge L <;> exact fun _ z => nomatch z) ?_
  repeat fail
  cases hm : merge L with
  | none =>
    repeat fail
    refine se_fP Dl hr ?_
    repeat fail
    refine ⟨⟨hL, hring hm⟩, ?_⟩
    rintro _ rfl
    repeat fail
    exact ⟨rfl, by unfold morD; rw [hm]⟩
  | some m =>
    repeat fail
    exact ⟨rfl, by unfold morD; rw [hm]; rfl⟩
abbrev D_merge_or_ring (P : Program) (w : World) (K : PySem.W.Frag) (mg : Str → Option Value) (base : Heap) : Prop := DefOk P w K mg base 4 "merge_or_ring" ["lists"] (sp_merge_or_ring K)
end
end W
end
section
set_option Elab.async false
set_option linter.all false
namespace W
open PySem L2 D PyProof.Rows
/-- x stands ahead of y in a row -/
def Ahead (r : List Nm) (x y : Nm) : Prop := ∃ p q, r = p ++ x :: q ∧ y ∈ q
theorem hasK_setDef {l : List (Nm × Nat)} {y z : Nm} {i : Nat} : hasK (setDef l y i) z = (hasK l z || decide (y = z)) := by
  unfold setDef hasK
  split
  · rename_i h
    by_cases e : y = z
    · subst e; rw [h]; simp
    · simp [e]
  · rw [List.any_append]; simp
theorem outs_put {E : Dem} (nd : (E.map (·.1)).Nodup) (x y : Nm) (i : Nat) (z : Nm) : outs (demPut E x y i) z = if z = x ∧ z ∈ E.map (·.1) then setDef (outs E z) y i else outs E z := by
  unfold outs demPut
  rw [List.find?_map]
  induction E with
  | nil => simp
  | cons p E ih =>
    have n2 := List.nodup_cons.mp nd
    rw [List.find?_cons, List.find?_cons]
    by_cases e : p.1 = z
    · subst e
      by_cases ex : p.1 = x
      · simp [Function.comp, ex]
      · simp [Function.comp, ex]
    · have e1 : decide ((if p.1 = x then (p.1, setDef p.2 y i) else p).1 = z) = false := by
        split <;> simpa using e
      have ih := ih n2.2
      simp only [Function.comp] at ih ⊢
      rw [e1, decide_eq_false e]
      simp only []
      rw [ih]
      have : (z = x ∧ z ∈ (p :: E).map (·.1)) ↔ (z = x ∧ z ∈ E.map (·.1)) := by
        rw [List.map_cons, List.mem_cons]
        constructor
        · rintro ⟨a, b | b⟩
          · exact absurd b.symm e
          · exact ⟨a, b⟩
        · rintro ⟨a, b⟩; exact ⟨a, .inr b⟩
      by_cases h : z = x ∧ z ∈ E.map (·.1)
      · rw [if_pos h, if_pos (this.mpr h)]
      · rw [if_neg h, if_neg fun z => h (this.mp z)]
/-- what is demanded, and where it was said first: all marks are below i, or told by φ -/
def Said (E : Dem) (φ : Nm → Nm → Nat → Prop) : Prop := ∀ x y k, natAt (outs E x) y = some k → φ x y k
def Full (E : Dem) (ψ : Nm → Nm → Prop) : Prop := ∀ x y, ψ x y → hasK (outs E x) y = true
theorem natAt_setDef {l : List (Nm × Nat)} {y z : Nm} {i k : Nat} (h : natAt (setDef l y i) z = some k) : natAt l z = some k ∨ (y = z ∧ k = i) := by
  unfold setDef at h
  split at h
  · exact .inl h
  · unfold natAt at h ⊢
    rw [List.find?_append] at h
    cases hf : l.find? fun q => decide (q.1 = z) with
    | some q => rw [hf] at h; exact .inl h
    | none =>
      rw [hf] at h
      by_cases e : y = z
      · refine .inr ⟨e, ?_⟩
        simpa [List.find?_cons, e] using h.symm
      · simp [List.find?_cons, e] at h
theorem said_put {E : Dem} (nd : (E.map (·.1)).Nodup) {φ : Nm → Nm → Nat → Prop} {x y : Nm} {i : Nat} (h : Said E φ) (hxy : φ x y i) : Said (demPut E x y i) φ := fun a b k hk => by
  rw [outs_put nd] at hk
  split at hk
  · rename_i e
    rcases natAt_setDef hk with g | ⟨g1, g2⟩
    · exact h a b k g
    · subst g1 g2; rw [e.1]; exact hxy
  · exact h a b k hk
theorem full_put {E : Dem} (nd : (E.map (·.1)).Nodup) {ψ : Nm → Nm → Prop} {x y : Nm} {i : Nat} (h : Full E ψ) (hx : x ∈ E.map (·.1)) : Full (demPut E x y i) fun a b => ψ a b ∨ (a = x ∧ b = y) := fun a b hab => by
  rw [outs_put nd]
  rcases hab with g | ⟨rfl, rfl⟩
  · have := h a b g
    split
    · rw [hasK_setDef, this]; rfl
    · exact this
  · rw [if_pos ⟨rfl, hx⟩, hasK_setDef]; simp
theorem nodup_put {E : Dem} (nd : (E.map (·.1)).Nodup) (x y : Nm) (i : Nat) : ((demPut E x y i).map (·.1)).Nodup := by rw [demPut_keys]; exact nd
theorem puts_all {φ : Nm → Nm → Nat → Prop} {x : Nm} {i : Nat} : ∀ (r : List Nm) {E : Dem} {ψ : Nm → Nm → Prop}, (E.map (·.1)).Nodup → x ∈ E.map (·.1) → Said E φ → (∀ y ∈ r, φ x y i) → Full E ψ →
    (demPuts i x E r).map (·.1) = E.map (·.1) ∧ Said (demPuts i x E r) φ ∧ Full (demPuts i x E r) fun a b => ψ a b ∨ (a = x ∧ b ∈ r)
  | [], E, ψ, nd, hx, hs, hr, hf => ⟨rfl, hs, fun a b h => hf a b (h.resolve_right fun z => nomatch z.2)⟩
  | y :: r, E, ψ, nd, hx, hs, hr, hf => by
    have hk := demPut_keys E x y i
    obtain ⟨h1, h2, h3⟩ := puts_all r (E := demPut E x y i) (nodup_put nd x y i) (by rw [hk]; exact hx) (said_put nd hs (hr y (List.mem_cons_self ..))) (fun z hz => hr z (List.mem_cons_of_mem _ hz)) (full_put (i := i) (y := y) nd hf hx)
    refine ⟨by rw [← hk]; exact h1, h2, fun a b h => h3 a b ?_⟩
    rcases h with g | ⟨g1, g2⟩
    · exact .inl (.inl g)
    · rcases List.mem_cons.mp g2 with e | e
      · exact .inl (.inr ⟨g1, e⟩)
      · exact .inr ⟨g1, e⟩
theorem row_all {φ : Nm → Nm → Nat → Prop} {i : Nat} : ∀ (r : List Nm) {E : Dem} {ψ : Nm → Nm → Prop}, (E.map (·.1)).Nodup → (∀ x ∈ r, x ∈ E.map (·.1)) → Said E φ → (∀ x y, Ahead r x y → φ x y i) → Full E ψ →
    (demRow i E r).map (·.1) = E.map (·.1) ∧ Said (demRow i E r) φ ∧ Full (demRow i E r) fun a b => ψ a b ∨ Ahead r a b
  | [], E, ψ, nd, hx, hs, hr, hf => ⟨rfl, hs, fun a b h => hf a b (h.resolve_right fun ⟨p, q, e, _⟩ => by cases p <;> cases e)⟩
  | x :: r, E, ψ, nd, hx, hs, hr, hf => by
    obtain ⟨h1, h2, h3⟩ := puts_all (i := i) r nd (hx x (List.mem_cons_self ..)) hs (fun y hy => hr x y ⟨[], r, rfl, hy⟩) hf
    obtain ⟨g1, g2, g3⟩ := row_all r (E := demPuts i x E r) (by rw [h1]; exact nd) (fun z hz => by rw [h1]; exact hx z (List.mem_cons_of_mem _ hz)) h2 (fun a b ⟨p, q, e, hb⟩ => hr a b ⟨x :: p, q, by rw [e]; rfl, hb⟩) h3
    refine ⟨g1.trans h1, g2, fun a b h => g3 a b ?_⟩
    rcases h with z | ⟨p, q, e, hb⟩
    · exact .inl (.inl z)
    · cases p with
      | nil => cases e; exact .inl (.inr ⟨rfl, hb⟩)
      | cons u p => cases e; exact .inr ⟨p, q, rfl, hb⟩
theorem rows_all {φ : Nm → Nm → Nat → Prop} : ∀ (R : List (List Nm × Nat)) {E : Dem} {ψ : Nm → Nm → Prop}, (E.map (·.1)).Nodup → (∀ p ∈ R, ∀ x ∈ p.1, x ∈ E.map (·.1)) → Said E φ → (∀ p ∈ R, ∀ x y, Ahead p.1 x y → φ x y p.2) → Full E ψ →
    Said (demRows E R) φ ∧ Full (demRows E R) fun a b => ψ a b ∨ ∃ p ∈ R, Ahead p.1 a b
  | [], E, ψ, nd, hx, hs, hr, hf => ⟨hs, fun a b h => hf a b (h.resolve_right fun ⟨p, hp, _⟩ => nomatch hp)⟩
  | (r, i) :: R, E, ψ, nd, hx, hs, hr, hf => by
    obtain ⟨h1, h2, h3⟩ := row_all (i := i) r nd (hx _ (List.mem_cons_self ..)) hs (hr _ (List.mem_cons_self ..)) hf
    obtain ⟨g2, g3⟩ := rows_all R (E := demRow i E r) (by rw [h1]; exact nd) (fun p hp z hz => by rw [h1]; exact hx p (List.mem_cons_of_mem _ hp) z hz) h2 (fun p hp => hr p (List.mem_cons_of_mem _ hp)) h3
    refine ⟨g2, fun a b h => g3 a b ?_⟩
    rcases h with z | ⟨p, hp, ha⟩
    · exact .inl (.inl z)
    · rcases List.mem_cons.mp hp with e | hp
      · subst e; exact .inl (.inr ha)
      · exact .inr ⟨p, hp, ha⟩
theorem mem_zip {L : List (List Nm)} {r : List Nm} {i : Nat} : (r, i) ∈ L.zipIdx ↔ L[i]? = some r := by
  constructor
  · intro h
    obtain ⟨j, hj⟩ := List.getElem?_of_mem h
    rw [List.getElem?_zipIdx] at hj
    obtain ⟨r', h1, e⟩ := Option.map_eq_some_iff.mp hj
    cases e; simpa using h1
  · intro h
    refine List.mem_of_getElem? (i := i) ?_
    rw [List.getElem?_zipIdx, h]; simp
theorem earliest_all (L : List (List Nm)) : (∀ x y k, natAt (outs (earliest L) x) y = some k → ∃ r, L[k]? = some r ∧ Ahead r x y) ∧ ∀ x y r, r ∈ L → Ahead r x y → hasK (outs (earliest L) x) y = true := by
  have hnd : ((initE L).map (·.1)).Nodup := by
    unfold initE; rw [List.map_map, show ((fun x : Nm × List (Nm × Nat) => x.1) ∘ fun x => (x, [])) = id from rfl, List.map_id]; exact nodup_keysOf L.flatten
  have hkeys : (initE L).map (·.1) = keysOf L.flatten := by unfold initE; rw [List.map_map]; exact List.map_id _
  have houts : ∀ x, outs (initE L) x = [] := fun x => by
    unfold outs
    cases h : (initE L).find? fun p => decide (p.1 = x) with
    | none => rfl
    | some p =>
      obtain ⟨y, _, rfl⟩ := List.mem_map.mp (List.mem_of_find?_eq_some h)
      rfl
  obtain ⟨h1, h2⟩ := rows_all (φ := fun x y k => ∃ r, L[k]? = some r ∧ Ahead r x y) L.zipIdx (E := initE L) (ψ := fun _ _ => False) hnd
    (fun p hp x hx => by rw [hkeys, mem_keysOf]; exact List.mem_flatten.mpr ⟨p.1, List.mem_of_getElem? (mem_zip.mp hp), hx⟩)
    (fun x y k h => by rw [houts] at h; cases h) (fun p hp x y ha => ⟨p.1, mem_zip.mp hp, ha⟩) (fun _ _ h => h.elim)
  refine ⟨h1, fun x y r hr ha => h2 x y (.inr ?_)⟩
  obtain ⟨i, hi⟩ := List.getElem?_of_mem hr
  exact ⟨(r, i), mem_zip.mpr hi, ha⟩
end W
end
section
set_option Elab.async false
set_option linter.all false
namespace W
open PySem L2 D PyProof.Rows
theorem key_of_out {E : Dem} {x y : Nm} (h : hasK (outs E x) y = true) : ∃ p ∈ E, p.1 = x ∧ p.2 = outs E x := by
  unfold outs at h ⊢
  cases e : E.find? fun p => decide (p.1 = x) with
  | none => rw [e] at h; cases h
  | some p => exact ⟨p, List.mem_of_find?_eq_some e, by simpa using List.find?_some e, rfl⟩
def Closed (E : Dem) (g : Nm) (found : List (Nm × Nat)) : Prop := ∀ x y, hasK (outs E x) y = true → (y = g ∨ y ∈ found.map (·.1)) → x ∈ found.map (·.1)
theorem distF_closed {E : Dem} (hE : EOk E) {g : Nm} : ∀ (n : Nat) (found : List (Nm × Nat)) (level : List Nm) (s : Nat), FOk E found → (E.length - found.length) + (if level.isEmpty = true then 0 else 1) < n →
    (∀ x y, hasK (outs E x) y = true → (y = g ∨ y ∈ found.map (·.1)) → y ∉ level → x ∈ found.map (·.1)) → Closed E g (distF n E found level s)
  | 0, found, level, s, hF, hn, hI => absurd hn (Nat.not_lt_zero _)
  | n + 1, found, level, s, hF, hn, hI => by
    unfold distF
    by_cases hl : level.isEmpty = true
    · rw [if_pos hl]
      intro x y h1 h2
      exact hI x y h1 h2 (by rw [List.isEmpty_iff.mp hl]; exact List.not_mem_nil)
    · rw [if_neg hl]
      rw [if_neg hl] at hn
      have hF2 := hF.next hE level (s + 1)
      have hl2 := hF2.len
      have hkeys : (found ++ (nextL E found level).map fun x => (x, s + 1)).map (·.1) = found.map (·.1) ++ nextL E found level := by
        rw [List.map_append, List.map_map, show ((fun q : Nm × Nat => q.1) ∘ fun x => (x, s + 1)) = id from rfl, List.map_id]
      refine distF_closed hE n _ _ _ hF2 ?_ ?_
      · rw [List.length_append, List.length_map] at hl2 ⊢
        cases hx : nextL E found level with
        | nil => simp; omega
        | cons a l => rw [hx] at hl2; simp at hl2 ⊢; omega
      · intro x y h1 h2 h3
        rw [hkeys] at h2 ⊢
        have h2' : y = g ∨ y ∈ found.map (·.1) := by
          rcases h2 with e | e
          · exact .inl e
          · rcases List.mem_append.mp e with q | q
            · exact .inr q
            · exact absurd q h3
        by_cases hyl : y ∈ level
        · by_cases hxf : hasK found x = true
          · exact List.mem_append_left _ (hasK_iff.mp hxf)
          · refine List.mem_append_right _ ?_
            obtain ⟨p, hp, e1, e2⟩ := key_of_out h1
            refine List.mem_map.mpr ⟨p, List.mem_filter.mpr ⟨hp, ?_⟩, e1⟩
            rw [e1, e2]
            simp only [Bool.and_eq_true, List.any_eq_true]
            exact ⟨by simpa using hxf, y, hyl, h1⟩
        · exact List.mem_append_left _ (hI x y h1 h2' hyl)
theorem dist_closed {E : Dem} (hE : EOk E) (g : Nm) : Closed E g (dist E g) :=
  distF_closed hE _ [] [g] 0 ⟨.nil, fun _ h => nomatch h⟩ (by simp) fun x y _ h2 h3 => by
    rcases h2 with e | e
    · exact absurd (by rw [e]; exact List.mem_singleton.mpr rfl) h3
    · cases e
inductive Way (E : Dem) : Nm → Nm → Prop
  | one {x y : Nm} : hasK (outs E x) y = true → Way E x y
  | more {x y z : Nm} : hasK (outs E x) y = true → Way E y z → Way E x z
theorem Way.trans {E : Dem} {x y z : Nm} (a : Way E x y) (b : Way E y z) : Way E x z := by
  induction a with
  | one h => exact .more h b
  | more h _ ih => exact .more h (ih b)
theorem way_dist {E : Dem} (hE : EOk E) {x g : Nm} (w : Way E x g) : x ∈ (dist E g).map (·.1) := by
  induction w with
  | one h => exact dist_closed hE _ _ _ h (.inl rfl)
  | more h _ ih => exact dist_closed hE _ _ _ h (.inr ih)
theorem natAt_isSome {l : List (Nm × Nat)} {x : Nm} (h : x ∈ l.map (·.1)) : (natAt l x).isSome = true := by
  unfold natAt
  obtain ⟨q, hq, e⟩ := List.mem_map.mp h
  cases hf : l.find? fun q => decide (q.1 = x) with
  | none => exact absurd (decide_eq_true e) (by simpa using List.find?_eq_none.mp hf q hq)
  | some p => rfl
theorem ring_of_way {L : List (List Nm)} (hL : RowsOk L) {x : Nm} (w : Way (earliest L) x x) : HasRing L := by
  have hE := (dmOk_earliest hL).1
  have hy : ∃ y, hasK (outs (earliest L) x) y = true := by
    cases w with
    | one h => exact ⟨_, h⟩
    | more h _ => exact ⟨_, h⟩
  obtain ⟨y, hy⟩ := hy
  obtain ⟨p, hp, e, _⟩ := key_of_out hy
  exact ⟨p, hp, by rw [e]; exact natAt_isSome (way_dist hE w)⟩
theorem ahead_sub {r' r : List Nm} {x y : Nm} (s : List.Sublist r' r) (h : Ahead r' x y) : Ahead r x y := by
  induction s with
  | slnil => exact h
  | cons a _ ih =>
    obtain ⟨p, q, e, hy⟩ := ih h
    exact ⟨a :: p, q, by rw [e]; rfl, hy⟩
  | cons_cons a s ih =>
    obtain ⟨p, q, e, hy⟩ := h
    cases p with
    | nil => cases e; exact ⟨[], _, rfl, s.subset hy⟩
    | cons b p =>
      cases e
      obtain ⟨p2, q2, e2, hy2⟩ := ih ⟨p, q, rfl, hy⟩
      exact ⟨a :: p2, q2, by rw [e2]; rfl, hy2⟩
theorem stuck : ∀ (n : Nat) {R : List (List Nm)} {acc : List Nm}, mergeF n R acc = none → ∃ R', (∀ r' ∈ R', ∃ r ∈ R, List.Sublist r' r) ∧ R'.flatten ≠ [] ∧ nextFrom R' R' = none
  | 0, R, acc, h => by cases h
  | n + 1, R, acc, h => by
    unfold mergeF at h
    by_cases hany : (R.any fun r => !r.isEmpty) = true
    · rw [if_pos hany] at h
      cases hx : nextFrom R R with
      | none => exact ⟨R, fun r hr => ⟨r, hr, List.Sublist.refl r⟩, any_ne.mp hany, hx⟩
      | some x =>
        rw [hx] at h
        obtain ⟨R', h1, h2, h3⟩ := stuck n (R := without R x) h
        refine ⟨R', fun r' hr' => ?_, h2, h3⟩
        obtain ⟨r, hr, s⟩ := h1 r' hr'
        obtain ⟨r0, g1, rfl⟩ := List.mem_map.mp hr
        exact ⟨r0, g1, s.trans List.filter_sublist⟩
    · rw [if_neg hany] at h; cases h
theorem minimal {W' : Nm → Nm → Prop} (tr : ∀ a b c, W' a b → W' b c → W' a c) (ir : ∀ a, ¬ W' a a) : ∀ (n : Nat) (S : List Nm), S.length ≤ n → S ≠ [] → ∃ x ∈ S, ∀ y ∈ S, ¬ W' y x
  | 0, S, h, hne => absurd (List.eq_nil_of_length_eq_zero (Nat.le_zero.mp h)) hne
  | n + 1, S, h, hne => by
    classical
    obtain ⟨x, hx⟩ := List.exists_mem_of_ne_nil S hne
    by_cases he : (S.filter fun y => decide (W' y x)) = []
    · refine ⟨x, hx, fun y hy w => ?_⟩
      have : y ∈ S.filter fun y => decide (W' y x) := List.mem_filter.mpr ⟨hy, decide_eq_true w⟩
      rw [he] at this; cases this
    · have hlt := filter_lt (q := fun y => decide (W' y x)) hx (decide_eq_false (ir x))
      obtain ⟨z, hz, hmin⟩ := minimal tr ir n _ (by omega) he
      obtain ⟨hzS, hzx⟩ := List.mem_filter.mp hz
      refine ⟨z, hzS, fun y hy w => hmin y (List.mem_filter.mpr ⟨hy, decide_eq_true (tr _ _ _ w (of_decide_eq_true hzx))⟩) w⟩
/-- no merge: a ring -/
theorem ring_of_none {L : List (List Nm)} (hL : RowsOk L) (h : merge L = none) : HasRing L := by
  refine Classical.byContradiction fun hno => ?_
  have ir : ∀ a, ¬ Way (earliest L) a a := fun a w => hno (ring_of_way hL w)
  obtain ⟨R', h1, h2, h3⟩ := stuck _ h
  obtain ⟨_, hfull⟩ := earliest_all L
  have hne : (R'.filterMap List.head?) ≠ [] := by
    obtain ⟨x, hx⟩ := List.exists_mem_of_ne_nil _ h2
    obtain ⟨r, hr, hx⟩ := List.mem_flatten.mp hx
    cases r with
    | nil => cases hx
    | cons y r =>
      intro z
      have : y ∈ R'.filterMap List.head? := List.mem_filterMap.mpr ⟨_, hr, rfl⟩
      rw [z] at this; cases this
  obtain ⟨x, hx, hmin⟩ := minimal (W' := Way (earliest L)) (fun _ _ _ a b => Way.trans a b) ir _ _ (Nat.le_refl _) hne
  obtain ⟨r, hr, hxr⟩ := List.mem_filterMap.mp hx
  cases r with
  | nil => cases hxr
  | cons y r =>
    cases hxr
    have hf := nextFrom_none h3 x r hr
    have : ¬ ∀ o ∈ R', x ∉ o.drop 1 := fun z => by rw [freeIn_iff.mpr z] at hf; cases hf
    apply this
    intro o ho hxo
    cases o with
    | nil => cases hxo
    | cons y o =>
      obtain ⟨r1, hr1, s⟩ := h1 _ ho
      exact hmin y (List.mem_filterMap.mpr ⟨_, ho, rfl⟩) (.one (hfull y x r1 hr1 (ahead_sub s ⟨[], o, rfl, hxo⟩)))
end W
end
section
set_option Elab.async false
set_option linter.all false
set_option maxRecDepth 100000
set_option maxHeartbeats 4000000
set_option pp.maxSteps 1500
open PySem L2 D PyProof.Rows
local macro_rules
  | `(tactic| fail "z") => `(tactic| ((try simp only [List.length_map, List.length_cons, List.length_nil, List.length_append, List.length_drop, List.length_take]); have := big_line; omega))
local macro_rules
  | `(tactic| fail) => `(tactic| first
    | ((with_reducible refine (?_ : SE _ _ _ _ _ _)); first | refine se_nm rfl ?_ | refine se_tyTuple (by assumption) ?_ | refine se_tyStr (by assumption) ?_ | refine se_tyInt (by assumption) ?_ | refine se_tyBool (by assumption) ?_ | refine se_int ?_ | refine se_str ?_ | refine se_non ?_ | refine se_bl ?_ | refine se_cmp ?_ | refine se_bin ?_ | refine se_backT ?_ | refine se_ix ?_ | refine se_slice ?_ | refine se_tup ?_ | refine se_lst ?_ | ((with_reducible refine (?_ : SE _ _ _ _ (.Call _ _ _ _) _)); first | refine se_any (by assumption) ?_ | refine se_all (by assumption) ?_ | refine se_len (by assumption) ?_ | refine se_min (by assumption) ?_ | refine se_max (by assumption) ?_ | refine se_sorted (by assumption) ?_ | refine se_isi (by assumption) ?_ | refine se_abs (by assumption) ?_ | refine se_sum (by assumption) ?_ | refine se_tupleC (by assumption) ?_ | refine se_listC (by assumption) ?_) | refine se_M rfl (by assumption) (blkOk_by rfl) ?_ | refine se_F rfl (by assumption) (blkOk_by rfl) ?_ | refine se_Dc rfl (by assumption) (blkOk_by rfl) ?_ | refine se_chain ?_ | refine se_indexN ?_ | refine se_not ?_ | refine se_if ?_ | refine se_one ?_ | refine se_and ?_ | refine se_or ?_ | refine se_neg ?_)
    | ((with_reducible refine (?_ : ST _ _ _ _ _ _)); first | refine st_cmp ?_ | refine st_chain ?_ | refine st_not ?_ | refine st_w (sw_and ?_) | refine st_w (sw_or ?_) | refine st_val ?_)
    | ((with_reducible refine (?_ : SWt _ _ _ _ _ _)); first | refine sw_and ?_ | refine sw_and1 ?_ | refine sw_or ?_ | refine sw_or1 ?_)
    | ((with_reducible refine (?_ : SA _ _ _ _ _ _)); first | refine sa_cons ?_ | refine sa_nil ?_)
    | ((with_reducible refine (?_ : SO _ _ _ _ _ _)); first | refine so_none ?_ | refine so_some ?_)
    | ((with_reducible refine (?_ : SS _ _ _ _ _ _)); first | refine ss_one ?_ | refine ss_cons ?_)
    | ((with_reducible refine (?_ : S1 _ _ _ _ _ _)); first | refine s_ret ?_ | refine s_if ?_ | refine s_M rfl (by assumption) (blkOk_by rfl) ?_ | refine s_F rfl (by assumption) (blkOk_by rfl) ?_ | refine s_Dc rfl (by assumption) (blkOk_by rfl) ?_ | refine s_st (by assumption) ?_ | refine s_aug (by assumption) rfl ?_ | refine s_asg ?_ | refine s_expr ?_)
    | ((with_reducible refine (?_ : SG _ _ _ _ _ _ _)); first | refine sg_nm (by assumption) ?_ | refine sg_par rfl ?_ | refine sg_tup rfl ?_)
    | ((with_reducible refine (?_ : SGs _ _ _ _ _ _ _)); first | refine sgs_cons ?_ | refine sgs_nil ?_)
    | ((with_reducible refine (?_ : SGb _ _ _ _ _ _ _ _)); first | refine sgb_nm (by assumption) ?_ (by first | exact vs_self | exact vs_one | exact vs_two) | refine sgb_par rfl ?_ | refine sgb_tup rfl ?_)
    | ((with_reducible refine (?_ : SGbs _ _ _ _ _ _ _ _)); first | refine sgbs_cons ?_ | refine sgbs_nil ?_)
    | ((with_reducible refine (?_ : SW _ _ _ _ _ _ _)); first | refine sw_vals ?_ | refine sw_zipT (by assumption) ?_ | refine sw_range (by assumption) ?_ | refine sw_seq ?_)
    | ((with_reducible refine (?_ : OpV _ _ _ _ _ _ _ _)); first | refine ov_eqN ?_ | refine ov_neN ?_ | refine ov_inN ?_ | refine ov_ninN ?_ | refine ov_inNT ?_ | refine ov_ninNT ?_ | refine oi_add ?_ | refine oi_catT (by fail "z") ?_ | refine ov_cat (by fail "z") ?_ | refine ov_catT (by fail "z") ?_ | refine ov_add ?_ | refine ov_sub ?_ | refine ov_lt ?_ | refine ov_le ?_ | refine ov_gt ?_ | refine ov_ge ?_ | refine ov_eqI ?_ | refine ov_neI ?_ | refine ov_eqS ?_ | refine ov_neS ?_ | refine ov_eqB ?_ | refine ov_neB ?_)
    | ((with_reducible refine (?_ : IxV _ _ _ _ _ _ _)); first | refine iv_cons ?_ | refine iv_consT ?_)
    | ((with_reducible refine (?_ : SlV _ _ _ _ _ _ _ _)); first | refine sv_fromL (by decide) ?_ | refine sv_fromT (by decide) ?_ | refine sv_toL (by decide) ?_ | refine sv_toT (by decide) ?_)
    | ((with_reducible refine (?_ : ClV _ _ _ _ _ _ _)); first | refine cv_anyM rfl ?_ | refine cv_allM rfl ?_ | refine cv_len rfl ?_ | refine cv_tuple rfl ?_ | refine cv_list rfl ?_ | refine cv_abs ?_ | refine cv_isStr rfl ?_ | refine cv_isTup rfl ?_ | refine cv_isInt rfl ?_ | refine cv_isBool rfl ?_ | refine cv_sum rfl ?_)
    | (with_reducible refine turn0I (fun _ _ _ _ _ _ => ?_)) | (with_reducible refine turn1I (fun _ _ _ _ _ _ => ?_)) | (with_reducible refine turnDI (fun _ _ _ _ _ _ => ?_)) | (with_reducible refine abI (fun _ _ _ _ _ => ?_)) | ((with_reducible show (if _ then _ else _)); first | refine iteT ?_ | refine iteF ?_) | ((with_reducible refine (?_ : And _ _)); refine And.intro (show _ ≤ sizeLine by fail "z") ?_) | ((with_reducible refine (?_ : Exists _)); refine ⟨_, rfl, ?_⟩))
local macro_rules
  | `(tactic| fail "e") => `(tactic| first
    | ((with_reducible refine (?_ : SE _ _ _ _ _ _)); first | refine se_nm rfl ?_ | refine se_tyTuple (by assumption) ?_ | refine se_tyStr (by assumption) ?_ | refine se_tyInt (by assumption) ?_ | refine se_tyBool (by assumption) ?_ | refine se_int ?_ | refine se_str ?_ | refine se_non ?_ | refine se_bl ?_ | refine se_cmp ?_ | refine se_bin ?_ | refine se_backT ?_ | refine se_ix ?_ | refine se_slice ?_ | refine se_tup ?_ | refine se_lst ?_ | ((with_reducible refine (?_ : SE _ _ _ _ (.Call _ _ _ _) _)); first | refine se_any (by assumption) ?_ | refine se_all (by assumption) ?_ | refine se_len (by assumption) ?_ | refine se_min (by assumption) ?_ | refine se_max (by assumption) ?_ | refine se_sorted (by assumption) ?_ | refine se_isi (by assumption) ?_ | refine se_abs (by assumption) ?_ | refine se_sum (by assumption) ?_ | refine se_tupleC (by assumption) ?_ | refine se_listC (by assumption) ?_) | refine se_M rfl (by assumption) (blkOk_by rfl) ?_ | refine se_F rfl (by assumption) (blkOk_by rfl) ?_ | refine se_Dc rfl (by assumption) (blkOk_by rfl) ?_ | refine se_chain ?_ | refine se_indexN ?_ | refine se_not ?_ | refine se_if ?_ | refine se_one ?_ | refine se_and ?_ | refine se_or ?_ | refine se_neg ?_)
    | ((with_reducible refine (?_ : ST _ _ _ _ _ _)); first | refine st_cmp ?_ | refine st_chain ?_ | refine st_not ?_ | refine st_w (sw_and ?_) | refine st_w (sw_or ?_) | refine st_val ?_)
    | ((with_reducible refine (?_ : SWt _ _ _ _ _ _)); first | refine sw_and ?_ | refine sw_and1 ?_ | refine sw_or ?_ | refine sw_or1 ?_)
    | ((with_reducible refine (?_ : SA _ _ _ _ _ _)); first | refine sa_cons ?_ | refine sa_nil ?_)
    | ((with_reducible refine (?_ : SO _ _ _ _ _ _)); first | refine so_none ?_ | refine so_some ?_)
    | ((with_reducible refine (?_ : SG _ _ _ _ _ _ _)); first | refine sg_nm (by assumption) ?_ | refine sg_par rfl ?_ | refine sg_tup rfl ?_)
    | ((with_reducible refine (?_ : SGs _ _ _ _ _ _ _)); first | refine sgs_cons ?_ | refine sgs_nil ?_)
    | ((with_reducible refine (?_ : SGb _ _ _ _ _ _ _ _)); first | refine sgb_nm (by assumption) ?_ (by first | exact vs_self | exact vs_one | exact vs_two) | refine sgb_par rfl ?_ | refine sgb_tup rfl ?_)
    | ((with_reducible refine (?_ : SGbs _ _ _ _ _ _ _ _)); first | refine sgbs_cons ?_ | refine sgbs_nil ?_)
    | ((with_reducible refine (?_ : SW _ _ _ _ _ _ _)); first | refine sw_vals ?_ | refine sw_zipT (by assumption) ?_ | refine sw_range (by assumption) ?_ | refine sw_seq ?_)
    | ((with_reducible refine (?_ : OpV _ _ _ _ _ _ _ _)); first | refine ov_eqN ?_ | refine ov_neN ?_ | refine ov_inN ?_ | refine ov_ninN ?_ | refine ov_inNT ?_ | refine ov_ninNT ?_ | refine oi_add ?_ | refine oi_catT (by fail "z") ?_ | refine ov_cat (by fail "z") ?_ | refine ov_catT (by fail "z") ?_ | refine ov_add ?_ | refine ov_sub ?_ | refine ov_lt ?_ | refine ov_le ?_ | refine ov_gt ?_ | refine ov_ge ?_ | refine ov_eqI ?_ | refine ov_neI ?_ | refine ov_eqS ?_ | refine ov_neS ?_ | refine ov_eqB ?_ | refine ov_neB ?_)
    | ((with_reducible refine (?_ : IxV _ _ _ _ _ _ _)); first | refine iv_cons ?_ | refine iv_consT ?_)
    | ((with_reducible refine (?_ : SlV _ _ _ _ _ _ _ _)); first | refine sv_fromL (by decide) ?_ | refine sv_fromT (by decide) ?_ | refine sv_toL (by decide) ?_ | refine sv_toT (by decide) ?_)
    | ((with_reducible refine (?_ : ClV _ _ _ _ _ _ _)); first | refine cv_anyM rfl ?_ | refine cv_allM rfl ?_ | refine cv_len rfl ?_ | refine cv_tuple rfl ?_ | refine cv_list rfl ?_ | refine cv_abs ?_ | refine cv_isStr rfl ?_ | refine cv_isTup rfl ?_ | refine cv_isInt rfl ?_ | refine cv_isBool rfl ?_ | refine cv_sum rfl ?_)
    | (with_reducible refine turn0I (fun _ _ _ _ _ _ => ?_)) | (with_reducible refine turn1I (fun _ _ _ _ _ _ => ?_)) | (with_reducible refine turnDI (fun _ _ _ _ _ _ => ?_)) | (with_reducible refine abI (fun _ _ _ _ _ => ?_)) | ((with_reducible show (if _ then _ else _)); first | refine iteT ?_ | refine iteF ?_) | ((with_reducible refine (?_ : And _ _)); refine And.intro (show _ ≤ sizeLine by fail "z") ?_) | ((with_reducible refine (?_ : Exists _)); refine ⟨_, rfl, ?_⟩))
namespace W
open PySem L2 D PyProof.Rows
theorem range_cut {m : Nat} {pre rest : List Nat} {k : Nat} (h : List.range m = pre ++ k :: rest) : k = pre.length ∧ m = pre.length + (rest.length + 1) := by
  have hl := congrArg List.length h
  rw [List.length_range, List.length_append, List.length_cons] at hl
  have e : (List.range m)[pre.length]? = some k := by rw [h]; simp
  rw [List.getElem?_range (by omega)] at e
  exact ⟨(Option.some.inj e).symm, hl⟩
theorem not_non (o : Option (List Nm)) : (!isNon (optT o)) = o.isSome := by cases o <;> rfl
section
variable {P : Program} {w : World} {K : PySem.W.Frag} {mg : Str → Option Value} {base : Heap} {C tb : Addr}
abbrev sp_isfut (K : PySem.W.Frag) (C : Addr) : Sp := spG K (fun x : RA × Reg × Pst × List Nm => [.raw (.ref x.1.a), nT x.2.2.2]) (fun x => regC C x.1 x.2.1 x.2.2.1) (fun x => BasesOk x.2.1 x.2.2.2 ∧ linesOk x.2.1) (fun x c' d => c' = regC C x.1 x.2.1 x.2.2.1 ∧ d = .bl (futB x.2.1 x.2.2.2)) (fun _ _ _ => False)
theorem ok_isfut {f : Addr} {fd : FuncData} (Fu : Fun K "is_future_list" "is_future_list" s_is_future_list f fd) (Dl : D_lists_for P w K mg base C) (Dm : D_merge_or_none P w K mg base) : FnOk P w K mg base (L2.CX P w) 3 f fd ["registry", "bases"] (sp_isfut K C) := by
  refine fn_G Fu sc_is_future_list (fun a => rfl) (fun cdv A outer s H E F x hp hr xt => ?_)
  obtain ⟨r, G, ps, l⟩ := x
  obtain ⟨hp, hG⟩ := hp
  have hp : BasesOk G l := hp
  have hG : linesOk G := hG
  have nd := sc_is_future_list.nd
  repeat fail
  refine se_fP Dm hr (sa_cons (se_fG Dl (hr.mono (by decide)) XT.no ?_))
  repeat fail "e"
  refine ⟨(r, G, ps, l), [], [], rfl, rfl, hp, ?_, fun _ _ z => z.elim⟩
  rintro _ _ ⟨rfl, rfl⟩
  repeat fail "e"
  refine ⟨lists_ok hG hp.1, ?_⟩
  rintro _ rfl
  repeat fail "e"
  refine ov_notN (by cases merge (listsG G l) <;> exact fun _ z => nomatch z) ?_
  exact ⟨rfl, congrArg Dt.bl (not_non _)⟩
abbrev D_isfut (P : Program) (w : World) (K : PySem.W.Frag) (mg : Str → Option Value) (base : Heap) (C : Addr) : Prop := DefOk P w K mg base 3 "is_future_list" ["registry", "bases"] (sp_isfut K C)
abbrev sp_parts (K : PySem.W.Frag) (n : Nat) : Sp := spP K (fun x : List Nm × Nat => [nT x.1, .int (x.2 : Nat)]) (fun x => x.1.length ≤ 10 ∧ x.2 ≤ n ∧ x.2 ≤ 10) (fun x d => ∃ L, d = .lst (L.map nT) ∧ L.Perm (subs x.1 x.2) ∧ (x.2 = 0 ∨ ∃ M, L = sortT M))
theorem pow10 {n : Nat} (h : n ≤ 10) : 2 ^ n ≤ 1024 := Nat.pow_le_pow_right (by decide) h
theorem ok_parts {f : Addr} {fd : FuncData} (Fu : Fun K "parts_of" "parts_of" s_parts_of f fd) (T : Txt mg) (hmg : mg "parts_of" = some (.ref f)) (kp : PySem.W.keepIn K (.ref f) = true) (bd : Binds K fd ["bases", "size"] []) : ∀ n, FnOk P w K mg base (L2.CX P w) (n + 1) f fd ["bases", "size"] (sp_parts K n) := by
  intro n
  induction n with
  | zero =>
    refine fn_P Fu sc_parts_of (fun a => rfl) (fun cdv A outer s H E F x hp hr => ?_)
    obtain ⟨l, s⟩ := x
    obtain ⟨hl, hs, _⟩ := hp
    have hs : s ≤ 0 := hs
    obtain rfl : s = 0 := by omega
    have nd := sc_parts_of.nd
    repeat fail
    exact ⟨rfl, [[]], rfl, by show [[]].Perm (subs l 0); unfold subs; exact .refl _, .inl rfl⟩
  | succ n ih =>
    refine fn_P Fu sc_parts_of (fun a => rfl) (fun cdv A outer s0 H E F x hp hr => ?_)
    obtain ⟨l, s⟩ := x
    obtain ⟨hl, hs, hs10⟩ := hp
    have hl : l.length ≤ 10 := hl
    have hs : s ≤ n + 1 := hs
    have hs10 : s ≤ 10 := hs10
    have nd := sc_parts_of.nd
    have hrg := T.range
    have hlen := T.len
    have hso := T.sorted
    have hbig := big_line
    have Dp : DefOk P w K mg base (n + 1) "parts_of" ["bases", "size"] (sp_parts K n) := ⟨_, _, ih, hmg, kp, bd⟩
    refine ss_cons (s_if ?_)
    repeat fail "e"
    cases s with
    | zero =>
      refine iteTr rfl ?_
      repeat fail
      exact ⟨rfl, [[]], rfl, by show [[]].Perm (subs l 0); unfold subs; exact .refl _, .inl rfl⟩
    | succ s =>
      refine iteFr (decide_eq_false (by omega)) ?_
      refine ss_nil ?_
      refine ss_cons (s_asg (SEL.sc (sel_lst ?_)))
      repeat fail "e"
      intro fa
      repeat fail "e"
      refine ss_cons (s_for (passes_of rfl) rfl (sw_range hrg ?_))
      repeat fail "e"
      rw [List.length_map]
      refine ⟨by omega, by omega, ?_⟩
      rw [idxs_eq]
      generalize hm : ((l.length : Int) - ((s + 1 : Nat) : Int) + 1).toNat = m
      refine for_t (fun rest Γ c => ∃ M u3, Γ = [.dat (nT l), .dat (.int ((s + 1 : Nat) : Int)), .dat (.raw (.ref fa)), u3, .un] ∧ c = [(fa, .lst (M.map nT))] ∧ (M ++ subs (l.drop (m - rest.length)) (s + 1)).Perm (subs l (s + 1)) ∧ rest.length ≤ m) ⟨[], _, rfl, rfl, by rw [List.length_range, Nat.sub_self]; exact .refl _, by rw [List.length_range]; exact Nat.le_refl _⟩ ?_ ?_
      · rintro pre k rest Γ c hcut ⟨M, u3, rfl, rfl, hM, _⟩
        obtain ⟨hk, hm2⟩ := range_cut hcut
        rw [List.length_cons, show m - (rest.length + 1) = k by omega] at hM
        have hkl : k < l.length := by omega
        have hMl : M.length ≤ 1024 := by
          have h1 := hM.length_eq
          have h2 := len_subs l (s + 1)
          have h3 := pow10 hl
          rw [List.length_append] at h1
          have h4 : (subs l (s + 1)).length ≤ 1024 := Nat.le_trans h2 h3
          omega
        repeat fail "e"
        refine ss_one (s_aug nd rfl ?_)
        refine se_M rfl nd (blkOk_by rfl) (sw_lst (se_fP Dp hr ?_))
        repeat fail "e"
        refine sv_fromT (by omega) ?_
        repeat fail "e"
        refine ⟨(l.drop (k + 1), s), ?_, ⟨by rw [List.length_drop]; omega, by omega, by omega⟩, ?_⟩
        · rw [show ((k : Int) + 1).toNat = k + 1 by omega, show ((s + 1 : Nat) : Int) - 1 = (s : Nat) by omega]
        rintro _ ⟨L, rfl, hL, _⟩
        have hLl : L.length ≤ 1024 := by
          have h2 := len_subs (l.drop (k + 1)) s
          have h3 := pow10 (n := (l.drop (k + 1)).length) (by rw [List.length_drop]; omega)
          rw [hL.length_eq]
          exact Nat.le_trans h2 h3
        refine ⟨_, rfl, ?_⟩
        refine lcM (fun p => nT (l[k] :: p)) (by omega) ?_ ?_
        · intro p hpL
          have hpl : p.length ≤ 10 := by
            obtain ⟨h1, _⟩ := mem_subs.mp (hL.mem_iff.mp hpL)
            have := h1.length_le
            rw [List.length_drop] at this
            omega
          repeat fail "e"
          refine iv_tup (d := nD l[k]) ?_ ?_
          · unfold atI L2.ixN
            rw [if_pos (by omega), List.length_map, if_pos (by omega)]
            simp [hkl]
          repeat fail "e"
          exact ⟨rfl, rfl⟩
        refine oi_catLC 0 rfl (by rw [List.length_map, List.length_map]; omega) ?_
        refine ⟨M ++ L.map (l[k] :: ·), _, rfl, ?_, ?_, by omega⟩
        · show [(fa, Cel.lst (M.map nT ++ L.map fun p => nT (l[k] :: p)))] = _
          rw [List.map_append, List.map_map]; rfl
        · rw [show m - rest.length = k + 1 by omega]
          refine List.Perm.trans ?_ hM
          rw [subs_drop hkl, List.append_assoc]
          exact List.Perm.append_left M (List.Perm.append_right _ (hL.map _))
      · rintro Γ c ⟨M, u3, rfl, rfl, hM, _⟩
        have e0 : subs (l.drop m) (s + 1) = [] := subs_short (by rw [List.length_drop]; omega)
        rw [List.length_nil, Nat.sub_zero, e0, List.append_nil] at hM
        refine ss_freeze 2 0 rfl rfl ?_
        refine ss_one (s_ret (se_sorted hso ?_))
        repeat fail "e"
        refine cv_sortedTT (Nat.lt_of_le_of_lt (Nat.add_le_add_left (by decide : 16 ≤ 64) _) hr.units) (fun p hp z => ?_) ?_
        · have := (mem_subs.mp (hM.mem_iff.mp hp)).2
          rw [z] at this; cases this
        · exact ⟨rfl, sortT M, rfl, (sortT_perm M).trans hM, .inr ⟨M, rfl⟩⟩
abbrev D_parts (P : Program) (w : World) (K : PySem.W.Frag) (mg : Str → Option Value) (base : Heap) : Prop := DefOk P w K mg base 11 "parts_of" ["bases", "size"] (sp_parts K 10)
end
end W
end
section
set_option Elab.async false
set_option linter.all false
set_option maxRecDepth 100000
set_option maxHeartbeats 8000000
set_option pp.maxSteps 1500
open PySem L2 D PyProof.Rows
local macro_rules
  | `(tactic| fail "z") => `(tactic| ((try simp only [List.length_map, List.length_cons, List.length_nil, List.length_append, List.length_drop, List.length_take]); have := big_line; omega))
local macro_rules
  | `(tactic| fail) => `(tactic| first
    | ((with_reducible refine (?_ : SE _ _ _ _ _ _)); first | refine se_nm rfl ?_ | refine se_tyTuple (by assumption) ?_ | refine se_tyStr (by assumption) ?_ | refine se_tyInt (by assumption) ?_ | refine se_tyBool (by assumption) ?_ | refine se_int ?_ | refine se_str ?_ | refine se_non ?_ | refine se_bl ?_ | refine se_cmp ?_ | refine se_bin ?_ | refine se_backT ?_ | refine se_ix ?_ | refine se_slice ?_ | refine se_tup ?_ | refine se_lst ?_ | ((with_reducible refine (?_ : SE _ _ _ _ (.Call _ _ _ _) _)); first | refine se_any (by assumption) ?_ | refine se_all (by assumption) ?_ | refine se_len (by assumption) ?_ | refine se_min (by assumption) ?_ | refine se_max (by assumption) ?_ | refine se_sorted (by assumption) ?_ | refine se_isi (by assumption) ?_ | refine se_abs (by assumption) ?_ | refine se_sum (by assumption) ?_ | refine se_tupleC (by assumption) ?_ | refine se_listC (by assumption) ?_) | refine se_M rfl (by assumption) (blkOk_by rfl) ?_ | refine se_F rfl (by assumption) (blkOk_by rfl) ?_ | refine se_Dc rfl (by assumption) (blkOk_by rfl) ?_ | refine se_chain ?_ | refine se_indexN ?_ | refine se_not ?_ | refine se_if ?_ | refine se_one ?_ | refine se_and ?_ | refine se_or ?_ | refine se_neg ?_)
    | ((with_reducible refine (?_ : ST _ _ _ _ _ _)); first | refine st_cmp ?_ | refine st_chain ?_ | refine st_not ?_ | refine st_w (sw_and ?_) | refine st_w (sw_or ?_) | refine st_val ?_)
    | ((with_reducible refine (?_ : SWt _ _ _ _ _ _)); first | refine sw_and ?_ | refine sw_and1 ?_ | refine sw_or ?_ | refine sw_or1 ?_)
    | ((with_reducible refine (?_ : SA _ _ _ _ _ _)); first | refine sa_cons ?_ | refine sa_nil ?_)
    | ((with_reducible refine (?_ : SO _ _ _ _ _ _)); first | refine so_none ?_ | refine so_some ?_)
    | ((with_reducible refine (?_ : SS _ _ _ _ _ _)); first | refine ss_one ?_ | refine ss_cons ?_)
    | ((with_reducible refine (?_ : S1 _ _ _ _ _ _)); first | refine s_ret ?_ | refine s_if ?_ | refine s_M rfl (by assumption) (blkOk_by rfl) ?_ | refine s_F rfl (by assumption) (blkOk_by rfl) ?_ | refine s_Dc rfl (by assumption) (blkOk_by rfl) ?_ | refine s_st (by assumption) ?_ | refine s_aug (by assumption) rfl ?_ | refine s_asg ?_ | refine s_expr ?_)
    | ((with_reducible refine (?_ : SG _ _ _ _ _ _ _)); first | refine sg_nm (by assumption) ?_ | refine sg_par rfl ?_ | refine sg_tup rfl ?_)
    | ((with_reducible refine (?_ : SGs _ _ _ _ _ _ _)); first | refine sgs_cons ?_ | refine sgs_nil ?_)
    | ((with_reducible refine (?_ : SGb _ _ _ _ _ _ _ _)); first | refine sgb_nm (by assumption) ?_ (by first | exact vs_self | exact vs_one | exact vs_two) | refine sgb_par rfl ?_ | refine sgb_tup rfl ?_)
    | ((with_reducible refine (?_ : SGbs _ _ _ _ _ _ _ _)); first | refine sgbs_cons ?_ | refine sgbs_nil ?_)
    | ((with_reducible refine (?_ : SW _ _ _ _ _ _ _)); first | refine sw_vals ?_ | refine sw_zipT (by assumption) ?_ | refine sw_range (by assumption) ?_ | refine sw_seq ?_)
    | ((with_reducible refine (?_ : OpV _ _ _ _ _ _ _ _)); first | refine ov_eqN ?_ | refine ov_neN ?_ | refine ov_inN ?_ | refine ov_ninN ?_ | refine ov_inNT ?_ | refine ov_ninNT ?_ | refine oi_add ?_ | refine oi_catT (by fail "z") ?_ | refine ov_cat (by fail "z") ?_ | refine ov_catT (by fail "z") ?_ | refine ov_add ?_ | refine ov_sub ?_ | refine ov_lt ?_ | refine ov_le ?_ | refine ov_gt ?_ | refine ov_ge ?_ | refine ov_eqI ?_ | refine ov_neI ?_ | refine ov_eqS ?_ | refine ov_neS ?_ | refine ov_eqB ?_ | refine ov_neB ?_)
    | ((with_reducible refine (?_ : IxV _ _ _ _ _ _ _)); first | refine iv_cons ?_ | refine iv_consT ?_)
    | ((with_reducible refine (?_ : SlV _ _ _ _ _ _ _ _)); first | refine sv_fromL (by decide) ?_ | refine sv_fromT (by decide) ?_ | refine sv_toL (by decide) ?_ | refine sv_toT (by decide) ?_)
    | ((with_reducible refine (?_ : ClV _ _ _ _ _ _ _)); first | refine cv_anyM rfl ?_ | refine cv_allM rfl ?_ | refine cv_len rfl ?_ | refine cv_tuple rfl ?_ | refine cv_list rfl ?_ | refine cv_abs ?_ | refine cv_isStr rfl ?_ | refine cv_isTup rfl ?_ | refine cv_isInt rfl ?_ | refine cv_isBool rfl ?_ | refine cv_sum rfl ?_)
    | (with_reducible refine turn0I (fun _ _ _ _ _ _ => ?_)) | (with_reducible refine turn1I (fun _ _ _ _ _ _ => ?_)) | (with_reducible refine turnDI (fun _ _ _ _ _ _ => ?_)) | (with_reducible refine abI (fun _ _ _ _ _ => ?_)) | ((with_reducible show (if _ then _ else _)); first | refine iteT ?_ | refine iteF ?_) | ((with_reducible refine (?_ : And _ _)); refine And.intro (show _ ≤ sizeLine by fail "z") ?_) | ((with_reducible refine (?_ : Exists _)); refine ⟨_, rfl, ?_⟩))
local macro_rules
  | `(tactic| fail "e") => `(tactic| first
    | ((with_reducible refine (?_ : SE _ _ _ _ _ _)); first | refine se_nm rfl ?_ | refine se_tyTuple (by assumption) ?_ | refine se_tyStr (by assumption) ?_ | refine se_tyInt (by assumption) ?_ | refine se_tyBool (by assumption) ?_ | refine se_int ?_ | refine se_str ?_ | refine se_non ?_ | refine se_bl ?_ | refine se_cmp ?_ | refine se_bin ?_ | refine se_backT ?_ | refine se_ix ?_ | refine se_slice ?_ | refine se_tup ?_ | refine se_lst ?_ | ((with_reducible refine (?_ : SE _ _ _ _ (.Call _ _ _ _) _)); first | refine se_any (by assumption) ?_ | refine se_all (by assumption) ?_ | refine se_len (by assumption) ?_ | refine se_min (by assumption) ?_ | refine se_max (by assumption) ?_ | refine se_sorted (by assumption) ?_ | refine se_isi (by assumption) ?_ | refine se_abs (by assumption) ?_ | refine se_sum (by assumption) ?_ | refine se_tupleC (by assumption) ?_ | refine se_listC (by assumption) ?_) | refine se_M rfl (by assumption) (blkOk_by rfl) ?_ | refine se_F rfl (by assumption) (blkOk_by rfl) ?_ | refine se_Dc rfl (by assumption) (blkOk_by rfl) ?_ | refine se_chain ?_ | refine se_indexN ?_ | refine se_not ?_ | refine se_if ?_ | refine se_one ?_ | refine se_and ?_ | refine se_or ?_ | refine se_neg ?_)
    | ((with_reducible refine (?_ : ST _ _ _ _ _ _)); first | refine st_cmp ?_ | refine st_chain ?_ | refine st_not ?_ | refine st_w (sw_and ?_) | refine st_w (sw_or ?_) | refine st_val ?_)
    | ((with_reducible refine (?_ : SWt _ _ _ _ _ _)); first | refine sw_and ?_ | refine sw_and1 ?_ | refine sw_or ?_ | refine sw_or1 ?_)
    | ((with_reducible refine (?_ : SA _ _ _ _ _ _)); first | refine sa_cons ?_ | refine sa_nil ?_)
    | ((with_reducible refine (?_ : SO _ _ _ _ _ _)); first | refine so_none ?_ | refine so_some ?_)
    | ((with_reducible refine (?_ : SG _ _ _ _ _ _ _)); first | refine sg_nm (by assumption) ?_ | refine sg_par rfl ?_ | refine sg_tup rfl ?_)
    | ((with_reducible refine (?_ : SGs _ _ _ _ _ _ _)); first | refine sgs_cons ?_ | refine sgs_nil ?_)
    | ((with_reducible refine (?_ : SGb _ _ _ _ _ _ _ _)); first | refine sgb_nm (by assumption) ?_ (by first | exact vs_self | exact vs_one | exact vs_two) | refine sgb_par rfl ?_ | refine sgb_tup rfl ?_)
    | ((with_reducible refine (?_ : SGbs _ _ _ _ _ _ _ _)); first | refine sgbs_cons ?_ | refine sgbs_nil ?_)
    | ((with_reducible refine (?_ : SW _ _ _ _ _ _ _)); first | refine sw_vals ?_ | refine sw_zipT (by assumption) ?_ | refine sw_range (by assumption) ?_ | refine sw_seq ?_)
    | ((with_reducible refine (?_ : OpV _ _ _ _ _ _ _ _)); first | refine ov_eqN ?_ | refine ov_neN ?_ | refine ov_inN ?_ | refine ov_ninN ?_ | refine ov_inNT ?_ | refine ov_ninNT ?_ | refine oi_add ?_ | refine oi_catT (by fail "z") ?_ | refine ov_cat (by fail "z") ?_ | refine ov_catT (by fail "z") ?_ | refine ov_add ?_ | refine ov_sub ?_ | refine ov_lt ?_ | refine ov_le ?_ | refine ov_gt ?_ | refine ov_ge ?_ | refine ov_eqI ?_ | refine ov_neI ?_ | refine ov_eqS ?_ | refine ov_neS ?_ | refine ov_eqB ?_ | refine ov_neB ?_)
    | ((with_reducible refine (?_ : IxV _ _ _ _ _ _ _)); first | refine iv_cons ?_ | refine iv_consT ?_)
    | ((with_reducible refine (?_ : SlV _ _ _ _ _ _ _ _)); first | refine sv_fromL (by decide) ?_ | refine sv_fromT (by decide) ?_ | refine sv_toL (by decide) ?_ | refine sv_toT (by decide) ?_)
    | ((with_reducible refine (?_ : ClV _ _ _ _ _ _ _)); first | refine cv_anyM rfl ?_ | refine cv_allM rfl ?_ | refine cv_len rfl ?_ | refine cv_tuple rfl ?_ | refine cv_list rfl ?_ | refine cv_abs ?_ | refine cv_isStr rfl ?_ | refine cv_isTup rfl ?_ | refine cv_isInt rfl ?_ | refine cv_isBool rfl ?_ | refine cv_sum rfl ?_)
    | (with_reducible refine turn0I (fun _ _ _ _ _ _ => ?_)) | (with_reducible refine turn1I (fun _ _ _ _ _ _ => ?_)) | (with_reducible refine turnDI (fun _ _ _ _ _ _ => ?_)) | (with_reducible refine abI (fun _ _ _ _ _ => ?_)) | ((with_reducible show (if _ then _ else _)); first | refine iteT ?_ | refine iteF ?_) | ((with_reducible refine (?_ : And _ _)); refine And.intro (show _ ≤ sizeLine by fail "z") ?_) | ((with_reducible refine (?_ : Exists _)); refine ⟨_, rfl, ?_⟩))
namespace W
open PySem L2 D PyProof.Rows
/-- the greatest parts of a base list that have a line; the parts with one kind more -/
structure KeptOk (G : Reg) (l part : List Nm) (gr : List (List Nm)) : Prop where
  fut : futB G part = true
  sub : part.Sublist l
  max : ∀ p, p.Sublist l → futB G p = true → p.length ≤ part.length
  gp : gr.Perm (if part.length < l.length then subs l (part.length + 1) else [])
  ord : gr = [] ∨ ∃ M, gr = sortT M
  least : part = l ∨ ∃ (M : List (List Nm)) (q : List Nm → Bool), ((sortT M).filter q).head? = some part ∧ M.Perm (subs l part.length) ∧ ∀ p, p ∈ M → (q p = true ↔ futB G p = true)
def ringD (G : Reg) (p : List Nm) : Dt := match merge (listsG G p) with
  | none => roadD (leastRing (listsG G p))
  | some _ => .non
theorem mor_ix (G : Reg) (p : List Nm) : ∃ d0, morD (listsG G p) = .tup [d0, ringD G p] := by
  unfold morD ringD
  cases merge (listsG G p) with
  | none => exact ⟨_, rfl⟩
  | some m => exact ⟨_, rfl⟩
theorem ite_len {G : Reg} {l part : List Nm} {gr : List (List Nm)} (h : KeptOk G l part gr) : gr.length ≤ 2 ^ l.length := by
  have := h.gp.length_eq
  rw [this]
  split
  · exact len_subs _ _
  · exact Nat.zero_le _
section
variable {P : Program} {w : World} {K : PySem.W.Frag} {mg : Str → Option Value} {base : Heap} {C tb : Addr}
abbrev sp_kept (K : PySem.W.Frag) (C : Addr) : Sp := spG K (fun x : RA × Reg × Pst × List Nm => [.raw (.ref x.1.a), nT x.2.2.2]) (fun x => regC C x.1 x.2.1 x.2.2.1) (fun x => (BasesOk x.2.1 x.2.2.2 ∧ x.2.2.2 ≠ []) ∧ LinesG x.2.1 ∧ linesOk x.2.1)
  (fun x c' d => c' = regC C x.1 x.2.1 x.2.2.1 ∧ ∃ part gr, KeptOk x.2.1 x.2.2.2 part gr ∧ d = .tup [nT part, .tup (gr.map fun p => .tup [nT p, ringD x.2.1 p])]) (fun _ _ _ => False)
theorem ok_kept {f : Addr} {fd : FuncData} (Fu : Fun K "kept" "kept" s_kept f fd) (T : Txt mg) (Db : D_look_bases P w K mg base C) (Di : D_isfut P w K mg base C) (Dp : D_parts P w K mg base) (Dm : D_merge_or_ring P w K mg base) (Dl : D_lists_for P w K mg base C) : FnOk P w K mg base (L2.CX P w) 12 f fd ["registry", "bases"] (sp_kept K C) := by
  refine fn_G Fu sc_kept (fun a => rfl) (fun cdv A outer s H E F x hp hr xt => ?_)
  obtain ⟨r, G, ps, l⟩ := x
  obtain ⟨⟨hB, hne⟩, hG, hLk⟩ := hp
  have hB : BasesOk G l := hB
  have hne : l ≠ [] := hne
  have hG : LinesG G := hG
  have hLk : linesOk G := hLk
  have hl := hB.1
  have hl0 := List.length_pos_iff.mpr hne
  have nd := sc_kept.nd
  have hlen := T.len
  have htup := T.tuple
  have hbig := big_line
  have futP : ∀ p, p.Sublist l → BasesOk G p := fun p hp => hB.part hp
  refine ss_cons (s_expr (se_fG Db (hr.mono (by decide)) XT.no ?_))
  repeat fail "e"
  refine ⟨(r, G, ps, l), [], [], rfl, rfl, ⟨hB, hne⟩, ?_, fun _ _ z => z.elim⟩
  rintro _ _ ⟨rfl, rfl⟩
  refine ss_cons (s_st nd ?_)
  repeat fail "e"
  rw [List.length_map]
  refine ss_mid (fun Γ c => ∃ L : List (List Nm), (L = if futB G l = true then [l] else []) ∧ Γ = [.dat (.raw (.ref r.a)), .dat (nT l), .dat (.int (l.length : Int)), .dat (.lst (L.map nT)), .un, .un] ∧ c = regC C r G ps) (s_st nd ?_) ?_
  · refine se_if (st_val (se_fG Di (hr.mono (by decide)) XT.no ?_))
    repeat fail "e"
    refine ⟨(r, G, ps, l), [], [], rfl, rfl, ⟨hB, hLk⟩, ?_, fun _ _ z => z.elim⟩
    rintro _ _ ⟨rfl, rfl⟩
    refine ⟨_, rfl, ite2 (fun h => ?_) (fun h => ?_)⟩
    · repeat fail "e"
      exact ⟨by rw [if_pos h]; rfl, rfl⟩
    · repeat fail "e"
      exact ⟨by rw [if_neg h]; rfl, rfl⟩
  rintro Γ c ⟨L0, hL0, rfl, rfl⟩
  refine ss_cons (s_while (passes_of rfl) (fun m Γ c => ∃ (L : List (List Nm)) (u5 : Sl), (Γ = [.dat (.raw (.ref r.a)), .dat (nT l), .dat (.int (m : Int)), .dat (.lst (L.map nT)), .un, u5] ∧ c = regC C r G ps) ∧ m ≤ l.length ∧ (∀ p, p.Sublist l → futB G p = true → p.length ≤ m) ∧
    (∀ p, p.Sublist l → futB G p = true → p.length = m → p ∈ L) ∧ (∀ p ∈ L, p.Sublist l ∧ futB G p = true ∧ p.length = m) ∧ (m = l.length ∧ (L = [l] ∨ L = []) ∨ ∃ (M : List (List Nm)) (q : List Nm → Bool), L = (sortT M).filter q ∧ M.Perm (subs l m) ∧ ∀ p, p ∈ M → (q p = true ↔ futB G p = true))) l.length ⟨L0, _, ⟨rfl, rfl⟩, Nat.le_refl _, fun p h1 _ => h1.length_le, fun p h1 h2 h3 => ?_, fun p hp => ?_, .inl ⟨rfl, ?_⟩⟩ ?_)
  · have e := h1.eq_of_length h3
    rw [e] at h2
    rw [hL0, if_pos h2, e]
    exact List.mem_singleton.mpr rfl
  · rw [hL0] at hp
    split at hp
    · rename_i h
      rw [List.mem_singleton.mp hp]
      exact ⟨.refl _, h, rfl⟩
    · cases hp
  · rw [hL0]
    split
    · exact .inl rfl
    · exact .inr rfl
  rintro m Γ c ⟨L, u5, ⟨rfl, rfl⟩, hml, hmax, hcom, hLs, hor⟩
  have hLlen : L.length ≤ 1024 := by
    rcases hor with ⟨_, h | h⟩ | ⟨M, q, h, hM, _⟩
    · rw [h]; simp
    · rw [h]; simp
    · rw [h]
      have h1 := List.length_filter_le q (sortT M)
      have h2 := ((sortT_perm M).trans hM).length_eq
      have h3 : (subs l m).length ≤ 1024 := Nat.le_trans (len_subs l m) (pow10 hl)
      omega
  repeat fail "e"
  refine ov_eqNil (f := nT) hr.units (fit_lst (n := 63) fun d hd => ?_) ?_
  · obtain ⟨p, _, rfl⟩ := List.mem_map.mp hd
    exact fit_nT p
  repeat fail "e"
  refine ite2 (fun h => ?_) (fun h => ?_)
  · have hL0 : L = [] := List.isEmpty_iff.mp h
    subst hL0
    have hm0 : m ≠ 0 := fun z => by
      subst z
      exact absurd (hcom [] (List.nil_sublist _) rfl rfl) List.not_mem_nil
    have hm1 : m ≠ 1 := fun z => by
      subst z
      obtain ⟨y, hy⟩ := List.exists_mem_of_ne_nil _ hne
      exact absurd (hcom [y] (List.singleton_sublist.mpr hy) (by unfold futB; rw [hG.one (hB.2.2 y hy)]; rfl) rfl) List.not_mem_nil
    refine ss_cons (s_aug nd rfl ?_)
    repeat fail "e"
    refine oi_sub ?_
    refine ss_one (s_F rfl nd (blkOk_by rfl) (sw_lst (se_fP Dp (hr.mono (by decide)) ?_)))
    repeat fail "e"
    refine ⟨(l, m - 1), by rw [show (m : Int) - 1 = ((m - 1 : Nat) : Int) by omega], ⟨hl, (show m - 1 ≤ 10 by omega), (show m - 1 ≤ 10 by omega)⟩, ?_⟩
    rintro _ ⟨M0, rfl, hM0, hs0⟩
    have hM0 : M0.Perm (subs l (m - 1)) := hM0
    have hs0 : m - 1 = 0 ∨ ∃ M, M0 = sortT M := hs0
    have hMl : M0.length ≤ 1024 := by
      rw [hM0.length_eq]
      exact Nat.le_trans (len_subs l (m - 1)) (pow10 hl)
    refine ⟨_, rfl, ?_⟩
    refine lcF (fun p => futB G p) nT (by omega) ?_ ?_
    · intro p hp
      obtain ⟨hp1, _⟩ := mem_subs.mp (hM0.mem_iff.mp hp)
      repeat fail "e"
      refine se_fG Di (hr.mono (by decide)) XT.no ?_
      repeat fail "e"
      refine ⟨(r, G, ps, p), [], [], rfl, rfl, ⟨futP p hp1, hLk⟩, ?_, fun _ _ z => z.elim⟩
      rintro _ _ ⟨rfl, rfl⟩
      repeat fail "e"
      refine filt_end (fun h => ?_) (fun h => ?_)
      · repeat fail "e"
        exact ⟨h, rfl, rfl⟩
      · exact ⟨rfl, h⟩
    refine ⟨m - 1, by omega, M0.filter fun p => futB G p, u5, ⟨?_, rfl⟩, by omega, fun p h1 h2 => ?_, fun p h1 h2 h3 => ?_, fun p hp => ?_, .inr ?_⟩
    · rw [show (m : Int) - 1 = ((m - 1 : Nat) : Int) by omega]; rfl
    · have h3 := hmax p h1 h2
      have h4 : p.length ≠ m := fun z => absurd (hcom p h1 h2 z) List.not_mem_nil
      omega
    · exact List.mem_filter.mpr ⟨hM0.mem_iff.mpr (mem_subs.mpr ⟨h1, h3⟩), h2⟩
    · obtain ⟨h1, h2⟩ := List.mem_filter.mp hp
      obtain ⟨h3, h4⟩ := mem_subs.mp (hM0.mem_iff.mp h1)
      exact ⟨h3, h2, h4⟩
    · rcases hs0 with z | ⟨M, rfl⟩
      · omega
      · exact ⟨M, fun p => futB G p, rfl, (sortT_perm M).symm.trans hM0, fun p _ => Iff.rfl⟩
  · obtain ⟨p0, Ls, rfl⟩ : ∃ p0 Ls, L = p0 :: Ls := by
      cases L with
      | nil => exact absurd rfl h
      | cons p Ls => exact ⟨p, Ls, rfl⟩
    obtain ⟨h1, h2, h3⟩ := hLs p0 (List.mem_cons_self ..)
    refine ss_mid (fun Γ c => ∃ gr : List (List Nm), (gr.Perm (if m < l.length then subs l (m + 1) else []) ∧ (gr = [] ∨ ∃ M, gr = sortT M)) ∧ Γ = [.dat (.raw (.ref r.a)), .dat (nT l), .dat (.int (m : Int)), .dat (.lst ((p0 :: Ls).map nT)), .dat (.lst (gr.map nT)), u5] ∧ c = regC C r G ps) (s_st nd ?_) ?_
    · repeat fail "e"
      rw [List.length_map]
      refine ite2 (fun h => ?_) (fun h => ?_)
      · have hlt : m < l.length := by have := of_decide_eq_true h; omega
        refine se_fP Dp (hr.mono (by decide)) ?_
        repeat fail "e"
        refine ⟨(l, m + 1), rfl, ⟨hl, (show m + 1 ≤ 10 by omega), (show m + 1 ≤ 10 by omega)⟩, ?_⟩
        rintro _ ⟨M0, rfl, hM0, hs0⟩
        refine ⟨M0, ⟨by rw [if_pos hlt]; exact hM0, .inr ?_⟩, rfl, rfl⟩
        rcases hs0 with z | z
        · exact absurd z (Nat.succ_ne_zero m)
        · exact z
      · have hge : ¬ m < l.length := fun z => h (decide_eq_true (by omega))
        repeat fail "e"
        exact ⟨[], ⟨by rw [if_neg hge], .inl rfl⟩, rfl, rfl⟩
    rintro Γ c ⟨gr, ⟨hgr, hgo⟩, rfl, rfl⟩
    have hgl : gr.length ≤ 1024 := by
      rw [hgr.length_eq]
      split
      · exact Nat.le_trans (len_subs l (m + 1)) (pow10 hl)
      · exact Nat.zero_le _
    repeat fail
    refine lcM (fun p => .tup [nT p, ringD G p]) (by omega) ?_ ?_
    · intro p hp
      have hpl : p.Sublist l := by
        have hp2 := hgr.mem_iff.mp hp
        split at hp2
        · exact (mem_subs.mp hp2).1
        · cases hp2
      have hpB := futP p hpl
      have hrow := lists_ok hLk hpB.1
      repeat fail "e"
      refine se_fP Dm (hr.mono (by decide)) (sa_cons (se_fG Dl (hr.mono (by decide)) XT.no ?_))
      repeat fail "e"
      refine ⟨(r, G, ps, p), [], [], rfl, rfl, hpB, ?_, fun _ _ z => z.elim⟩
      rintro _ _ ⟨rfl, rfl⟩
      repeat fail "e"
      refine ⟨⟨hrow, ring_of_none hrow⟩, ?_⟩
      rintro _ rfl
      obtain ⟨d0, hd0⟩ := mor_ix G p
      rw [show morD (listsG (r, G, ps, p).2.1 (r, G, ps, p).2.2.2) = .tup [d0, ringD G p] from hd0]
      repeat fail "e"
      refine iv_tup (d := ringD G p) rfl ?_
      repeat fail "e"
      exact ⟨rfl, rfl⟩
    repeat fail "e"
    refine ⟨rfl, p0, gr, ⟨h2, h1, fun p q1 q2 => by rw [h3]; exact hmax p q1 q2, by rw [h3]; exact hgr, hgo, ?_⟩, rfl⟩
    rcases hor with ⟨_, e | e⟩ | ⟨M, q, e, hM, hq⟩
    · injection e with e _
      exact .inl e
    · cases e
    · exact .inr ⟨M, q, by rw [← e]; rfl, by rw [h3]; exact hM, hq⟩
abbrev D_kept (P : Program) (w : World) (K : PySem.W.Frag) (mg : Str → Option Value) (base : Heap) (C : Addr) : Prop := DefOk P w K mg base 12 "kept" ["registry", "bases"] (sp_kept K C)
end
end W
end
section
set_option linter.all false
namespace W
open PySem L2 D PyProof.Rows
theorem filter_ne_len : ∀ {p : List Nm} {x : Nm}, p.Nodup → p.length ≤ (p.filter fun y => !decide (y = x)).length + 1
  | [], _, _ => Nat.zero_le _
  | y :: p, x, h => by
    have n2 := List.nodup_cons.mp h
    by_cases e : y = x
    · subst e
      rw [List.filter_cons_of_neg (by simp), List.filter_eq_self.mpr fun z hz => ?_]
      · exact Nat.le_refl _
      · have : z ≠ y := fun e => n2.1 (e ▸ hz)
        simp [this]
    · rw [List.filter_cons_of_pos (by simpa using e)]
      have := filter_ne_len (x := x) n2.2
      rw [List.length_cons, List.length_cons]
      omega
/-- one kind taken out at a place -/
theorem part_without {l1 l2 p : List Nm} {x : Nm} (nd : (l1 ++ x :: l2).Nodup) (hp : p.Sublist (l1 ++ x :: l2)) : (p.filter fun y => !decide (y = x)).Sublist (l1 ++ l2) := by
  have h1 := hp.filter fun y => !decide (y = x)
  obtain ⟨n1, n2, n3⟩ := List.nodup_append.mp nd
  have n4 := List.nodup_cons.mp n2
  have e1 : (l1.filter fun y => !decide (y = x)) = l1 := List.filter_eq_self.mpr fun z hz => by
    have : z ≠ x := fun e => n3 z hz x (List.mem_cons_self ..) e
    simp [this]
  have e2 : (l2.filter fun y => !decide (y = x)) = l2 := List.filter_eq_self.mpr fun z hz => by
    have : z ≠ x := fun e => n4.1 (e ▸ hz)
    simp [this]
  rw [List.filter_append, List.filter_cons_of_neg (by simp), e1, e2] at h1
  exact h1
/-- the greatest part of a base list and that of one with a kind less -/
theorem kept_less {G : Reg} (hG : LinesG G) {l1 l2 p q : List Nm} {x : Nm} {g g' : List (List Nm)} (hB : BasesOk G (l1 ++ x :: l2)) (h : KeptOk G (l1 ++ x :: l2) p g) (h' : KeptOk G (l1 ++ l2) q g') :
    p.length ≤ q.length + 1 ∧ q.length ≤ p.length := by
  have hs : (l1 ++ l2).Sublist (l1 ++ x :: l2) := List.Sublist.append_left (List.sublist_cons_self ..) l1
  refine ⟨?_, h.max q (h'.sub.trans hs) h'.fut⟩
  have hpn : p.Nodup := hB.2.1.sublist h.sub
  have h1 := h'.max _ (part_without hB.2.1 h.sub) (hG.part (hB.part h.sub) h.fut List.filter_sublist)
  have h2 := filter_ne_len (x := x) hpn
  omega
theorem kept_less2 {G : Reg} {l l1 l2 p q : List Nm} {x : Nm} {g g' : List (List Nm)} (hz : l = l1 ++ x :: l2) (hG : LinesG G) (hB : BasesOk G l) (h : KeptOk G l p g) (h' : KeptOk G (l1 ++ l2) q g') :
    p.length ≤ q.length + 1 ∧ q.length ≤ p.length := by
  subst hz
  exact kept_less hG hB h h'
theorem KeptOk.ring {G : Reg} {l p : List Nm} {g : List (List Nm)} (h : KeptOk G l p g) : g = [] ↔ futB G l = true := by
  have hle := h.sub.length_le
  constructor
  · intro e
    have hnl : ¬ p.length < l.length := fun z => by
      have h1 := h.gp
      rw [if_pos z, e] at h1
      have h2 : l.take (p.length + 1) ∈ subs l (p.length + 1) := mem_subs.mpr ⟨List.take_sublist _ _, by rw [List.length_take]; omega⟩
      rw [List.perm_nil.mp h1.symm] at h2
      cases h2
    have := h.sub.eq_of_length (by omega)
    rw [← this]; exact h.fut
  · intro e
    have := h.max l (.refl _) e
    have h1 := h.gp
    rw [if_neg (by omega)] at h1
    exact List.perm_nil.mp h1
theorem KeptOk.whole {G : Reg} {l p : List Nm} {g : List (List Nm)} (h : KeptOk G l p g) (e : futB G l = true) : p.length = l.length := by
  have := h.max l (.refl _) e
  have hle := h.sub.length_le
  omega
theorem KeptOk.ne {G : Reg} (hG : LinesG G) {l p : List Nm} {g : List (List Nm)} (hB : BasesOk G l) (hne : l ≠ []) (h : KeptOk G l p g) : p ≠ [] := fun z => by
  obtain ⟨y, hy⟩ := List.exists_mem_of_ne_nil _ hne
  have := h.max [y] (List.singleton_sublist.mpr hy) (by unfold futB; rw [hG.one (hB.2.2 y hy)]; rfl)
  rw [z] at this
  simp at this
end W
end
section
set_option Elab.async false
set_option linter.all false
set_option maxRecDepth 100000
namespace D
open PySem L2 PyProof.Rows
section
variable {K : PySem.W.Frag} {F : Fm} {X : Cx} {Γ : List Sl} {c : Cells} {P : Cells → List Dt → Prop} {tg : Expr} {pos : Pos}
theorem src_from {V0 : Hp} {n : Nat} {lo : Int} : Src K V0 (Itr lo n) ((List.range n).map fun (i : Nat) => Dt.int (lo + (i : Int))) := by
  have hl : ((List.range n).map fun (i : Nat) => Dt.int (lo + (i : Int))).length = n := by rw [List.length_map, List.length_range]
  refine ⟨fun _ => True, YFn fun i => .int (lo + (i : Nat)), by rw [hl]; exact walk_range, fun _ _ => True.intro, fun i H1 x H2 hi y _ => ?_⟩
  obtain ⟨h1, h2⟩ := y
  rw [hl] at hi
  refine ⟨.int (lo + (i : Int)), ?_, .inl ⟨h1, ?_⟩⟩
  · rw [List.getElem?_map, List.getElem?_range hi]
    rfl
  · rw [h2]; exact .int _
/-- range(a, b) -/
theorem sw_range2 {a b : Expr} {p : Pos} (hm : X.mg "range" = none) (h : SA F X Γ c [a, b] fun c1 ds => ∃ i j : Int, ds = [.int i, .int j] ∧ (-(2 ^ 62) ≤ i ∧ i < 2 ^ 62 ∧ -(2 ^ 62) ≤ j ∧ j < 2 ^ 62) ∧ P c1 ((List.range (j - i).toNat).map fun (k : Nat) => Dt.int (i + (k : Int)))) (hg : Gl X "range" := by rfl)
    (hs : starEach [a, b] X.env = [(false, eval a X.env), (false, eval b X.env)] := by rfl) (hs2 : starEach [b] X.env = [(false, eval b X.env)] := by rfl) : SW F X Γ c tg (.Call (.Name "range" p) [a, b] [] pos) P := .mk fun σ H R S k =>
  ⟨_, pi_range2 hg hm pAs hs hs2, h σ H _ S fun vs H1 c1 ds p S1 k1 dvs => by
    obtain ⟨i, j, rfl, hb, p⟩ := p
    cases dvs with
    | cons d1 t => cases t with
      | cons d2 t =>
        cases t; cases d1; cases d2
        exact ⟨i, j, rfl, hb, k _ H1 c1 _ p S1 k1 src_from⟩⟩
end
end D
end
section
set_option Elab.async false
set_option linter.all false
set_option maxRecDepth 100000
set_option maxHeartbeats 8000000
set_option pp.maxSteps 1500
open PySem L2 D PyProof.Rows
local macro_rules
  | `(tactic| fail "z") => `(tactic| ((try simp only [List.length_map, List.length_cons, List.length_nil, List.length_append, List.length_drop, List.length_take]); have := big_line; omega))
local macro_rules
  | `(tactic| fail) => `(tactic| first
    | ((with_reducible refine (?_ : SE _ _ _ _ _ _)); first | refine se_nm rfl ?_ | refine se_tyTuple (by assumption) ?_ | refine se_tyStr (by assumption) ?_ | refine se_tyInt (by assumption) ?_ | refine se_tyBool (by assumption) ?_ | refine se_int ?_ | refine se_str ?_ | refine se_non ?_ | refine se_bl ?_ | refine se_cmp ?_ | refine se_bin ?_ | refine se_backT ?_ | refine se_ix ?_ | refine se_slice ?_ | refine se_tup ?_ | refine se_lst ?_ | ((with_reducible refine (?_ : SE _ _ _ _ (.Call _ _ _ _) _)); first | refine se_any (by assumption) ?_ | refine se_all (by assumption) ?_ | refine se_len (by assumption) ?_ | refine se_min (by assumption) ?_ | refine se_max (by assumption) ?_ | refine se_sorted (by assumption) ?_ | refine se_isi (by assumption) ?_ | refine se_abs (by assumption) ?_ | refine se_sum (by assumption) ?_ | refine se_tupleC (by assumption) ?_ | refine se_listC (by assumption) ?_) | refine se_M rfl (by assumption) (blkOk_by rfl) ?_ | refine se_F rfl (by assumption) (blkOk_by rfl) ?_ | refine se_Dc rfl (by assumption) (blkOk_by rfl) ?_ | refine se_chain ?_ | refine se_indexN ?_ | refine se_not ?_ | refine se_if ?_ | refine se_one ?_ | refine se_and ?_ | refine se_or ?_ | refine se_neg ?_)
    | ((with_reducible refine (?_ : ST _ _ _ _ _ _)); first | refine st_cmp ?_ | refine st_chain ?_ | refine st_not ?_ | refine st_w (sw_and ?_) | refine st_w (sw_or ?_) | refine st_val ?_)
    | ((with_reducible refine (?_ : SWt _ _ _ _ _ _)); first | refine sw_and ?_ | refine sw_and1 ?_ | refine sw_or ?_ | refine sw_or1 ?_)
    | ((with_reducible refine (?_ : SA _ _ _ _ _ _)); first | refine sa_cons ?_ | refine sa_nil ?_)
    | ((with_reducible refine (?_ : SO _ _ _ _ _ _)); first | refine so_none ?_ | refine so_some ?_)
    | ((with_reducible refine (?_ : SS _ _ _ _ _ _)); first | refine ss_one ?_ | refine ss_cons ?_)
    | ((with_reducible refine (?_ : S1 _ _ _ _ _ _)); first | refine s_ret ?_ | refine s_if ?_ | refine s_M rfl (by assumption) (blkOk_by rfl) ?_ | refine s_F rfl (by assumption) (blkOk_by rfl) ?_ | refine s_Dc rfl (by assumption) (blkOk_by rfl) ?_ | refine s_st (by assumption) ?_ | refine s_aug (by assumption) rfl ?_ | refine s_asg ?_ | refine s_expr ?_)
    | ((with_reducible refine (?_ : SG _ _ _ _ _ _ _)); first | refine sg_nm (by assumption) ?_ | refine sg_par rfl ?_ | refine sg_tup rfl ?_)
    | ((with_reducible refine (?_ : SGs _ _ _ _ _ _ _)); first | refine sgs_cons ?_ | refine sgs_nil ?_)
    | ((with_reducible refine (?_ : SGb _ _ _ _ _ _ _ _)); first | refine sgb_nm (by assumption) ?_ (by first | exact vs_self | exact vs_one | exact vs_two) | refine sgb_par rfl ?_ | refine sgb_tup rfl ?_)
    | ((with_reducible refine (?_ : SGbs _ _ _ _ _ _ _ _)); first | refine sgbs_cons ?_ | refine sgbs_nil ?_)
    | ((with_reducible refine (?_ : SW _ _ _ _ _ _ _)); first | refine sw_vals ?_ | refine sw_zipT (by assumption) ?_ | refine sw_range (by assumption) ?_ | refine sw_seq ?_)
    | ((with_reducible refine (?_ : OpV _ _ _ _ _ _ _ _)); first | refine ov_eqN ?_ | refine ov_neN ?_ | refine ov_inN ?_ | refine ov_ninN ?_ | refine ov_inNT ?_ | refine ov_ninNT ?_ | refine oi_add ?_ | refine oi_catT (by fail "z") ?_ | refine ov_cat (by fail "z") ?_ | refine ov_catT (by fail "z") ?_ | refine ov_add ?_ | refine ov_sub ?_ | refine ov_lt ?_ | refine ov_le ?_ | refine ov_gt ?_ | refine ov_ge ?_ | refine ov_eqI ?_ | refine ov_neI ?_ | refine ov_eqS ?_ | refine ov_neS ?_ | refine ov_eqB ?_ | refine ov_neB ?_)
    | ((with_reducible refine (?_ : IxV _ _ _ _ _ _ _)); first | refine iv_cons ?_ | refine iv_consT ?_)
    | ((with_reducible refine (?_ : SlV _ _ _ _ _ _ _ _)); first | refine sv_fromL (by decide) ?_ | refine sv_fromT (by decide) ?_ | refine sv_toL (by decide) ?_ | refine sv_toT (by decide) ?_)
    | ((with_reducible refine (?_ : ClV _ _ _ _ _ _ _)); first | refine cv_anyM rfl ?_ | refine cv_allM rfl ?_ | refine cv_len rfl ?_ | refine cv_tuple rfl ?_ | refine cv_list rfl ?_ | refine cv_abs ?_ | refine cv_isStr rfl ?_ | refine cv_isTup rfl ?_ | refine cv_isInt rfl ?_ | refine cv_isBool rfl ?_ | refine cv_sum rfl ?_)
    | (with_reducible refine turn0I (fun _ _ _ _ _ _ => ?_)) | (with_reducible refine turn1I (fun _ _ _ _ _ _ => ?_)) | (with_reducible refine turnDI (fun _ _ _ _ _ _ => ?_)) | (with_reducible refine abI (fun _ _ _ _ _ => ?_)) | ((with_reducible show (if _ then _ else _)); first | refine iteT ?_ | refine iteF ?_) | ((with_reducible refine (?_ : And _ _)); refine And.intro (show _ ≤ sizeLine by fail "z") ?_) | ((with_reducible refine (?_ : Exists _)); refine ⟨_, rfl, ?_⟩))
local macro_rules
  | `(tactic| fail "e") => `(tactic| first
    | ((with_reducible refine (?_ : SE _ _ _ _ _ _)); first | refine se_nm rfl ?_ | refine se_tyTuple (by assumption) ?_ | refine se_tyStr (by assumption) ?_ | refine se_tyInt (by assumption) ?_ | refine se_tyBool (by assumption) ?_ | refine se_int ?_ | refine se_str ?_ | refine se_non ?_ | refine se_bl ?_ | refine se_cmp ?_ | refine se_bin ?_ | refine se_backT ?_ | refine se_ix ?_ | refine se_slice ?_ | refine se_tup ?_ | refine se_lst ?_ | ((with_reducible refine (?_ : SE _ _ _ _ (.Call _ _ _ _) _)); first | refine se_any (by assumption) ?_ | refine se_all (by assumption) ?_ | refine se_len (by assumption) ?_ | refine se_min (by assumption) ?_ | refine se_max (by assumption) ?_ | refine se_sorted (by assumption) ?_ | refine se_isi (by assumption) ?_ | refine se_abs (by assumption) ?_ | refine se_sum (by assumption) ?_ | refine se_tupleC (by assumption) ?_ | refine se_listC (by assumption) ?_) | refine se_M rfl (by assumption) (blkOk_by rfl) ?_ | refine se_F rfl (by assumption) (blkOk_by rfl) ?_ | refine se_Dc rfl (by assumption) (blkOk_by rfl) ?_ | refine se_chain ?_ | refine se_indexN ?_ | refine se_not ?_ | refine se_if ?_ | refine se_one ?_ | refine se_and ?_ | refine se_or ?_ | refine se_neg ?_)
    | ((with_reducible refine (?_ : ST _ _ _ _ _ _)); first | refine st_cmp ?_ | refine st_chain ?_ | refine st_not ?_ | refine st_w (sw_and ?_) | refine st_w (sw_or ?_) | refine st_val ?_)
    | ((with_reducible refine (?_ : SWt _ _ _ _ _ _)); first | refine sw_and ?_ | refine sw_and1 ?_ | refine sw_or ?_ | refine sw_or1 ?_)
    | ((with_reducible refine (?_ : SA _ _ _ _ _ _)); first | refine sa_cons ?_ | refine sa_nil ?_)
    | ((with_reducible refine (?_ : SO _ _ _ _ _ _)); first | refine so_none ?_ | refine so_some ?_)
    | ((with_reducible refine (?_ : SG _ _ _ _ _ _ _)); first | refine sg_nm (by assumption) ?_ | refine sg_par rfl ?_ | refine sg_tup rfl ?_)
    | ((with_reducible refine (?_ : SGs _ _ _ _ _ _ _)); first | refine sgs_cons ?_ | refine sgs_nil ?_)
    | ((with_reducible refine (?_ : SGb _ _ _ _ _ _ _ _)); first | refine sgb_nm (by assumption) ?_ (by first | exact vs_self | exact vs_one | exact vs_two) | refine sgb_par rfl ?_ | refine sgb_tup rfl ?_)
    | ((with_reducible refine (?_ : SGbs _ _ _ _ _ _ _ _)); first | refine sgbs_cons ?_ | refine sgbs_nil ?_)
    | ((with_reducible refine (?_ : SW _ _ _ _ _ _ _)); first | refine sw_vals ?_ | refine sw_zipT (by assumption) ?_ | refine sw_range (by assumption) ?_ | refine sw_seq ?_)
    | ((with_reducible refine (?_ : OpV _ _ _ _ _ _ _ _)); first | refine ov_eqN ?_ | refine ov_neN ?_ | refine ov_inN ?_ | refine ov_ninN ?_ | refine ov_inNT ?_ | refine ov_ninNT ?_ | refine oi_add ?_ | refine oi_catT (by fail "z") ?_ | refine ov_cat (by fail "z") ?_ | refine ov_catT (by fail "z") ?_ | refine ov_add ?_ | refine ov_sub ?_ | refine ov_lt ?_ | refine ov_le ?_ | refine ov_gt ?_ | refine ov_ge ?_ | refine ov_eqI ?_ | refine ov_neI ?_ | refine ov_eqS ?_ | refine ov_neS ?_ | refine ov_eqB ?_ | refine ov_neB ?_)
    | ((with_reducible refine (?_ : IxV _ _ _ _ _ _ _)); first | refine iv_cons ?_ | refine iv_consT ?_)
    | ((with_reducible refine (?_ : SlV _ _ _ _ _ _ _ _)); first | refine sv_fromL (by decide) ?_ | refine sv_fromT (by decide) ?_ | refine sv_toL (by decide) ?_ | refine sv_toT (by decide) ?_)
    | ((with_reducible refine (?_ : ClV _ _ _ _ _ _ _)); first | refine cv_anyM rfl ?_ | refine cv_allM rfl ?_ | refine cv_len rfl ?_ | refine cv_tuple rfl ?_ | refine cv_list rfl ?_ | refine cv_abs ?_ | refine cv_isStr rfl ?_ | refine cv_isTup rfl ?_ | refine cv_isInt rfl ?_ | refine cv_isBool rfl ?_ | refine cv_sum rfl ?_)
    | (with_reducible refine turn0I (fun _ _ _ _ _ _ => ?_)) | (with_reducible refine turn1I (fun _ _ _ _ _ _ => ?_)) | (with_reducible refine turnDI (fun _ _ _ _ _ _ => ?_)) | (with_reducible refine abI (fun _ _ _ _ _ => ?_)) | ((with_reducible show (if _ then _ else _)); first | refine iteT ?_ | refine iteF ?_) | ((with_reducible refine (?_ : And _ _)); refine And.intro (show _ ≤ sizeLine by fail "z") ?_) | ((with_reducible refine (?_ : Exists _)); refine ⟨_, rfl, ?_⟩))
local macro_rules
  | `(tactic| fail "u") => `(tactic| first
    | ((with_reducible refine (?_ : SE _ _ _ _ _ _)); first | refine se_nm rfl ?_ | refine se_tyTuple (by assumption) ?_ | refine se_tyStr (by assumption) ?_ | refine se_tyInt (by assumption) ?_ | refine se_tyBool (by assumption) ?_ | refine se_int ?_ | refine se_str ?_ | refine se_non ?_ | refine se_bl ?_ | refine se_cmp ?_ | refine se_bin ?_ | refine se_backT ?_ | refine se_ix ?_ | refine se_slice ?_ | refine se_tup ?_ | refine se_lst ?_ | ((with_reducible refine (?_ : SE _ _ _ _ (.Call _ _ _ _) _)); first | refine se_any (by assumption) ?_ | refine se_all (by assumption) ?_ | refine se_len (by assumption) ?_ | refine se_min (by assumption) ?_ | refine se_max (by assumption) ?_ | refine se_sorted (by assumption) ?_ | refine se_isi (by assumption) ?_ | refine se_abs (by assumption) ?_ | refine se_sum (by assumption) ?_ | refine se_tupleC (by assumption) ?_ | refine se_listC (by assumption) ?_) | refine se_M rfl (by assumption) (blkOk_by rfl) ?_ | refine se_F rfl (by assumption) (blkOk_by rfl) ?_ | refine se_Dc rfl (by assumption) (blkOk_by rfl) ?_ | refine se_chain ?_ | refine se_indexN ?_ | refine se_not ?_ | refine se_if ?_ | refine se_one ?_ | refine se_and ?_ | refine se_or ?_ | refine se_neg ?_)
    | ((with_reducible refine (?_ : ST _ _ _ _ _ _)); first | refine st_cmp ?_ | refine st_chain ?_ | refine st_not ?_ | refine st_w (sw_and ?_) | refine st_w (sw_or ?_) | refine st_val ?_)
    | ((with_reducible refine (?_ : SWt _ _ _ _ _ _)); first | refine sw_and ?_ | refine sw_and1 ?_ | refine sw_or ?_ | refine sw_or1 ?_)
    | ((with_reducible refine (?_ : SA _ _ _ _ _ _)); first | refine sa_cons ?_ | refine sa_nil ?_)
    | ((with_reducible refine (?_ : SO _ _ _ _ _ _)); first | refine so_none ?_ | refine so_some ?_)
    | ((with_reducible refine (?_ : SG _ _ _ _ _ _ _)); first | refine sg_nm (by assumption) ?_ | refine sg_par rfl ?_ | refine sg_tup rfl ?_)
    | ((with_reducible refine (?_ : SGs _ _ _ _ _ _ _)); first | refine sgs_cons ?_ | refine sgs_nil ?_)
    | ((with_reducible refine (?_ : SGb _ _ _ _ _ _ _ _)); first | refine sgb_nm (by assumption) ?_ (by first | exact vs_self | exact vs_one | exact vs_two) | refine sgb_par rfl ?_ | refine sgb_tup rfl ?_)
    | ((with_reducible refine (?_ : SGbs _ _ _ _ _ _ _ _)); first | refine sgbs_cons ?_ | refine sgbs_nil ?_)
    | ((with_reducible refine (?_ : SW _ _ _ _ _ _ _)); first | refine sw_vals ?_ | refine sw_zipT (by assumption) ?_ | refine sw_range (by assumption) ?_ | refine sw_seq ?_)
    | ((with_reducible refine (?_ : OpV _ _ _ _ _ _ _ _)); first | refine ov_eqN ?_ | refine ov_neN ?_ | refine ov_inN ?_ | refine ov_ninN ?_ | refine ov_inNT ?_ | refine ov_ninNT ?_ | refine oi_add ?_ | refine oi_catT (by fail "z") ?_ | refine ov_cat (by fail "z") ?_ | refine ov_catT (by fail "z") ?_ | refine ov_add ?_ | refine ov_sub ?_ | refine ov_lt ?_ | refine ov_le ?_ | refine ov_gt ?_ | refine ov_ge ?_ | refine ov_eqI ?_ | refine ov_neI ?_ | refine ov_eqS ?_ | refine ov_neS ?_ | refine ov_eqB ?_ | refine ov_neB ?_)
    | ((with_reducible refine (?_ : IxV _ _ _ _ _ _ _)); first | refine iv_cons ?_ | refine iv_consT ?_)
    | ((with_reducible refine (?_ : SlV _ _ _ _ _ _ _ _)); first | refine sv_fromL (by decide) ?_ | refine sv_fromT (by decide) ?_ | refine sv_toL (by decide) ?_ | refine sv_toT (by decide) ?_)
    | ((with_reducible refine (?_ : ClV _ _ _ _ _ _ _)); first | refine cv_anyM rfl ?_ | refine cv_allM rfl ?_ | refine cv_len rfl ?_ | refine cv_tuple rfl ?_ | refine cv_list rfl ?_ | refine cv_abs ?_ | refine cv_isStr rfl ?_ | refine cv_isTup rfl ?_ | refine cv_isInt rfl ?_ | refine cv_isBool rfl ?_ | refine cv_sum rfl ?_)
    | (with_reducible refine turn0I (fun _ _ _ _ _ _ => ?_)) | (with_reducible refine turn1I (fun _ _ _ _ _ _ => ?_)) | (with_reducible refine turnDI (fun _ _ _ _ _ _ => ?_)) | (with_reducible refine abI (fun _ _ _ _ _ => ?_)) | ((with_reducible show (if _ then _ else _)); first | (with_reducible refine iteT ?_) | (with_reducible refine iteF ?_)) | ((with_reducible refine (?_ : And _ _)); refine And.intro (show _ ≤ sizeLine by fail "z") ?_) | ((with_reducible refine (?_ : Exists _)); refine ⟨_, rfl, ?_⟩))
namespace W
open PySem L2 D PyProof.Rows
structure Lw74 (P : Program) (w : World) (K : PySem.W.Frag) (mg : Str → Option Value) (base : Heap) (C tb : Addr) : Prop where
  bag : DefOk P w K mg base 1 "_law_bag" ["_law_script", "_law_at"] (sp_bag K)
  take : D_take P w K mg base
  names : DefOk P w K mg base 2 "_law_names" ["_law_bag_here", "_law_many"] (sp_names K)
  kinds : DefOk P w K mg base 3 "_law_kinds" ["_law_bag_here", "_law_names_here"] (sp_kinds K)
  set : D_set P w K mg base C tb
  bases : D_bases P w K mg base
  kept : D_kept P w K mg base C
theorem range_lt {n : Nat} {pre rest : List Nat} {k : Nat} (h : List.range n = pre ++ k :: rest) : k < n := by
  have : k ∈ List.range n := by rw [h]; simp
  exact List.mem_range.mp this
theorem fit_rings (G : Reg) (g : List (List Nm)) : Fit 64 (.tup (g.map fun p => Dt.tup [nT p, ringD G p])) := fit_tup (n := 63) fun d hd => by
  obtain ⟨p, _, rfl⟩ := List.mem_map.mp hd
  refine fit_tup (n := 62) fun d hd => ?_
  rcases List.mem_cons.mp hd with e | hd
  · rw [e]; exact fit_nT p
  · rw [List.mem_singleton.mp hd]
    unfold ringD
    cases merge (listsG G p) with
    | some m => exact fit_non
    | none =>
      refine fit_tup (n := 61) fun d hd => ?_
      obtain ⟨t, _, rfl⟩ := List.mem_map.mp hd
      refine fit_tup (n := 60) fun d hd => ?_
      simp only [List.mem_cons, List.not_mem_nil, or_false] at hd
      rcases hd with rfl | rfl | rfl
      · exact fit_n _
      · exact fit_n _
      · exact fit_int
section
variable {P : Program} {w : World} {K : PySem.W.Frag} {mg : Str → Option Value} {base : Heap} {C tb : Addr}
abbrev spLaw (K : PySem.W.Frag) (tb : Addr) : Sp := spG K (fun ns : List Int => [.fzl (ns.map .int)]) (fun _ => [tabC tb lamQ]) (fun ns => ns.length ≤ 63) (fun _ _ d => d = .bl true) (fun _ _ _ => False)
theorem ok_law {f : Addr} {fd : FuncData} (Fu : Fun K "law" "law" s_law f fd) (T : Txt mg) (R : RegF K C) (D : Lw74 P w K mg base C tb) : FnOk P w K mg base (L2.CX P w) 13 f fd ["_law_script"] (spLaw K tb) := by
  refine fn_G Fu sc_law (fun a => rfl) (fun cdv A outer s H E F ns hp hr xt => ?_)
  have hp : ns.length ≤ 63 := hp
  have nd := sc_law.nd
  have hrg := T.range
  have hmin := T.min
  have hmax := T.max
  have hlen := T.len
  have hall := T.all
  have hbig := big_line
  refine ss_cons (s_for (passes_of rfl) rfl (sw_range hrg ?_))
  repeat fail "e"
  refine cv_lenF  ?_
  repeat fail "e"
  refine cv_min2 rfl ?_
  repeat fail "e"
  refine cv_max2 rfl ?_
  repeat fail "e"
  obtain ⟨m, hm⟩ : ∃ m : Nat, (m : Int) = (if (if ((ns.map Dt.int).length : Int) < 4 then ((ns.map Dt.int).length : Int) else 4) > 2 then (if ((ns.map Dt.int).length : Int) < 4 then ((ns.map Dt.int).length : Int) else 4) else 2) ∧ m ≤ 10 :=
    ⟨(if (if ((ns.map Dt.int).length : Int) < 4 then ((ns.map Dt.int).length : Int) else 4) > 2 then (if ((ns.map Dt.int).length : Int) < 4 then ((ns.map Dt.int).length : Int) else 4) else 2).toNat, by split <;> split <;> omega, by split <;> split <;> omega⟩
  rw [← hm.1]
  refine ⟨by omega, by omega, ?_⟩
  rw [Int.toNat_natCast, idxs_eq]
  refine for_t (fun rest Γ c => ∃ u1 u2 u3 u4 u5 u6 u7 u8 u9 ua ub uc ud ue cr, Γ = [.dat (.fzl (ns.map .int)), u1, u2, u3, u4, u5, u6, u7, u8, u9, ua, ub, uc, ud, ue, .un] ∧ c.Perm (tabC tb lamQ :: cr)) ⟨_, _, _, _, _, _, _, _, _, _, _, _, _, _, [], rfl, .refl _⟩ ?_ ?_
  · rintro pre k rest Γ c hl ⟨u1, u2, u3, u4, u5, u6, u7, u8, u9, ua, ub, uc, ud, ue, cr, rfl, hcp⟩
    have hk10 := range_lt hl
    repeat fail "e"
    refine ss_perm hcp ?_
    refine ss_dropE cr [tabC tb lamQ] ?_
    refine ss_cons (s_st nd (se_fG D.bag (hr.mono (by decide)) XT.no ?_))
    repeat fail "e"
    refine ⟨(ns, (k : Int)), [tabC tb lamQ], [], rfl, rfl, ⟨by omega, by omega⟩, ?_, fun _ _ z => z⟩
    rintro _ _ ⟨b, rfl, rfl⟩
    refine ss_perm (c' := [(b, .bag 0), tabC tb lamQ]) (.swap ..) ?_
    refine ss_cons (s_st nd (se_fB 0 D.names (hr.mono (by decide)) ?_))
    repeat fail "e"
    refine se_fB 0 D.take (hr.mono (by decide)) ?_
    repeat fail "e"
    refine ⟨b, 0, 6, rfl, rfl, ⟨by decide, by decide⟩, by decide, ?_⟩
    rintro _ ⟨k1, rfl, hk1, hk2⟩
    repeat fail "e"
    refine ⟨b, 1, 3 + k1, rfl, rfl, ⟨by omega, by omega⟩, by decide, ?_⟩
    rintro _ ⟨nms, rfl, hnl, hnd⟩
    have hnl8 : nms.length ≤ 8 := by omega
    have hnl1 : 1 ≤ nms.length := by omega
    refine ss_cons (s_asg (se_fG D.kinds (hr.mono (by decide)) XT.no ?_))
    repeat fail "e"
    refine ⟨(b, 1 + 10, nms), [], [tabC tb lamQ], rfl, rfl, ⟨hnd, hnl8, (show 1 + 10 + 40 ≤ LIM by decide)⟩, ?_, fun _ _ z => z.elim⟩
    rintro _ _ ⟨n1, pa, pl, G, hn1, hG, hGn, rfl, rfl⟩
    have hn1 : n1 ≤ 51 := hn1
    have hGn : G.map (·.1) = nms := hGn
    have hGl : G.length = nms.length := by rw [← hGn, List.length_map]
    have hL := hG.lines
    have hLk := hL.lok (by omega)
    repeat fail "e"
    refine ss_freezeD 4 1 rfl rfl ?_
    refine ss_freezeD 5 1 rfl rfl ?_
    refine ss_cons (s_st nd (se_fG D.set (hr.mono (by decide)) XT.no (sa_cons (se_nm rfl (sa_cons (se_nm rfl (sa_cons (SE.permC (se_dnew fun e => ?_)))))))))
    refine ⟨[(b, .bag n1), (e, .dk []), tabC tb lamQ], .cons _ (.swap ..), ?_⟩
    repeat fail "e"
    refine ⟨(G, .dct (lnD G), e), [(b, .bag n1)], [], rfl, rfl, ⟨hG, (show G.length ≤ 9 by omega)⟩, ?_, fun _ _ z => z.elim⟩
    rintro _ _ ⟨r, ps, ⟨hrt, hps, hpl⟩, rfl, rfl⟩
    have inG : ∀ y ∈ nms, hasG G y = true := fun y hy => hasG_iff.mpr (by rw [hGn]; exact hy)
    refine ss_one (s_for (passes_of rfl) rfl (sw_range hrg ?_))
    repeat fail "e"
    refine ⟨by decide, by decide, ?_⟩
    rw [idxs_eq]
    refine for_t (fun left Γ c => ∃ v7 v8 v9 va vb vc vd ve n, Γ = [.dat (.fzl (ns.map .int)), .dat (.int (k : Int)), .dat (.raw (.ref b)), .dat (nL nms), .dat (.dct (kbD G)), .dat (.dct (lnD G)), .dat (.raw (.ref r.a)), v7, v8, v9, va, vb, vc, vd, ve, .un] ∧ c = (b, .bag n) :: (e, .dk []) :: regC C r G ps ∧ n + 40 * left.length ≤ 1000) ⟨_, _, _, _, _, _, _, _, n1, rfl, rfl, by show _ + 40 * 4 ≤ _; omega⟩ ?_ ?_
    · rintro pre2 tn left Γ c hl2 ⟨v7, v8, v9, va, vb, vc, vd, ve, n, rfl, rfl, hn⟩
      rw [List.length_cons] at hn
      repeat fail "e"
      refine ss_cons (s_st nd (se_fB 0 D.bases (hr.mono (by decide)) ?_))
      repeat fail "e"
      refine ⟨b, n, nms, rfl, rfl, ⟨hnd, (fun z => by rw [z] at hnl1; cases hnl1), by omega⟩, by show n + (nms.length + 1) ≤ 1000000000; omega, ?_⟩
      rintro _ ⟨l, rfl, hln, hl0, hlm, hll⟩
      have hB : BasesOk G l := ⟨by omega, hln, fun y hy => inG y (hlm y hy)⟩
      have hl1 := List.length_pos_iff.mpr hl0
      refine ss_cons (s_st nd (se_fG D.kept (hr.mono (by decide)) XT.no ?_))
      repeat fail "e"
      refine ⟨(r, G, ps, l), [(b, .bag (n + (nms.length + 1))), (e, .dk [])], [], rfl, rfl, ⟨⟨hB, hl0⟩, hL, hLk⟩, ?_, fun _ _ z => z.elim⟩
      rintro _ _ ⟨rfl, p, g, hK, rfl⟩
      have hK : KeptOk G l p g := hK
      have hgl : g.length ≤ 1024 := Nat.le_trans (ite_len hK) (pow10 hB.1)
      have hpl := hK.sub.length_le
      have hpn := hK.ne hL hB hl0
      have hp1 := List.length_pos_iff.mpr hpn
      refine ss_cons (s_for (passes_of rfl) rfl (sw_range hrg ?_))
      repeat fail "e"
      rw [List.length_map]
      refine ⟨by omega, by omega, ?_⟩
      rw [Int.toNat_natCast, idxs_eq]
      generalize hg' : (g.map fun p => Dt.tup [nT p, ringD G p]) = gd
      have hgd : gd.isEmpty = g.isEmpty := by rw [← hg']; cases g <;> rfl
      have hfgd : Fit 64 (.tup gd) := by rw [← hg']; exact fit_rings G g
      refine for_t (fun lf Γ c => ∃ wa wb wc, Γ = [.dat (.fzl (ns.map .int)), .dat (.int (k : Int)), .dat (.raw (.ref b)), .dat (nL nms), .dat (.dct (kbD G)), .dat (.dct (lnD G)), .dat (.raw (.ref r.a)), .dat (.int (tn : Int)), .dat (nT l), .dat (.tup [nT p, .tup gd]), wa, wb, wc, vd, ve, .un] ∧ c = (b, .bag (n + (nms.length + 1))) :: (e, .dk []) :: regC C r G ps) ⟨_, _, _, rfl, rfl⟩ ?_ ?_
      · rintro pre3 i lf Γ c hl3 ⟨wa, wb, wc, rfl, rfl⟩
        have hil := range_lt hl3
        have hz : l = l.take i ++ l[i] :: l.drop (i + 1) := by rw [← List.drop_eq_getElem_cons hil, List.take_append_drop]
        repeat fail "e"
        refine ss_cons (s_st nd (SE.mono (P := fun c1 d => c1 = (b, .bag (n + (nms.length + 1))) :: (e, .dk []) :: regC C r G ps ∧ d = nT (l.take i ++ l.drop (i + 1))) ?_ ?_))
        · repeat fail "e"
          refine sv_toT (by omega) ?_
          repeat fail "e"
          refine sv_fromT (by omega) ?_
          repeat fail "e"
          refine ⟨rfl, ?_⟩
          rw [Int.toNat_natCast, show ((i : Int) + 1).toNat = i + 1 by omega, ← List.map_append]
        rintro _ _ ⟨rfl, rfl⟩
        refine ss_one (s_if ?_)
        repeat fail "e"
        refine ov_neNT (b := []) hr.units ?_
        repeat fail "e"
        refine ite2 (fun h => ?_) (fun h => ?_)
        · have hne2 : l.take i ++ l.drop (i + 1) ≠ [] := fun z => by rw [z] at h; cases h
          have hs2 : (l.take i ++ l.drop (i + 1)).Sublist l := by
            conv => rhs; rw [hz]
            exact List.Sublist.append_left (List.sublist_cons_self ..) _
          have hB2 : BasesOk G (l.take i ++ l.drop (i + 1)) := hB.part hs2
          refine ss_cons (s_st nd ?_)
          repeat fail "e"
          refine se_fG D.kept (hr.mono (by decide)) XT.no ?_
          repeat fail "e"
          refine ⟨(r, G, ps, l.take i ++ l.drop (i + 1)), [(b, .bag (n + (nms.length + 1))), (e, .dk [])], [], rfl, rfl, ⟨⟨hB2, hne2⟩, hL, hLk⟩, ?_, fun _ _ z => z.elim⟩
          rintro _ _ ⟨rfl, q, g2, hK2, rfl⟩
          have hK2 : KeptOk G (l.take i ++ l.drop (i + 1)) q g2 := hK2
          obtain ⟨hc1, hc2⟩ := kept_less2 hz hL hB hK hK2
          repeat fail "e"
          refine ss_one (s_if ?_)
          repeat fail "e"
          rw [List.length_map, List.length_map]
          refine iteTr (decide_eq_true (by omega)) ?_
          repeat fail "e"
          rw [List.length_map]
          refine iteFr (by rw [decide_eq_true (by omega)]; rfl) ?_
          repeat fail "e"
          refine iv_tup (d := .tup gd) rfl ?_
          repeat fail "e"
          refine ov_eqT0 (Nat.lt_of_succ_lt (hu_of hr)) ?_
          repeat fail "e"
          refine ite2 (fun hge => ?_) (fun hge => ?_)
          · rw [hgd] at hge
            have hfl : futB G l = true := hK.ring.mp (List.isEmpty_iff.mp hge)
            have hql : q.length = (l.take i ++ l.drop (i + 1)).length := hK2.whole (hL.part hB hfl hs2)
            repeat fail "u"
            rw [List.length_map, hql]
            refine iteFr (by rw [decide_eq_true rfl]; rfl) ?_
            refine ss_nil ?_
            exact ⟨_, _, _, rfl, rfl⟩
          · repeat fail "u"
            refine ss_nil ?_
            exact ⟨_, _, _, rfl, rfl⟩
        · refine ss_nil ?_
          exact ⟨_, _, _, rfl, rfl⟩
      rintro Γ c ⟨wa, wb, wc, rfl, rfl⟩
      refine ss_cons (s_for (passes_of rfl) rfl (sw_lst (se_F rfl nd (blkOk_by rfl) ?_)))
      repeat fail "u"
      refine lcF (fun y => !decide (y ∈ l)) nD (by omega) ?_ ?_
      · intro y hy
        repeat fail "u"
        refine filt_end (fun h => ?_) (fun h => ?_)
        · repeat fail "u"
          exact ⟨h, rfl, rfl⟩
        · exact ⟨rfl, h⟩
      refine ⟨_, rfl, ?_⟩
      refine for_t (fun lf Γ c => ∃ wa wb wc wd we n2, Γ = [.dat (.fzl (ns.map .int)), .dat (.int (k : Int)), .dat (.raw (.ref b)), .dat (nL nms), .dat (.dct (kbD G)), .dat (.dct (lnD G)), .dat (.raw (.ref r.a)), .dat (.int (tn : Int)), .dat (nT l), .dat (.tup [nT p, .tup gd]), wa, wb, wc, wd, we, .un] ∧ c = (b, .bag n2) :: (e, .dk []) :: regC C r G ps ∧ n2 + lf.length ≤ n + 20) ⟨_, _, _, _, _, _, rfl, rfl, ?_⟩ ?_ ?_
      · have := List.length_filter_le (fun y => !decide (y ∈ l)) nms
        omega
      · rintro pre3 x lf Γ c hl3 ⟨wa, wb, wc, wd, we, n2, rfl, rfl, hn2⟩
        rw [List.length_cons] at hn2
        have hxm : x ∈ nms.filter fun y => !decide (y ∈ l) := by rw [hl3]; simp
        obtain ⟨hxn, hxl⟩ := List.mem_filter.mp hxm
        have hxl : x ∉ l := by simpa using hxl
        repeat fail "u"
        refine ss_cons (s_st nd (se_fB 0 D.take (hr.mono (by decide)) ?_))
        repeat fail "u"
        refine ⟨b, n2, ((l.map nD).length : Int) + 1, rfl, rfl, ⟨by rw [List.length_map]; omega, by rw [List.length_map]; omega⟩, by show n2 + 1 ≤ 1000000000; omega, ?_⟩
        rintro _ ⟨a, rfl, ha0, ha1⟩
        have hperm : (l.take a.toNat ++ x :: l.drop a.toNat).Perm (x :: l) := by
          have h1 : (l.take a.toNat ++ x :: l.drop a.toNat).Perm (x :: (l.take a.toNat ++ l.drop a.toNat)) := List.perm_middle
          rwa [List.take_append_drop] at h1
        have hB3 : BasesOk G (l.take a.toNat ++ x :: l.drop a.toNat) := ⟨by have := hperm.length_eq; rw [List.length_cons] at this; omega, hperm.nodup_iff.mpr (List.nodup_cons.mpr ⟨hxl, hln⟩), fun y hy => by
          rcases List.mem_cons.mp (hperm.mem_iff.mp hy) with q | q
          · rw [q]; exact inG x hxn
          · exact hB.2.2 y q⟩
        refine ss_cons (s_st nd (se_fG D.kept (hr.mono (by decide)) XT.no ?_))
        repeat fail "u"
        refine sv_toT ha0 ?_
        repeat fail "e"
        refine sv_fromT ha0 ?_
        repeat fail "u"
        refine ⟨(r, G, ps, l.take a.toNat ++ x :: l.drop a.toNat), [(b, .bag (n2 + 1)), (e, .dk [])], [], (by rw [List.append_assoc]; show _ = [Dt.raw (.ref r.a), .tup ((l.take a.toNat ++ x :: l.drop a.toNat).map nD)]; rw [List.map_append]; rfl), rfl, ⟨⟨hB3, by simp⟩, hL, hLk⟩, ?_, fun _ _ z => z.elim⟩
        rintro _ _ ⟨rfl, q, g2, hK2, rfl⟩
        have hK2 : KeptOk G (l.take a.toNat ++ x :: l.drop a.toNat) q g2 := hK2
        obtain ⟨hc1, hc2⟩ := kept_less hL hB3 hK2 (show KeptOk G (l.take a.toNat ++ l.drop a.toNat) p g by rw [List.take_append_drop]; exact hK)
        refine ss_one (s_if ?_)
        repeat fail "u"
        rw [List.length_map, List.length_map]
        refine iteTr (decide_eq_true (by omega)) ?_
        repeat fail "u"
        rw [List.length_map]
        refine iteFr (by rw [decide_eq_true (by omega)]; rfl) ?_
        repeat fail "u"
        refine iv_tup (d := .tup gd) rfl ?_
        repeat fail "u"
        refine ov_neD hr.units hfgd (fit_tup (n := 63) fun _ h => nomatch h) ?_
        rw [eqd_tup_nil, hgd]
        repeat fail "u"
        refine ite2 (fun hge => ?_) (fun hge => ?_)
        · repeat fail "u"
          refine iv_tup (d := .tup (g2.map fun p => Dt.tup [nT p, ringD G p])) rfl ?_
          repeat fail "u"
          refine ov_eqT0 (Nat.lt_of_succ_lt (hu_of hr)) ?_
          repeat fail "u"
          have hg2 : g2 ≠ [] := fun z => by
            have h1 := hL.part hB3 (hK2.ring.mp z) (p := l) (by
              conv => lhs; rw [← List.take_append_drop a.toNat l]
              exact List.Sublist.append_left (List.sublist_cons_self ..) _)
            have h2 := hK.ring.mpr h1
            rw [h2] at hge; cases hge
          refine iteFr (by cases g2 with | nil => exact absurd rfl hg2 | cons _ _ => rfl) ?_
          refine ss_nil ?_
          exact ⟨_, _, _, _, _, _, rfl, rfl, by omega⟩
        · repeat fail "u"
          refine ss_nil ?_
          exact ⟨_, _, _, _, _, _, rfl, rfl, by omega⟩
      rintro Γ c ⟨wa, wb, wc, wd, we, n2, rfl, rfl, hn2⟩
      refine ss_one (s_if (st_not (st_val (se_all hall (sa_cons (se_M rfl nd (blkOk_by rfl) (sw_range2 hrg ?_)))))))
      repeat fail "u"
      rw [List.length_map]
      refine ⟨1, _, rfl, ⟨by decide, by decide, by omega, by omega⟩, ?_⟩
      refine lcM (l := List.range ((p.length : Int) + 1 - 1).toNat) (enc := fun (k : Nat) => Dt.int (1 + (k : Int))) (fun _ => .bl true) (by rw [List.length_range]; omega) ?_ ?_
      · intro k hk
        have hk := List.mem_range.mp hk
        have hs3 : (p.take (1 + (k : Int)).toNat).Sublist l := (List.take_sublist _ _).trans hK.sub
        repeat fail "u"
        refine se_fG D.kept (hr.mono (by decide)) XT.no ?_
        repeat fail "u"
        refine sv_toT (by omega) ?_
        repeat fail "u"
        refine ⟨(r, G, ps, p.take (1 + (k : Int)).toNat), [(b, .bag n2), (e, .dk [])], [], rfl, rfl, ⟨⟨hB.part hs3, fun z => ?_⟩, hL, hLk⟩, ?_, fun _ _ z => z.elim⟩
        · have z : p.take (1 + (k : Int)).toNat = [] := z
          have h0 : (p.take (1 + (k : Int)).toNat).length = 0 := by rw [z]; rfl
          rw [List.length_take] at h0
          omega
        rintro _ _ ⟨rfl, q, g2, hK2, rfl⟩
        have hK2 : KeptOk G (p.take (1 + (k : Int)).toNat) q g2 := hK2
        have hg2 : g2 = [] := hK2.ring.mpr (hL.part (hB.part hK.sub) hK.fut (List.take_sublist _ _))
        subst hg2
        repeat fail "u"
        refine iv_tup (d := .tup []) rfl ?_
        repeat fail "u"
        refine ov_eqT0 (Nat.lt_of_succ_lt (hu_of hr)) ?_
        exact ⟨rfl, rfl⟩
      repeat fail "u"
      refine iteFr ?_ ?_
      · rw [List.all_eq_true.mpr fun _ _ => rfl]; rfl
      refine ss_nil ?_
      exact ⟨_, _, _, _, _, _, _, _, _, rfl, rfl, by omega⟩
    rintro Γ c ⟨v7, v8, v9, va, vb, vc, vd, ve, n, rfl, rfl, hn⟩
    refine ⟨_, _, _, _, _, _, _, _, _, _, _, _, _, _, (b, .bag n) :: (e, .dk []) :: (regC C r G ps).take 8, rfl, ?_⟩
    rw [show (b, Cel.bag n) :: (e, .dk []) :: regC C r G ps = ((b, Cel.bag n) :: (e, .dk []) :: (regC C r G ps).take 8) ++ [tabC tb lamQ] by rw [← hrt]; rfl]
    exact List.perm_append_comm (l₂ := [tabC tb lamQ])
  rintro Γ c ⟨u1, u2, u3, u4, u5, u6, u7, u8, u9, ua, ub, uc, ud, ue, cr, rfl, hcp⟩
  repeat fail
  rfl
end
end W
end
section
set_option Elab.async false
set_option linter.all false
set_option maxRecDepth 100000
set_option maxHeartbeats 2000000
namespace Hy
open PySem PySem.Spec PyProof.Rows L2 D
theorem funD_fun {K : PySem.W.Frag} {x q : Str} {st : Stmt} {f : Addr} {fd : FuncData} (F : FunD K x q (defArgs st) (defBody st) (defScope st) [] [] f fd) : L2.Fun K x q st f fd := by
  obtain ⟨oc, od, dV, kV, doc, pm, an, cdv, ct, osl, rfl, lk, hcd, hD, hK⟩ := F.ex
  rcases hD with ⟨_, rfl⟩ | ⟨e, _⟩
  · exact ⟨⟨oc, od, kV, doc, pm, an, cdv, ct, osl, rfl, lk, hcd⟩, F.kp⟩
  · exact absurd rfl e
theorem funD_V {K : PySem.W.Frag} {x q : Str} {st : Stmt} {f : Addr} {fd : FuncData} {dvs : List V} {kws : List (Str × V)} (F : FunD K x q (defArgs st) (defBody st) (defScope st) dvs kws f fd) : ∃ cdv, D.FunV K x q st f fd cdv := by
  obtain ⟨oc, od, dV, kV, doc, pm, an, cdv, ct, osl, rfl, lk, hcd, hD, hK⟩ := F.ex
  exact ⟨cdv, oc, od, dV, kV, doc, pm, an, ct, osl, rfl, lk, hcd⟩
theorem funD_T {K : PySem.W.Frag} {x q : Str} {st : Stmt} {p : He.Defn} {fd : FuncData} {dvs : List V} {kws : List (Str × V)} (F : FunD K x q (defArgs st) (defBody st) (defScope st) dvs kws (He.fAd K p) fd) : D.FunV K x q st (He.fAd K p) fd (.ref (He.cT K p).1) := by
  obtain ⟨oc, od, dV, kV, doc, pm, an, cdv, ct, osl, rfl, lk, hcd, hD, hK⟩ := F.ex
  obtain ⟨c, rfl⟩ := He.codeIn_ref hcd
  have e : He.codeOf K p = c := He.codeOf_eq lk rfl
  have e2 : (He.cT K p).1 = c := e
  rw [e2]
  exact ⟨oc, od, dV, kV, doc, pm, an, ct, osl, rfl, lk, hcd⟩
theorem clsInt_ok {K : PySem.W.Frag} {C : Addr} {f : Str} {n : Int} (h : clsIntB K C f n = true) : ∃ u, PySem.W.findCls K (.ref C) (.type "type") f = some (.val u) ∧ RelV (.int n) u := by
  unfold clsIntB at h
  split at h
  · rename_i i t e
    exact ⟨_, e, t, by rw [of_decide_eq_true h]⟩
  · cases h
theorem tab_cel {K : PySem.W.Frag} {V H : Hp} {tb : Addr} {q : Str} (hT : H tb = some (.tbl #[])) : CelAt K V H (D.tabC tb q).1 (D.tabC tb q).2 := by
  refine D.celAt_tab ⟨#[], hT, trivial, fun pos cv z => ?_⟩
  cases z
theorem sql_mask {K : PySem.W.Frag} {H : Hp} {a tb : Addr} {xs : List V} (hT : H tb = some (.tbl #[])) (hS : SqL K H a xs) : SqL K (mask [tb] H) a xs := by
  rcases hS with h | h
  · refine .inl ?_
    have ne : a ≠ tb := fun e => by
      rcases h with h | ⟨o, h⟩
      · rw [e, hT] at h; cases h
      · rw [e, hT] at h; cases h
    have e : mask [tb] H a = H a := mask_out fun z => ne (List.mem_singleton.mp z)
    rcases h with h | ⟨o, h⟩
    · exact .inl (e.trans h)
    · exact .inr ⟨o, e.trans h⟩
  · exact .inr h
end Hy
end
section
set_option Elab.async false
set_option linter.all false
set_option maxRecDepth 100000
set_option maxHeartbeats 8000000
namespace K74
open PySem L2 D W PyProof.Rows
theorem all_mk {l : PySem.W.OpenLaw} {w : World} {K : PySem.W.Frag} {h : Heap} {mg : Str → Option Value} {fa : Addr} {R : Addr} {cd12 tb12 : Addr} (X : K.In h) (Gg : h.Ns mainGlobals mg) (hfa : mg "law" = some (.ref fa))
    {fd0 : Addr} {gd0 : FuncData}
    {fd1 : Addr} {gd1 : FuncData}
    {fd2 : Addr} {gd2 : FuncData}
    {fd3 : Addr} {gd3 : FuncData}
    {fd4 : Addr} {gd4 : FuncData}
    {fd5 : Addr} {gd5 : FuncData}
    {fd6 : Addr} {gd6 : FuncData}
    {fd7 : Addr} {gd7 : FuncData}
    {fd8 : Addr} {gd8 : FuncData}
    {fd9 : Addr} {gd9 : FuncData}
    {fd10 : Addr} {gd10 : FuncData}
    {fd11 : Addr} {gd11 : FuncData}
    {fd12 : Addr} {gd12 : FuncData}
    {fd13 : Addr} {gd13 : FuncData}
    {fd14 : Addr} {gd14 : FuncData}
    {fd15 : Addr} {gd15 : FuncData}
    {fd16 : Addr} {gd16 : FuncData}
    {fd17 : Addr} {gd17 : FuncData}
    {fd18 : Addr} {gd18 : FuncData}
    {fd19 : Addr} {gd19 : FuncData}
    {fd20 : Addr} {gd20 : FuncData}
    {fd21 : Addr} {gd21 : FuncData}
    {fd22 : Addr} {gd22 : FuncData}
    {fd23 : Addr} {gd23 : FuncData}
    {fd24 : Addr} {gd24 : FuncData}
    {fd25 : Addr} {gd25 : FuncData}
    {fd26 : Addr} {gd26 : FuncData}
    {fd27 : Addr} {gd27 : FuncData}
    {fmR0 : Addr} {gmR0 : FuncData}
    {fmR1 : Addr} {gmR1 : FuncData}
    {fmR2 : Addr} {gmR2 : FuncData}
    {fmR3 : Addr} {gmR3 : FuncData}
    {fmR4 : Addr} {gmR4 : FuncData}
     (Dd0 : FunD K "next_name" "next_name" (defArgs s_next_name) (defBody s_next_name) (defScope s_next_name) [] [] fd0 gd0)
     (Dd1 : FunD K "merge_or_none" "merge_or_none" (defArgs s_merge_or_none) (defBody s_merge_or_none) (defScope s_merge_or_none) [] [] fd1 gd1)
     (Dd2 : FunD K "earliest_demands" "earliest_demands" (defArgs s_earliest_demands) (defBody s_earliest_demands) (defScope s_earliest_demands) [] [] fd2 gd2)
     (Dd3 : FunD K "distances_to" "distances_to" (defArgs s_distances_to) (defBody s_distances_to) (defScope s_distances_to) [] [] fd3 gd3)
     (Dd4 : FunD K "least_road" "least_road" (defArgs s_least_road) (defBody s_least_road) (defScope s_least_road) [] [] fd4 gd4)
     (Dd5 : FunD K "least_ring" "least_ring" (defArgs s_least_ring) (defBody s_least_ring) (defScope s_least_ring) [] [] fd5 gd5)
     (Dd6 : FunD K "merge_or_ring" "merge_or_ring" (defArgs s_merge_or_ring) (defBody s_merge_or_ring) (defScope s_merge_or_ring) [] [] fd6 gd6)
     (Dd7 : FunD K "is_name" "is_name" (defArgs s_is_name) (defBody s_is_name) (defScope s_is_name) [] [] fd7 gd7)
     (Dd8 : FunD K "look_kind" "look_kind" (defArgs s_look_kind) (defBody s_look_kind) (defScope s_look_kind) [] [] fd8 gd8)
     (Dd9 : FunD K "bad_item" "bad_item" (defArgs s_bad_item) (defBody s_bad_item) (defScope s_bad_item) [] [] fd9 gd9)
     (Dd10 : FunD K "bad_bases" "bad_bases" (defArgs s_bad_bases) (defBody s_bad_bases) (defScope s_bad_bases) [] [] fd10 gd10)
     (Dd11 : FunD K "look_bases" "look_bases" (defArgs s_look_bases) (defBody s_look_bases) (defScope s_look_bases) [] [] fd11 gd11)
     (Dd12 : FunD K "in_order" "in_order" (defArgs s_in_order) (defBody s_in_order) (defScope s_in_order) [] [] fd12 gd12)
     (Dd13 : FunD K "outdated" "outdated" (defArgs s_outdated) (defBody s_outdated) (defScope s_outdated) [] [] fd13 gd13)
     (Dd14 : FunD K "lined" "lined" (defArgs s_lined) (defBody s_lined) (defScope s_lined) [] [] fd14 gd14)
     (Dd15 : FunD K "lists_for" "lists_for" (defArgs s_lists_for) (defBody s_lists_for) (defScope s_lists_for) [] [] fd15 gd15)
     (Dd16 : FunD K "is_future_list" "is_future_list" (defArgs s_is_future_list) (defBody s_is_future_list) (defScope s_is_future_list) [] [] fd16 gd16)
     (Dd17 : FunD K "parts_of" "parts_of" (defArgs s_parts_of) (defBody s_parts_of) (defScope s_parts_of) [] [] fd17 gd17)
     (Dd18 : FunD K "kept" "kept" (defArgs s_kept) (defBody s_kept) (defScope s_kept) [] [] fd18 gd18)
     (Dd19 : FunD K "_law_bag" "_law_bag" (defArgs s__law_bag) (defBody s__law_bag) (defScope s__law_bag) [] [] fd19 gd19)
     (Dd20 : FunD K "_law_take" "_law_take" (defArgs s__law_take) (defBody s__law_take) (defScope s__law_take) [] [] fd20 gd20)
     (Dd21 : FunD K "_law_names" "_law_names" (defArgs s__law_names) (defBody s__law_names) (defScope s__law_names) [] [] fd21 gd21)
     (Dd22 : FunD K "_law_some" "_law_some" (defArgs s__law_some) (defBody s__law_some) (defScope s__law_some) [] [] fd22 gd22)
     (Dd23 : FunD K "_law_merge" "_law_merge" (defArgs s__law_merge) (defBody s__law_merge) (defScope s__law_merge) [] [] fd23 gd23)
     (Dd24 : FunD K "_law_kinds" "_law_kinds" (defArgs s__law_kinds) (defBody s__law_kinds) (defScope s__law_kinds) [] [] fd24 gd24)
     (Dd25 : FunD K "_law_set" "_law_set" (defArgs s__law_set) (defBody s__law_set) (defScope s__law_set) [] [] fd25 gd25)
     (Dd26 : FunD K "_law_bases" "_law_bases" (defArgs s__law_bases) (defBody s__law_bases) (defScope s__law_bases) [] [] fd26 gd26)
     (Dd27 : FunD K "law" "law" (defArgs s_law) (defBody s_law) (defScope s_law) [] [] fd27 gd27)
     (DmR0 : FunD K "__init__" "Registry.__init__" (defArgs s_Registry___init__) (defBody s_Registry___init__) (defScope s_Registry___init__) [] [] fmR0 gmR0)
     (DmR1 : FunD K "has" "Registry.has" (defArgs s_Registry_has) (defBody s_Registry_has) (defScope s_Registry_has) [] [] fmR1 gmR1)
     (DmR2 : FunD K "look_bases" "Registry.look_bases" (defArgs s_Registry_look_bases) (defBody s_Registry_look_bases) (defScope s_Registry_look_bases) [] [] fmR2 gmR2)
     (DmR3 : FunD K "remember" "Registry.remember" (defArgs s_Registry_remember) (defBody s_Registry_remember) (defScope s_Registry_remember) [] [] fmR3 gmR3)
    {dvmR4 : List V} (nemR4 : dvmR4.length = 1) (DmR4 : FunD K "add" "Registry.add" (defArgs s_Registry_add) (defBody s_Registry_add) (defScope s_Registry_add) dvmR4 [] fmR4 gmR4)
    (ad0 : PySem.W.nsIn K mainGlobals "next_name" = some (some (.ref fd0)))
    (ad1 : PySem.W.nsIn K mainGlobals "merge_or_none" = some (some (.ref fd1)))
    (ad2 : PySem.W.nsIn K mainGlobals "earliest_demands" = some (some (.ref fd2)))
    (ad3 : PySem.W.nsIn K mainGlobals "distances_to" = some (some (.ref fd3)))
    (ad4 : PySem.W.nsIn K mainGlobals "least_road" = some (some (.ref fd4)))
    (ad5 : PySem.W.nsIn K mainGlobals "least_ring" = some (some (.ref fd5)))
    (ad6 : PySem.W.nsIn K mainGlobals "merge_or_ring" = some (some (.ref fd6)))
    (ad7 : PySem.W.nsIn K mainGlobals "is_name" = some (some (.ref fd7)))
    (ad8 : PySem.W.nsIn K mainGlobals "look_kind" = some (some (.ref fd8)))
    (ad9 : PySem.W.nsIn K mainGlobals "bad_item" = some (some (.ref fd9)))
    (ad10 : PySem.W.nsIn K mainGlobals "bad_bases" = some (some (.ref fd10)))
    (ad11 : PySem.W.nsIn K mainGlobals "look_bases" = some (some (.ref fd11)))
    (ad12 : PySem.W.nsIn K mainGlobals "in_order" = some (some (.ref fd12)))
    (ad13 : PySem.W.nsIn K mainGlobals "outdated" = some (some (.ref fd13)))
    (ad14 : PySem.W.nsIn K mainGlobals "lined" = some (some (.ref fd14)))
    (ad15 : PySem.W.nsIn K mainGlobals "lists_for" = some (some (.ref fd15)))
    (ad16 : PySem.W.nsIn K mainGlobals "is_future_list" = some (some (.ref fd16)))
    (ad17 : PySem.W.nsIn K mainGlobals "parts_of" = some (some (.ref fd17)))
    (ad18 : PySem.W.nsIn K mainGlobals "kept" = some (some (.ref fd18)))
    (ad19 : PySem.W.nsIn K mainGlobals "_law_bag" = some (some (.ref fd19)))
    (ad20 : PySem.W.nsIn K mainGlobals "_law_take" = some (some (.ref fd20)))
    (ad21 : PySem.W.nsIn K mainGlobals "_law_names" = some (some (.ref fd21)))
    (ad22 : PySem.W.nsIn K mainGlobals "_law_some" = some (some (.ref fd22)))
    (ad23 : PySem.W.nsIn K mainGlobals "_law_merge" = some (some (.ref fd23)))
    (ad24 : PySem.W.nsIn K mainGlobals "_law_kinds" = some (some (.ref fd24)))
    (ad25 : PySem.W.nsIn K mainGlobals "_law_set" = some (some (.ref fd25)))
    (ad26 : PySem.W.nsIn K mainGlobals "_law_bases" = some (some (.ref fd26)))
    (ad27 : PySem.W.nsIn K mainGlobals "law" = some (some (.ref fd27)))
    (aR : PySem.W.nsIn K mainGlobals "Registry" = some (some (.ref R)))
    (amR0 : PySem.W.findIn K (.ref R) "__init__" = some (some (.ref fmR0)))
    (imR0 : PySem.W.isFn K (.ref fmR0) = true)
    (amR1 : PySem.W.findIn K (.ref R) "has" = some (some (.ref fmR1)))
    (imR1 : PySem.W.isFn K (.ref fmR1) = true)
    (amR2 : PySem.W.findIn K (.ref R) "look_bases" = some (some (.ref fmR2)))
    (imR2 : PySem.W.isFn K (.ref fmR2) = true)
    (amR3 : PySem.W.findIn K (.ref R) "remember" = some (some (.ref fmR3)))
    (imR3 : PySem.W.isFn K (.ref fmR3) = true)
    (amR4 : PySem.W.findIn K (.ref R) "add" = some (some (.ref fmR4)))
    (imR4 : PySem.W.isFn K (.ref fmR4) = true)
    (pgR : PySem.W.plainGet K R Str.empty = true)
    (hdR : PySem.W.hasDictIn K R = true)
    (poR : PySem.W.plainOver K R = true)
    (saR : PySem.W.findIn K (.ref R) "__setattr__" = some (some (.builtin "object.__setattr__")))
    (mkR : PySem.W.makesIn K R = true)
    (kcR : PySem.W.keepIn K (.ref R) = true)
    (nRkind_bases : PySem.W.findIn K (.ref R) "kind_bases" = some none)
    (nRlines : PySem.W.findIn K (.ref R) "lines" = some none)
    (nRbodies : PySem.W.findIn K (.ref R) "bodies" = some none)
    (nRcache : PySem.W.findIn K (.ref R) "cache" = some none)
    (nRthings : PySem.W.findIn K (.ref R) "things" = some none)
    (nRopened_by_number : PySem.W.findIn K (.ref R) "opened_by_number" = some none)
    (nRmade : PySem.W.findIn K (.ref R) "made" = some none)
    (nRbegun : PySem.W.findIn K (.ref R) "begun" = some none)
    (nRpast : PySem.W.findIn K (.ref R) "past" = some none)
    (rdR : PySem.W.readsIn K R (.type "type") = true)
    (rgR : PySem.W.specialIn K (.ref R) "__getattribute__" = some (some (.builtin "type.__getattribute__")))
    (ciRMOST_KINDS : Hy.clsIntB K R "MOST_KINDS" 10 = true)
    (alis_name_rows : PySem.W.nsIn K mainGlobals "is_name_rows" = some (some (.ref fd7)))
    (zany : PySem.W.nsIn K mainGlobals "any" = some none)
    (zall : PySem.W.nsIn K mainGlobals "all" = some none)
    (zlen : PySem.W.nsIn K mainGlobals "len" = some none)
    (zmin : PySem.W.nsIn K mainGlobals "min" = some none)
    (zmax : PySem.W.nsIn K mainGlobals "max" = some none)
    (zabs : PySem.W.nsIn K mainGlobals "abs" = some none)
    (zisinstance : PySem.W.nsIn K mainGlobals "isinstance" = some none)
    (ztuple : PySem.W.nsIn K mainGlobals "tuple" = some none)
    (zlist : PySem.W.nsIn K mainGlobals "list" = some none)
    (zsorted : PySem.W.nsIn K mainGlobals "sorted" = some none)
    (zsum : PySem.W.nsIn K mainGlobals "sum" = some none)
    (zstr : PySem.W.nsIn K mainGlobals "str" = some none)
    (zint : PySem.W.nsIn K mainGlobals "int" = some none)
    (zbool : PySem.W.nsIn K mainGlobals "bool" = some none)
    (zrange : PySem.W.nsIn K mainGlobals "range" = some none)
    (zenumerate : PySem.W.nsIn K mainGlobals "enumerate" = some none)
    (zzip : PySem.W.nsIn K mainGlobals "zip" = some none)
    (zdict : PySem.W.nsIn K mainGlobals "dict" = some none)
    (gLETTERS : ∃ t, mg "LETTERS" = some (.str "abcdefghijklmnopqrstuvwxyz" t))
    (gMOST_LETTERS : ∃ t, mg "MOST_LETTERS" = some (.int 8 t))
    (gMOST_KINDS : ∃ t, mg "MOST_KINDS" = some (.int 10 t))
    (FV12 : D.FunV K "in_order" "in_order" s_in_order fd12 gd12 (.ref cd12)) (base : Heap) (TB12 : LamX.TabB base mg cd12 tb12) : FnOk l.prog w K mg base (L2.CX l.prog w) 13 fa gd27 ["_law_script"] (spLaw K tb12) := by
  have e := hfa.symm.trans (PySem.W.mg_of X Gg ad27)
  cases e
  have T : Txt mg := { any := PySem.W.mg_none_of X Gg zany, all := PySem.W.mg_none_of X Gg zall, len := PySem.W.mg_none_of X Gg zlen, min := PySem.W.mg_none_of X Gg zmin, max := PySem.W.mg_none_of X Gg zmax, abs := PySem.W.mg_none_of X Gg zabs, isi := PySem.W.mg_none_of X Gg zisinstance, tuple := PySem.W.mg_none_of X Gg ztuple, list := PySem.W.mg_none_of X Gg zlist, sorted := PySem.W.mg_none_of X Gg zsorted, sum := PySem.W.mg_none_of X Gg zsum, str := PySem.W.mg_none_of X Gg zstr, int := PySem.W.mg_none_of X Gg zint, bool := PySem.W.mg_none_of X Gg zbool, range := PySem.W.mg_none_of X Gg zrange, enumerate := PySem.W.mg_none_of X Gg zenumerate, zip := PySem.W.mg_none_of X Gg zzip }
  have Fd0 := Hy.funD_fun Dd0
  have kd0 := Dd0.kp
  have Fd1 := Hy.funD_fun Dd1
  have kd1 := Dd1.kp
  have Fd2 := Hy.funD_fun Dd2
  have kd2 := Dd2.kp
  have Fd3 := Hy.funD_fun Dd3
  have kd3 := Dd3.kp
  have Fd4 := Hy.funD_fun Dd4
  have kd4 := Dd4.kp
  have Fd5 := Hy.funD_fun Dd5
  have kd5 := Dd5.kp
  have Fd6 := Hy.funD_fun Dd6
  have kd6 := Dd6.kp
  have Fd7 := Hy.funD_fun Dd7
  have kd7 := Dd7.kp
  have Fd8 := Hy.funD_fun Dd8
  have kd8 := Dd8.kp
  have Fd9 := Hy.funD_fun Dd9
  have kd9 := Dd9.kp
  have Fd10 := Hy.funD_fun Dd10
  have kd10 := Dd10.kp
  have Fd11 := Hy.funD_fun Dd11
  have kd11 := Dd11.kp
  have Fd12 := Hy.funD_fun Dd12
  have kd12 := Dd12.kp
  have Fd13 := Hy.funD_fun Dd13
  have kd13 := Dd13.kp
  have Fd14 := Hy.funD_fun Dd14
  have kd14 := Dd14.kp
  have Fd15 := Hy.funD_fun Dd15
  have kd15 := Dd15.kp
  have Fd16 := Hy.funD_fun Dd16
  have kd16 := Dd16.kp
  have Fd17 := Hy.funD_fun Dd17
  have kd17 := Dd17.kp
  have Fd18 := Hy.funD_fun Dd18
  have kd18 := Dd18.kp
  have Fd19 := Hy.funD_fun Dd19
  have kd19 := Dd19.kp
  have Fd20 := Hy.funD_fun Dd20
  have kd20 := Dd20.kp
  have Fd21 := Hy.funD_fun Dd21
  have kd21 := Dd21.kp
  have Fd22 := Hy.funD_fun Dd22
  have kd22 := Dd22.kp
  have Fd23 := Hy.funD_fun Dd23
  have kd23 := Dd23.kp
  have Fd24 := Hy.funD_fun Dd24
  have kd24 := Dd24.kp
  have Fd25 := Hy.funD_fun Dd25
  have kd25 := Dd25.kp
  have Fd26 := Hy.funD_fun Dd26
  have kd26 := Dd26.kp
  have Fd27 := Hy.funD_fun Dd27
  have kd27 := Dd27.kp
  have FmR0 := Hy.funD_fun DmR0
  have kmR0 := DmR0.kp
  have FmR1 := Hy.funD_fun DmR1
  have kmR1 := DmR1.kp
  have FmR2 := Hy.funD_fun DmR2
  have kmR2 := DmR2.kp
  have FmR3 := Hy.funD_fun DmR3
  have kmR3 := DmR3.kp
  obtain ⟨cvmR4, FmR4⟩ := Hy.funD_V DmR4
  have kmR4 := DmR4.kp
  have bd0 : Binds K gd0 ["rows"] [] := Dd0.bindsN fun _ _ _ _ _ _ us hl => match us, hl with | [_], _ => rfl
  have bd1 : Binds K gd1 ["lists"] [] := Dd1.bindsN fun _ _ _ _ _ _ us hl => match us, hl with | [_], _ => rfl
  have bd2 : Binds K gd2 ["lists"] [] := Dd2.bindsN fun _ _ _ _ _ _ us hl => match us, hl with | [_], _ => rfl
  have bd3 : Binds K gd3 ["demands", "goal"] [] := Dd3.bindsN fun _ _ _ _ _ _ us hl => match us, hl with | [_, _], _ => rfl
  have bd4 : Binds K gd4 ["demands", "start", "goal"] [] := Dd4.bindsN fun _ _ _ _ _ _ us hl => match us, hl with | [_, _, _], _ => rfl
  have bd5 : Binds K gd5 ["lists"] [] := Dd5.bindsN fun _ _ _ _ _ _ us hl => match us, hl with | [_], _ => rfl
  have bd6 : Binds K gd6 ["lists"] [] := Dd6.bindsN fun _ _ _ _ _ _ us hl => match us, hl with | [_], _ => rfl
  have bd7 : Binds K gd7 ["thing"] [] := Dd7.bindsN fun _ _ _ _ _ _ us hl => match us, hl with | [_], _ => rfl
  have bd8 : Binds K gd8 ["registry", "name"] [] := Dd8.bindsN fun _ _ _ _ _ _ us hl => match us, hl with | [_, _], _ => rfl
  have bd9 : Binds K gd9 ["registry", "items"] [] := Dd9.bindsN fun _ _ _ _ _ _ us hl => match us, hl with | [_, _], _ => rfl
  have bd10 : Binds K gd10 ["registry", "thing"] [] := Dd10.bindsN fun _ _ _ _ _ _ us hl => match us, hl with | [_, _], _ => rfl
  have bd11 : Binds K gd11 ["registry", "thing"] [] := Dd11.bindsN fun _ _ _ _ _ _ us hl => match us, hl with | [_, _], _ => rfl
  have bd12 : Binds K gd12 ["keys"] [] := Dd12.bindsN fun _ _ _ _ _ _ us hl => match us, hl with | [_], _ => rfl
  have bd13 : Binds K gd13 ["registry"] [] := Dd13.bindsN fun _ _ _ _ _ _ us hl => match us, hl with | [_], _ => rfl
  have bd14 : Binds K gd14 ["lines", "name", "bases"] [] := Dd14.bindsN fun _ _ _ _ _ _ us hl => match us, hl with | [_, _, _], _ => rfl
  have bd15 : Binds K gd15 ["registry", "bases"] [] := Dd15.bindsN fun _ _ _ _ _ _ us hl => match us, hl with | [_, _], _ => rfl
  have bd16 : Binds K gd16 ["registry", "bases"] [] := Dd16.bindsN fun _ _ _ _ _ _ us hl => match us, hl with | [_, _], _ => rfl
  have bd17 : Binds K gd17 ["bases", "size"] [] := Dd17.bindsN fun _ _ _ _ _ _ us hl => match us, hl with | [_, _], _ => rfl
  have bd18 : Binds K gd18 ["registry", "bases"] [] := Dd18.bindsN fun _ _ _ _ _ _ us hl => match us, hl with | [_, _], _ => rfl
  have bd19 : Binds K gd19 ["_law_script", "_law_at"] [] := Dd19.bindsN fun _ _ _ _ _ _ us hl => match us, hl with | [_, _], _ => rfl
  have bd20 : Binds K gd20 ["_law_bag_here", "_law_many"] [] := Dd20.bindsN fun _ _ _ _ _ _ us hl => match us, hl with | [_, _], _ => rfl
  have bd21 : Binds K gd21 ["_law_bag_here", "_law_many"] [] := Dd21.bindsN fun _ _ _ _ _ _ us hl => match us, hl with | [_, _], _ => rfl
  have bd22 : Binds K gd22 ["_law_bag_here", "_law_things", "_law_most"] [] := Dd22.bindsN fun _ _ _ _ _ _ us hl => match us, hl with | [_, _, _], _ => rfl
  have bd23 : Binds K gd23 ["_law_lists"] [] := Dd23.bindsN fun _ _ _ _ _ _ us hl => match us, hl with | [_], _ => rfl
  have bd24 : Binds K gd24 ["_law_bag_here", "_law_names_here"] [] := Dd24.bindsN fun _ _ _ _ _ _ us hl => match us, hl with | [_, _], _ => rfl
  have bd25 : Binds K gd25 ["_law_above", "_law_lines", "_law_bodies"] [] := Dd25.bindsN fun _ _ _ _ _ _ us hl => match us, hl with | [_, _, _], _ => rfl
  have bd26 : Binds K gd26 ["_law_bag_here", "_law_names_here"] [] := Dd26.bindsN fun _ _ _ _ _ _ us hl => match us, hl with | [_, _], _ => rfl
  have bmR0 : Binds K gmR0 ["self"] [] := DmR0.bindsN fun _ _ _ _ _ _ us hl => match us, hl with | [_], _ => rfl
  have bmR1 : Binds K gmR1 ["self", "thing"] [] := DmR1.bindsN fun _ _ _ _ _ _ us hl => match us, hl with | [_, _], _ => rfl
  have bmR2 : Binds K gmR2 ["self", "thing", "barred"] [] := DmR2.bindsN fun _ _ _ _ _ _ us hl => match us, hl with | [_, _, _], _ => rfl
  have bmR3 : Binds K gmR3 ["self"] [] := DmR3.bindsN fun _ _ _ _ _ _ us hl => match us, hl with | [_], _ => rfl
  have bmR4 : Binds K gmR4 ["self", "name", "bases"] [] := by
    obtain ⟨ds, hv, hb⟩ := FunD.binds1 (ps := ["self", "name", "bases"]) DmR4 3 1 (fun z => by rw [z] at nemR4; cases nemR4) (by rw [nemR4]; rfl) fun T kV doc pm an cdv ct us its hl hi => by
      rw [nemR4] at hi
      match us, its, hl, hi with | [_, _, _], [_], _, _ => exact ⟨_, rfl, rfl⟩
    have e0 : dvmR4.drop 1 = [] := List.drop_eq_nil_of_le (by rw [nemR4]; exact Nat.le_refl _)
    rw [e0] at hv
    cases hv
    exact hb
  have CLR : Cls K R := ⟨pgR, hdR, poR, saR⟩
  have CIRMOST_KINDS : ClsK K R "MOST_KINDS" (.int 10) := by
    obtain ⟨u, h1, h2⟩ := Hy.clsInt_ok ciRMOST_KINDS
    exact ⟨.type "type", u, ⟨rdR, rgR⟩, ⟨h1, h2⟩⟩
  have RC : RegF K R := ⟨CLR, fun f hf => by simp only [regFields, List.mem_cons, List.not_mem_nil, or_false] at hf; rcases hf with rfl | rfl | rfl | rfl | rfl | rfl | rfl | rfl | rfl; exact nRkind_bases; exact nRlines; exact nRbodies; exact nRcache; exact nRthings; exact nRopened_by_number; exact nRmade; exact nRbegun; exact nRpast⟩
  have CS : Cst0 mg := ⟨gLETTERS, gMOST_LETTERS, gMOST_KINDS, PySem.W.mg_none_of X Gg zdict⟩
  have MK : MkC l.prog w K mg base 1 "Registry" R (initPost R) := ⟨fmR0, _, ⟨mkR, amR0, imR0, kcR⟩, ok_reg_init FmR0 RC, PySem.W.mg_of X Gg aR, bmR0⟩
  have E0 : DefOk l.prog w K mg base 1 "next_name" _ _ := ⟨_, _, ok_next_name Fd0 T, PySem.W.mg_of X Gg ad0, kd0, bd0⟩
  have E1 : DefOk l.prog w K mg base 2 "merge_or_none" _ _ := ⟨_, _, ok_merge_or_none Fd1 T E0, PySem.W.mg_of X Gg ad1, kd1, bd1⟩
  have E2 : DefOk l.prog w K mg base 1 "earliest_demands" _ _ := ⟨_, _, ok_earliest_demands Fd2 T, PySem.W.mg_of X Gg ad2, kd2, bd2⟩
  have E3 : DefOk l.prog w K mg base 1 "distances_to" _ _ := ⟨_, _, ok_distances_to Fd3 T, PySem.W.mg_of X Gg ad3, kd3, bd3⟩
  have E4 : DefOk l.prog w K mg base 2 "least_road" _ _ := ⟨_, _, ok_least_road Fd4 T E3, PySem.W.mg_of X Gg ad4, kd4, bd4⟩
  have E5 : DefOk l.prog w K mg base 3 "least_ring" _ _ := ⟨_, _, ok_least_ring Fd5 T E2 E3 E4, PySem.W.mg_of X Gg ad5, kd5, bd5⟩
  have E6 : DefOk l.prog w K mg base 3 "merge_or_ring" _ _ := ⟨_, _, ok_mor1 Fd6 E1, PySem.W.mg_of X Gg ad6, kd6, bd6⟩
  have EMR : D_merge_or_ring l.prog w K mg base := ⟨_, _, ok_merge_or_ring Fd6 E1 E5, PySem.W.mg_of X Gg ad6, kd6, bd6⟩
  have DA : D_nameN l.prog w K mg base := ⟨_, _, ok_nameN Fd7 T CS, PySem.W.mg_of X Gg alis_name_rows, kd7, bd7⟩
  have M1 : MethOk l.prog w K mg base 1 R "has" _ _ := ⟨_, _, ok_has FmR1 T RC, ⟨amR1, imR1, kmR1⟩, bmR1⟩
  have E8 : DefOk l.prog w K mg base 2 "look_kind" _ _ := ⟨_, _, ok_look_kind Fd8 RC M1, PySem.W.mg_of X Gg ad8, kd8, bd8⟩
  have E9 : DefOk l.prog w K mg base 2 "bad_item" _ _ := ⟨_, _, ok_bad_item Fd9 T RC M1, PySem.W.mg_of X Gg ad9, kd9, bd9⟩
  have E10 : DefOk l.prog w K mg base 3 "bad_bases" _ _ := ⟨_, _, ok_bad_bases Fd10 T gMOST_KINDS E9, PySem.W.mg_of X Gg ad10, kd10, bd10⟩
  have E11 : DefOk l.prog w K mg base 4 "look_bases" _ _ := ⟨_, _, ok_look_bases Fd11 E10, PySem.W.mg_of X Gg ad11, kd11, bd11⟩
  have M2 : MethOk l.prog w K mg base 4 R "look_bases" _ _ := ⟨_, _, ok_rlook FmR2 T E10, ⟨amR2, imR2, kmR2⟩, bmR2⟩
  have E14 : DefOk l.prog w K mg base 4 "lined" _ _ := ⟨_, _, ok_lined Fd14 T E6, PySem.W.mg_of X Gg ad14, kd14, bd14⟩
  have M3 : MethOk l.prog w K mg base 1 R "remember" _ _ := ⟨_, _, ok_remember FmR3 CS RC, ⟨amR3, imR3, kmR3⟩, bmR3⟩
  have E12 : DefOk l.prog w K mg base 1 "in_order" _ _ := ⟨_, _, ok_in_order FV12 TB12 T, PySem.W.mg_of X Gg ad12, kd12, bd12⟩
  have E13 : DefOk l.prog w K mg base 2 "outdated" _ _ := ⟨_, _, ok_outdated Fd13 RC E12, PySem.W.mg_of X Gg ad13, kd13, bd13⟩
  have M4 : MethOk l.prog w K mg base 5 R "add" _ _ := ⟨_, _, ok_add FmR4 T RC (PySem.W.mg_of X Gg aR) CIRMOST_KINDS DA M1 M2 E14 M3 E13, ⟨amR4, imR4, kmR4⟩, bmR4⟩
  have E15 : DefOk l.prog w K mg base 1 "lists_for" _ _ := ⟨_, _, ok_lists_for Fd15 T RC, PySem.W.mg_of X Gg ad15, kd15, bd15⟩
  have E16 : DefOk l.prog w K mg base 3 "is_future_list" _ _ := ⟨_, _, ok_isfut Fd16 E15 E1, PySem.W.mg_of X Gg ad16, kd16, bd16⟩
  have E17 : DefOk l.prog w K mg base 11 "parts_of" _ _ := ⟨_, _, ok_parts Fd17 T (PySem.W.mg_of X Gg ad17) kd17 bd17 10, PySem.W.mg_of X Gg ad17, kd17, bd17⟩
  have E18 : DefOk l.prog w K mg base 12 "kept" _ _ := ⟨_, _, ok_kept Fd18 T E11 E16 E17 EMR E15, PySem.W.mg_of X Gg ad18, kd18, bd18⟩
  have E19 : DefOk l.prog w K mg base 1 "_law_bag" _ _ := ⟨_, _, ok_bag Fd19 T, PySem.W.mg_of X Gg ad19, kd19, bd19⟩
  have E20 : DefOk l.prog w K mg base 1 "_law_take" _ _ := ⟨_, _, ok_take Fd20, PySem.W.mg_of X Gg ad20, kd20, bd20⟩
  have E21 : DefOk l.prog w K mg base 2 "_law_names" _ _ := ⟨_, _, ok_names Fd21 T E20, PySem.W.mg_of X Gg ad21, kd21, bd21⟩
  have E22 : DefOk l.prog w K mg base 2 "_law_some" _ _ := ⟨_, _, ok_some Fd22 T E20, PySem.W.mg_of X Gg ad22, kd22, bd22⟩
  have E23 : DefOk l.prog w K mg base 1 "_law_merge" _ _ := ⟨_, _, ok_lmerge Fd23 T, PySem.W.mg_of X Gg ad23, kd23, bd23⟩
  have E24 : DefOk l.prog w K mg base 3 "_law_kinds" _ _ := ⟨_, _, ok_kinds Fd24 T E23 E22, PySem.W.mg_of X Gg ad24, kd24, bd24⟩
  have E25 : DefOk l.prog w K mg base 6 "_law_set" _ _ := ⟨_, _, ok_set Fd25 T RC MK M4, PySem.W.mg_of X Gg ad25, kd25, bd25⟩
  have E26 : DefOk l.prog w K mg base 3 "_law_bases" _ _ := ⟨_, _, ok_bases Fd26 T E22, PySem.W.mg_of X Gg ad26, kd26, bd26⟩
  exact ok_law Fd27 T RC ⟨E19, E20, E21, E24, E25, E26, E18⟩
theorem sp0 {K : PySem.W.Frag} {H : Hp} {a tb : Addr} {ns : List Int} (hl : ns.length ≤ 63) (hT : H tb = some (.tbl #[])) (hS : SqL K H a (ns.map V.int)) : spLaw K tb [.ref a] H (fun v _ => v = .bl true) fun _ _ _ => False := by
  refine ⟨[], ns, fun x hx => absurd hx (by simp), (List.nodup_cons.mpr ⟨List.not_mem_nil, .nil⟩), fun x hx z => (nomatch z), fun p hp => ?_, ?_, hl, ?_, fun _ _ _ _ _ z => z.elim⟩
  · rw [List.mem_singleton.mp hp]
    exact Hy.tab_cel hT
  · exact .cons (.fzl (Hy.sql_mask hT hS) (DVs.ints ns)) .nil
  · rintro v H' C' d rfl _ dv
    cases dv; rfl
theorem facts {l : PySem.W.OpenLaw} {w : World} {K : PySem.W.Frag} {h : Heap} {mg : Str → Option Value} {f : Addr} (hm : l.most = some 63) (X : K.In h) (Gg : h.Ns mainGlobals mg) (hfa : mg ("law" : Str) = some (.ref f)) (c : Hy.SaysY fn tf (Hy.exB fx) h K) :
    LamX.LawAtS l w K (L2.CX l.prog w) 13 63 "_law_script" mg f h := by
  obtain ⟨gd0, Dd0⟩ := c.d.def_ 0 (d := qd0) rfl
  obtain ⟨gd1, Dd1⟩ := c.d.def_ 1 (d := qd1) rfl
  obtain ⟨gd2, Dd2⟩ := c.d.def_ 2 (d := qd2) rfl
  obtain ⟨gd3, Dd3⟩ := c.d.def_ 3 (d := qd3) rfl
  obtain ⟨gd4, Dd4⟩ := c.d.def_ 4 (d := qd4) rfl
  obtain ⟨gd5, Dd5⟩ := c.d.def_ 5 (d := qd5) rfl
  obtain ⟨gd6, Dd6⟩ := c.d.def_ 6 (d := qd6) rfl
  obtain ⟨gd7, Dd7⟩ := c.d.def_ 7 (d := qd7) rfl
  obtain ⟨gd8, Dd8⟩ := c.d.def_ 8 (d := qd8) rfl
  obtain ⟨gd9, Dd9⟩ := c.d.def_ 9 (d := qd9) rfl
  obtain ⟨gd10, Dd10⟩ := c.d.def_ 10 (d := qd10) rfl
  obtain ⟨gd11, Dd11⟩ := c.d.def_ 11 (d := qd11) rfl
  obtain ⟨gd12, Dd12⟩ := c.d.def_ 12 (d := qd12) rfl
  obtain ⟨gd13, Dd13⟩ := c.d.def_ 13 (d := qd13) rfl
  obtain ⟨gd14, Dd14⟩ := c.d.def_ 14 (d := qd14) rfl
  obtain ⟨gd15, Dd15⟩ := c.d.def_ 15 (d := qd15) rfl
  obtain ⟨gd16, Dd16⟩ := c.d.def_ 16 (d := qd16) rfl
  obtain ⟨gd17, Dd17⟩ := c.d.def_ 17 (d := qd17) rfl
  obtain ⟨gd18, Dd18⟩ := c.d.def_ 18 (d := qd18) rfl
  obtain ⟨gd19, Dd19⟩ := c.d.def_ 19 (d := qd19) rfl
  obtain ⟨gd20, Dd20⟩ := c.d.def_ 20 (d := qd20) rfl
  obtain ⟨gd21, Dd21⟩ := c.d.def_ 21 (d := qd21) rfl
  obtain ⟨gd22, Dd22⟩ := c.d.def_ 22 (d := qd22) rfl
  obtain ⟨gd23, Dd23⟩ := c.d.def_ 23 (d := qd23) rfl
  obtain ⟨gd24, Dd24⟩ := c.d.def_ 24 (d := qd24) rfl
  obtain ⟨gd25, Dd25⟩ := c.d.def_ 25 (d := qd25) rfl
  obtain ⟨gd26, Dd26⟩ := c.d.def_ 26 (d := qd26) rfl
  obtain ⟨gd27, Dd27⟩ := c.d.def_ 27 (d := qd27) rfl
  obtain ⟨gmR0, DmR0⟩ := c.d.def_ 28 (d := qmR0) rfl
  obtain ⟨gmR1, DmR1⟩ := c.d.def_ 29 (d := qmR1) rfl
  obtain ⟨gmR2, DmR2⟩ := c.d.def_ 30 (d := qmR2) rfl
  obtain ⟨gmR3, DmR3⟩ := c.d.def_ 31 (d := qmR3) rfl
  obtain ⟨gmR4, DmR4⟩ := c.d.def_ 32 (d := qmR4) rfl
  refine ⟨gd27, tf.map (He.cT K), W.spLaw K (He.cT K ("in_order", none)).2, fun p hp => ?_, fun p hp => ?_, fun p hp => ?_, fun s v => Dd27.bindsA (ps := ["_law_script"]) (fun _ _ _ _ _ _ us hl => match us, hl with | [_], _ => rfl) s [v] rfl, fun H a ns hl _ hT hS => K74.sp0 hl (hT _ (List.mem_map.mpr ⟨_, List.mem_singleton.mpr rfl, rfl⟩)) hS, fun base KB GB TB => ?_⟩
  · obtain ⟨q, hq, rfl⟩ := List.mem_map.mp hp
    exact c.empty q hq
  · obtain ⟨q, hq, rfl⟩ := List.mem_map.mp hp
    exact c.out q hq
  · obtain ⟨q, hq, rfl⟩ := List.mem_map.mp hp
    exact PySem.W.codeHd_of_K X (c.hd q hq)
  exact all_mk X Gg hfa Dd0 Dd1 Dd2 Dd3 Dd4 Dd5 Dd6 Dd7 Dd8 Dd9 Dd10 Dd11 Dd12 Dd13 Dd14 Dd15 Dd16 Dd17 Dd18 Dd19 Dd20 Dd21 Dd22 Dd23 Dd24 Dd25 Dd26 Dd27 DmR0 DmR1 DmR2 DmR3 rfl DmR4 (of_decide_eq_true (Hy.exB_fact c.more 0 0 rfl rfl)) (of_decide_eq_true (Hy.exB_fact c.more 0 1 rfl rfl)) (of_decide_eq_true (Hy.exB_fact c.more 0 2 rfl rfl)) (of_decide_eq_true (Hy.exB_fact c.more 0 3 rfl rfl)) (of_decide_eq_true (Hy.exB_fact c.more 0 4 rfl rfl)) (of_decide_eq_true (Hy.exB_fact c.more 0 5 rfl rfl)) (of_decide_eq_true (Hy.exB_fact c.more 0 6 rfl rfl)) (of_decide_eq_true (Hy.exB_fact c.more 0 7 rfl rfl)) (of_decide_eq_true (Hy.exB_fact c.more 0 8 rfl rfl)) (of_decide_eq_true (Hy.exB_fact c.more 0 9 rfl rfl)) (of_decide_eq_true (Hy.exB_fact c.more 0 10 rfl rfl)) (of_decide_eq_true (Hy.exB_fact c.more 0 11 rfl rfl)) (of_decide_eq_true (Hy.exB_fact c.more 0 12 rfl rfl)) (of_decide_eq_true (Hy.exB_fact c.more 0 13 rfl rfl)) (of_decide_eq_true (Hy.exB_fact c.more 0 14 rfl rfl)) (of_decide_eq_true (Hy.exB_fact c.more 0 15 rfl rfl)) (of_decide_eq_true (Hy.exB_fact c.more 0 16 rfl rfl)) (of_decide_eq_true (Hy.exB_fact c.more 0 17 rfl rfl)) (of_decide_eq_true (Hy.exB_fact c.more 0 18 rfl rfl)) (of_decide_eq_true (Hy.exB_fact c.more 0 19 rfl rfl)) (of_decide_eq_true (Hy.exB_fact c.more 0 20 rfl rfl)) (of_decide_eq_true (Hy.exB_fact c.more 0 21 rfl rfl)) (of_decide_eq_true (Hy.exB_fact c.more 0 22 rfl rfl)) (of_decide_eq_true (Hy.exB_fact c.more 0 23 rfl rfl)) (of_decide_eq_true (Hy.exB_fact c.more 0 24 rfl rfl)) (of_decide_eq_true (Hy.exB_fact c.more 1 0 rfl rfl)) (of_decide_eq_true (Hy.exB_fact c.more 1 1 rfl rfl)) (of_decide_eq_true (Hy.exB_fact c.more 1 2 rfl rfl)) (of_decide_eq_true (Hy.exB_fact c.more 1 3 rfl rfl)) (of_decide_eq_true (Hy.exB_fact c.more 1 4 rfl rfl)) (of_decide_eq_true (Hy.exB_fact c.more 1 5 rfl rfl)) (of_decide_eq_true (Hy.exB_fact c.more 1 6 rfl rfl)) (of_decide_eq_true (Hy.exB_fact c.more 1 7 rfl rfl)) (of_decide_eq_true (Hy.exB_fact c.more 1 8 rfl rfl)) (of_decide_eq_true (Hy.exB_fact c.more 1 9 rfl rfl)) (of_decide_eq_true (Hy.exB_fact c.more 1 10 rfl rfl)) (of_decide_eq_true (Hy.exB_fact c.more 1 11 rfl rfl)) (of_decide_eq_true (Hy.exB_fact c.more 1 12 rfl rfl)) (of_decide_eq_true (Hy.exB_fact c.more 1 13 rfl rfl)) (of_decide_eq_true (Hy.exB_fact c.more 1 14 rfl rfl)) (of_decide_eq_true (Hy.exB_fact c.more 1 15 rfl rfl)) (of_decide_eq_true (Hy.exB_fact c.more 1 16 rfl rfl)) (of_decide_eq_true (Hy.exB_fact c.more 1 17 rfl rfl)) (of_decide_eq_true (Hy.exB_fact c.more 1 18 rfl rfl)) (of_decide_eq_true (Hy.exB_fact c.more 1 19 rfl rfl)) (of_decide_eq_true (Hy.exB_fact c.more 1 20 rfl rfl)) (of_decide_eq_true (Hy.exB_fact c.more 1 21 rfl rfl)) (of_decide_eq_true (Hy.exB_fact c.more 1 22 rfl rfl)) (of_decide_eq_true (Hy.exB_fact c.more 1 23 rfl rfl)) (of_decide_eq_true (Hy.exB_fact c.more 1 24 rfl rfl)) (of_decide_eq_true (Hy.exB_fact c.more 2 0 rfl rfl)) (of_decide_eq_true (Hy.exB_fact c.more 2 1 rfl rfl)) (of_decide_eq_true (Hy.exB_fact c.more 2 2 rfl rfl)) (of_decide_eq_true (Hy.exB_fact c.more 2 3 rfl rfl)) (of_decide_eq_true (Hy.exB_fact c.more 2 4 rfl rfl)) (of_decide_eq_true (Hy.exB_fact c.more 2 5 rfl rfl)) (of_decide_eq_true (Hy.exB_fact c.more 2 6 rfl rfl)) (of_decide_eq_true (Hy.exB_fact c.more 2 7 rfl rfl)) (of_decide_eq_true (Hy.exB_fact c.more 2 8 rfl rfl)) (of_decide_eq_true (Hy.exB_fact c.more 2 9 rfl rfl)) (of_decide_eq_true (Hy.exB_fact c.more 2 10 rfl rfl)) (of_decide_eq_true (Hy.exB_fact c.more 2 11 rfl rfl)) (of_decide_eq_true (Hy.exB_fact c.more 2 12 rfl rfl)) (of_decide_eq_true (Hy.exB_fact c.more 2 13 rfl rfl)) (of_decide_eq_true (Hy.exB_fact c.more 2 14 rfl rfl)) (of_decide_eq_true (Hy.exB_fact c.more 2 15 rfl rfl)) (of_decide_eq_true (Hy.exB_fact c.more 2 16 rfl rfl)) (of_decide_eq_true (Hy.exB_fact c.more 2 17 rfl rfl)) (of_decide_eq_true (Hy.exB_fact c.more 2 18 rfl rfl)) (of_decide_eq_true (Hy.exB_fact c.more 2 19 rfl rfl)) (of_decide_eq_true (Hy.exB_fact c.more 2 20 rfl rfl)) (of_decide_eq_true (Hy.exB_fact c.more 2 21 rfl rfl)) (of_decide_eq_true (Hy.exB_fact c.more 2 22 rfl rfl)) (of_decide_eq_true (Hy.exB_fact c.more 2 23 rfl rfl)) (of_decide_eq_true (Hy.exB_fact c.more 2 24 rfl rfl)) (of_decide_eq_true (Hy.exB_fact c.more 3 0 rfl rfl)) (He.str_ok X Gg (Hy.exB_fact c.more 3 1 rfl rfl)) (He.int_ok X Gg (Hy.exB_fact c.more 3 2 rfl rfl)) (He.int_ok X Gg (Hy.exB_fact c.more 3 3 rfl rfl)) (Hy.funD_T (p := ("in_order", none)) Dd12) base (TB (He.cT K ("in_order", none)) (List.mem_map.mpr ⟨_, List.mem_singleton.mpr rfl, rfl⟩))
end K74
open PySem PySem.W PyProof.Rows
set_option maxRecDepth 100000 in
set_option maxHeartbeats 0 in
theorem PySem.Challenge.cw_openlines_k74_whole_rings_bar_longer_lis_holds : PySem.Challenge.rw_openlines_k74_whole_rings_bar_longer_lis.Holds := by
  w_on; o_law
  refine HandSHeadRun.head_any (r := OpenLaw.row PySem.Challenge.rw_openlines_k74_whole_rings_bar_longer_lis) (q := view (OpenLaw.row PySem.Challenge.rw_openlines_k74_whole_rings_bar_longer_lis).prog [87]) (H := K74.hk) (ob := K74.ob) (M := 9000) (loose := K74.loose) (d := HandSHeadRun.topDef (OpenLaw.row PySem.Challenge.rw_openlines_k74_whole_rings_bar_longer_lis).prog 87) (kwd := []) K74.ob_eq
    (by kernel_rfl) (fun s => by kernel_rfl) K74.run (by kernel_rfl) (by kernel_rfl) (by kernel_rfl) (by rfl) (by first | assumption | decide +kernel) (by decide +kernel) ⟨rfl, rfl, rfl, rfl, rfl, by decide +kernel⟩ ?hw ?hc
  case hw => w_witness2
  case hc =>
    refine LamX.walk_ofTsE (l := PySem.Challenge.rw_openlines_k74_whole_rings_bar_longer_lis) (n := 63) (k := 13) (x := "_law_script") (CX := fun w => L2.CX (PySem.Challenge.rw_openlines_k74_whole_rings_bar_longer_lis).prog w) rfl (by decide) (by kernel_rfl) ⟨rfl, by decide, by decide⟩ ?F (fun _ _ _ _ _ ⟨_, _, _, _, _, _, _, _, _, _, _, _, z⟩ => z)
    intro w mg fa h Y Gg hmg0
    obtain ⟨K, KX, c⟩ := Y
    have hmg : mg ("law" : PySem.Str) = some (.ref fa) := by
      have e : (HandSHeadRun.topDef (OpenLaw.row PySem.Challenge.rw_openlines_k74_whole_rings_bar_longer_lis).prog 87).name = ("law" : PySem.Str) := by kernel_rfl
      rw [← e]
      exact hmg0
    exact ⟨K, KX, K74.facts (l := PySem.Challenge.rw_openlines_k74_whole_rings_bar_longer_lis) (w := w) rfl KX Gg hmg c⟩
#print axioms PySem.Challenge.cw_openlines_k74_whole_rings_bar_longer_lis_holds
end
