import PyProof.Rows.All
import Wide.All
import OpenK.AllK
import Wide.FinOn
import KE.KStateDown
import HandS.Head0
import HandS.Head1
import HandS.Head2
import HandS.HeadEnd
import HandS.HeadHook1
import HandS.HeadHook2
import HandS.ExcInit
import HandS.Defaults
import HandS.Words
import HandS.ClsMeth
import HandS.HeadHook3
import HandS.HeadHook4
import HandS.HeadWalk
import HandS.EndTab
import HandS.Lambda
import HandS.ForMost
import HandS.ForExc
import HandS.ExcField
import HandS.IsInst
import HandS.Flow
import HandS.Deep
import HandS.TupAny
import HandS.Evl
import HandS.Walk
import HandS.BoundDict
import HandS.DictComp
import KE.GoesMore
import PyProof.DictUpdate
import KE.DataMinMax
import HandS.Zip
import HandS.Strs
import HandS.More
import HandS.TupMul
import HandS.Style
import PyProof.EqAt
import KE.SortData
import KE.KDictWalk
import KE.KDictSum
import PyProof.DictMoreH
import HandS.OwnEq
import PyProof.EqKinds
import HandS.TupLe
import KE.KxIndex
import HandS.SortKw
import KE.SortKeyHeap
import KE.KSortKey
import PyProof.SeqRoads2
import HandS.HotCalls
import HandS.Comp
import HandS.Iter
import KE.KTryMore
import HandS.ExcIs
import HandS.SetFor
import KE.KIndexOf
import KE.KExcInit
import KE.KExcPX
import HandS.Small
import HandS.ExcValue
import PyProof.ReprReads
import PyProof.ReprLen
import PyProof.StrHeap
import PyProof.StrLawsRepr
import PyProof.FitsInt
import PyProof.ReprRoads
import HandS.RaiseMore
import PySem.Challenge.RW_openlines_k01_errors_made
section
set_option Elab.async false
set_option linter.all false
set_option maxRecDepth 100000
set_option maxHeartbeats 2000000
namespace Hx
open PySem PySem.Spec PyProof.Rows L2
abbrev Te := PySem.W.Frag → Bool
def okF (K : PySem.W.Frag) (d : He.FnD) : Bool := (He.Fa.code d.at_ d.qual).ok K && PySem.W.keepIn K (.ref (He.fAd K d.at_))
abbrev Ax : Type := Bool × List He.FnV
def obsX (fx : List (List Te)) (fn : List He.FnD) (K : PySem.W.Frag) : Ax :=
  ((fx.all fun l => l.all fun p => p K) && fn.all (okF K), fn.map fun d => He.fnObs K d.at_)
def valX (fn : List He.FnD) : Ax := (true, fn.map He.FnD.val)
def SaysX (fx : List (List Te)) (fn : List He.FnD) (K : PySem.W.Frag) : Prop := obsX fx fn K = valX fn
theorem SaysX.def_ {fx : List (List Te)} {fn : List He.FnD} {K : PySem.W.Frag} (c : SaysX fx fn K) (i : Nat) {d : He.FnD} (h : fn[i]? = some d) :
    ∃ oc od osl kV doc pm an cdv ct, K.lookup (He.fAd K d.at_) = some ⟨oc, od, .func (PySem.W.fnOf d.name d.qual d.params d.body d.scope .none kV doc pm an cdv ct), osl⟩ ∧ PySem.W.codeIn K cdv d.qual = true ∧ PySem.W.keepIn K (.ref (He.fAd K d.at_)) = true := by
  have c2 := (Bool.and_eq_true_iff.mp (show ((fx.all fun l => l.all fun p => p K) && fn.all (okF K)) = true from congrArg (fun z : Ax => z.1) c)).2
  have e : fn.map (fun d => He.fnObs K d.at_) = fn.map He.FnD.val := congrArg (fun z : Ax => z.2) c
  have e2 : (fn.map fun d => He.fnObs K d.at_)[i]? = (fn.map He.FnD.val)[i]? := by rw [e]
  rw [List.getElem?_map, List.getElem?_map, h] at e2
  obtain ⟨h1, h2⟩ := Bool.and_eq_true_iff.mp (List.all_eq_true.mp c2 d (List.mem_of_getElem? h))
  obtain ⟨oc, od, osl, kV, doc, pm, an, cdv, ct, h3, h4⟩ := He.fn_ok (Option.some.inj e2) h1
  exact ⟨oc, od, osl, kV, doc, pm, an, cdv, ct, h3, h4, h2⟩
end Hx
end
section
set_option Elab.async false
set_option linter.all false
set_option maxRecDepth 100000
set_option maxHeartbeats 2000000
namespace Hy
open PySem PySem.Spec PyProof.Rows L2
def exB (fx : List (List Hx.Te)) (K : PySem.W.Frag) : Bool := fx.all fun l => l.all fun p => p K
theorem exB_fact {fx : List (List Hx.Te)} {K : PySem.W.Frag} (c : exB fx K = true) (i j : Nat) {l : List Hx.Te} {p : Hx.Te} (h : fx[i]? = some l) (h' : l[j]? = some p) : p K = true :=
  List.all_eq_true.mp (List.all_eq_true.mp c l (List.mem_of_getElem? h)) p (List.mem_of_getElem? h')
/-- what an object names: not the fields of code objects -/
def refsY (o : Obj) : List Addr := He.refV o.cls ++ match o.data with
  | .seq its _ => its.toList.flatMap He.refV
  | .dict es _ => es.toList.flatMap fun e => He.refV e.val
  | .func fd => He.refV fd.code ++ He.refV fd.defaults
  | .cls cd => cd.ns :: cd.mro.flatMap He.refV
  | _ => []
structure SaysY (fn : List He.DefD) (tf : List He.Defn) (ex : PySem.W.Frag → Bool) (h : Heap) (K : PySem.W.Frag) : Prop where
  d : He.SaysD [] fn K
  more : ex K = true
  hd : ∀ p ∈ tf, PySem.W.codeHdIn K (He.cT K p).1 (He.cT K p).2 = true
  out : ∀ p ∈ tf, K.lookup (He.cT K p).2 = none
  empty : ∀ p ∈ tf, h.get? (He.cT K p).2 = some { cls := .none, data := .fields #[] }
abbrev AlY : Type := He.AlD × Bool
def obsK (fn : List He.DefD) (tf : List He.Defn) (ex : PySem.W.Frag → Bool) (g : Addr → Option Obj) (K : PySem.W.Frag) : AlY := (He.obsD [] fn K, ex K && He.tabsB g tf K)
def valY (fn : List He.DefD) : AlY := (He.valD fn, true)
end Hy
end
section
set_option Elab.async false
set_option linter.all false
set_option maxRecDepth 100000
set_option maxHeartbeats 2000000
namespace Hq
open PySem PySem.Spec PyProof.Rows L2 Hy
/-- what an object names; what a property that it names is made of -/
def refsP (g : Addr → Option Obj) (o : Obj) : List Addr := (refsY o).flatMap fun a => a :: match g a with
  | some ⟨.type c, _, .fields xs, _⟩ => if c = "property" then xs.toList.flatMap He.refV else []
  | some ⟨_, _, .func fd, _⟩ => (match fd.defaults with
    | .ref T => (match g T with
      | some ⟨_, _, .seq its _, _⟩ => T :: its.toList.flatMap He.refV
      | _ => [])
    | _ => [])
  | _ => []
def asP (g : Addr → Option Obj) : Nat → List Addr → List Addr → List Addr
  | 0, _, all => all
  | n + 1, new, all => (fun nw => asP g n nw (nw ++ all)) (((new.flatMap fun a => match g a with
      | some o => refsP g o
      | none => []).eraseDups).filter fun a => !all.contains a)
def fnA (K : PySem.W.Frag) (a : Addr) : He.FnW := match K.lookup a with
  | some ⟨_, _, .func fd, _⟩ => some (fd.name, fd.qualname, fd.params, fd.body, fd.scope, fd.globals, fd.closure, fd.builtins)
  | _ => none
def tyNm : Value → Option String
  | .type n => some n
  | _ => none
theorem tyNm_eq : ∀ {l : List Value} {ns : List String}, l.map tyNm = ns.map some → l = ns.map Value.type
  | [], [], _ => rfl
  | [], _ :: _, h => by cases h
  | _ :: _, [], h => by cases h
  | v :: l, n :: ns, h => by
    have h1 : tyNm v = some n := (List.cons.inj h).1
    have h2 : l.map tyNm = ns.map some := (List.cons.inj h).2
    rw [tyNm_eq h2]
    cases v with
    | type m =>
      have : m = n := Option.some.inj h1
      rw [this]; rfl
    | _ => cases h1
def oexB2 (K : PySem.W.Frag) (C : Addr) (newId : String) (ns : List String) : Bool := match K.lookup C with
  | some ⟨.type "type", _, .cls cd, sl⟩ => (match cd.mro, sl.toList with
    | .ref C' :: bm, [_, _, _, _, some (.builtin n), _] => C' == C && n == newId && !cd.hasDel && cd.hasDict && decide (bm.map tyNm = ns.map some)
    | _, _ => false)
  | _ => false
theorem oexB2_ok {K : PySem.W.Frag} {C : Addr} {newId : String} {ns : List String} (q : oexB2 K C newId ns = true) : ∃ nm qn N bs bm sn sub ab col dd k0 k1 k2 k3 k5, K.lookup C = some (excClassObj nm qn C N bs bm true sn sub ab col dd k0 k1 k2 k3 k5 newId) ∧ bm = ns.map Value.type := by
  unfold oexB2 at q
  split at q
  · rename_i dd cd sl ho
    split at q
    · rename_i C' bm k0 k1 k2 k3 n k5 hm hs
      simp only [Bool.and_eq_true, beq_iff_eq, Bool.not_eq_true', decide_eq_true_eq] at q
      obtain ⟨⟨⟨⟨rfl, rfl⟩, hdel⟩, hdct⟩, ht⟩ := q
      obtain ⟨nm, bs, mro, ns', qn, hd, sn, sub, ab, col, del⟩ := cd
      dsimp only at hm hdel hdct
      subst hm hdel hdct
      have hsl : sl = #[k0, k1, k2, k3, some (.builtin n), k5] := by
        obtain ⟨l⟩ := sl
        simp only at hs
        rw [hs]
      subst hsl
      exact ⟨nm, qn, ns', bs, bm, sn, sub, ab, col, dd, k0, k1, k2, k3, k5, ho, tyNm_eq ht⟩
    · cases q
  · cases q
abbrev PFn : Type := (PySem.W.Frag → Addr) × He.DefD
structure SaysP (fn : List He.DefD) (tf : List He.Defn) (ex : PySem.W.Frag → Bool) (pf : List PFn) (h : Heap) (K : PySem.W.Frag) : Prop where
  y : SaysY fn tf ex h K
  p : pf.map (fun q => fnA K (q.1 K)) = pf.map fun q => q.2.val
theorem SaysP.at_ {fn : List He.DefD} {tf : List He.Defn} {ex : PySem.W.Frag → Bool} {pf : List PFn} {h : Heap} {K : PySem.W.Frag} (c : SaysP fn tf ex pf h K) (i : Nat) {q : PFn} (e : pf[i]? = some q) : fnA K (q.1 K) = q.2.val := by
  have e2 : (pf.map (fun q => fnA K (q.1 K)))[i]? = (pf.map fun q => q.2.val)[i]? := by rw [c.p]
  rw [List.getElem?_map, List.getElem?_map, e] at e2
  exact Option.some.inj e2
theorem saysK_of {as : List Addr} {fn : List He.DefD} {tf : List He.Defn} {ex : PySem.W.Frag → Bool} {h : Heap} (e : obsK fn tf ex h.get? (He.frT h.get? as) = valY fn) : SaysY fn tf ex h (He.frT h.get? as) := by
  have e1 : He.obsD [] fn (He.frT h.get? as) = He.valD fn := congrArg (fun z : AlY => z.1) e
  have e2 : (ex (He.frT h.get? as) && He.tabsB h.get? tf (He.frT h.get? as)) = true := congrArg (fun z : AlY => z.2) e
  obtain ⟨h1, h2⟩ := Bool.and_eq_true_iff.mp e2
  have key : ∀ p ∈ tf, PySem.W.codeHdIn (He.frT h.get? as) (He.cT (He.frT h.get? as) p).1 (He.cT (He.frT h.get? as) p).2 = true ∧ ∃ o, h.get? (He.cT (He.frT h.get? as) p).2 = some o ∧ He.emptyTab o = true := fun p hp => by
    obtain ⟨h3, h4⟩ := Bool.and_eq_true_iff.mp (List.all_eq_true.mp h2 p hp)
    refine ⟨h3, ?_⟩
    cases q : h.get? (He.cT (He.frT h.get? as) p).2 with
    | none => rw [q] at h4; cases h4
    | some o => rw [q] at h4; exact ⟨o, rfl, h4⟩
  exact ⟨e1, h1, fun p hp => (key p hp).1, fun p hp => by
    obtain ⟨_, o, q, z⟩ := key p hp
    exact He.frT_none q z, fun p hp => by
    obtain ⟨_, o, q, z⟩ := key p hp
    rw [q, He.emptyTab_eq z]⟩
abbrev AlP : Type := AlY × List He.FnW
def obsPK (fn : List He.DefD) (tf : List He.Defn) (ex : PySem.W.Frag → Bool) (pf : List PFn) (g : Addr → Option Obj) (K : PySem.W.Frag) : AlP := (obsK fn tf ex g K, pf.map fun q => fnA K (q.1 K))
def obsP (n : Nat) (fn : List He.DefD) (tf : List He.Defn) (ex : PySem.W.Frag → Bool) (pf : List PFn) (g : Addr → Option Obj) : AlP := obsPK fn tf ex pf g (He.frT g (asP g n [mainGlobals] [mainGlobals, PySem.cStatics]))
theorem saysP_of {n : Nat} {fn : List He.DefD} {tf : List He.Defn} {ex : PySem.W.Frag → Bool} {pf : List PFn} {h : Heap} (e : obsP n fn tf ex pf h.get? = (valY fn, pf.map fun q => q.2.val)) : SaysP fn tf ex pf h (He.frT h.get? (asP h.get? n [mainGlobals] [mainGlobals, PySem.cStatics])) :=
  ⟨saysK_of (show obsK fn tf ex h.get? (He.frT h.get? (asP h.get? n [mainGlobals] [mainGlobals, PySem.cStatics])) = valY fn from congrArg (fun z : AlP => z.1) e), show pf.map (fun q => fnA (He.frT h.get? (asP h.get? n [mainGlobals] [mainGlobals, PySem.cStatics])) (q.1 (He.frT h.get? (asP h.get? n [mainGlobals] [mainGlobals, PySem.cStatics])))) = pf.map (fun q => q.2.val) from congrArg (fun z : AlP => z.2) e⟩
def hookP (n : Nat) (fn : List He.DefD) (tf : List He.Defn) (ex : PySem.W.Frag → Bool) (pf : List PFn) : PySem.W.Hook where
  α := AlP
  obs := fun s => obsP n fn tf ex pf s.heap.get?
  val := fun _ => (valY fn, pf.map fun q => q.2.val)
  says := fun _ h => ∃ K : PySem.W.Frag, K.In h ∧ SaysP fn tf ex pf h K
  of := fun _ _ e => ⟨_, He.frT_in, saysP_of e⟩
  keeps := fun _ _ _ ⟨K, hK, c⟩ k => ⟨K, PySem.W.Frag.In.keeps hK k, ⟨⟨c.y.d, c.y.more, c.y.hd, c.y.out, fun p hp => k _ _ (c.y.empty p hp)⟩, c.p⟩⟩
theorem obsP_eq {n : Nat} {fn : List He.DefD} {tf : List He.Defn} {ex : PySem.W.Frag → Bool} {pf : List PFn} {g : Addr → Option Obj} {s : Shared} (h : ∀ a, g a = s.heap.get? a) : obsP n fn tf ex pf g = (hookP n fn tf ex pf).obs s := by
  have e : g = s.heap.get? := funext h
  rw [e] <;> rfl
end Hq
end
section
set_option Elab.async false
set_option linter.all false
set_option maxRecDepth 100000
set_option maxHeartbeats 8000000
namespace WR
open PySem L2 PyProof.Rows
def top (i : Nat) : Stmt := PySem.Challenge.pw_openlines_k01_errors_made.main.body.getD i (.Pass ⟨0, 0, 0, 0⟩)
abbrev s_NoName___init__ : Stmt := inClass (top 1) 0
abbrev s_NoBases___init__ : Stmt := inClass (top 2) 0
abbrev s_NoLine___init__ : Stmt := inClass (top 3) 0
abbrev s_NoMerge___init__ : Stmt := inClass (top 4) 0
abbrev s_NoCall___init__ : Stmt := inClass (top 5) 0
abbrev s_NoBody___init__ : Stmt := inClass (top 6) 0
abbrev s_NoChain___init__ : Stmt := inClass (top 7) 0
abbrev s_NoText___init__ : Stmt := inClass (top 9) 0
abbrev s_NoKind___init__ : Stmt := inClass (top 11) 0
abbrev s_NoObject___init__ : Stmt := inClass (top 12) 0
abbrev s_NoOpen___init__ : Stmt := inClass (top 13) 0
abbrev s_Absent___init__ : Stmt := inClass (top 14) 0
abbrev s_NoDefiner___init__ : Stmt := inClass (top 15) 0
abbrev s_Taken___init__ : Stmt := inClass (top 16) 0
abbrev s_InUse___init__ : Stmt := inClass (top 17) 0
abbrev s_Busy___init__ : Stmt := inClass (top 18) 0
abbrev s_TooDeep___init__ : Stmt := inClass (top 22) 0
abbrev s__law_bag : Stmt := top 24
abbrev s__law_take : Stmt := top 25
abbrev s__law_any : Stmt := top 26
abbrev s__law_word : Stmt := top 27
abbrev s__law_named_right : Stmt := top 28
abbrev s__law_pairs_right : Stmt := top 29
abbrev s_law : Stmt := top 30
end WR
namespace K01
open PySem L2 PyProof.Rows
def qd0 : He.DefD := ⟨("_law_bag", none), "_law_bag", "_law_bag", defArgs WR.s__law_bag, defBody WR.s__law_bag, defScope WR.s__law_bag, [], []⟩
def qd1 : He.DefD := ⟨("_law_take", none), "_law_take", "_law_take", defArgs WR.s__law_take, defBody WR.s__law_take, defScope WR.s__law_take, [], []⟩
def qd2 : He.DefD := ⟨("_law_any", none), "_law_any", "_law_any", defArgs WR.s__law_any, defBody WR.s__law_any, defScope WR.s__law_any, [], []⟩
def qd3 : He.DefD := ⟨("_law_word", none), "_law_word", "_law_word", defArgs WR.s__law_word, defBody WR.s__law_word, defScope WR.s__law_word, [], []⟩
def qd4 : He.DefD := ⟨("_law_named_right", none), "_law_named_right", "_law_named_right", defArgs WR.s__law_named_right, defBody WR.s__law_named_right, defScope WR.s__law_named_right, [], []⟩
def qd5 : He.DefD := ⟨("_law_pairs_right", none), "_law_pairs_right", "_law_pairs_right", defArgs WR.s__law_pairs_right, defBody WR.s__law_pairs_right, defScope WR.s__law_pairs_right, [], []⟩
def qd6 : He.DefD := ⟨("law", none), "law", "law", defArgs WR.s_law, defBody WR.s_law, defScope WR.s_law, [], []⟩
def qc0 : He.DefD := ⟨("NoName", some "__init__"), "__init__", "NoName.__init__", defArgs WR.s_NoName___init__, defBody WR.s_NoName___init__, defScope WR.s_NoName___init__, [], []⟩
def qc1 : He.DefD := ⟨("NoBases", some "__init__"), "__init__", "NoBases.__init__", defArgs WR.s_NoBases___init__, defBody WR.s_NoBases___init__, defScope WR.s_NoBases___init__, [], []⟩
def qc2 : He.DefD := ⟨("NoLine", some "__init__"), "__init__", "NoLine.__init__", defArgs WR.s_NoLine___init__, defBody WR.s_NoLine___init__, defScope WR.s_NoLine___init__, [], []⟩
def qc3 : He.DefD := ⟨("NoMerge", some "__init__"), "__init__", "NoMerge.__init__", defArgs WR.s_NoMerge___init__, defBody WR.s_NoMerge___init__, defScope WR.s_NoMerge___init__, [], []⟩
def qc4 : He.DefD := ⟨("NoCall", some "__init__"), "__init__", "NoCall.__init__", defArgs WR.s_NoCall___init__, defBody WR.s_NoCall___init__, defScope WR.s_NoCall___init__, [], []⟩
def qc5 : He.DefD := ⟨("NoBody", some "__init__"), "__init__", "NoBody.__init__", defArgs WR.s_NoBody___init__, defBody WR.s_NoBody___init__, defScope WR.s_NoBody___init__, [], []⟩
def qc6 : He.DefD := ⟨("NoChain", some "__init__"), "__init__", "NoChain.__init__", defArgs WR.s_NoChain___init__, defBody WR.s_NoChain___init__, defScope WR.s_NoChain___init__, [], []⟩
def qc7 : He.DefD := ⟨("NoText", some "__init__"), "__init__", "NoText.__init__", defArgs WR.s_NoText___init__, defBody WR.s_NoText___init__, defScope WR.s_NoText___init__, [], []⟩
def qc8 : He.DefD := ⟨("NoKind", some "__init__"), "__init__", "NoKind.__init__", defArgs WR.s_NoKind___init__, defBody WR.s_NoKind___init__, defScope WR.s_NoKind___init__, [], []⟩
def qc9 : He.DefD := ⟨("NoObject", some "__init__"), "__init__", "NoObject.__init__", defArgs WR.s_NoObject___init__, defBody WR.s_NoObject___init__, defScope WR.s_NoObject___init__, [], []⟩
def qc10 : He.DefD := ⟨("NoOpen", some "__init__"), "__init__", "NoOpen.__init__", defArgs WR.s_NoOpen___init__, defBody WR.s_NoOpen___init__, defScope WR.s_NoOpen___init__, [], []⟩
def qc11 : He.DefD := ⟨("Absent", some "__init__"), "__init__", "Absent.__init__", defArgs WR.s_Absent___init__, defBody WR.s_Absent___init__, defScope WR.s_Absent___init__, [], []⟩
def qc12 : He.DefD := ⟨("NoDefiner", some "__init__"), "__init__", "NoDefiner.__init__", defArgs WR.s_NoDefiner___init__, defBody WR.s_NoDefiner___init__, defScope WR.s_NoDefiner___init__, [], []⟩
def qc13 : He.DefD := ⟨("Taken", some "__init__"), "__init__", "Taken.__init__", defArgs WR.s_Taken___init__, defBody WR.s_Taken___init__, defScope WR.s_Taken___init__, [], []⟩
def qc14 : He.DefD := ⟨("InUse", some "__init__"), "__init__", "InUse.__init__", defArgs WR.s_InUse___init__, defBody WR.s_InUse___init__, defScope WR.s_InUse___init__, [], []⟩
def qc15 : He.DefD := ⟨("Busy", some "__init__"), "__init__", "Busy.__init__", defArgs WR.s_Busy___init__, defBody WR.s_Busy___init__, defScope WR.s_Busy___init__, [], []⟩
def qc16 : He.DefD := ⟨("TooDeep", some "__init__"), "__init__", "TooDeep.__init__", defArgs WR.s_TooDeep___init__, defBody WR.s_TooDeep___init__, defScope WR.s_TooDeep___init__, [], []⟩
def fx0 : List Hx.Te := [
  fun K => decide (PySem.W.nsIn K mainGlobals "_law_bag" = some (some (.ref (He.ga K "_law_bag")))),
  fun K => decide (PySem.W.nsIn K mainGlobals "_law_take" = some (some (.ref (He.ga K "_law_take")))),
  fun K => decide (PySem.W.nsIn K mainGlobals "_law_any" = some (some (.ref (He.ga K "_law_any")))),
  fun K => decide (PySem.W.nsIn K mainGlobals "_law_word" = some (some (.ref (He.ga K "_law_word")))),
  fun K => decide (PySem.W.nsIn K mainGlobals "_law_named_right" = some (some (.ref (He.ga K "_law_named_right")))),
  fun K => decide (PySem.W.nsIn K mainGlobals "_law_pairs_right" = some (some (.ref (He.ga K "_law_pairs_right")))),
  fun K => decide (PySem.W.nsIn K mainGlobals "law" = some (some (.ref (He.ga K "law")))),
  fun K => decide (∀ y ∈ (["NoName", "NoBases", "NoLine", "NoMerge", "NoCall", "NoBody", "NoChain", "NoRegistry", "NoText", "NoCommand", "NoKind", "NoObject", "NoOpen", "Absent", "NoDefiner", "Taken", "InUse", "Busy", "Nothing", "TooMany", "TooLong", "TooDeep"] : List Str), PySem.W.nsIn K mainGlobals y = some (some (.ref ((He.ga K) y)))),
  fun K => decide (∀ x ∈ (["NoName", "NoBases", "NoLine", "NoMerge", "NoCall", "NoBody", "NoChain", "NoRegistry", "NoText", "NoCommand", "NoKind", "NoObject", "NoOpen", "Absent", "NoDefiner", "Taken", "InUse", "Busy", "Nothing", "TooMany", "TooLong", "TooDeep"] : List Str), ∀ y ∈ (["NoName", "NoBases", "NoLine", "NoMerge", "NoCall", "NoBody", "NoChain", "NoRegistry", "NoText", "NoCommand", "NoKind", "NoObject", "NoOpen", "Absent", "NoDefiner", "Taken", "InUse", "Busy", "Nothing", "TooMany", "TooLong", "TooDeep"] : List Str), PySem.W.kitOne K (.ref ((He.ga K) x)) (.ref ((He.ga K) y)) = some (decide (x = y))),
  fun K => decide ((["ValueError", "KeyError", "LookupError", "RuntimeError", "OverflowError"] : List String).map (fun T => PySem.W.kitOne K (.ref ((He.ga K) "NoName")) (.type T)) = ([true, false, false, false, false] : List Bool).map some),
  fun K => decide ((["ValueError", "KeyError", "LookupError", "RuntimeError", "OverflowError"] : List String).map (fun T => PySem.W.kitOne K (.ref ((He.ga K) "NoBases")) (.type T)) = ([true, false, false, false, false] : List Bool).map some),
  fun K => decide ((["ValueError", "KeyError", "LookupError", "RuntimeError", "OverflowError"] : List String).map (fun T => PySem.W.kitOne K (.ref ((He.ga K) "NoLine")) (.type T)) = ([true, false, false, false, false] : List Bool).map some),
  fun K => decide ((["ValueError", "KeyError", "LookupError", "RuntimeError", "OverflowError"] : List String).map (fun T => PySem.W.kitOne K (.ref ((He.ga K) "NoMerge")) (.type T)) = ([true, false, false, false, false] : List Bool).map some),
  fun K => decide ((["ValueError", "KeyError", "LookupError", "RuntimeError", "OverflowError"] : List String).map (fun T => PySem.W.kitOne K (.ref ((He.ga K) "NoCall")) (.type T)) = ([true, false, false, false, false] : List Bool).map some),
  fun K => decide ((["ValueError", "KeyError", "LookupError", "RuntimeError", "OverflowError"] : List String).map (fun T => PySem.W.kitOne K (.ref ((He.ga K) "NoBody")) (.type T)) = ([true, false, false, false, false] : List Bool).map some),
  fun K => decide ((["ValueError", "KeyError", "LookupError", "RuntimeError", "OverflowError"] : List String).map (fun T => PySem.W.kitOne K (.ref ((He.ga K) "NoChain")) (.type T)) = ([true, false, false, false, false] : List Bool).map some),
  fun K => decide ((["ValueError", "KeyError", "LookupError", "RuntimeError", "OverflowError"] : List String).map (fun T => PySem.W.kitOne K (.ref ((He.ga K) "NoRegistry")) (.type T)) = ([true, false, false, false, false] : List Bool).map some),
  fun K => decide ((["ValueError", "KeyError", "LookupError", "RuntimeError", "OverflowError"] : List String).map (fun T => PySem.W.kitOne K (.ref ((He.ga K) "NoText")) (.type T)) = ([true, false, false, false, false] : List Bool).map some),
  fun K => decide ((["ValueError", "KeyError", "LookupError", "RuntimeError", "OverflowError"] : List String).map (fun T => PySem.W.kitOne K (.ref ((He.ga K) "NoCommand")) (.type T)) = ([true, false, false, false, false] : List Bool).map some),
  fun K => decide ((["ValueError", "KeyError", "LookupError", "RuntimeError", "OverflowError"] : List String).map (fun T => PySem.W.kitOne K (.ref ((He.ga K) "NoKind")) (.type T)) = ([false, true, true, false, false] : List Bool).map some),
  fun K => decide ((["ValueError", "KeyError", "LookupError", "RuntimeError", "OverflowError"] : List String).map (fun T => PySem.W.kitOne K (.ref ((He.ga K) "NoObject")) (.type T)) = ([false, true, true, false, false] : List Bool).map some),
  fun K => decide ((["ValueError", "KeyError", "LookupError", "RuntimeError", "OverflowError"] : List String).map (fun T => PySem.W.kitOne K (.ref ((He.ga K) "NoOpen")) (.type T)) = ([false, true, true, false, false] : List Bool).map some),
  fun K => decide ((["ValueError", "KeyError", "LookupError", "RuntimeError", "OverflowError"] : List String).map (fun T => PySem.W.kitOne K (.ref ((He.ga K) "Absent")) (.type T)) = ([false, false, true, false, false] : List Bool).map some),
  fun K => decide ((["ValueError", "KeyError", "LookupError", "RuntimeError", "OverflowError"] : List String).map (fun T => PySem.W.kitOne K (.ref ((He.ga K) "NoDefiner")) (.type T)) = ([false, false, true, false, false] : List Bool).map some),
  fun K => decide ((["ValueError", "KeyError", "LookupError", "RuntimeError", "OverflowError"] : List String).map (fun T => PySem.W.kitOne K (.ref ((He.ga K) "Taken")) (.type T)) = ([false, false, false, true, false] : List Bool).map some)]
def fx1 : List Hx.Te := [
  fun K => decide ((["ValueError", "KeyError", "LookupError", "RuntimeError", "OverflowError"] : List String).map (fun T => PySem.W.kitOne K (.ref ((He.ga K) "InUse")) (.type T)) = ([false, false, false, true, false] : List Bool).map some),
  fun K => decide ((["ValueError", "KeyError", "LookupError", "RuntimeError", "OverflowError"] : List String).map (fun T => PySem.W.kitOne K (.ref ((He.ga K) "Busy")) (.type T)) = ([false, false, false, true, false] : List Bool).map some),
  fun K => decide ((["ValueError", "KeyError", "LookupError", "RuntimeError", "OverflowError"] : List String).map (fun T => PySem.W.kitOne K (.ref ((He.ga K) "Nothing")) (.type T)) = ([false, false, false, true, false] : List Bool).map some),
  fun K => decide ((["ValueError", "KeyError", "LookupError", "RuntimeError", "OverflowError"] : List String).map (fun T => PySem.W.kitOne K (.ref ((He.ga K) "TooMany")) (.type T)) = ([false, false, false, false, true] : List Bool).map some),
  fun K => decide ((["ValueError", "KeyError", "LookupError", "RuntimeError", "OverflowError"] : List String).map (fun T => PySem.W.kitOne K (.ref ((He.ga K) "TooLong")) (.type T)) = ([false, false, false, false, true] : List Bool).map some),
  fun K => decide ((["ValueError", "KeyError", "LookupError", "RuntimeError", "OverflowError"] : List String).map (fun T => PySem.W.kitOne K (.ref ((He.ga K) "TooDeep")) (.type T)) = ([false, false, false, false, true] : List Bool).map some),
  fun K => decide (∀ x ∈ (["NoName", "NoBases", "NoLine", "NoMerge", "NoCall", "NoBody", "NoChain", "NoText", "NoKind", "NoObject", "NoOpen", "Absent", "NoDefiner", "Taken", "InUse", "Busy", "TooDeep"] : List Str), PySem.W.findIn K (.ref ((He.ga K) x)) "__setattr__" = some (some (.builtin "object.__setattr__"))),
  fun K => decide (∀ x ∈ (["NoName", "NoBases", "NoLine", "NoMerge", "NoCall", "NoBody", "NoChain", "NoRegistry", "NoText", "NoCommand", "NoKind", "NoObject", "NoOpen", "Absent", "NoDefiner", "Taken", "InUse", "Busy", "Nothing", "TooMany", "TooLong", "TooDeep"] : List Str), PySem.W.findIn K (.ref ((He.ga K) x)) "__getattribute__" = some (some (.builtin "BaseException.__getattribute__"))),
  fun K => decide (∀ x ∈ (["NoName", "NoBases", "NoLine", "NoMerge", "NoCall", "NoBody", "NoChain", "NoRegistry", "NoText", "NoCommand", "NoKind", "NoObject", "NoOpen", "Absent", "NoDefiner", "Taken", "InUse", "Busy", "Nothing", "TooMany", "TooLong", "TooDeep"] : List Str), PySem.W.findIn K (.ref ((He.ga K) x)) "__getattr__" = some none),
  fun K => decide (∀ x ∈ (["NoName", "NoBases", "NoLine", "NoMerge", "NoCall", "NoBody", "NoChain", "NoRegistry", "NoText", "NoCommand", "NoKind", "NoObject", "NoOpen", "Absent", "NoDefiner", "Taken", "InUse", "Busy", "Nothing", "TooMany", "TooLong", "TooDeep"] : List Str), PySem.W.keepIn K (.ref ((He.ga K) x)) = true),
  fun K => decide (∀ x ∈ (["NoName", "NoBases", "NoLine", "NoMerge", "NoCall", "NoBody", "NoChain", "NoRegistry", "NoText", "NoCommand", "NoKind", "NoObject", "NoOpen", "Absent", "NoDefiner", "Taken", "InUse", "Busy", "Nothing", "TooMany", "TooLong", "TooDeep"] : List Str), PySem.W.subIn K (.ref ((He.ga K) x)) (.type "BaseException") = some true),
  fun K => decide (∀ x ∈ (["NoName", "NoBases", "NoLine", "NoMerge", "NoCall", "NoBody", "NoChain", "NoRegistry", "NoText", "NoCommand", "NoKind", "NoObject", "NoOpen", "Absent", "NoDefiner", "Taken", "InUse", "Busy", "Nothing", "TooMany", "TooLong", "TooDeep"] : List Str), PySem.W.typeIn K (.ref ((He.ga K) x)) = some (.type "type")),
  fun K => decide (∀ x ∈ (["NoName", "NoBases", "NoLine", "NoMerge", "NoCall", "NoBody", "NoChain", "NoRegistry", "NoText", "NoCommand", "NoKind", "NoObject", "NoOpen", "Absent", "NoDefiner", "Taken", "InUse", "Busy", "Nothing", "TooMany", "TooLong", "TooDeep"] : List Str), PySem.W.hasDictIn K ((He.ga K) x) = true),
  fun K => decide (∀ x ∈ (["NoName", "NoBases", "NoLine", "NoMerge", "NoCall", "NoBody", "NoChain", "NoRegistry", "NoText", "NoCommand", "NoKind", "NoObject", "NoOpen", "Absent", "NoDefiner", "Taken", "InUse", "Busy", "Nothing", "TooMany", "TooLong", "TooDeep"] : List Str), PySem.W.findIn K (.ref ((He.ga K) x)) "__class__" = some (some (.builtin "object.__class__"))),
  fun K => decide (∀ x ∈ (["NoName", "NoBases", "NoLine", "NoMerge", "NoCall", "NoBody", "NoChain", "NoRegistry", "NoText", "NoCommand", "NoKind", "NoObject", "NoOpen", "Absent", "NoDefiner", "Taken", "InUse", "Busy", "Nothing", "TooMany", "TooLong", "TooDeep"] : List Str), PySem.W.mroIn K ((He.ga K) x) (.type "object") = some true),
  fun K => decide (∀ p ∈ ([("NoName", "name"), ("NoBases", "at"), ("NoLine", "kind"), ("NoLine", "ring"), ("NoMerge", "ring"), ("NoCall", "call"), ("NoBody", "at"), ("NoChain", "at"), ("NoText", "at"), ("NoKind", "name"), ("NoObject", "number"), ("NoOpen", "number"), ("Absent", "kind"), ("Absent", "call"), ("NoDefiner", "definer"), ("Taken", "name"), ("InUse", "name"), ("Busy", "number"), ("TooDeep", "number")] : List (Str × Str)), PySem.W.findIn K (.ref ((He.ga K) p.1)) p.2 = some none),
  fun K => decide (∀ x ∈ (["NoName", "NoBases", "NoLine", "NoMerge", "NoCall", "NoBody", "NoChain", "NoText"] : List Str), Hq.oexB2 K ((He.ga K) x) "ValueError.__new__" ["ValueError", "Exception", "BaseException", "object"] = true),
  fun K => decide (∀ x ∈ (["NoRegistry", "NoCommand"] : List Str), PySem.W.excIn K ((He.ga K) x) [.type "ValueError", .type "Exception", .type "BaseException", .type "object"] "ValueError.__new__" = true),
  fun K => decide (∀ x ∈ (["NoKind", "NoObject", "NoOpen"] : List Str), Hq.oexB2 K ((He.ga K) x) "LookupError.__new__" ["KeyError", "LookupError", "Exception", "BaseException", "object"] = true),
  fun K => decide (∀ x ∈ (["Absent", "NoDefiner"] : List Str), Hq.oexB2 K ((He.ga K) x) "LookupError.__new__" ["LookupError", "Exception", "BaseException", "object"] = true),
  fun K => decide (∀ x ∈ (["Taken", "InUse", "Busy"] : List Str), Hq.oexB2 K ((He.ga K) x) "RuntimeError.__new__" ["RuntimeError", "Exception", "BaseException", "object"] = true),
  fun K => decide (∀ x ∈ (["Nothing"] : List Str), PySem.W.excIn K ((He.ga K) x) [.type "RuntimeError", .type "Exception", .type "BaseException", .type "object"] "RuntimeError.__new__" = true),
  fun K => decide (∀ x ∈ (["TooDeep"] : List Str), Hq.oexB2 K ((He.ga K) x) "OverflowError.__new__" ["OverflowError", "ArithmeticError", "Exception", "BaseException", "object"] = true),
  fun K => decide (∀ x ∈ (["TooMany", "TooLong"] : List Str), PySem.W.excIn K ((He.ga K) x) [.type "OverflowError", .type "ArithmeticError", .type "Exception", .type "BaseException", .type "object"] "OverflowError.__new__" = true),
  fun K => decide (PySem.W.findIn K (.ref ((He.ga K) "NoName")) "__init__" = some (some (.ref (He.ma K (He.ga K "NoName") "__init__"))))]
def fx2 : List Hx.Te := [
  fun K => decide (PySem.W.typeIn K (.ref (He.ma K (He.ga K "NoName") "__init__")) = some (.type "function")),
  fun K => decide (PySem.W.findIn K (.ref ((He.ga K) "NoBases")) "__init__" = some (some (.ref (He.ma K (He.ga K "NoBases") "__init__")))),
  fun K => decide (PySem.W.typeIn K (.ref (He.ma K (He.ga K "NoBases") "__init__")) = some (.type "function")),
  fun K => decide (PySem.W.findIn K (.ref ((He.ga K) "NoLine")) "__init__" = some (some (.ref (He.ma K (He.ga K "NoLine") "__init__")))),
  fun K => decide (PySem.W.typeIn K (.ref (He.ma K (He.ga K "NoLine") "__init__")) = some (.type "function")),
  fun K => decide (PySem.W.findIn K (.ref ((He.ga K) "NoMerge")) "__init__" = some (some (.ref (He.ma K (He.ga K "NoMerge") "__init__")))),
  fun K => decide (PySem.W.typeIn K (.ref (He.ma K (He.ga K "NoMerge") "__init__")) = some (.type "function")),
  fun K => decide (PySem.W.findIn K (.ref ((He.ga K) "NoCall")) "__init__" = some (some (.ref (He.ma K (He.ga K "NoCall") "__init__")))),
  fun K => decide (PySem.W.typeIn K (.ref (He.ma K (He.ga K "NoCall") "__init__")) = some (.type "function")),
  fun K => decide (PySem.W.findIn K (.ref ((He.ga K) "NoBody")) "__init__" = some (some (.ref (He.ma K (He.ga K "NoBody") "__init__")))),
  fun K => decide (PySem.W.typeIn K (.ref (He.ma K (He.ga K "NoBody") "__init__")) = some (.type "function")),
  fun K => decide (PySem.W.findIn K (.ref ((He.ga K) "NoChain")) "__init__" = some (some (.ref (He.ma K (He.ga K "NoChain") "__init__")))),
  fun K => decide (PySem.W.typeIn K (.ref (He.ma K (He.ga K "NoChain") "__init__")) = some (.type "function")),
  fun K => decide (PySem.W.findIn K (.ref ((He.ga K) "NoText")) "__init__" = some (some (.ref (He.ma K (He.ga K "NoText") "__init__")))),
  fun K => decide (PySem.W.typeIn K (.ref (He.ma K (He.ga K "NoText") "__init__")) = some (.type "function")),
  fun K => decide (PySem.W.findIn K (.ref ((He.ga K) "NoKind")) "__init__" = some (some (.ref (He.ma K (He.ga K "NoKind") "__init__")))),
  fun K => decide (PySem.W.typeIn K (.ref (He.ma K (He.ga K "NoKind") "__init__")) = some (.type "function")),
  fun K => decide (PySem.W.findIn K (.ref ((He.ga K) "NoObject")) "__init__" = some (some (.ref (He.ma K (He.ga K "NoObject") "__init__")))),
  fun K => decide (PySem.W.typeIn K (.ref (He.ma K (He.ga K "NoObject") "__init__")) = some (.type "function")),
  fun K => decide (PySem.W.findIn K (.ref ((He.ga K) "NoOpen")) "__init__" = some (some (.ref (He.ma K (He.ga K "NoOpen") "__init__")))),
  fun K => decide (PySem.W.typeIn K (.ref (He.ma K (He.ga K "NoOpen") "__init__")) = some (.type "function")),
  fun K => decide (PySem.W.findIn K (.ref ((He.ga K) "Absent")) "__init__" = some (some (.ref (He.ma K (He.ga K "Absent") "__init__")))),
  fun K => decide (PySem.W.typeIn K (.ref (He.ma K (He.ga K "Absent") "__init__")) = some (.type "function")),
  fun K => decide (PySem.W.findIn K (.ref ((He.ga K) "NoDefiner")) "__init__" = some (some (.ref (He.ma K (He.ga K "NoDefiner") "__init__")))),
  fun K => decide (PySem.W.typeIn K (.ref (He.ma K (He.ga K "NoDefiner") "__init__")) = some (.type "function"))]
def fx3 : List Hx.Te := [
  fun K => decide (PySem.W.findIn K (.ref ((He.ga K) "Taken")) "__init__" = some (some (.ref (He.ma K (He.ga K "Taken") "__init__")))),
  fun K => decide (PySem.W.typeIn K (.ref (He.ma K (He.ga K "Taken") "__init__")) = some (.type "function")),
  fun K => decide (PySem.W.findIn K (.ref ((He.ga K) "InUse")) "__init__" = some (some (.ref (He.ma K (He.ga K "InUse") "__init__")))),
  fun K => decide (PySem.W.typeIn K (.ref (He.ma K (He.ga K "InUse") "__init__")) = some (.type "function")),
  fun K => decide (PySem.W.findIn K (.ref ((He.ga K) "Busy")) "__init__" = some (some (.ref (He.ma K (He.ga K "Busy") "__init__")))),
  fun K => decide (PySem.W.typeIn K (.ref (He.ma K (He.ga K "Busy") "__init__")) = some (.type "function")),
  fun K => decide (PySem.W.findIn K (.ref ((He.ga K) "TooDeep")) "__init__" = some (some (.ref (He.ma K (He.ga K "TooDeep") "__init__")))),
  fun K => decide (PySem.W.typeIn K (.ref (He.ma K (He.ga K "TooDeep") "__init__")) = some (.type "function")),
  fun K => decide (PySem.W.specialIn K (.builtin "object.__class__") "__get__" = some (some (.builtin "getset_descriptor.__get__"))),
  fun K => decide (PySem.W.takesIn K (.builtin "object.__class__") = some true),
  fun K => decide (PySem.W.nsIn K mainGlobals "any" = some none),
  fun K => decide (PySem.W.nsIn K mainGlobals "all" = some none),
  fun K => decide (PySem.W.nsIn K mainGlobals "len" = some none),
  fun K => decide (PySem.W.nsIn K mainGlobals "min" = some none),
  fun K => decide (PySem.W.nsIn K mainGlobals "max" = some none),
  fun K => decide (PySem.W.nsIn K mainGlobals "abs" = some none),
  fun K => decide (PySem.W.nsIn K mainGlobals "isinstance" = some none),
  fun K => decide (PySem.W.nsIn K mainGlobals "tuple" = some none),
  fun K => decide (PySem.W.nsIn K mainGlobals "list" = some none),
  fun K => decide (PySem.W.nsIn K mainGlobals "sorted" = some none),
  fun K => decide (PySem.W.nsIn K mainGlobals "sum" = some none),
  fun K => decide (PySem.W.nsIn K mainGlobals "str" = some none),
  fun K => decide (PySem.W.nsIn K mainGlobals "int" = some none),
  fun K => decide (PySem.W.nsIn K mainGlobals "bool" = some none),
  fun K => decide (PySem.W.nsIn K mainGlobals "range" = some none)]
def fx4 : List Hx.Te := [
  fun K => decide (PySem.W.nsIn K mainGlobals "enumerate" = some none),
  fun K => decide (PySem.W.nsIn K mainGlobals "zip" = some none),
  fun K => decide (PySem.W.nsIn K mainGlobals "repr" = some none),
  fun K => decide (PySem.W.nsIn K mainGlobals "ValueError" = some none),
  fun K => decide (PySem.W.nsIn K mainGlobals "KeyError" = some none),
  fun K => decide (PySem.W.nsIn K mainGlobals "LookupError" = some none),
  fun K => decide (PySem.W.nsIn K mainGlobals "RuntimeError" = some none),
  fun K => decide (PySem.W.nsIn K mainGlobals "OverflowError" = some none)]
def fx : List (List Hx.Te) := [fx0, fx1, fx2, fx3, fx4]
def fn : List He.DefD := [qd0, qd1, qd2, qd3, qd4, qd5, qd6, qc0, qc1, qc2, qc3, qc4, qc5, qc6, qc7, qc8, qc9, qc10, qc11, qc12, qc13, qc14, qc15, qc16]
def pf : List Hq.PFn := []
def tf : List He.Defn := []
def loose0 : List Str := [("NoName" : Str), ("NoBases" : Str), ("NoLine" : Str), ("NoMerge" : Str), ("NoCall" : Str), ("NoBody" : Str), ("NoChain" : Str), ("NoRegistry" : Str), ("NoText" : Str), ("NoCommand" : Str), ("NoKind" : Str), ("NoObject" : Str), ("NoOpen" : Str), ("Absent" : Str), ("NoDefiner" : Str), ("Taken" : Str), ("InUse" : Str), ("Busy" : Str), ("Nothing" : Str), ("TooMany" : Str)]
def loose1 : List Str := [("TooLong" : Str), ("TooDeep" : Str), ("_law_bag" : Str), ("_law_take" : Str), ("_law_any" : Str), ("_law_word" : Str), ("_law_named_right" : Str), ("_law_pairs_right" : Str)]
def loose : List Str := loose0 ++ loose1
abbrev Rr : PySem.W.OpenRow := PySem.W.OpenLaw.row PySem.Challenge.rw_openlines_k01_errors_made
abbrev hk : PySem.W.Hook := Hq.hookP 4 fn tf (Hy.exB fx) pf
def ob (s : PySem.W.SharedT) : Hq.AlP := Hq.obsP 4 fn tf (Hy.exB fx) pf (HandSHeadRun.getT s)
theorem ob_eq (s : PySem.W.SharedT) : ob s = hk.obs s.abs := Hq.obsP_eq (HandSHeadRun.getT_eq s)
theorem run (w : World) : HandSHeadRun.RunEq Rr (PySem.W.view Rr.prog [30]) hk ob 9000 loose w := by
  intro os
  kernel_rfl
end K01
end
section
set_option Elab.async false
set_option linter.all false
namespace D
open PySem PySem.Spec L2 PyProof.Rows
structure FnGd (P : Program) (w : World) (K : PySem.W.Frag) (mg : Str → Option Value) (base : Heap) (CX : CXT) (k : Nat) (f : Addr) (fd : FuncData) (ps : List Str) (sp : Sp) : Prop where
  go : ∀ (A : Around) (outer : List Env) (s : Shared) (H : Hp) (args : Args) (us : List Value) (vs : List V) (Q : VK) (E : XK), Room k A → A.guards = some [] → Env0 P w K mg base A outer s H → BindsTo s fd args (ps.zip us) → Vals vs us → sp vs H Q E →
    codeAny (model P w) A (.call (.ref f) args) (CR CX outer P w H s Q E) s
end D
end
section
set_option Elab.async false
set_option linter.all false
set_option maxRecDepth 100000
set_option maxHeartbeats 2000000
namespace HyG
open PySem PySem.Spec PyProof.Rows L2 LamX
open D (FnGd)
/-- what is tracked as the law is called: the tables, the script if it is no thing of the top -/
def lawH (K : PySem.W.Frag) (T : List Addr) (a : Addr) (o : Obj) (xs : List V) : Hp := fun b => if b ∈ T then some (.tbl #[]) else if (b == a && (K.lookup a).isNone) = true then some (.frz o (.lst xs)) else none
section
variable {K : PySem.W.Frag} {T : List Addr} {a b : Addr} {o : Obj} {xs : List V}
theorem lawH_tab (h : b ∈ T) : lawH K T a o xs b = some (.tbl #[]) := if_pos h
theorem lawH_of {u : HO} (h : lawH K T a o xs b = some u) : (b ∈ T ∧ u = .tbl #[]) ∨ (b = a ∧ K.lookup a = none ∧ u = .frz o (.lst xs)) := by
  unfold lawH at h
  split at h
  · rename_i hb
    exact .inl ⟨hb, (Option.some.inj h).symm⟩
  · split at h
    · rename_i hb
      rw [Bool.and_eq_true, beq_iff_eq, Option.isNone_iff_eq_none] at hb
      exact .inr ⟨hb.1, hb.2, (Option.some.inj h).symm⟩
    · cases h
theorem lawH_list (ha : a ∉ T) (hk : K.lookup a = none) : lawH K T a o xs a = some (.frz o (.lst xs)) := by
  unfold lawH
  rw [if_neg ha, hk]
  simp
end
/-- the law is called -/
theorem law_goG {P : Program} {w : World} {K : PySem.W.Frag} {mg mb : Str → Option Value} {CX : CXT} {k : Nat} {fa a : Addr} {cs : List (Addr × Addr)} {fd : FuncData} {x : Str} {sp : Sp} {st : Shared} {vs : List Value} {ns : List Int}
    (kin : K.In st.heap) (glob : st.heap.Ns mainGlobals mg) (blt : st.heap.Ns builtinsNs mb) (boot : ∀ x : Str, x ≠ "__name__" → mb x = bootBuiltins x) (lim : st.heap.NoLimit) (gens : st.gens = #[])
    (tabs : ∀ p ∈ cs, st.heap.get? p.2 = some { cls := .none, data := .fields #[] }) (tout : ∀ p ∈ cs, K.lookup p.2 = none) (codes : ∀ p ∈ cs, PySem.W.CodeHd st.heap p.1 p.2)
    (bmod : ∃ (bm : Addr) (ob : Obj), mg "__builtins__" = some (.ref bm) ∧ bm ≠ builtinsNs ∧ st.heap.get? bm = some ob ∧ ob.cls = .type "module" ∧ ob.dict = some builtinsNs ∧ ob.data = .plain)
    (script : st.heap.get? a = some { cls := .type "list", data := .seq vs.toArray }) (nums : IntsAre vs ns) (few : ns.length ≤ sizeLine) (room : Room k callerA)
    (F : ∀ base : Heap, K.In base → base.Ns mainGlobals mg → (∀ p ∈ cs, TabB base mg p.1 p.2) → FnGd P w K mg base CX k fa fd [x] sp) (bind : ∀ (s : Shared) (u : Value), BindsTo s fd ⟨[u], []⟩ [(x, u)])
    (told : ∀ H : Hp, (∀ p ∈ cs, H p.2 = some (.tbl #[])) → SqL K H a (ns.map V.int) → sp [.ref a] H (fun v _ => v = .bl true) fun _ _ _ => False)
    (calm : ∀ H e s', CX [] H st (fun _ _ _ => False) e s' → False) :
    codeAny (model P w) callerA (.call (.ref fa) ⟨[.ref a], []⟩) (fun r s' => r = .ok (.ret (.bool true)) ∧ OldK st.heap s'.heap ∧ s'.os = st.os ∧ AllBare s'.gens) st := by
  obtain ⟨T, hT⟩ : ∃ T, T = cs.map (·.2) := ⟨_, rfl⟩
  have inT : ∀ p ∈ cs, p.2 ∈ T := fun p hp => by rw [hT]; exact List.mem_map.mpr ⟨p, hp, rfl⟩
  have ofT : ∀ b ∈ T, ∃ p ∈ cs, p.2 = b := fun b hb => by rw [hT] at hb; exact List.mem_map.mp hb
  have atT : ∀ b ∈ T, st.heap.get? b = some { cls := .none, data := .fields #[] } := fun b hb => by
    obtain ⟨p, hp, rfl⟩ := ofT b hb
    exact tabs p hp
  have aT : a ∉ T := fun z => by
    have := (atT a z).symm.trans script
    cases this
  have rv := vals_ints nums
  obtain ⟨H, hH⟩ : ∃ H, H = lawH K T a { cls := .type "list", data := .seq vs.toArray } (ns.map V.int) := ⟨_, rfl⟩
  have Hof : ∀ {b u}, H b = some u → (b ∈ T ∧ u = .tbl #[]) ∨ (b = a ∧ K.lookup a = none ∧ u = .frz { cls := .type "list", data := .seq vs.toArray } (.lst (ns.map V.int))) := fun {b u} e => by rw [hH] at e; exact lawH_of e
  have Htab : ∀ b ∈ T, H b = some (.tbl #[]) := fun b hb => by rw [hH]; exact lawH_tab hb
  -- an object of another form is not tracked
  have free : ∀ {b : Addr} {ob : Obj}, st.heap.get? b = some ob → (∀ its n, ob.data ≠ .seq its n) → ob.data ≠ .fields #[] → H b = none := fun {b ob} e h1 h2 => by
    cases q : H b with
    | none => rfl
    | some u =>
      rcases Hof q with ⟨hb, _⟩ | ⟨rfl, _⟩
      · have := (atT b hb).symm.trans e
        exact (h2 (by cases this; rfl)).elim
      · have := script.symm.trans e
        exact (h1 vs.toArray 0 (by cases this; rfl)).elim
  have see : ∀ {b : Addr} {ob : Obj}, st.heap.get? b = some ob → (∀ its n, ob.data ≠ .seq its n) → ob.data ≠ .fields #[] → (hidT st.heap H).get? b = some ob := fun e h1 h2 => hidT_get e (free e h1 h2)
  have seeNs : ∀ {b : Addr} {m : Str → Option Value}, st.heap.Ns b m → (hidT st.heap H).Ns b m := fun {b m} h => by
    obtain ⟨ob, es, ep, e, hd, r⟩ := h
    exact ⟨ob, es, ep, see e (fun its n z => by rw [hd] at z; cases z) (fun z => by rw [hd] at z; cases z), hd, r⟩
  have kin2 : K.In (hidT st.heap H) := fun b ob e => hidT_get (kin b ob e) (by
    cases q : H b with
    | none => rfl
    | some u =>
      rcases Hof q with ⟨hb, _⟩ | ⟨rfl, hk, _⟩
      · obtain ⟨p, hp, rfl⟩ := ofT b hb
        rw [tout p hp] at e
        cases e
      · rw [hk] at e
        cases e)
  have bases : ∀ p ∈ cs, TabB (hidT st.heap H) mg p.1 p.2 := fun p hp => by
    obtain ⟨oc, us, file, tf, flags, tg, inF, text, tt, c1, c2, c3, c4, c5⟩ := codes p hp
    obtain ⟨bm, ob, b1, b2, b3, b4, b5, b6⟩ := bmod
    refine ⟨⟨oc, us, file, tf, flags, tg, inF, text, tt, see c1 (fun its n z => by rw [c3] at z; cases z) (fun z => ?_), c2, c3, c4, c5⟩, ⟨bm, ob, b1, b2, fun z => ?_, fun z => ?_, see b3 (fun its n z => by rw [b6] at z; cases z) (fun z => by rw [b6] at z; cases z), b4, b5, b6⟩, fun z => ?_⟩
    · rw [c3] at z
      cases z
      simp at c4
    · obtain ⟨og, es, ep, e, hd, _⟩ := glob
      rw [z] at b3
      have := e.symm.trans b3
      cases this
      rw [hd] at b6
      cases b6
    · rw [z] at b3
      have := (tabs p hp).symm.trans b3
      cases this
      cases b6
    · obtain ⟨og, es, ep, e, hd, _⟩ := glob
      rw [z] at e
      have := (tabs p hp).symm.trans e
      cases this
      cases hd
  have hok : HOk P w H st.heap := fun b u e => by
    rcases Hof e with ⟨hb, rfl⟩ | ⟨rfl, _, rfl⟩
    · exact atT b hb
    · exact ⟨script, by rw [List.length_map]; exact few, vs, _, rv, script⟩
  have sql : SqL K H a (ns.map V.int) := by
    cases hk : K.lookup a with
    | none => exact .inl (.inr ⟨_, by rw [hH]; exact lawH_list aT hk⟩)
    | some oa =>
      have := (kin a oa hk).symm.trans script
      cases this
      exact .inr ⟨_, vs.toArray, _, hk, rfl, rfl, rfl, by rw [List.size_toArray, nums.length]; exact few, by simpa using rv⟩
  have env : Env0 P w K mg (hidT st.heap H) callerA [] st H :=
    { frames := rfl, mod := ⟨kin2, seeNs glob, ⟨mb, seeNs blt, boot⟩, by obtain ⟨mc, l1, l2⟩ := lim; exact ⟨mc, seeNs l1, l2⟩⟩, bs := fun b ob e => of_hidT e, bsz := Nat.le_of_eq (hidT_size _ _), funs := trivial, frf := fun b hb => (nomatch hb), hok := hok, bare := .of_eq gens }
  have run := (F _ kin2 (seeNs glob) bases).go callerA [] st H ⟨[.ref a], []⟩ [.ref a] [.ref a] _ _ room rfl env (bind st (.ref a)) (.cons rfl .nil) (told H (fun p hp => Htab _ (inT p hp)) sql)
  refine codeAny_mono run fun r s' h => ?_
  match r, h with
  | .error e, h => exact (calm H e s' h).elim
  | .ok (.ret u), h =>
    obtain ⟨v, H', os, bare, un, hok', rel, q⟩ := h
    have q : v = .bl true := q
    subst q
    obtain rfl : u = Value.bool true := rel
    have grown : ∀ b ∈ T, ∃ more : Array Value, s'.heap.get? b = some { cls := .none, data := .fields more } := fun b hb => by
      obtain ⟨more, z⟩ := un.tbls b #[] (Htab b hb)
      exact ⟨_, hok' b _ z⟩
    have kept : ∀ b ob, b ∉ T → st.heap.get? b = some ob → s'.heap.get? b = some ob := fun b ob nb e => by
      cases q : H b with
      | none => exact un.keep b ob e q (fun z => nomatch z) (fun z => nomatch z)
      | some u =>
        rcases Hof q with ⟨hb, _⟩ | ⟨rfl, _, rfl⟩
        · exact absurd hb nb
        · have := (hok' b _ (un.frzs b _ _ q)).1
          have e2 := script.symm.trans e
          cases e2
          exact this
    refine ⟨rfl, ⟨fun b ob e => ?_, fun b ob e => ?_⟩, os, bare⟩
    · by_cases hb : b ∈ T
      · obtain ⟨more, hm⟩ := grown b hb
        obtain ⟨p, hp, rfl⟩ := ofT b hb
        have e2 := (tabs p hp).symm.trans e
        cases e2
        exact .inr (.inl ⟨((codes p hp).tab (tabs p hp)).isCodeTable, rfl, #[], more, rfl, by rw [Array.empty_append]; exact hm⟩)
      · exact .inl (kept b ob hb e)
    · by_cases hb : b ∈ T
      · obtain ⟨more, hm⟩ := grown b hb
        exact ⟨_, hm⟩
      · exact ⟨ob, kept b ob hb e⟩
  | .ok .next, h => exact False.elim h
  | .ok .brk, h => exact False.elim h
  | .ok .cont, h => exact False.elim h
/-- what is known of the law's promise where the head ends -/
def LawAtG (l : PySem.W.OpenLaw) (w : World) (K : PySem.W.Frag) (CX : CXT) (k n : Nat) (x : Str) (mg : Str → Option Value) (fa : Addr) (h : Heap) : Prop :=
  ∃ (fd : FuncData) (cs : List (Addr × Addr)) (sp : Sp), (∀ p ∈ cs, h.get? p.2 = some { cls := .none, data := .fields #[] }) ∧ (∀ p ∈ cs, K.lookup p.2 = none) ∧ (∀ p ∈ cs, PySem.W.CodeHd h p.1 p.2) ∧ (∀ (s : Shared) (u : Value), BindsTo s fd ⟨[u], []⟩ [(x, u)]) ∧
    (∀ (H : Hp) (a : Addr) (ns : List Int), ns.length ≤ n → (∀ p ∈ cs, H p.2 = some (.tbl #[])) → SqL K H a (ns.map V.int) → sp [.ref a] H (fun v _ => v = .bl true) fun _ _ _ => False) ∧
    ∀ base : Heap, K.In base → base.Ns mainGlobals mg → (∀ p ∈ cs, TabB base mg p.1 p.2) → FnGd l.prog w K mg base CX k fa fd [x] sp
theorem walkG {l : PySem.W.OpenLaw} {n k : Nat} {q : Program} {loose : List Str} {XP : (Str → Option Value) → Heap → Prop} {YP : World → Heap → Prop} {d : DefRec} {CX : World → CXT} {x : Str} (most : l.most = some n) (few : n ≤ sizeLine) (plain : d.params.defaults = []) (room : Room k callerA)
    (F : ∀ (w : World) (mg : Str → Option Value) (fa : Addr) (h : Heap), YP w h → h.Ns mainGlobals mg → mg d.name = some (.ref fa) → ∃ K : PySem.W.Frag, K.In h ∧ LawAtG l w K (CX w) k n x mg fa h)
    (calm : ∀ (w : World) (H : Hp) (s : Shared) (e : Value) (s' : Shared), CX w [] H s (fun _ _ _ => False) e s' → False) : PySem.W.WalkO q loose XP YP l.row.toRowW d [] (fun f vs => PySem.call f vs) := by
  refine Att.attach_callB most plain fun w s0 s1 mg mb fa ob pm cd doc a vs ns G Y _ _ _ named script nums len _ gens => ?_
  obtain ⟨K, kin, fd, cs, sp, h1, h2, h3, h4, h5, h6⟩ := F w mg fa _ Y G.T.g named
  exact law_goG kin G.T.g G.T.b G.T.builtins G.T.nolimit gens h1 h2 h3 G.T.bmain script nums (Nat.le_trans len few) room h6 h4 (fun H a1 a2 => h5 H a ns len a1 a2) fun H e s' => calm w H s1 e s'
end HyG
end
section
set_option Elab.async false
set_option linter.all false
open PySem PySem.W PyProof.Rows
set_option maxRecDepth 100000 in
set_option maxHeartbeats 0 in
theorem K01.fin (F : ∀ {w : World} {K : PySem.W.Frag} {h : Heap} {mg : PySem.Str → Option Value} {f : Addr}, (PySem.Challenge.rw_openlines_k01_errors_made : PySem.W.OpenLaw).most = some 63 → K.In h → h.Ns mainGlobals mg → mg ("law" : PySem.Str) = some (.ref f) → Hq.SaysP K01.fn K01.tf (Hy.exB K01.fx) K01.pf h K →
    HyG.LawAtG PySem.Challenge.rw_openlines_k01_errors_made w K (L2.CX (PySem.Challenge.rw_openlines_k01_errors_made).prog w) 6 63 "_law_script" mg f h) : PySem.Challenge.rw_openlines_k01_errors_made.Holds := by
  w_on; o_law
  refine HandSHeadRun.head_any (r := OpenLaw.row PySem.Challenge.rw_openlines_k01_errors_made) (q := view (OpenLaw.row PySem.Challenge.rw_openlines_k01_errors_made).prog [30]) (H := K01.hk) (ob := K01.ob) (M := 9000) (loose := K01.loose) (d := HandSHeadRun.topDef (OpenLaw.row PySem.Challenge.rw_openlines_k01_errors_made).prog 30) (kwd := []) K01.ob_eq
    (by kernel_rfl) (fun s => by kernel_rfl) K01.run (by kernel_rfl) (by kernel_rfl) (by kernel_rfl) (by rfl) (by first | assumption | decide +kernel) (by decide +kernel) ⟨rfl, rfl, rfl, rfl, rfl, by decide +kernel⟩ ?hw ?hc
  case hw => w_witness2
  case hc =>
    refine HyG.walkG (l := PySem.Challenge.rw_openlines_k01_errors_made) (n := 63) (k := 6) (x := "_law_script") (CX := fun w => L2.CX (PySem.Challenge.rw_openlines_k01_errors_made).prog w) rfl (by decide) (by kernel_rfl) ⟨rfl, by decide, by decide⟩ ?F (fun _ _ _ _ _ ⟨_, _, _, _, _, _, _, _, _, _, _, _, z⟩ => z)
    intro w mg fa h Y Gg hmg0
    obtain ⟨K, KX, c⟩ := Y
    have hmg : mg ("law" : PySem.Str) = some (.ref fa) := by
      have e : (HandSHeadRun.topDef (OpenLaw.row PySem.Challenge.rw_openlines_k01_errors_made).prog 30).name = ("law" : PySem.Str) := by kernel_rfl
      rw [← e]
      exact hmg0
    exact ⟨K, KX, F (w := w) rfl KX Gg hmg c⟩
end
section
set_option Elab.async false
set_option linter.all false
set_option maxRecDepth 100000
namespace D
open PySem L2
structure TEc (X : Cx) (e : Expr) (σ : L2.St) (H : Hp) (Q : VK) : Prop where
  run : ∀ pins s, Inv X pins σ H s → wpAny (model X.prog X.w) X.A (eval e X.env) (EP X pins σ Q) X.xe s
def tE (X : Cx) (e : Expr) : TE := fun σ H Q => TEc X e σ H Q
theorem pE {X : Cx} {e : Expr} : PE X e (tE X e) := ⟨fun pins s _ _ _ I h => TEc.run h pins s I⟩
theorem tE_of {X : Cx} {e : Expr} {t : TE} (h : PE X e t) {σ : L2.St} {H : Hp} {Q : VK} (q : t σ H Q) : tE X e σ H Q := ⟨fun pins s I => h.run pins s σ H Q I q⟩
structure TTc (X : Cx) (e : Expr) (σ : L2.St) (H : Hp) (Q : Bool → Hp → Prop) : Prop where
  run : ∀ pins s, Inv X pins σ H s → wpAny (model X.prog X.w) X.A (PySem.isTrue e X.env (eval e X.env)) (TP X pins σ Q) X.xe s
def tT (X : Cx) (e : Expr) : TT := fun σ H Q => TTc X e σ H Q
theorem pT {X : Cx} {e : Expr} : PT X e (tT X e) := ⟨fun pins s _ _ _ I h => TTc.run h pins s I⟩
theorem tT_of {X : Cx} {e : Expr} {t : TT} (h : PT X e t) {σ : L2.St} {H : Hp} {Q : Bool → Hp → Prop} (q : t σ H Q) : tT X e σ H Q := ⟨fun pins s I => h.run pins s σ H Q I q⟩
structure TAc (X : Cx) (es : List Expr) (σ : L2.St) (H : Hp) (Q : List V → Hp → Prop) : Prop where
  run : ∀ pos pins s, Inv X pins σ H s → wpAny (model X.prog X.w) X.A (spliced (backTo pos (starEach es X.env))) (AP X pins σ Q) X.xe s
def tAs (X : Cx) (es : List Expr) : TA := fun σ H Q => TAc X es σ H Q
theorem pAs {X : Cx} {es : List Expr} : PA X es (tAs X es) := ⟨fun pos pins s _ _ _ I h => TAc.run h pos pins s I⟩
theorem tAs_of {X : Cx} {es : List Expr} {t : TA} (h : PA X es t) {σ : L2.St} {H : Hp} {Q : List V → Hp → Prop} (q : t σ H Q) : tAs X es σ H Q := ⟨fun pos pins s I => h.run pos pins s σ H Q I q⟩
structure TSc (X : Cx) (st : Stmt) (D : Ends) (σ : L2.St) (H : Hp) : Prop where
  run : ∀ pins s, Inv X pins σ H s → wpAny (model X.prog X.w) X.A (exec st X.env) (SP X pins D) X.xe s
def tSt (X : Cx) (st : Stmt) : TS := fun D σ H => TSc X st D σ H
theorem pSt {X : Cx} {st : Stmt} : PS X st (tSt X st) := ⟨fun pins s _ _ _ I h => TSc.run h pins s I⟩
theorem tSt_of {X : Cx} {st : Stmt} {t : TS} (h : PS X st t) {D : Ends} {σ : L2.St} {H : Hp} (q : t D σ H) : tSt X st D σ H := ⟨fun pins s I => h.run pins s σ H D I q⟩
structure TSsc (X : Cx) (st : List Stmt) (D : Ends) (σ : L2.St) (H : Hp) : Prop where
  run : ∀ pins s, Inv X pins σ H s → wpAny (model X.prog X.w) X.A (execs st X.env) (SP X pins D) X.xe s
def tSts (X : Cx) (st : List Stmt) : TS := fun D σ H => TSsc X st D σ H
theorem pSts {X : Cx} {st : List Stmt} : PSs X st (tSts X st) := ⟨fun pins s _ _ _ I h => TSsc.run h pins s I⟩
theorem tSts_of {X : Cx} {st : List Stmt} {t : TS} (h : PSs X st t) {D : Ends} {σ : L2.St} {H : Hp} (q : t D σ H) : tSts X st D σ H := ⟨fun pins s I => h.run pins s σ H D I q⟩
def Ex (H H' : Hp) : Prop := ∀ a o, H a = some o → H' a = some o
theorem Ex.refl (H : Hp) : Ex H H := fun _ _ h => h
theorem Ex.trans {H H1 H2 : Hp} (a : Ex H H1) (b : Ex H1 H2) : Ex H H2 := fun x o h => b x o (a x o h)
def mask (M : List Addr) (H : Hp) : Hp := fun a => if a ∈ M then none else H a
theorem mask_in {M : List Addr} {H : Hp} {a : Addr} (h : a ∈ M) : mask M H a = none := if_pos h
theorem mask_out {M : List Addr} {H : Hp} {a : Addr} (h : a ∉ M) : mask M H a = H a := if_neg h
theorem of_mask {M : List Addr} {H : Hp} {a : Addr} {o : HO} (h : mask M H a = some o) : a ∉ M ∧ H a = some o := by
  by_cases q : a ∈ M
  · rw [mask_in q] at h; cases h
  · rw [mask_out q] at h; exact ⟨q, h⟩
theorem mask_ex (M : List Addr) (H : Hp) : Ex (mask M H) H := fun a o h => (of_mask h).2
theorem mask_nil (H : Hp) : mask [] H = H := by
  funext a; exact mask_out (by simp)
inductive Dt where
  | non | bl (b : Bool) | int (i : Int) | str (s : Str) | lst (l : List Dt) | tup (l : List Dt) | par (l : List Dt) | dct (l : List (Key × Dt)) | dcu (l : List (List Key × Dt)) | fzl (l : List Dt) | exc (a dd : Addr) (fs : List (Str × Dt)) | xcv (C : Addr) (b : Bool) (fs : List (Str × Dt)) | obj (C : Addr) | lck (a : Addr) (l : List (Key × Dt)) | lcu (a : Addr) (l : List (List Key × Dt)) | raw (v : V)
/-- a tuple without a dict of its own -/
def SqF (K : PySem.W.Frag) (H : Hp) (a : Addr) (xs : List V) : Prop := (∃ o : Obj, H a = some (.frz o (.tup xs)) ∧ o.dict = none) ∨ (SqT K (fun _ => none) a xs ∧ ∃ o : Obj, K.lookup a = some o ∧ o.cls = .type "tuple" ∧ o.dict = none)
theorem SqF.t {K : PySem.W.Frag} {H : Hp} {a : Addr} {xs : List V} (h : SqF K H a xs) : SqT K H a xs := by
  rcases h with ⟨o, h, _⟩ | ⟨h, _⟩
  · exact .inl (.inr ⟨o, h⟩)
  · rcases h with h | h
    · rcases h with h | ⟨o, h⟩ <;> cases h
    · exact .inr h
theorem SqF.mono {K : PySem.W.Frag} {H H' : Hp} {a : Addr} {xs : List V} (h : SqF K H a xs) (e : Ex H H') : SqF K H' a xs := by
  rcases h with ⟨o, h, d⟩ | h
  · exact .inl ⟨o, e _ _ h, d⟩
  · exact .inr h
mutual
inductive DV (K : PySem.W.Frag) (H : Hp) : V → Dt → Prop
  | non : DV K H .non .non
  | bl (b : Bool) : DV K H (.bl b) (.bl b)
  | int (i : Int) : DV K H (.int i) (.int i)
  | str (s : Str) : DV K H (.str s) (.str s)
  | lst {a : Addr} {xs : List V} {l : List Dt} : H a = some (.lst xs) → DVs K H xs l → DV K H (.ref a) (.lst l)
  | tup {a : Addr} {xs : List V} {l : List Dt} : SqF K H a xs → DVs K H xs l → DV K H (.ref a) (.tup l)
  | par {a : Addr} {xs : List V} {l : List Dt} : H a = some (.tup xs) → DVs K H xs l → DV K H (.ref a) (.par l)
  | dct {a : Addr} {o : Obj} {xs : List (Key × V)} {l : List (Key × Dt)} : H a = some (.frz o (.dK xs)) → DVk K H xs l → DV K H (.ref a) (.dct l)
  | dcu {a : Addr} {o : Obj} {xs : List (List Key × V)} {l : List (List Key × Dt)} : H a = some (.frz o (.dT xs)) → DVu K H xs l → DV K H (.ref a) (.dcu l)
  | fzl {a : Addr} {xs : List V} {l : List Dt} : SqL K H a xs → DVs K H xs l → DV K H (.ref a) (.fzl l)
  | exc {a dd : Addr} {xs : List (Str × V)} {l : List (Str × Dt)} : H dd = some (.xd xs) → DVx K H xs l → DV K H (.ref a) (.exc a dd l)
  | xcv {a C dx : Addr} {xs : List (Str × V)} {l : List (Str × Dt)} : H a = some (exo a C (some dx)) → H dx = some (exd dx xs) → DVx K H xs l → DV K H (.ref a) (.xcv C true l)
  | xc0 {a C : Addr} : H a = some (exo a C none) → DV K H (.ref a) (.xcv C false [])
  | obj {a C dx : Addr} {fs : List (Str × V)} : H a = some (.ins C dx fs) → DV K H (.ref a) (.obj C)
  | lck {a : Addr} {o : Obj} {xs : List (Key × V)} {l : List (Key × Dt)} : H a = some (.frz o (.dK xs)) → DVk K H xs l → DV K H (.ref a) (.lck a l)
  | lcu {a : Addr} {o : Obj} {xs : List (List Key × V)} {l : List (List Key × Dt)} : H a = some (.frz o (.dT xs)) → DVu K H xs l → DV K H (.ref a) (.lcu a l)
  | raw (v : V) : DV K H v (.raw v)
inductive DVs (K : PySem.W.Frag) (H : Hp) : List V → List Dt → Prop
  | nil : DVs K H [] []
  | cons {v : V} {vs : List V} {d : Dt} {ds : List Dt} : DV K H v d → DVs K H vs ds → DVs K H (v :: vs) (d :: ds)
inductive DVk (K : PySem.W.Frag) (H : Hp) : List (Key × V) → List (Key × Dt) → Prop
  | nil : DVk K H [] []
  | cons {k : Key} {v : V} {vs : List (Key × V)} {d : Dt} {ds : List (Key × Dt)} : DV K H v d → DVk K H vs ds → DVk K H ((k, v) :: vs) ((k, d) :: ds)
inductive DVu (K : PySem.W.Frag) (H : Hp) : List (List Key × V) → List (List Key × Dt) → Prop
  | nil : DVu K H [] []
  | cons {k : List Key} {v : V} {vs : List (List Key × V)} {d : Dt} {ds : List (List Key × Dt)} : DV K H v d → DVu K H vs ds → DVu K H ((k, v) :: vs) ((k, d) :: ds)
inductive DVx (K : PySem.W.Frag) (H : Hp) : List (Str × V) → List (Str × Dt) → Prop
  | nil : DVx K H [] []
  | cons {k : Str} {v : V} {vs : List (Str × V)} {d : Dt} {ds : List (Str × Dt)} : DV K H v d → DVx K H vs ds → DVx K H ((k, v) :: vs) ((k, d) :: ds)
end
theorem ex_rd {H H' : Hp} {a : Addr} {u : HO} (e : Ex H H') (h : Rd H a u) : Rd H' a u := by
  rcases h with h | ⟨o, h⟩
  · exact Or.inl (e a _ h)
  · exact Or.inr ⟨o, e a _ h⟩
theorem ex_t {K : PySem.W.Frag} {H H' : Hp} {a : Addr} {xs : List V} (e : Ex H H') (h : SqT K H a xs) : SqT K H' a xs := by
  rcases h with h | h
  · exact Or.inl (ex_rd e h)
  · exact Or.inr h
theorem ex_l {K : PySem.W.Frag} {H H' : Hp} {a : Addr} {xs : List V} (e : Ex H H') (h : SqL K H a xs) : SqL K H' a xs := by
  rcases h with h | h
  · exact Or.inl (ex_rd e h)
  · exact Or.inr h
mutual
theorem DV.mono {K : PySem.W.Frag} {H H' : Hp} (e : Ex H H') : ∀ {v : V} {d : Dt}, DV K H v d → DV K H' v d
  | _, _, .non => .non
  | _, _, .bl b => .bl b
  | _, _, .int b => .int b
  | _, _, .str b => .str b
  | _, _, .lst h t => .lst (e _ _ h) (DVs.mono e t)
  | _, _, .tup h t => .tup (h.mono e) (DVs.mono e t)
  | _, _, .par h t => .par (e _ _ h) (DVs.mono e t)
  | _, _, .dct h t => .dct (e _ _ h) (DVk.mono e t)
  | _, _, .dcu h t => .dcu (e _ _ h) (DVu.mono e t)
  | _, _, .fzl h t => .fzl (ex_l e h) (DVs.mono e t)
  | _, _, .exc h t => .exc (e _ _ h) (DVx.mono e t)
  | _, _, .xcv h g t => .xcv (e _ _ h) (e _ _ g) (DVx.mono e t)
  | _, _, .xc0 h => .xc0 (e _ _ h)
  | _, _, .obj h => .obj (e _ _ h)
  | _, _, .lck h t => .lck (e _ _ h) (DVk.mono e t)
  | _, _, .lcu h t => .lcu (e _ _ h) (DVu.mono e t)
  | _, _, .raw v => .raw v
theorem DVs.mono {K : PySem.W.Frag} {H H' : Hp} (e : Ex H H') : ∀ {v : List V} {d : List Dt}, DVs K H v d → DVs K H' v d
  | _, _, .nil => .nil
  | _, _, .cons h t => .cons (DV.mono e h) (DVs.mono e t)
theorem DVk.mono {K : PySem.W.Frag} {H H' : Hp} (e : Ex H H') : ∀ {v : List (Key × V)} {d : List (Key × Dt)}, DVk K H v d → DVk K H' v d
  | _, _, .nil => .nil
  | _, _, .cons h t => .cons (DV.mono e h) (DVk.mono e t)
theorem DVu.mono {K : PySem.W.Frag} {H H' : Hp} (e : Ex H H') : ∀ {v : List (List Key × V)} {d : List (List Key × Dt)}, DVu K H v d → DVu K H' v d
  | _, _, .nil => .nil
  | _, _, .cons h t => .cons (DV.mono e h) (DVu.mono e t)
theorem DVx.mono {K : PySem.W.Frag} {H H' : Hp} (e : Ex H H') : ∀ {v : List (Str × V)} {d : List (Str × Dt)}, DVx K H v d → DVx K H' v d
  | _, _, .nil => .nil
  | _, _, .cons h t => .cons (DV.mono e h) (DVx.mono e t)
end
theorem DVx.get {K : PySem.W.Frag} {H : Hp} {x : Str} {d : Dt} : ∀ {v : List (Str × V)} {l : List (Str × Dt)}, DVx K H v l → l.lookup x = some d → ∃ u, v.lookup x = some u ∧ DV K H u d
  | _, _, .nil, h => by cases h
  | _, _, .cons (k := k) h t, e => by
    rw [List.lookup_cons] at e ⊢
    cases q : x == k with
    | true => rw [q] at e; cases e; exact ⟨_, rfl, h⟩
    | false => rw [q] at e; exact DVx.get t e
theorem DVs.length {K : PySem.W.Frag} {H : Hp} : ∀ {v : List V} {d : List Dt}, DVs K H v d → v.length = d.length
  | _, _, .nil => rfl
  | _, _, .cons _ t => congrArg (· + 1) (DVs.length t)
theorem DVs.append {K : PySem.W.Frag} {H : Hp} : ∀ {v w : List V} {d f : List Dt}, DVs K H v d → DVs K H w f → DVs K H (v ++ w) (d ++ f)
  | _, _, _, _, .nil, t => t
  | _, _, _, _, .cons h t, u => .cons h (DVs.append t u)
theorem DVs.get {K : PySem.W.Frag} {H : Hp} : ∀ {v : List V} {d : List Dt} {i : Nat} {x : Dt}, DVs K H v d → d[i]? = some x → ∃ u, v[i]? = some u ∧ DV K H u x
  | _, _, _, _, .nil, e => by simp at e
  | _, _, 0, _, .cons h t, e => by simp at e; subst e; exact ⟨_, rfl, h⟩
  | _, _, i + 1, x, .cons h t, e => by
    obtain ⟨u, h1, h2⟩ := DVs.get (i := i) (x := x) t (by simpa using e)
    exact ⟨u, by simpa using h1, h2⟩
theorem DVs.getV {K : PySem.W.Frag} {H : Hp} : ∀ {v : List V} {d : List Dt} {i : Nat} {u : V}, DVs K H v d → v[i]? = some u → ∃ x, d[i]? = some x ∧ DV K H u x
  | _, _, _, _, .nil, e => by simp at e
  | _, _, 0, _, .cons h t, e => by simp at e; subst e; exact ⟨_, rfl, h⟩
  | _, _, i + 1, x, .cons h t, e => by
    obtain ⟨u, h1, h2⟩ := DVs.getV (i := i) (u := x) t (by simpa using e)
    exact ⟨u, by simpa using h1, h2⟩
theorem DVs.take {K : PySem.W.Frag} {H : Hp} : ∀ {v : List V} {d : List Dt} (n : Nat), DVs K H v d → DVs K H (v.take n) (d.take n)
  | _, _, 0, _ => .nil
  | _, _, _ + 1, .nil => .nil
  | _, _, n + 1, .cons h t => .cons h (DVs.take n t)
theorem DVs.drop {K : PySem.W.Frag} {H : Hp} : ∀ {v : List V} {d : List Dt} (n : Nat), DVs K H v d → DVs K H (v.drop n) (d.drop n)
  | _, _, 0, h => h
  | _, _, _ + 1, .nil => .nil
  | _, _, n + 1, .cons h t => DVs.drop n t
theorem DVs.set {K : PySem.W.Frag} {H : Hp} {u : V} {x : Dt} (hx : DV K H u x) : ∀ {v : List V} {d : List Dt} (n : Nat), DVs K H v d → DVs K H (v.set n u) (d.set n x)
  | _, _, _, .nil => .nil
  | _, _, 0, .cons h t => .cons hx t
  | _, _, n + 1, .cons h t => .cons h (DVs.set hx n t)
theorem DVs.eraseIdx {K : PySem.W.Frag} {H : Hp} : ∀ {v : List V} {d : List Dt} (n : Nat), DVs K H v d → DVs K H (v.eraseIdx n) (d.eraseIdx n)
  | _, _, _, .nil => .nil
  | _, _, 0, .cons h t => t
  | _, _, n + 1, .cons h t => .cons h (DVs.eraseIdx n t)
theorem DVs.flat {K : PySem.W.Frag} {H : Hp} {v : List V} {d : List Dt} (h : DVs K H v d) : ∀ n : Nat, DVs K H (List.replicate n v).flatten (List.replicate n d).flatten
  | 0 => .nil
  | n + 1 => by rw [List.replicate_succ, List.replicate_succ, List.flatten_cons, List.flatten_cons]; exact h.append (DVs.flat h n)
theorem DVs.ints {K : PySem.W.Frag} {H : Hp} : ∀ l : List Int, DVs K H (l.map V.int) (l.map Dt.int)
  | [] => .nil
  | s :: l => .cons (.int s) (DVs.ints l)
theorem DVs.of_strs {K : PySem.W.Frag} {H : Hp} : ∀ {l : List Str} {xs : List V}, DVs K H xs (l.map Dt.str) → xs = l.map V.str
  | [], _, .nil => rfl
  | s :: l, _, .cons (.str _) t => by rw [DVs.of_strs t]; rfl
theorem DVs.of_bls {K : PySem.W.Frag} {H : Hp} : ∀ {l : List Bool} {xs : List V}, DVs K H xs (l.map Dt.bl) → xs = l.map V.bl
  | [], _, .nil => rfl
  | s :: l, _, .cons (.bl _) t => by rw [DVs.of_bls t]; rfl
theorem DVs.of_ints {K : PySem.W.Frag} {H : Hp} : ∀ {l : List Int} {xs : List V}, DVs K H xs (l.map Dt.int) → xs = l.map V.int
  | [], _, .nil => rfl
  | s :: l, _, .cons (.int _) t => by rw [DVs.of_ints t]; rfl
mutual
def py : Dt → PyData
  | .non => .none
  | .bl b => .bool b
  | .int i => .int i
  | .str s => .str s
  | .lst l => .list (pys l)
  | .tup l => .tuple (pys l)
  | .par _ => .none
  | .dct _ => .none
  | .dcu _ => .none
  | .fzl _ => .none
  | .exc _ _ _ => .none
  | .xcv _ _ _ => .none
  | .obj _ => .none
  | .lck _ _ => .none
  | .lcu _ _ => .none
  | .raw _ => .none
def pys : List Dt → List PyData
  | [] => []
  | d :: l => py d :: pys l
end
mutual
def plain : Dt → Bool
  | .lst l => plains l
  | .tup l => plains l
  | .par _ => false
  | .dct _ => false
  | .dcu _ => false
  | .fzl _ => false
  | .exc _ _ _ => false
  | .xcv _ _ _ => false
  | .obj _ => false
  | .lck _ _ => false
  | .lcu _ _ => false
  | .raw _ => false
  | _ => true
def plains : List Dt → Bool
  | [] => true
  | d :: l => plain d && plains l
end
mutual
theorem DV.dp {K : PySem.W.Frag} {H : Hp} : ∀ {v : V} {d : Dt}, DV K H v d → plain d = true → Dp K H v (py d)
  | _, _, .non, _ => .non
  | _, _, .bl b, _ => .bl b
  | _, _, .int b, _ => .int b
  | _, _, .str b, _ => .str b
  | _, _, .lst h t, p => .lst (.inl (.inl h)) (DVs.dp t p)
  | _, _, .tup h t, p => .tup h.t (DVs.dp t p)
  | _, _, .par h t, p => by cases p
  | _, _, .dct h t, p => by cases p
  | _, _, .dcu h t, p => by cases p
  | _, _, .fzl h t, p => by cases p
  | _, _, .exc h t, p => by cases p
  | _, _, .xcv _ _ _, p => by cases p
  | _, _, .xc0 _, p => by cases p
  | _, _, .obj h, p => by cases p
  | _, _, .lck h t, p => by cases p
  | _, _, .lcu h t, p => by cases p
  | _, _, .raw v, p => by cases p
theorem DVs.dp {K : PySem.W.Frag} {H : Hp} : ∀ {v : List V} {d : List Dt}, DVs K H v d → plains d = true → DpAll K H v (pys d)
  | _, _, .nil, _ => .nil
  | _, _, .cons h t, p => by
    have p' := Bool.and_eq_true_iff.mp p
    exact .cons (DV.dp h p'.1) (DVs.dp t p'.2)
end
theorem pys_map : ∀ l : List Dt, pys l = l.map py
  | [] => rfl
  | d :: l => by rw [pys, pys_map l]; rfl
inductive Sl where
  | un | dat (d : Dt)
/-- what this frame, and nobody else, holds at an address -/
inductive Cel where
  | lst (l : List Dt)
  | dk (l : List (Key × Dt))
  | dt (l : List (List Key × Dt))
  | lk (o : Obj) (l : List (Key × Dt))
  | lt (o : Obj) (l : List (List Key × Dt))
  | ins (cls dx : Addr) (fs : List (Str × Dt))
  | bag (n : Nat)
  | grp (as : List Addr) (φ : Hp → Hp → Prop)
abbrev Cells := List (Addr × Cel)
def Cel.fp : Cel → List Addr
  | .grp as _ => as
  | _ => []
def addrs : Cells → List Addr
  | [] => []
  | p :: l => (p.1 :: p.2.fp) ++ addrs l
structure Fm where
  H0 : Hp
  M : List Addr
  W : List Addr
def hid (F : Fm) (C : Cells) : List Addr := addrs C ++ F.M
def BagAt (H : Hp) (b : Addr) (c : Nat) : Prop := ∃ d s k : Int, H b = some (.lst [.int d, .int s, .int k]) ∧ 0 ≤ d ∧ 0 ≤ s ∧ s < 2147483647 ∧ 0 ≤ k ∧ k ≤ (c : Int)
theorem BagAt.mono {H : Hp} {b : Addr} {c c' : Nat} (h : BagAt H b c) (l : c ≤ c') : BagAt H b c' := by
  obtain ⟨d, s, k, h1, h2, h3, h4, h5, h6⟩ := h
  exact ⟨d, s, k, h1, h2, h3, h4, h5, by omega⟩
/-- what is hidden stands, and is no tuple -/
def Lv (H : Hp) (a : Addr) : Prop := ∃ o, H a = some o ∧ ∀ xs, o ≠ .tup xs
theorem Lv.ex {H : Hp} {a : Addr} (h : Lv H a) : ∃ o, H a = some o := let ⟨o, e, _⟩ := h; ⟨o, e⟩
theorem Lv.of_eq {H H' : Hp} {a : Addr} (h : Lv H a) (e : H' a = H a) : Lv H' a := by obtain ⟨o, q, n⟩ := h; exact ⟨o, by rw [e]; exact q, n⟩
theorem Lv.mono {H H' : Hp} {a : Addr} (h : Lv H a) (e : ∀ o, H a = some o → H' a = some o) : Lv H' a := by obtain ⟨o, q, n⟩ := h; exact ⟨o, e o q, n⟩
theorem Lv.ne {H : Hp} {a : Addr} {xs : List V} (h : Lv H a) : H a ≠ some (.tup xs) := fun z => by obtain ⟨o, q, n⟩ := h; rw [z] at q; cases q; exact n _ rfl
def CelAt (K : PySem.W.Frag) (V H : Hp) (a : Addr) : Cel → Prop
  | .lst l => ∃ xs, H a = some (.lst xs) ∧ DVs K V xs l
  | .dk l => ∃ xs, H a = some (.dK xs) ∧ DVk K V xs l
  | .dt l => ∃ xs, H a = some (.dT xs) ∧ DVu K V xs l
  | .lk o l => ∃ xs, H a = some (.frz o (.dK xs)) ∧ DVk K V xs l
  | .lt o l => ∃ xs, H a = some (.frz o (.dT xs)) ∧ DVu K V xs l
  | .ins cls dx fs => ∃ xs, H a = some (.ins cls dx xs) ∧ DVx K V xs fs
  | .bag n => BagAt H a n
  | .grp as φ => (∀ x ∈ a :: as, Lv H x) ∧ ∀ V' H', Ex V V' → (∀ x ∈ a :: as, H' x = H x) → φ V' H'
theorem CelAt.live {K : PySem.W.Frag} {V H : Hp} {a : Addr} {q : Cel} (h : CelAt K V H a q) : ∀ x ∈ a :: q.fp, Lv H x := fun x hx => by
  cases q with
  | lst l => obtain ⟨xs, e, _⟩ := h; cases List.mem_singleton.mp hx; exact ⟨_, e, fun _ z => nomatch z⟩
  | dk l => obtain ⟨xs, e, _⟩ := h; cases List.mem_singleton.mp hx; exact ⟨_, e, fun _ z => nomatch z⟩
  | dt l => obtain ⟨xs, e, _⟩ := h; cases List.mem_singleton.mp hx; exact ⟨_, e, fun _ z => nomatch z⟩
  | lk o l => obtain ⟨xs, e, _⟩ := h; cases List.mem_singleton.mp hx; exact ⟨_, e, fun _ z => nomatch z⟩
  | lt o l => obtain ⟨xs, e, _⟩ := h; cases List.mem_singleton.mp hx; exact ⟨_, e, fun _ z => nomatch z⟩
  | ins c dx l => obtain ⟨xs, e, _⟩ := h; cases List.mem_singleton.mp hx; exact ⟨_, e, fun _ z => nomatch z⟩
  | bag n => obtain ⟨_, _, _, e, _⟩ := h; cases List.mem_singleton.mp hx; exact ⟨_, e, fun _ z => nomatch z⟩
  | grp as φ => exact h.1 x hx
theorem CelAt.mono {K : PySem.W.Frag} {V V' H H' : Hp} {a : Addr} {q : Cel} (h : CelAt K V H a q) (e : Ex V V') (k : ∀ x ∈ a :: q.fp, H' x = H x) : CelAt K V' H' a q := by
  have ka := k a (List.mem_cons_self ..)
  cases q with
  | lst l => obtain ⟨xs, h1, h2⟩ := h; exact ⟨xs, ka.trans h1, h2.mono e⟩
  | dk l => obtain ⟨xs, h1, h2⟩ := h; exact ⟨xs, ka.trans h1, h2.mono e⟩
  | dt l => obtain ⟨xs, h1, h2⟩ := h; exact ⟨xs, ka.trans h1, h2.mono e⟩
  | lk o l => obtain ⟨xs, h1, h2⟩ := h; exact ⟨xs, ka.trans h1, h2.mono e⟩
  | lt o l => obtain ⟨xs, h1, h2⟩ := h; exact ⟨xs, ka.trans h1, h2.mono e⟩
  | ins c dx l => obtain ⟨xs, h1, h2⟩ := h; exact ⟨xs, ka.trans h1, h2.mono e⟩
  | bag n => obtain ⟨d, s, m, h1, r⟩ := h; exact ⟨d, s, m, ka.trans h1, r⟩
  | grp as φ => exact ⟨fun x hx => (h.1 x hx).of_eq (k x hx), fun V2 H2 e2 k2 => h.2 V2 H2 (e.trans e2) fun x hx => (k2 x hx).trans (k x hx)⟩
theorem addrs_app : ∀ (C C' : Cells), addrs (C ++ C') = addrs C ++ addrs C'
  | [], _ => rfl
  | p :: C, C' => by
    show (p.1 :: p.2.fp) ++ addrs (C ++ C') = ((p.1 :: p.2.fp) ++ addrs C) ++ addrs C'
    rw [addrs_app C C', List.append_assoc]
theorem mem_addrs {p : Addr × Cel} {x : Addr} : ∀ {C : Cells}, p ∈ C → x ∈ p.1 :: p.2.fp → x ∈ addrs C
  | [], h, _ => nomatch h
  | q :: C, h, hx => by
    rcases List.mem_cons.mp h with h | h
    · subst h; exact List.mem_append_left _ hx
    · exact List.mem_append_right _ (mem_addrs h hx)
theorem of_addrs {x : Addr} : ∀ {C : Cells}, x ∈ addrs C → ∃ p ∈ C, x ∈ p.1 :: p.2.fp
  | [], h => nomatch h
  | q :: C, h => by
    rcases List.mem_append.mp h with h | h
    · exact ⟨q, List.mem_cons_self .., h⟩
    · obtain ⟨p, h1, h2⟩ := of_addrs h
      exact ⟨p, List.mem_cons_of_mem _ h1, h2⟩
structure SI (K : PySem.W.Frag) (F : Fm) (Γ : List Sl) (C : Cells) (σ : L2.St) (H : Hp) : Prop where
  len : σ.length = Γ.length
  nd : (addrs C).Nodup
  sl : ∀ (i : Nat) (d : Dt), Γ[i]? = some (.dat d) → ∃ v, σ[i]? = some (some v) ∧ DV K (mask (hid F C) H) v d
  ce : ∀ p ∈ C, CelAt K (mask (hid F C) H) H p.1 p.2
  keep : Ex (mask F.W F.H0) (mask F.W H)
  fr : ∀ a ∈ addrs C, (a ∈ F.W ∨ F.H0 a = none) ∧ a ∉ F.M
  live : ∀ a ∈ F.M, Lv H a
  wl : ∀ a ∈ F.W, ∃ o, H a = some o
abbrev Vw (F : Fm) (C : Cells) (H : Hp) : Hp := mask (hid F C) H
def Kp (F : Fm) (H H' : Hp) : Prop := Ex H H'
section
variable {K : PySem.W.Frag} {F : Fm} {Γ : List Sl} {C C' : Cells} {σ : L2.St} {H H' : Hp}
theorem Kp.hid (e : Kp F H H') : Ex (Vw F C H) (Vw F C H') := fun a o q => by
  obtain ⟨n, q⟩ := of_mask q
  show mask _ _ _ = _
  rw [mask_out n]
  exact e a o q
theorem SI.cat (S : SI K F Γ C σ H) {j : Nat} {a : Addr} {q : Cel} (hj : C[j]? = some (a, q)) : CelAt K (Vw F C H) H a q := S.ce _ (List.mem_of_getElem? hj)
theorem SI.hlive (S : SI K F Γ C σ H) : ∀ x ∈ hid F C, Lv H x := fun x hx => by
  rcases List.mem_append.mp hx with z | z
  · obtain ⟨p, h1, h2⟩ := of_addrs z
    exact (S.ce p h1).live x h2
  · exact S.live x z
theorem SI.fresh (S : SI K F Γ C σ H) {p : Addr} (h : H p = none) : p ∉ hid F C := fun z => by
  obtain ⟨o, e, _⟩ := S.hlive p z
  rw [h] at e; cases e
theorem SI.h0 (S : SI K F Γ C σ H) {p : Addr} (h : H p = none) : F.H0 p = none := by
  cases e : F.H0 p with
  | none => rfl
  | some o =>
    have nw : p ∉ F.W := fun z => by
      obtain ⟨o, e⟩ := S.wl p z
      rw [h] at e; cases e
    have q := (of_mask (S.keep p o (by rw [mask_out nw]; exact e))).2
    rw [h] at q; cases q
/-- THE STEP: nothing is lost -/
theorem SI.step (S : SI K F Γ C σ H) (e : Ex H H') : SI K F Γ C σ H' := by
  have ev : Ex (Vw F C H) (Vw F C H') := Kp.hid (F := F) e
  refine ⟨S.len, S.nd, fun i d hi => ?_, fun p hp => ?_, fun a o q => ?_, S.fr, fun a ha => ?_, fun a ha => ?_⟩
  · obtain ⟨v, h1, h2⟩ := S.sl i d hi
    exact ⟨v, h1, h2.mono ev⟩
  · refine (S.ce p hp).mono ev fun x hx => ?_
    obtain ⟨o, h, _⟩ := (S.ce p hp).live x hx
    rw [h, e x o h]
  · have h1 := S.keep a o q
    obtain ⟨n, h1⟩ := of_mask h1
    rw [mask_out n]
    exact e a o h1
  · exact (S.live a ha).mono (e a)
  · obtain ⟨o, q⟩ := S.wl a ha; exact ⟨o, e a o q⟩
theorem Kp.new {p : Addr} {o : HO} (h : H p = none) : Kp F H (upd H p o) := fun a u q => by
  rw [upd_ne (ne_of_none q h)]
  exact q
theorem SI.new (S : SI K F Γ C σ H) {p : Addr} {o : HO} (h : H p = none) : SI K F Γ C σ (upd H p o) := S.step (Kp.new (F := F) h)
theorem SI.newL (S : SI K F Γ C σ H) {p : Addr} {xs : List V} {l : List Dt} (h : H p = none) (d : DVs K (mask (hid F C) H) xs l) : DV K (mask (hid F C) (upd H p (.lst xs))) (.ref p) (.lst l) :=
  .lst (by rw [mask_out (S.fresh h)]; exact upd_same) (d.mono (Kp.new (F := F) h).hid)
theorem SI.newT (S : SI K F Γ C σ H) {p : Addr} {xs : List V} {l : List Dt} {o : Obj} (h : H p = none) (ho : o.dict = none) (d : DVs K (mask (hid F C) H) xs l) : DV K (mask (hid F C) (upd H p (.frz o (.tup xs)))) (.ref p) (.tup l) :=
  .tup (.inl ⟨o, by rw [mask_out (S.fresh h)]; exact upd_same, ho⟩) (d.mono (Kp.new (F := F) h).hid)
theorem SI.newP (S : SI K F Γ C σ H) {p : Addr} {xs : List V} {l : List Dt} (h : H p = none) (d : DVs K (mask (hid F C) H) xs l) : DV K (mask (hid F C) (upd H p (.tup xs))) (.ref p) (.par l) :=
  .par (by rw [mask_out (S.fresh h)]; exact upd_same) (d.mono (Kp.new (F := F) h).hid)
theorem SI.setS (S : SI K F Γ C σ H) {i : Nat} {s : Sl} {o : Option V} (hok : ∀ d, s = .dat d → ∃ v, o = some v ∧ DV K (Vw F C H) v d) : SI K F (Γ.set i s) C (σ.set i o) H := by
  refine ⟨by rw [List.length_set, List.length_set]; exact S.len, S.nd, fun j d hj => ?_, S.ce, S.keep, S.fr, S.live, S.wl⟩
  by_cases hij : i = j
  · subst hij
    have hl : i < Γ.length := by
      have := (List.getElem?_eq_some_iff.mp hj).1
      rwa [List.length_set] at this
    rw [List.getElem?_set_self hl] at hj
    rw [List.getElem?_set_self (by rw [S.len]; exact hl)]
    obtain ⟨v, h1, h2⟩ := hok d (Option.some.inj hj)
    exact ⟨v, by rw [h1], h2⟩
  · rw [List.getElem?_set_ne hij] at hj
    rw [List.getElem?_set_ne hij]
    exact S.sl j d hj
theorem SI.setD (S : SI K F Γ C σ H) {i : Nat} {v : V} {d : Dt} (dv : DV K (Vw F C H) v d) : SI K F (Γ.set i (.dat d)) C (σ.set i (some v)) H :=
  S.setS fun d' e => by cases e; exact ⟨v, rfl, dv⟩
theorem addrs_set {a : Addr} {q q' : Cel} (hf : q'.fp = q.fp) : ∀ {C : Cells} {j : Nat}, C[j]? = some (a, q) → addrs (C.set j (a, q')) = addrs C
  | [], j, h => by simp at h
  | p :: C, 0, h => by
    simp at h
    subst h
    show (a :: q'.fp) ++ addrs C = (a :: q.fp) ++ addrs C
    rw [hf]
  | p :: C, j + 1, h => by
    show (p.1 :: p.2.fp) ++ addrs (C.set j (a, q')) = (p.1 :: p.2.fp) ++ addrs C
    rw [addrs_set hf (j := j) (by simpa using h)]
theorem addrs_apart {p : Addr × Cel} {a : Addr} {q : Cel} {x : Addr} : ∀ {C : Cells} {i j : Nat}, (addrs C).Nodup → C[j]? = some (a, q) → C[i]? = some p → i ≠ j → x ∈ a :: q.fp → x ∉ p.1 :: p.2.fp
  | [], i, j, _, h, _, _, _ => by simp at h
  | u :: C, 0, 0, _, _, _, n, _ => absurd rfl n
  | u :: C, 0, j + 1, nd, h1, h2, _, hx => by
    simp at h2; subst h2
    intro z
    exact (List.nodup_append.mp nd).2.2 x z x (mem_addrs (List.mem_of_getElem? (show C[j]? = some (a, q) by simpa using h1)) hx) rfl
  | u :: C, i + 1, 0, nd, h1, h2, _, hx => by
    simp at h1; subst h1
    intro z
    exact (List.nodup_append.mp nd).2.2 x hx x (mem_addrs (List.mem_of_getElem? (show C[i]? = some p by simpa using h2)) z) rfl
  | u :: C, i + 1, j + 1, nd, h1, h2, n, hx => addrs_apart (C := C) (i := i) (j := j) (List.nodup_append.mp nd).2.1 (by simpa using h1) (by simpa using h2) (by omega) hx
/-- the cell j changed, its addresses kept; only they change -/
theorem SI.chg (S : SI K F Γ C σ H) {j : Nat} {a : Addr} {q q' : Cel} (hj : C[j]? = some (a, q)) (hf : q'.fp = q.fp) (hk : ∀ x, x ∉ a :: q.fp → H' x = H x) (hq : CelAt K (Vw F C H) H' a q') :
    SI K F Γ (C.set j (a, q')) σ H' ∧ Ex (Vw F C H) (Vw F (C.set j (a, q')) H') := by
  have ha : ∀ x ∈ a :: q.fp, x ∈ addrs C := fun x hx => mem_addrs (List.mem_of_getElem? hj) hx
  have he : hid F (C.set j (a, q')) = hid F C := by unfold hid; rw [addrs_set hf hj]
  have ev : Vw F (C.set j (a, q')) H' = Vw F C H := by
    funext x
    show mask _ _ _ = mask _ _ _
    rw [he]
    by_cases hx : x ∈ hid F C
    · rw [mask_in hx, mask_in hx]
    · rw [mask_out hx, mask_out hx, hk x fun z => hx (List.mem_append_left _ (ha x z))]
  refine ⟨⟨S.len, by rw [addrs_set hf hj]; exact S.nd, fun i d hi => ?_, fun p hp => ?_, fun x o z => ?_, by rw [addrs_set hf hj]; exact S.fr, fun x hx => ?_, fun x hx => ?_⟩, by rw [ev]; exact Ex.refl _⟩
  · obtain ⟨v, h1, h2⟩ := S.sl i d hi
    exact ⟨v, h1, by rw [show mask (hid F (C.set j (a, q'))) H' = Vw F C H from ev]; exact h2⟩
  · rw [show mask (hid F (C.set j (a, q'))) H' = Vw F C H from ev]
    obtain ⟨i, hi⟩ := List.getElem?_of_mem hp
    have hl : j < C.length := (List.getElem?_eq_some_iff.mp hj).1
    by_cases hij : j = i
    · subst hij
      rw [List.getElem?_set_self hl] at hi
      cases hi
      exact hq
    · rw [List.getElem?_set_ne hij] at hi
      exact (S.ce p (List.mem_of_getElem? hi)).mono (Ex.refl _) fun x hx => hk x fun z => addrs_apart S.nd hj hi (fun e => hij e.symm) z hx
  · obtain ⟨n, h0⟩ := of_mask z
    have h1 := (of_mask (S.keep x o z)).2
    rw [mask_out n, hk x fun w => ?_]
    · exact h1
    · rcases (S.fr x (ha x w)).1 with f | f
      · exact n f
      · rw [h0] at f; cases f
  · exact (S.live x hx).of_eq (hk x fun w => (S.fr x (ha x w)).2 hx)
  · by_cases w : x ∈ a :: q.fp
    · exact (hq.live x (by rw [hf]; exact w)).ex
    · rw [hk x w]
      exact S.wl x hx
theorem SI.updC (S : SI K F Γ C σ H) {j : Nat} {a : Addr} {q q' : Cel} {o : HO} (hj : C[j]? = some (a, q)) (h0 : q.fp = []) (hf : q'.fp = []) (hq : CelAt K (Vw F C H) (upd H a o) a q') :
    SI K F Γ (C.set j (a, q')) σ (upd H a o) ∧ Ex (Vw F C H) (Vw F (C.set j (a, q')) (upd H a o)) :=
  S.chg hj (by rw [h0, hf]) (fun x hx => upd_ne fun z => hx (by rw [z]; exact List.mem_cons_self ..)) hq
/-- a new cell -/
theorem SI.addC (S : SI K F Γ C σ H) {p : Addr} {q : Cel} {o : HO} (h : H p = none) (hf : q.fp = []) (hq : CelAt K (Vw F C H) (upd H p o) p q) : SI K F Γ (C ++ [(p, q)]) σ (upd H p o) ∧ Ex (Vw F C H) (Vw F (C ++ [(p, q)]) (upd H p o)) := by
  have nh : p ∉ hid F C := S.fresh h
  have ea : addrs (C ++ [(p, q)]) = addrs C ++ [p] := by
    rw [addrs_app]
    show addrs C ++ ((p :: q.fp) ++ []) = _
    rw [hf]; rfl
  have ev : Ex (Vw F C H) (Vw F (C ++ [(p, q)]) (upd H p o)) := fun x u z => by
    obtain ⟨n, e⟩ := of_mask z
    have hx : x ≠ p := ne_of_none e h
    show mask _ _ _ = _
    rw [mask_out, upd_ne hx]
    · exact e
    · intro w
      unfold hid at w
      rw [ea] at w
      rcases List.mem_append.mp w with w | w
      · rcases List.mem_append.mp w with w | w
        · exact n (List.mem_append_left _ w)
        · exact hx (List.mem_singleton.mp w)
      · exact n (List.mem_append_right _ w)
  have np : p ∉ addrs C := fun z => nh (List.mem_append_left _ z)
  refine ⟨⟨S.len, ?_, fun i d hi => ?_, fun u hu => ?_, fun x u z => ?_, fun x hx => ?_, fun x hx => ?_, fun x hx => ?_⟩, ev⟩
  · rw [ea]
    exact List.nodup_append.mpr ⟨S.nd, by simp, fun x hx y hy e => np (by rw [List.mem_singleton.mp hy] at e; rw [← e]; exact hx)⟩
  · obtain ⟨v, h1, h2⟩ := S.sl i d hi
    exact ⟨v, h1, h2.mono ev⟩
  · rcases List.mem_append.mp hu with hu | hu
    · refine (S.ce u hu).mono ev fun x hx => upd_ne fun z => np (by rw [← z]; exact mem_addrs hu hx)
    · cases List.mem_singleton.mp hu
      exact hq.mono ev fun x hx => rfl
  · obtain ⟨n, h0⟩ := of_mask z
    have h1 := (of_mask (S.keep x u z)).2
    rw [mask_out n, upd_ne (ne_of_none h1 h)]
    exact h1
  · rw [ea] at hx
    rcases List.mem_append.mp hx with hx | hx
    · exact S.fr x hx
    · cases List.mem_singleton.mp hx
      exact ⟨.inr (S.h0 h), fun z => nh (List.mem_append_right _ z)⟩
  · exact (S.live x hx).mono fun u z => by rw [upd_ne (ne_of_none z h)]; exact z
  · obtain ⟨u, z⟩ := S.wl x hx
    exact ⟨u, by rw [upd_ne (ne_of_none z h)]; exact z⟩
theorem addrs_erase {p : Addr × Cel} : ∀ {C : Cells} {j : Nat}, C[j]? = some p → ∀ x, x ∈ addrs C ↔ x ∈ p.1 :: p.2.fp ∨ x ∈ addrs (C.eraseIdx j)
  | [], j, h, x => by simp at h
  | u :: C, 0, h, x => by
    simp at h
    subst h
    exact List.mem_append
  | u :: C, j + 1, h, x => by
    have q := addrs_erase (C := C) (j := j) (by simpa using h) x
    show x ∈ (u.1 :: u.2.fp) ++ addrs C ↔ _ ∨ x ∈ (u.1 :: u.2.fp) ++ addrs (C.eraseIdx j)
    rw [List.mem_append, List.mem_append, q]
    constructor
    · rintro (h | h | h)
      · exact .inr (.inl h)
      · exact .inl h
      · exact .inr (.inr h)
    · rintro (h | h | h)
      · exact .inr (.inl h)
      · exact .inl h
      · exact .inr (.inr h)
theorem nodup_erase {p : Addr × Cel} : ∀ {C : Cells} {j : Nat}, C[j]? = some p → (addrs C).Nodup → (addrs (C.eraseIdx j)).Nodup ∧ ∀ x ∈ p.1 :: p.2.fp, x ∉ addrs (C.eraseIdx j)
  | [], j, h, _ => by simp at h
  | u :: C, 0, h, nd => by
    simp at h
    subst h
    have q := List.nodup_append.mp nd
    exact ⟨q.2.1, fun x hx z => q.2.2 x hx x z rfl⟩
  | u :: C, j + 1, h, nd => by
    have h' : C[j]? = some p := by simpa using h
    have q := List.nodup_append.mp (show ((u.1 :: u.2.fp) ++ addrs C).Nodup from nd)
    obtain ⟨i1, i2⟩ := nodup_erase (C := C) (j := j) h' q.2.1
    refine ⟨List.nodup_append.mpr ⟨q.1, i1, fun x hx y hy e => q.2.2 x hx y ((addrs_erase h' y).mpr (.inr hy)) e⟩, fun x hx z => ?_⟩
    rcases List.mem_append.mp (show x ∈ (u.1 :: u.2.fp) ++ addrs (C.eraseIdx j) from z) with z | z
    · exact q.2.2 x z x ((addrs_erase h' x).mpr (.inl hx)) rfl
    · exact i2 x hx z
/-- the cell j is let go: what it holds may be seen from now on; a dict is frozen (H') -/
theorem SI.letGo (S : SI K F Γ C σ H) {j : Nat} {p : Addr × Cel} (hj : C[j]? = some p) (hk : ∀ x, x ∉ p.1 :: p.2.fp → H' x = H x) (hl : ∀ x ∈ p.1 :: p.2.fp, Lv H' x) :
    SI K F Γ (C.eraseIdx j) σ H' ∧ Ex (Vw F C H) (Vw F (C.eraseIdx j) H') ∧ ∀ x ∈ p.1 :: p.2.fp, Vw F (C.eraseIdx j) H' x = H' x := by
  obtain ⟨nd, np⟩ := nodup_erase hj S.nd
  have ha := addrs_erase hj
  have hp : ∀ x ∈ p.1 :: p.2.fp, x ∈ addrs C := fun x hx => (ha x).mpr (.inl hx)
  have ev : Ex (Vw F C H) (Vw F (C.eraseIdx j) H') := fun x u z => by
    obtain ⟨n, e⟩ := of_mask z
    show mask _ _ _ = _
    rw [mask_out, hk x fun w => n (List.mem_append_left _ (hp x w))]
    · exact e
    · intro w
      rcases List.mem_append.mp w with w | w
      · exact n (List.mem_append_left _ ((ha x).mpr (.inr w)))
      · exact n (List.mem_append_right _ w)
  refine ⟨⟨S.len, nd, fun i d hi => ?_, fun u hu => ?_, fun x u z => ?_, fun x hx => S.fr x ((ha x).mpr (.inr hx)), fun x hx => ?_, fun x hx => ?_⟩, ev, fun x hx => ?_⟩
  · obtain ⟨v, h1, h2⟩ := S.sl i d hi
    exact ⟨v, h1, h2.mono ev⟩
  · exact (S.ce u (List.mem_of_mem_eraseIdx hu)).mono ev fun x hx => hk x fun z => np x z (mem_addrs hu hx)
  · obtain ⟨n, h0⟩ := of_mask z
    have h1 := (of_mask (S.keep x u z)).2
    rw [mask_out n, hk x fun w => ?_]
    · exact h1
    · rcases (S.fr x (hp x w)).1 with f | f
      · exact n f
      · rw [h0] at f; cases f
  · exact (S.live x hx).of_eq (hk x fun w => (S.fr x (hp x w)).2 hx)
  · by_cases w : x ∈ p.1 :: p.2.fp
    · exact (hl x w).ex
    · rw [hk x w]; exact S.wl x hx
  · refine mask_out fun w => ?_
    rcases List.mem_append.mp w with w | w
    · exact np x hx w
    · exact (S.fr x (hp x hx)).2 w
/-- the same cells in another order -/
theorem addrs_perm {C C' : Cells} (h : C.Perm C') : (addrs C).Perm (addrs C') := by
  induction h with
  | nil => exact .nil
  | cons x _ ih => exact List.Perm.append_left _ ih
  | swap x y l =>
    show ((y.1 :: y.2.fp) ++ ((x.1 :: x.2.fp) ++ addrs l)).Perm ((x.1 :: x.2.fp) ++ ((y.1 :: y.2.fp) ++ addrs l))
    rw [← List.append_assoc, ← List.append_assoc]
    exact List.Perm.append_right _ List.perm_append_comm
  | trans _ _ h1 h2 => exact h1.trans h2
theorem vw_perm {C C' : Cells} (h : C.Perm C') : Vw F C' H = Vw F C H := by
  have ha := addrs_perm h
  funext x
  show mask _ _ _ = mask _ _ _
  have hx : x ∈ hid F C ↔ x ∈ hid F C' := by
    unfold hid
    rw [List.mem_append, List.mem_append, ha.mem_iff]
  by_cases z : x ∈ hid F C
  · rw [mask_in z, mask_in (hx.mp z)]
  · rw [mask_out z, mask_out fun w => z (hx.mpr w)]
theorem SI.perm (S : SI K F Γ C σ H) (h : C.Perm C') : SI K F Γ C' σ H := by
  have ha := addrs_perm h
  have ev : mask (hid F C') H = mask (hid F C) H := vw_perm h
  exact ⟨S.len, ha.nodup_iff.mp S.nd, fun i d hi => by rw [ev]; exact S.sl i d hi, fun p hp => by rw [ev]; exact S.ce p (h.mem_iff.mpr hp), S.keep, fun a h' => S.fr a (ha.mem_iff.mpr h'), S.live, S.wl⟩
end
end D
end
section
set_option Elab.async false
set_option linter.all false
set_option maxRecDepth 100000
namespace D
open PySem L2 PyProof.Rows
section
variable {X : Cx} {pins : List (Addr × Obj)} {σ : L2.St} {H : Hp} {s : Shared}
theorem laidF {h' : Heap} {t' : Nat} {xs : List V} {us : List Value} (I : Inv X pins σ H s) (k : ∀ b u, s.heap.get? b = some u → (h'.push { cls := .type "tuple", data := .seq us.toArray }).get? b = some u) (hp : s.heap.objs.size ≤ h'.objs.size) (z : xs.length ≤ sizeLine) (r : Vals xs us) :
    ∃ o : Obj, o.dict = none ∧ Inv X pins σ (upd H h'.objs.size (.frz o (.tup xs))) { s with heap := h'.push { cls := .type "tuple", data := .seq us.toArray }, toks := t' } :=
  ⟨{ cls := .type "tuple", data := .seq us.toArray }, rfl, I.laid (t' := t') k hp ⟨Heap.get?_push_size _ rfl, z, us, r, ⟨_, Heap.get?_push_size _ rfl, rfl, _, rfl⟩⟩⟩
end
section
variable {X : Cx} {pos : Pos}
def tTupF (t : TA) : TE := fun σ H Q => t σ H fun vs H1 => vs.length ≤ sizeLine ∧ ∀ p (o : Obj), H1 p = none → o.dict = none → Q (.ref p) (upd H1 p (.frz o (.tup vs)))
theorem pe_tupF {es : List Expr} {t : TA} {x1} (h : PA X es t) : PE X (.Tuple es x1 pos) (tTupF t) := ⟨fun pn sa sg HH QQ I hq => by
  refine wpAny_Tuple_spliced (thn (h.run pos pn sa sg HH _ I hq) fun us sb ⟨xs, Hb, Ib, r, z, q⟩ => ⟨by rw [← r.length]; exact z, ?_⟩)
  obtain ⟨o, ho, I2⟩ := laidF (t' := sb.toks) (h' := sb.heap) Ib (fun b u e => Heap.get?_push_of_some _ e) (Nat.le_refl _) z r
  exact ⟨.ref sb.heap.objs.size, _, I2, rfl, q _ o (Ib.hok.fresh (Nat.le_refl _)) ho⟩⟩
def rCatF (K : PySem.W.Frag) : R2 := fun x y H Q => ∃ a b xs ys, x = .ref a ∧ y = .ref b ∧ SqT K H a xs ∧ SqT K H b ys ∧ xs.length + ys.length ≤ sizeLine ∧
  (xs = [] → Q (.ref b) H) ∧ (xs ≠ [] → ys = [] → Q (.ref a) H) ∧ (xs ≠ [] → ys ≠ [] → ∀ p (o : Obj), H p = none → o.dict = none → Q (.ref p) (upd H p (.frz o (.tup (xs ++ ys)))))
theorem op_catF : OpR X (binaryOp .Add) (rCatF X.K) := fun pn sa sg HH x y v u QQ I rx ry ⟨a, b, xs, ys, ex, ey, ha, hb, hz, q0, q1, q2⟩ => by
  subst ex ey
  cases rx
  cases ry
  obtain ⟨its, r1, p1, _⟩ := I.tuple ha
  obtain ⟨its2, r2, p2, _⟩ := I.tuple hb
  by_cases hx : xs = []
  · subst hx
    cases r1
    exact cat_tup0 p1 p2 ⟨.ref b, HH, I, rfl, q0 rfl⟩
  · refine HT.cat_tup p1 p2 (fun z => hx (r1.nil_iff.mp z)) (fun z => ⟨.ref a, HH, I, rfl, q1 hx (r2.nil_iff.mp z)⟩) (fun z => ?_) (by rw [← r1.length, ← r2.length]; exact hz)
    obtain ⟨o, ho, I2⟩ := laidF (t' := sa.toks) (h' := sa.heap) (xs := xs ++ ys) (us := its ++ its2) I (fun b u e => Heap.get?_push_of_some _ e) (Nat.le_refl _) (by rw [List.length_append]; exact hz) (r1.append r2)
    exact ⟨.ref sa.heap.objs.size, _, I2, rfl, q2 hx (fun w => z (r2.nil_iff.mpr w)) _ o (I.hok.fresh (Nat.le_refl _)) ho⟩
def rSlF (K : PySem.W.Frag) : V → Option Int → Option Int → Hp → VK → Prop := fun x lo hi H Q => ∃ a xs, x = .ref a ∧ SqT K H a xs ∧
  (HT.sIx xs.length 0 lo = 0 ∧ HT.sIx xs.length xs.length hi = xs.length → Q (.ref a) H) ∧ (¬ (HT.sIx xs.length 0 lo = 0 ∧ HT.sIx xs.length xs.length hi = xs.length) → ∀ p (o : Obj), H p = none → o.dict = none → Q (.ref p) (upd H p (.frz o (.tup (cutV xs lo hi)))))
theorem sl_tupF : SlR X (rSlF X.K) := fun pn sa sg HH x v vl vu lo hi sl QQ I rx hs pl pu ⟨a, xs, ex, hx, q1, q2⟩ => by
  subst ex
  cases rx
  obtain ⟨its, r, ht, hz⟩ := I.tuple hx
  have hlen : its.toArray.size = xs.length := by rw [List.size_toArray]; exact r.length.symm
  refine ⟨"tuple", _, PyProof.Rows.slot_tuple_getitem.lookup, ht.typeIs, ?_⟩
  by_cases hw : HT.sIx xs.length 0 lo = 0 ∧ HT.sIx xs.length xs.length hi = xs.length
  · exact getItem_tuple_whole ht hs pl pu (by rw [hlen]; exact hw) ⟨.ref a, HH, I, rfl, q1 hw⟩
  · refine HT.getItem_tuple_cut ht hs pl pu (by rw [hlen]; exact hw) ?_ (by rw [hlen]; exact hz)
    rw [hlen]
    obtain ⟨o, ho, I2⟩ := laidF (t' := sa.toks) (h' := sa.heap) (xs := cutV xs lo hi) I (fun b u e => Heap.get?_push_of_some _ e) (Nat.le_refl _) (Nat.le_trans (cutV_length xs lo hi) hz) ((r.drop (HT.sIx xs.length 0 lo)).take (HT.sIx xs.length xs.length hi - HT.sIx xs.length 0 lo))
    exact ⟨.ref sa.heap.objs.size, _, I2, rfl, q2 hw _ o (I.hok.fresh (Nat.le_refl _)) ho⟩
def rTupF (K : PySem.W.Frag) : List V → Hp → VK → Prop := fun xs H Q => ∃ p ys, xs = [.ref p] ∧ ((SqL K H p ys ∧ ∀ l (o : Obj), H l = none → o.dict = none → Q (.ref l) (upd H l (.frz o (.tup ys)))) ∨ (SqT K H p ys ∧ Q (.ref p) H))
theorem call_tupleF : CallR X (.type "tuple") (rTupF X.K) := fun pn sa sg HH xs us QQ I r ⟨p, ys, ex, h⟩ => by
  subst ex
  obtain ⟨u, rfl, rx⟩ := vals1 r
  cases rx
  rcases h with ⟨hq, q⟩ | ⟨hq, q⟩
  · obtain ⟨its, r', pl, hz⟩ := I.list hq
    have hlen := r'.length
    refine call_tuple_list pl.isList (fun h' kp => ?_) (by simp only [List.size_toArray] <;> omega)
    have I1 : Inv X pn sg HH { sa with heap := h' } := I.kept (t' := sa.toks) kp
    obtain ⟨o, ho, I2⟩ := laidF (t' := sa.toks) (h' := h') (xs := ys) (us := its) I1 (fun b u e => Heap.get?_push_of_some _ e) (Nat.le_refl _) hz r'
    exact ⟨.ref h'.objs.size, _, I2, rfl, q _ o (I1.hok.fresh (Nat.le_refl _)) ho⟩
  · obtain ⟨its, r', pl, hz⟩ := I.tuple hq
    exact call_tuple_same pl ⟨.ref p, HH, I, rfl, q⟩
/-- a method of a tuple -/
theorem pe_tm {name : Str} {id : String} {o e : Expr} {es : List Expr} {apos cpos : Pos} {r : V → List V → Hp → VK → Prop} {to : TE} {t : TA} (slot : Slot "tuple" name id) (hty : typeOf (.builtin id) = pure (.type "method_descriptor")) (hm : MtR X id r) (ho : PE X o to) (ha : PA X (e :: es) t)
    (hbase : attributeBase o name X.env (eval o X.env) = eval o X.env := by rfl)
    (hfew : ((backTo cpos (starEach (e :: es) X.env)).all (fun x => !x.1) && (backToKw cpos (keywordEach [] X.env)).all (fun x => x.1.isSome)
      && decide ((e :: es).length + ([] : List Keyword).length + (if ([] : List Keyword).isEmpty then 0 else 1) < 30)) = true := by rfl)
    (hline : (apos.endLine == cpos.line) = true := by rfl) (hs : starEach (e :: es) X.env = (false, eval e X.env) :: starEach es X.env := by rfl) (hplain : (backTo cpos (starEach es X.env)).any (·.1) = false := by rfl) :
    PE X (.Call (.Attribute o name apos) (e :: es) [] cpos) (fun σ H Q => to σ H fun x H1 => ∃ a xs, x = .ref a ∧ SqF X.K H1 a xs ∧ t σ H1 fun vs H2 => r x vs H2 Q) := ⟨fun pn sa sg HH QQ I h => by
  refine wpAny_Call_method_late hbase hfew hline rfl (thn (ho.run pn sa sg HH _ I h) fun v sb ⟨x, Hb, Ib, rb, a, xs, ex, ty, qb⟩ => ?_)
  subst ex
  obtain rfl : v = Value.ref a := rb
  obtain ⟨its, _, ht, _⟩ := Ib.tuple ty.t
  have h2 : ∀ b, Value.ref a = .ref b → ∃ ob, sb.heap.get? b = some ob ∧ ob.dict = none := fun b e => by
    cases e
    rcases ty with ⟨ob, e1, e2⟩ | ⟨_, ob, e1, _, e2⟩
    · exact ⟨ob, (Ib.hok a _ e1).1, e2⟩
    · exact ⟨ob, Ib.kIn a ob e1, e2⟩
  refine ⟨"tuple", id, PySem.F.plainAttrs_tuple, slot, hty, ht.typeIs, h2, ?_⟩
  have hA := ha.run cpos pn sb sg Hb _ Ib qb
  rw [hs] at hA ⊢
  refine Calls.callWith_builtin (by show (false || (backTo cpos (starEach es X.env)).any (·.1)) = false; rw [hplain] <;> rfl) (Calls.evalArgs_plain ?_)
  exact thn hA fun us sc ⟨vs, Hc, Ic, rc, qc⟩ => hm pn sc sg Hc (.ref a) vs (.ref a) us QQ Ic rfl rc qc⟩
end
end D
end
section
set_option Elab.async false
set_option linter.all false
set_option maxRecDepth 100000
namespace D
open PySem L2
structure SE (F : Fm) (X : Cx) (Γ : List Sl) (c : Cells) (e : Expr) (P : Cells → Dt → Prop) : Prop where
  run : ∀ (σ : L2.St) (H : Hp) (Q : VK), SI X.K F Γ c σ H → (∀ v H' c' d, P c' d → SI X.K F Γ c' σ H' → Ex (Vw F c H) (Vw F c' H') → DV X.K (Vw F c' H') v d → Q v H') → tE X e σ H Q
instance {F : Fm} {X : Cx} {Γ : List Sl} {c : Cells} {e : Expr} {P : Cells → Dt → Prop} : CoeFun (SE F X Γ c e P) fun _ => ∀ (σ : L2.St) (H : Hp) (Q : VK), SI X.K F Γ c σ H → (∀ v H' c' d, P c' d → SI X.K F Γ c' σ H' → Ex (Vw F c H) (Vw F c' H') → DV X.K (Vw F c' H') v d → Q v H') → tE X e σ H Q := ⟨SE.run⟩
structure ST (F : Fm) (X : Cx) (Γ : List Sl) (c : Cells) (e : Expr) (P : Cells → Bool → Prop) : Prop where
  run : ∀ (σ : L2.St) (H : Hp) (Q : Bool → Hp → Prop), SI X.K F Γ c σ H → (∀ b H' c', P c' b → SI X.K F Γ c' σ H' → Ex (Vw F c H) (Vw F c' H') → Q b H') → tT X e σ H Q
instance {F : Fm} {X : Cx} {Γ : List Sl} {c : Cells} {e : Expr} {P : Cells → Bool → Prop} : CoeFun (ST F X Γ c e P) fun _ => ∀ (σ : L2.St) (H : Hp) (Q : Bool → Hp → Prop), SI X.K F Γ c σ H → (∀ b H' c', P c' b → SI X.K F Γ c' σ H' → Ex (Vw F c H) (Vw F c' H') → Q b H') → tT X e σ H Q := ⟨ST.run⟩
structure SA (F : Fm) (X : Cx) (Γ : List Sl) (c : Cells) (es : List Expr) (P : Cells → List Dt → Prop) : Prop where
  run : ∀ (σ : L2.St) (H : Hp) (Q : List V → Hp → Prop), SI X.K F Γ c σ H → (∀ vs H' c' ds, P c' ds → SI X.K F Γ c' σ H' → Ex (Vw F c H) (Vw F c' H') → DVs X.K (Vw F c' H') vs ds → Q vs H') → tAs X es σ H Q
instance {F : Fm} {X : Cx} {Γ : List Sl} {c : Cells} {es : List Expr} {P : Cells → List Dt → Prop} : CoeFun (SA F X Γ c es P) fun _ => ∀ (σ : L2.St) (H : Hp) (Q : List V → Hp → Prop), SI X.K F Γ c σ H → (∀ vs H' c' ds, P c' ds → SI X.K F Γ c' σ H' → Ex (Vw F c H) (Vw F c' H') → DVs X.K (Vw F c' H') vs ds → Q vs H') → tAs X es σ H Q := ⟨SA.run⟩
/-- an operation on values -/
def VR (K : PySem.W.Frag) (F : Fm) (Γ : List Sl) (c : Cells) (r : List V → Hp → VK → Prop) (ds : List Dt) (P : Cells → Dt → Prop) : Prop :=
  ∀ (σ : L2.St) (H : Hp) (vs : List V) (Q : VK), SI K F Γ c σ H → DVs K (Vw F c H) vs ds → (∀ v H' c' d, P c' d → SI K F Γ c' σ H' → Ex (Vw F c H) (Vw F c' H') → DV K (Vw F c' H') v d → Q v H') → r vs H Q
def rOp (X : Cx) (f : Value → Value → Sem Value) : R2 := fun x y H Q => ∃ r, OpR X f r ∧ r x y H Q
theorem opR {X : Cx} {f : Value → Value → Sem Value} : OpR X f (rOp X f) := fun pins s σ H x y v u Q I rx ry ⟨_, ho, q⟩ => ho pins s σ H x y v u Q I rx ry q
def rIxc (X : Cx) : R2 := fun x y H Q => ∃ r, IxR X r ∧ r x y H Q
theorem ixR {X : Cx} : IxR X (rIxc X) := fun value slice pins s σ H x y v u Q I rx ry ⟨_, ho, q⟩ hs => ho value slice pins s σ H x y v u Q I rx ry q hs
def rSlc (X : Cx) : V → Option Int → Option Int → Hp → VK → Prop := fun x l u H Q => ∃ r, SlR X r ∧ r x l u H Q
theorem slR {X : Cx} : SlR X (rSlc X) := fun pins s σ H x v vl vu lo hi sl Q I rx hs pl pu ⟨_, ho, q⟩ => ho pins s σ H x v vl vu lo hi sl Q I rx hs pl pu q
def rCl (X : Cx) (f : Value) : List V → Hp → VK → Prop := fun xs H Q => ∃ r, CallR X f r ∧ r xs H Q
theorem clR {X : Cx} {f : Value} : CallR X f (rCl X f) := fun pins s σ H xs us Q I rx ⟨_, ho, q⟩ => ho pins s σ H xs us Q I rx q
structure OpV (F : Fm) (X : Cx) (Γ : List Sl) (c : Cells) (f : Value → Value → Sem Value) (d1 d2 : Dt) (P : Cells → Dt → Prop) : Prop where
  run : VR X.K F Γ c (fun vs H Q => ∃ x y, vs = [x, y] ∧ rOp X f x y H Q) [d1, d2] P
instance {F : Fm} {X : Cx} {Γ : List Sl} {c : Cells} {f : Value → Value → Sem Value} {d1 d2 : Dt} {P : Cells → Dt → Prop} : CoeFun (OpV F X Γ c f d1 d2 P) fun _ => VR X.K F Γ c (fun vs H Q => ∃ x y, vs = [x, y] ∧ rOp X f x y H Q) [d1, d2] P := ⟨OpV.run⟩
structure IxV (F : Fm) (X : Cx) (Γ : List Sl) (c : Cells) (d1 d2 : Dt) (P : Cells → Dt → Prop) : Prop where
  run : VR X.K F Γ c (fun vs H Q => ∃ x y, vs = [x, y] ∧ rIxc X x y H Q) [d1, d2] P
instance {F : Fm} {X : Cx} {Γ : List Sl} {c : Cells} {d1 d2 : Dt} {P : Cells → Dt → Prop} : CoeFun (IxV F X Γ c d1 d2 P) fun _ => VR X.K F Γ c (fun vs H Q => ∃ x y, vs = [x, y] ∧ rIxc X x y H Q) [d1, d2] P := ⟨IxV.run⟩
structure ClV (F : Fm) (X : Cx) (Γ : List Sl) (c : Cells) (f : Value) (ds : List Dt) (P : Cells → Dt → Prop) : Prop where
  run : VR X.K F Γ c (rCl X f) ds P
instance {F : Fm} {X : Cx} {Γ : List Sl} {c : Cells} {f : Value} {ds : List Dt} {P : Cells → Dt → Prop} : CoeFun (ClV F X Γ c f ds P) fun _ => VR X.K F Γ c (rCl X f) ds P := ⟨ClV.run⟩
structure SlV (F : Fm) (X : Cx) (Γ : List Sl) (c : Cells) (lo hi : Option Int) (d : Dt) (P : Cells → Dt → Prop) : Prop where
  run : VR X.K F Γ c (fun vs H Q => ∃ x, vs = [x] ∧ rSlc X x lo hi H Q) [d] P
instance {F : Fm} {X : Cx} {Γ : List Sl} {c : Cells} {lo hi : Option Int} {d : Dt} {P : Cells → Dt → Prop} : CoeFun (SlV F X Γ c lo hi d P) fun _ => VR X.K F Γ c (fun vs H Q => ∃ x, vs = [x] ∧ rSlc X x lo hi H Q) [d] P := ⟨SlV.run⟩
section
variable {F : Fm} {X : Cx} {Γ : List Sl} {c : Cells} {P : Cells → Dt → Prop} {pos : Pos}
theorem SE.mono {e : Expr} {P' : Cells → Dt → Prop} (h : SE F X Γ c e P) (hp : ∀ c d, P c d → P' c d) : SE F X Γ c e P' := .mk fun σ H Q S k => h σ H Q S fun v H' c' d p => k v H' c' d (hp c' d p)
theorem SE.of {e : Expr} {t : TE} (hp : PE X e t) (h : ∀ (σ : L2.St) (H : Hp) (Q : VK), SI X.K F Γ c σ H → (∀ v H' c' d, P c' d → SI X.K F Γ c' σ H' → Ex (Vw F c H) (Vw F c' H') → DV X.K (Vw F c' H') v d → Q v H') → t σ H Q) : SE F X Γ c e P :=
  .mk fun σ H Q S k => tE_of hp (h σ H Q S k)
/-- a value that is there already -/
theorem SE.here {e : Expr} {v : V} {d : Dt} (hp : PE X e (tC v)) (hd : ∀ H, DV X.K H v d) (p : P c d) : SE F X Γ c e P := SE.of hp fun σ H Q S k => k v H c d p S (Ex.refl _) (hd _)
theorem se_int {i : Int} {j} (p : P c (.int i)) : SE F X Γ c (.Constant (.int i) j pos) P := SE.here pe_int (fun _ => .int i) p
theorem se_str {x : Str} {j} (p : P c (.str x)) : SE F X Γ c (.Constant (.str x) j pos) P := SE.here pe_str (fun _ => .str x) p
theorem se_bl {b : Bool} {j} (p : P c (.bl b)) : SE F X Γ c (.Constant (.bool b) j pos) P := SE.here pe_bl (fun _ => .bl b) p
theorem se_non {j} (p : P c .non) : SE F X Γ c (.Constant .none j pos) P := SE.here pe_non (fun _ => .non) p
/-- a global constant that is a flat value -/
theorem se_glob {x : Str} {u : Value} {v : V} {d : Dt} (hg : Gl X x) (hm : X.mg x = some u) (r : RelV v u) (hd : ∀ H, DV X.K H v d) (p : P c d) (hdb : (x == ("__debug__" : Str)) = false := by decide) : SE F X Γ c (.Name x pos) P :=
  SE.here (pe_glob hg hm r hdb) hd p
/-- a slot's datum -/
theorem se_var (i : Nat) {x : Str} {d : Dt} (hs : Γ[i]? = some (.dat d)) (p : P c d) (hN : X.N[i]? = some x := by rfl) (hv : Vis X.env.scope x := by first | exact Or.inl rfl | exact Or.inr (Or.inl rfl) | exact Or.inr (Or.inr rfl))
    (hd : (x == ("__debug__" : Str)) = false := by decide) (hcd : (x == ("__classdict__" : Str)) = false := by decide) : SE F X Γ c (.Name x pos) P :=
  SE.of (pe_var hN hv hd hcd) fun σ H Q S k => by
    obtain ⟨v, h1, h2⟩ := S.sl i _ hs
    exact ⟨v, h1, k v H c d p S (Ex.refl _) h2⟩
theorem se_op2 {e a b : Expr} {r : R2} (hp : PE X e (tOp r (tE X a) (tE X b))) (h : SE F X Γ c a fun c1 d1 => SE F X Γ c1 b fun c2 d2 => VR X.K F Γ c2 (fun vs H Q => ∃ x y, vs = [x, y] ∧ r x y H Q) [d1, d2] P) : SE F X Γ c e P :=
  SE.of hp fun σ H Q S k => by
    refine h σ H _ S fun v H1 c1 d1 hb S1 k1 dv1 => ?_
    refine hb σ H1 _ S1 fun w H2 c2 d2 hr S2 k2 dv2 => ?_
    obtain ⟨x, y, e1, q⟩ := hr σ H2 [v, w] Q S2 (.cons (dv1.mono k2) (.cons dv2 .nil)) fun u H3 c3 d3 p S3 k3 dv3 => k u H3 c3 d3 p S3 ((k1.trans k2).trans k3) dv3
    cases e1
    exact q
theorem se_bin {a b : Expr} {op : Operator} (h : SE F X Γ c a fun c1 d1 => SE F X Γ c1 b fun c2 d2 => OpV F X Γ c2 (binaryOp op) d1 d2 P) : SE F X Γ c (.BinOp a op b pos) P := se_op2 (pe_op opR pE pE) (h.mono fun c1 d1 q => q.mono fun c2 d2 r => r.run)
theorem se_cmp {a b : Expr} {op : CmpOp} (h : SE F X Γ c a fun c1 d1 => SE F X Γ c1 b fun c2 d2 => OpV F X Γ c2 (compareOp op) d1 d2 P) (hm : behindInMarks op b = false := by first | exact nomark _ | rfl) : SE F X Γ c (.Compare a [op] [b] pos) P := se_op2 (pe_cmpR opR pE pE hm) (h.mono fun c1 d1 q => q.mono fun c2 d2 r => r.run)
theorem se_ix {a b : Expr} (h : SE F X Γ c a fun c1 d1 => SE F X Γ c1 b fun c2 d2 => IxV F X Γ c2 d1 d2 P) (hs : PlainIx b := by exact fun _ _ => rfl) : SE F X Γ c (.Subscript a b pos) P := se_op2 (pe_ix ixR pE pE hs) (h.mono fun c1 d1 q => q.mono fun c2 d2 r => r.run)
theorem st_cmp {a b : Expr} {op : CmpOp} {P : Cells → Bool → Prop} (h : SE F X Γ c a fun c1 d1 => SE F X Γ c1 b fun c2 d2 => OpV F X Γ c2 (compareOp op) d1 d2 fun c3 d => ∃ k, d = .bl k ∧ P c3 k) (hm : behindInMarks op b = false := by first | exact nomark _ | rfl) : ST F X Γ c (.Compare a [op] [b] pos) P := by
  refine .mk fun σ H Q S k => ?_
  refine tT_of (pt_cmpR opR pE pE hm) ?_
  refine h σ H _ S fun v H1 c1 d1 hb S1 k1 dv1 => ?_
  refine hb σ H1 _ S1 fun w H2 c2 d2 hr S2 k2 dv2 => ?_
  obtain ⟨x, y, e1, q⟩ := hr σ H2 [v, w] (fun z H' => ∃ k, z = .bl k ∧ Q k H') S2 (.cons (dv1.mono k2) (.cons dv2 .nil)) fun u H3 c3 d3 p S3 k3 dv3 => by
    obtain ⟨b, rfl, p⟩ := p
    cases dv3
    exact ⟨b, rfl, k b H3 c3 p S3 ((k1.trans k2).trans k3)⟩
  cases e1
  exact q
/-- a value that is a bool, as a test (a call, a name) -/
theorem st_val {e : Expr} {P : Cells → Bool → Prop} (h : SE F X Γ c e fun c1 d => ∃ k, d = .bl k ∧ P c1 k)
    (hw : ∀ whole : Sem Value, PySem.isTrue e X.env whole = (do let v ← whole; standAt e.pos; holding [v] (truthy v)) := by intro _; rfl) : ST F X Γ c e P := by
  refine .mk fun σ H Q S k => ?_
  refine tT_of (pt_val pE hw) ?_
  refine h σ H _ S fun v H1 c1 d1 p S1 k1 dv1 => ?_
  obtain ⟨b, rfl, p⟩ := p
  cases dv1
  exact ⟨b, rfl, k b H1 c1 p S1 k1⟩
theorem st_not {e : Expr} {P : Cells → Bool → Prop} (h : ST F X Γ c e fun c1 b => P c1 (!b)) : ST F X Γ c (.UnaryOp .Not e pos) P := by
  refine .mk fun σ H Q S k => ?_
  refine tT_of (pt_not pT) ?_
  exact h σ H _ S fun b H1 c1 p S1 k1 => k _ H1 c1 p S1 k1
/-- and, or as tests: a list of them -/
structure TWc (X : Cx) (e : Expr) (σ : L2.St) (H : Hp) (Q : Bool → Hp → Prop) : Prop where
  run : ∀ (whole : Sem Value) pins s, Inv X pins σ H s → wpAny (model X.prog X.w) X.A (PySem.isTrue e X.env whole) (TP X pins σ Q) X.xe s
def tW (X : Cx) (e : Expr) : TT := fun σ H Q => TWc X e σ H Q
structure SWt (F : Fm) (X : Cx) (Γ : List Sl) (c : Cells) (e : Expr) (P : Cells → Bool → Prop) : Prop where
  run : ∀ (σ : L2.St) (H : Hp) (Q : Bool → Hp → Prop), SI X.K F Γ c σ H → (∀ b H' c', P c' b → SI X.K F Γ c' σ H' → Ex (Vw F c H) (Vw F c' H') → Q b H') → tW X e σ H Q
instance {F : Fm} {X : Cx} {Γ : List Sl} {c : Cells} {e : Expr} {P : Cells → Bool → Prop} : CoeFun (SWt F X Γ c e P) fun _ => ∀ (σ : L2.St) (H : Hp) (Q : Bool → Hp → Prop), SI X.K F Γ c σ H → (∀ b H' c', P c' b → SI X.K F Γ c' σ H' → Ex (Vw F c H) (Vw F c' H') → Q b H') → tW X e σ H Q := ⟨SWt.run⟩
theorem pW {e : Expr} : PW X e (tW X e) := ⟨fun wh pins s _ _ _ I h => TWc.run h wh pins s I⟩
theorem st_w {e : Expr} {P : Cells → Bool → Prop} (h : SWt F X Γ c e P) : ST F X Γ c e P := .mk fun σ H Q S k => tT_of pW.pt (h σ H Q S k)
theorem sw_and1 {a : Expr} {P : Cells → Bool → Prop} (h : ST F X Γ c a P) : SWt F X Γ c (.BoolOp .And [a] pos) P := .mk fun σ H Q S k => ⟨fun wh pins s I => (pw_and1 pT).run wh pins s σ H Q I (h σ H Q S k)⟩
theorem sw_or1 {a : Expr} {P : Cells → Bool → Prop} (h : ST F X Γ c a P) : SWt F X Γ c (.BoolOp .Or [a] pos) P := .mk fun σ H Q S k => ⟨fun wh pins s I => (pw_or1 pT).run wh pins s σ H Q I (h σ H Q S k)⟩
theorem sw_and {a b : Expr} {rest : List Expr} {P : Cells → Bool → Prop} (h : ST F X Γ c a fun c1 k => if k = true then SWt F X Γ c1 (.BoolOp .And (b :: rest) pos) P else P c1 false) : SWt F X Γ c (.BoolOp .And (a :: b :: rest) pos) P := by
  refine .mk fun σ H Q S k => ?_
  refine ⟨fun wh pins s I => ?_⟩
  refine (pw_and pT pW).run wh pins s σ H Q I (h σ H _ S fun b1 H1 c1 p S1 k1 => ?_)
  cases b1 with
  | true => exact (show SWt F X Γ c1 _ P from p) σ H1 Q S1 fun b2 H2 c2 p2 S2 k2 => k b2 H2 c2 p2 S2 (k1.trans k2)
  | false => exact k false H1 c1 p S1 k1
theorem sw_or {a b : Expr} {rest : List Expr} {P : Cells → Bool → Prop} (h : ST F X Γ c a fun c1 k => if k = true then P c1 true else SWt F X Γ c1 (.BoolOp .Or (b :: rest) pos) P) : SWt F X Γ c (.BoolOp .Or (a :: b :: rest) pos) P := by
  refine .mk fun σ H Q S k => ?_
  refine ⟨fun wh pins s I => ?_⟩
  refine (pw_or pT pW).run wh pins s σ H Q I (h σ H _ S fun b1 H1 c1 p S1 k1 => ?_)
  cases b1 with
  | false => exact (show SWt F X Γ c1 _ P from p) σ H1 Q S1 fun b2 H2 c2 p2 S2 k2 => k b2 H2 c2 p2 S2 (k1.trans k2)
  | true => exact k true H1 c1 p S1 k1
/-- and, or as values of bools -/
theorem se_one {a : Expr} {op} (h : SE F X Γ c a P) : SE F X Γ c (.BoolOp op [a] pos) P := SE.of (pe_one pE) fun σ H Q S k => h σ H Q S k
theorem se_and {a b : Expr} {rest : List Expr} (h : SE F X Γ c a fun c1 d => ∃ k, d = .bl k ∧ if k = true then SE F X Γ c1 (.BoolOp .And (b :: rest) pos) P else P c1 (.bl false)) : SE F X Γ c (.BoolOp .And (a :: b :: rest) pos) P :=
  SE.of (pe_and pE pE) fun σ H Q S k => by
    refine h σ H _ S fun v H1 c1 d1 p S1 k1 dv1 => ?_
    obtain ⟨b1, rfl, p⟩ := p
    cases dv1
    refine ⟨b1, rfl, ?_⟩
    cases b1 with
    | true => exact (show SE F X Γ c1 _ P from p) σ H1 Q S1 fun b2 H2 c2 d2 p2 S2 k2 => k b2 H2 c2 d2 p2 S2 (k1.trans k2)
    | false => exact k _ H1 c1 _ p S1 k1 (.bl false)
theorem se_or {a b : Expr} {rest : List Expr} (h : SE F X Γ c a fun c1 d => ∃ k, d = .bl k ∧ if k = true then P c1 (.bl true) else SE F X Γ c1 (.BoolOp .Or (b :: rest) pos) P) : SE F X Γ c (.BoolOp .Or (a :: b :: rest) pos) P :=
  SE.of (pe_or pE pE) fun σ H Q S k => by
    refine h σ H _ S fun v H1 c1 d1 p S1 k1 dv1 => ?_
    obtain ⟨b1, rfl, p⟩ := p
    cases dv1
    refine ⟨b1, rfl, ?_⟩
    cases b1 with
    | false => exact (show SE F X Γ c1 _ P from p) σ H1 Q S1 fun b2 H2 c2 d2 p2 S2 k2 => k b2 H2 c2 d2 p2 S2 (k1.trans k2)
    | true => exact k _ H1 c1 _ p S1 k1 (.bl true)
theorem se_not {a : Expr} (h : SE F X Γ c a fun c1 d => ∃ k, d = .bl k ∧ P c1 (.bl (!k))) : SE F X Γ c (.UnaryOp .Not a pos) P :=
  SE.of (pe_not pE) fun σ H Q S k => by
    refine h σ H _ S fun v H1 c1 d1 p S1 k1 dv1 => ?_
    obtain ⟨b1, rfl, p⟩ := p
    cases dv1
    exact ⟨b1, rfl, k _ H1 c1 _ p S1 k1 (.bl _)⟩
theorem se_if {t a b : Expr} (h : ST F X Γ c t fun c1 k => if k = true then SE F X Γ c1 a P else SE F X Γ c1 b P) : SE F X Γ c (.IfExp t a b pos) P :=
  SE.of (pe_ifExp pT pE pE) fun σ H Q S k => by
    refine h σ H _ S fun b1 H1 c1 p S1 k1 => ?_
    cases b1 with
    | true => exact (show SE F X Γ c1 _ P from p) σ H1 Q S1 fun b2 H2 c2 d2 p2 S2 k2 => k b2 H2 c2 d2 p2 S2 (k1.trans k2)
    | false => exact (show SE F X Γ c1 _ P from p) σ H1 Q S1 fun b2 H2 c2 d2 p2 S2 k2 => k b2 H2 c2 d2 p2 S2 (k1.trans k2)
theorem se_chain {a b e : Expr} {op op' : CmpOp} (h : SE F X Γ c a fun c1 d1 => SE F X Γ c1 b fun c2 d2 => OpV F X Γ c2 (compareOp op) d1 d2 fun c3 d => ∃ k, d = .bl k ∧ if k = true then SE F X Γ c3 e (fun c4 d4 => OpV F X Γ c4 (compareOp op') d2 d4 P) else P c3 (.bl false))
    (hm : lastMarks [op, op'] [b, e] = false := by with_unfolding_all rfl) : SE F X Γ c (.Compare a [op, op'] [b, e] pos) P :=
  SE.of (pe_chain opR opR pE pE pE hm) fun σ H Q S k => by
    refine h σ H _ S fun v H1 c1 d1 hb S1 k1 dv1 => ?_
    refine hb σ H1 _ S1 fun w H2 c2 d2 hr S2 k2 dv2 => ?_
    obtain ⟨x, y, e1, q⟩ := hr σ H2 [v, w] (fun z H3 => ∃ k, z = .bl k ∧ (if k = true then tE X e σ H3 fun w' H4 => rOp X (compareOp op') w w' H4 Q else Q (.bl false) H3)) S2 (.cons (dv1.mono k2) (.cons dv2 .nil)) fun u H3 c3 d3 p S3 k3 dv3 => by
      obtain ⟨b1, rfl, p⟩ := p
      cases dv3
      refine ⟨b1, rfl, ?_⟩
      cases b1 with
      | false => exact k _ H3 c3 _ p S3 ((k1.trans k2).trans k3) (.bl false)
      | true =>
        refine (show SE F X Γ c3 e _ from p) σ H3 _ S3 fun w' H4 c4 d4 hr' S4 k4 dv4 => ?_
        obtain ⟨x', y', e2, q⟩ := hr' σ H4 [w, w'] Q S4 (.cons (dv2.mono (k3.trans k4)) (.cons dv4 .nil)) fun u H5 c5 d5 p5 S5 k5 dv5 => k u H5 c5 d5 p5 S5 ((((k1.trans k2).trans k3).trans k4).trans k5) dv5
        cases e2
        exact q
    cases e1
    exact q
theorem chain_core {a b e : Expr} {op op' : CmpOp} (h : SE F X Γ c a fun c1 d1 => SE F X Γ c1 b fun c2 d2 => OpV F X Γ c2 (compareOp op) d1 d2 fun c3 d => ∃ k, d = .bl k ∧ if k = true then SE F X Γ c3 e (fun c4 d4 => OpV F X Γ c4 (compareOp op') d2 d4 P) else P c3 (.bl false)) (σ : L2.St) (H : Hp) (Q : VK) (S : SI X.K F Γ c σ H) (k : ∀ v H' c' d, P c' d → SI X.K F Γ c' σ H' → Ex (Vw F c H) (Vw F c' H') → DV X.K (Vw F c' H') v d → Q v H') :
    tChain (rOp X (compareOp op)) (rOp X (compareOp op')) (tE X a) (tE X b) (tE X e) σ H Q := by
    refine h σ H _ S fun v H1 c1 d1 hb S1 k1 dv1 => ?_
    refine hb σ H1 _ S1 fun w H2 c2 d2 hr S2 k2 dv2 => ?_
    obtain ⟨x, y, e1, q⟩ := hr σ H2 [v, w] (fun z H3 => ∃ k, z = .bl k ∧ (if k = true then tE X e σ H3 fun w' H4 => rOp X (compareOp op') w w' H4 Q else Q (.bl false) H3)) S2 (.cons (dv1.mono k2) (.cons dv2 .nil)) fun u H3 c3 d3 p S3 k3 dv3 => by
      obtain ⟨b1, rfl, p⟩ := p
      cases dv3
      refine ⟨b1, rfl, ?_⟩
      cases b1 with
      | false => exact k _ H3 c3 _ p S3 ((k1.trans k2).trans k3) (.bl false)
      | true =>
        refine (show SE F X Γ c3 e _ from p) σ H3 _ S3 fun w' H4 c4 d4 hr' S4 k4 dv4 => ?_
        obtain ⟨x', y', e2, q⟩ := hr' σ H4 [w, w'] Q S4 (.cons (dv2.mono (k3.trans k4)) (.cons dv4 .nil)) fun u H5 c5 d5 p5 S5 k5 dv5 => k u H5 c5 d5 p5 S5 ((((k1.trans k2).trans k3).trans k4).trans k5) dv5
        cases e2
        exact q
    cases e1
    exact q
theorem st_chain {a b e : Expr} {op op' : CmpOp} {P : Cells → Bool → Prop} (h : SE F X Γ c a fun c1 d1 => SE F X Γ c1 b fun c2 d2 => OpV F X Γ c2 (compareOp op) d1 d2 fun c3 d => ∃ k, d = .bl k ∧ if k = true then SE F X Γ c3 e (fun c4 d4 => OpV F X Γ c4 (compareOp op') d2 d4 fun c5 d => ∃ k, d = .bl k ∧ P c5 k) else ∃ k, Dt.bl false = .bl k ∧ P c3 k)
    (hm : lastMarks [op, op'] [b, e] = false := by with_unfolding_all rfl) : ST F X Γ c (.Compare a [op, op'] [b, e] pos) P := .mk fun σ H Q S k =>
  tT_of (pt_chain opR opR pE pE pE hm) (chain_core (P := fun c1 d => ∃ k, d = .bl k ∧ P c1 k) h σ H _ S fun v H' c' d p S' e' dv => by
    obtain ⟨b1, rfl, p⟩ := p
    cases dv
    exact ⟨b1, rfl, k b1 H' c' p S' e'⟩)
theorem sa_nil {P : Cells → List Dt → Prop} (p : P c []) : SA F X Γ c [] P := .mk fun σ H Q S k => tAs_of pa_nil (k [] H c [] p S (Ex.refl _) .nil)
theorem sa_cons {e : Expr} {es : List Expr} {P : Cells → List Dt → Prop} (h : SE F X Γ c e fun c1 d => SA F X Γ c1 es fun c2 ds => P c2 (d :: ds)) (hs : starEach (e :: es) X.env = (false, eval e X.env) :: starEach es X.env := by rfl) : SA F X Γ c (e :: es) P :=
  .mk fun σ H Q S k => tAs_of (pa_cons pE pAs hs) (h σ H _ S fun v H1 c1 d hr S1 k1 dv => hr σ H1 _ S1 fun vs H2 c2 ds p S2 k2 dvs => k (v :: vs) H2 c2 (d :: ds) p S2 (k1.trans k2) (.cons (dv.mono k2) dvs))
theorem se_tup {es : List Expr} {x1} (h : SA F X Γ c es fun c1 ds => ds.length ≤ sizeLine ∧ P c1 (.tup ds)) : SE F X Γ c (.Tuple es x1 pos) P :=
  SE.of (pe_tupF pAs) fun σ H Q S k => h σ H _ S fun vs H1 c1 ds p S1 k1 dv => ⟨by rw [dv.length]; exact p.1, fun q o hq ho => k _ _ c1 _ p.2 (S1.new hq) (k1.trans (Kp.new (F := F) hq).hid) (S1.newT hq ho dv)⟩
theorem se_lst {es : List Expr} (h : SA F X Γ c es fun c1 ds => ds.length ≤ sizeLine ∧ P c1 (.lst ds)) : SE F X Γ c (.List es pos) P :=
  SE.of (pe_lst pAs) fun σ H Q S k => h σ H _ S fun vs H1 c1 ds p S1 k1 dv => ⟨by rw [dv.length]; exact p.1, fun q hq => k _ _ c1 _ p.2 (S1.new hq) (k1.trans (Kp.new (F := F) hq).hid) (S1.newL hq dv)⟩
theorem se_callB {x : Str} {p : Pos} {e : Expr} {es : List Expr} {id : String} (hm : X.mg x = none) (h : SA F X Γ c (e :: es) fun c1 ds => ClV F X Γ c1 (.builtin id) ds P) (hv : bootBuiltins x = some (.builtin id) := by decide +kernel) (hg : Gl X x := by rfl) (hn : x ≠ "__name__" := by decide) (hdb : (x == ("__debug__" : Str)) = false := by decide)
    (he : starEach (e :: es) X.env = (false, eval e X.env) :: starEach es X.env := by rfl) (hpl : (backTo pos (starEach es X.env)).any (·.1) = false := by rfl) : SE F X Γ c (.Call (.Name x p) (e :: es) [] pos) P :=
  SE.of (pe_callB clR hg hm hv pAs hn hdb he hpl) fun σ H Q S k => h σ H _ S fun vs H1 c1 ds q S1 k1 dv => q σ H1 vs Q S1 dv fun v H2 c2 d p S2 k2 dv2 => k v H2 c2 d p S2 (k1.trans k2) dv2
theorem se_callT {x : Str} {p : Pos} {e : Expr} {es : List Expr} {id : String} (hm : X.mg x = none) (h : SA F X Γ c (e :: es) fun c1 ds => ClV F X Γ c1 (.type id) ds P) (hv : bootBuiltins x = some (.type id) := by decide +kernel) (hg : Gl X x := by rfl) (hn : x ≠ "__name__" := by decide) (hdb : (x == ("__debug__" : Str)) = false := by decide)
    (he : starEach (e :: es) X.env = (false, eval e X.env) :: starEach es X.env := by rfl) (hpl : (backTo pos (starEach es X.env)).any (·.1) = false := by rfl) : SE F X Γ c (.Call (.Name x p) (e :: es) [] pos) P :=
  SE.of (pe_callTy clR hg hm hv pAs hn hdb he hpl) fun σ H Q S k => h σ H _ S fun vs H1 c1 ds q S1 k1 dv => q σ H1 vs Q S1 dv fun v H2 c2 d p S2 k2 dv2 => k v H2 c2 d p S2 (k1.trans k2) dv2
def SO (F : Fm) (X : Cx) (Γ : List Sl) (c : Cells) (e : Option Expr) (P : Cells → Option Int → Prop) : Prop :=
  match e with
  | none => P c none
  | some e => SE F X Γ c e fun c1 d => (∃ i, d = .int i ∧ P c1 (some i)) ∨ (d = .non ∧ P c1 none)
theorem po_any {e : Expr} {te : TE} (h : PE X e te) : PO X (some e) (fun σ H Q => te σ H fun x H1 => (∃ i, x = .int i ∧ Q (some i) H1) ∨ (x = .non ∧ Q none H1)) := ⟨fun pins s σ H Q I hw => by
  rw [evalPart_some]
  refine thn (h.run pins s σ H _ I hw) fun u s1 ⟨x, H1, I1, r1, q1⟩ => ?_
  rcases q1 with ⟨i, rfl, q⟩ | ⟨rfl, q⟩
  · obtain ⟨t, rfl⟩ := r1
    exact ⟨some i, H1, I1, .int i t, q⟩
  · cases r1
    exact ⟨none, H1, I1, .none, q⟩⟩
theorem SO.po {e : Option Expr} {P : Cells → Option Int → Prop} (h : SO F X Γ c e P) : ∃ t, PO X e t ∧ ∀ (σ : L2.St) (H : Hp) (Q : Option Int → Hp → Prop), SI X.K F Γ c σ H → (∀ b H' c', P c' b → SI X.K F Γ c' σ H' → Ex (Vw F c H) (Vw F c' H') → Q b H') → t σ H Q := by
  cases e with
  | none => exact ⟨_, po_none, fun σ H Q S k => k none H c h S (Ex.refl _)⟩
  | some e =>
    refine ⟨_, po_any pE, fun σ H Q S k => ?_⟩
    refine (show SE F X Γ c e _ from h) σ H _ S fun v H1 c1 d p S1 k1 dv => ?_
    rcases p with ⟨i, rfl, p⟩ | ⟨rfl, p⟩
    · cases dv
      exact .inl ⟨i, rfl, k (some i) H1 c1 p S1 k1⟩
    · cases dv
      exact .inr ⟨rfl, k none H1 c1 p S1 k1⟩
def tOc (X : Cx) (e : Option Expr) : TO := fun σ H Q => ∃ t, PO X e t ∧ t σ H Q
theorem pOc {e : Option Expr} : PO X e (tOc X e) := ⟨fun pins s σ H Q I ⟨_, h, q⟩ => h.run pins s σ H Q I q⟩
theorem se_slice {e : Expr} {lo hi : Option Expr} {p2 : Pos} (h : SE F X Γ c e fun c1 d => SO F X Γ c1 lo fun c2 l => SO F X Γ c2 hi fun c3 u => SlV F X Γ c3 l u d P) : SE F X Γ c (.Subscript e (.Slice lo hi none p2) pos) P :=
  SE.of (pe_slice slR pE pOc pOc) fun σ H Q S k => by
    refine h σ H _ S fun v H1 c1 d hl S1 k1 dv1 => ?_
    obtain ⟨tl, pl, ql⟩ := hl.po
    refine ⟨tl, pl, ql σ H1 _ S1 fun l H2 c2 hu S2 k2 => ?_⟩
    obtain ⟨tu, pu, qu⟩ := hu.po
    refine ⟨tu, pu, qu σ H2 _ S2 fun u H3 c3 hr S3 k3 => ?_⟩
    obtain ⟨x, e1, q⟩ := hr σ H3 [v] Q S3 (.cons (dv1.mono (k2.trans k3)) .nil) fun w H4 c4 d4 p S4 k4 dv4 => k w H4 c4 d4 p S4 (((k1.trans k2).trans k3).trans k4) dv4
    cases e1
    exact q
end
end D
end
section
set_option Elab.async false
set_option linter.all false
set_option maxRecDepth 100000
namespace D
open PySem L2
section
variable {F : Fm} {X : Cx} {Γ : List Sl} {c : Cells} {P : Cells → Dt → Prop} {pos : Pos}
theorem OpV.of {f : Value → Value → Sem Value} {r : R2} {d1 d2 : Dt} (ho : OpR X f r) (h : ∀ (σ : L2.St) (H : Hp) (x y : V) (Q : VK), SI X.K F Γ c σ H → DV X.K (Vw F c H) x d1 → DV X.K (Vw F c H) y d2 →
    (∀ v H' c' d, P c' d → SI X.K F Γ c' σ H' → Ex (Vw F c H) (Vw F c' H') → DV X.K (Vw F c' H') v d → Q v H') → r x y H Q) : OpV F X Γ c f d1 d2 P := by
  refine .mk fun σ H vs Q S dv k => ?_
  cases dv with
  | cons h1 t => cases t with
    | cons h2 t =>
      cases t
      exact ⟨_, _, rfl, r, ho, h σ H _ _ Q S h1 h2 k⟩
theorem IxV.of {r : R2} {d1 d2 : Dt} (ho : IxR X r) (h : ∀ (σ : L2.St) (H : Hp) (x y : V) (Q : VK), SI X.K F Γ c σ H → DV X.K (Vw F c H) x d1 → DV X.K (Vw F c H) y d2 →
    (∀ v H' c' d, P c' d → SI X.K F Γ c' σ H' → Ex (Vw F c H) (Vw F c' H') → DV X.K (Vw F c' H') v d → Q v H') → r x y H Q) : IxV F X Γ c d1 d2 P := by
  refine .mk fun σ H vs Q S dv k => ?_
  cases dv with
  | cons h1 t => cases t with
    | cons h2 t =>
      cases t
      exact ⟨_, _, rfl, r, ho, h σ H _ _ Q S h1 h2 k⟩
theorem SlV.of {r : V → Option Int → Option Int → Hp → VK → Prop} {lo hi : Option Int} {d : Dt} (ho : SlR X r) (h : ∀ (σ : L2.St) (H : Hp) (x : V) (Q : VK), SI X.K F Γ c σ H → DV X.K (Vw F c H) x d →
    (∀ v H' c' d, P c' d → SI X.K F Γ c' σ H' → Ex (Vw F c H) (Vw F c' H') → DV X.K (Vw F c' H') v d → Q v H') → r x lo hi H Q) : SlV F X Γ c lo hi d P := by
  refine .mk fun σ H vs Q S dv k => ?_
  cases dv with
  | cons h1 t =>
    cases t
    exact ⟨_, rfl, r, ho, h σ H _ Q S h1 k⟩
theorem ClV.of {f : Value} {r : List V → Hp → VK → Prop} {ds : List Dt} (ho : CallR X f r) (h : ∀ (σ : L2.St) (H : Hp) (vs : List V) (Q : VK), SI X.K F Γ c σ H → DVs X.K (Vw F c H) vs ds →
    (∀ v H' c' d, P c' d → SI X.K F Γ c' σ H' → Ex (Vw F c H) (Vw F c' H') → DV X.K (Vw F c' H') v d → Q v H') → r vs H Q) : ClV F X Γ c f ds P :=
  .mk fun σ H vs Q S dv k => ⟨r, ho, h σ H vs Q S dv k⟩
/-- two ints to a flat value -/
theorem OpV.ints {f : Value → Value → Sem Value} {C : Int → Int → Prop} {g : Int → Int → V} {i j : Int} {d : Dt} (ho : OpR X f (rI C g)) (hc : C i j) (hd : ∀ H, DV X.K H (g i j) d) (p : P c d) : OpV F X Γ c f (.int i) (.int j) P :=
  OpV.of ho fun σ H x y Q S h1 h2 k => by cases h1; cases h2; exact ⟨i, j, rfl, rfl, hc, k _ H c d p S (Ex.refl _) (hd _)⟩
theorem OpV.ints0 {f : Value → Value → Sem Value} {g : Int → Int → V} {i j : Int} {d : Dt} (ho : OpR X f (rI0 g)) (hd : ∀ H, DV X.K H (g i j) d) (p : P c d) : OpV F X Γ c f (.int i) (.int j) P :=
  OpV.of ho fun σ H x y Q S h1 h2 k => by cases h1; cases h2; exact ⟨i, j, rfl, rfl, k _ H c d p S (Ex.refl _) (hd _)⟩
theorem ov_add {i j : Int} (p : P c (.int (i + j))) : OpV F X Γ c (binaryOp .Add) (.int i) (.int j) P := OpV.ints0 op_add (fun _ => .int _) p
theorem ov_sub {i j : Int} (p : P c (.int (i - j))) : OpV F X Γ c (binaryOp .Sub) (.int i) (.int j) P := OpV.ints0 op_sub (fun _ => .int _) p
theorem ov_mul {i j : Int} (hc : CMul i j) (p : P c (.int (i * j))) : OpV F X Γ c (binaryOp .Mult) (.int i) (.int j) P := OpV.ints op_mul hc (fun _ => .int _) p
theorem ov_mod {i j : Int} (hc : 0 < j) (p : P c (.int (i % j))) : OpV F X Γ c (binaryOp .Mod) (.int i) (.int j) P := OpV.ints op_mod hc (fun _ => .int _) p
theorem ov_div {i j : Int} (hc : CDiv i j) (p : P c (.int (i / j))) : OpV F X Γ c (binaryOp .FloorDiv) (.int i) (.int j) P := OpV.ints op_fdiv hc (fun _ => .int _) p
theorem ov_pow {i j : Int} (hc : CPow i j) (p : P c (.int (i ^ j.toNat))) : OpV F X Γ c (binaryOp .Pow) (.int i) (.int j) P := OpV.ints op_pow hc (fun _ => .int _) p
theorem ov_lt {i j : Int} (p : P c (.bl (decide (i < j)))) : OpV F X Γ c (compareOp .Lt) (.int i) (.int j) P := OpV.ints0 op_lt (fun _ => .bl _) p
theorem ov_le {i j : Int} (p : P c (.bl (decide (i ≤ j)))) : OpV F X Γ c (compareOp .LtE) (.int i) (.int j) P := OpV.ints0 op_le (fun _ => .bl _) p
theorem ov_gt {i j : Int} (p : P c (.bl (decide (j < i)))) : OpV F X Γ c (compareOp .Gt) (.int i) (.int j) P := OpV.ints0 op_gt (fun _ => .bl _) p
theorem ov_ge {i j : Int} (p : P c (.bl (decide (j ≤ i)))) : OpV F X Γ c (compareOp .GtE) (.int i) (.int j) P := OpV.ints0 op_ge (fun _ => .bl _) p
/-- equality of flat values -/
theorem ov_eqF {d1 d2 : Dt} {v1 v2 : V} (h1 : ∀ H v, DV X.K H v d1 → v = v1) (h2 : ∀ H v, DV X.K H v d2 → v = v2) (hs : scal v1 v2 = true) (p : P c (.bl (decide (v1 = v2)))) : OpV F X Γ c (compareOp .Eq) d1 d2 P :=
  OpV.of op_eq fun σ H x y Q S q1 q2 k => by rw [h1 _ _ q1, h2 _ _ q2]; exact ⟨hs, k _ H c _ p S (Ex.refl _) (.bl _)⟩
theorem ov_neF {d1 d2 : Dt} {v1 v2 : V} (h1 : ∀ H v, DV X.K H v d1 → v = v1) (h2 : ∀ H v, DV X.K H v d2 → v = v2) (hs : scal v1 v2 = true) (p : P c (.bl (!decide (v1 = v2)))) : OpV F X Γ c (compareOp .NotEq) d1 d2 P :=
  OpV.of op_ne fun σ H x y Q S q1 q2 k => by rw [h1 _ _ q1, h2 _ _ q2]; exact ⟨hs, k _ H c _ p S (Ex.refl _) (.bl _)⟩
theorem dv_int {K : PySem.W.Frag} {H : Hp} {v : V} {i : Int} (h : DV K H v (.int i)) : v = .int i := by cases h; rfl
theorem dv_str {K : PySem.W.Frag} {H : Hp} {v : V} {i : Str} (h : DV K H v (.str i)) : v = .str i := by cases h; rfl
theorem dv_bl {K : PySem.W.Frag} {H : Hp} {v : V} {i : Bool} (h : DV K H v (.bl i)) : v = .bl i := by cases h; rfl
theorem ov_eqI {i j : Int} (p : P c (.bl (decide (i = j)))) : OpV F X Γ c (compareOp .Eq) (.int i) (.int j) P :=
  ov_eqF (fun _ _ h => dv_int h) (fun _ _ h => dv_int h) rfl (by rw [show decide (V.int i = V.int j) = decide (i = j) by rw [Bool.eq_iff_iff]; simp]; exact p)
theorem ov_neI {i j : Int} (p : P c (.bl (!decide (i = j)))) : OpV F X Γ c (compareOp .NotEq) (.int i) (.int j) P :=
  ov_neF (fun _ _ h => dv_int h) (fun _ _ h => dv_int h) rfl (by rw [show decide (V.int i = V.int j) = decide (i = j) by rw [Bool.eq_iff_iff]; simp]; exact p)
theorem ov_eqS {i j : Str} (p : P c (.bl (decide (i = j)))) : OpV F X Γ c (compareOp .Eq) (.str i) (.str j) P :=
  ov_eqF (fun _ _ h => dv_str h) (fun _ _ h => dv_str h) rfl (by rw [show decide (V.str i = V.str j) = decide (i = j) by rw [Bool.eq_iff_iff]; simp]; exact p)
theorem ov_neS {i j : Str} (p : P c (.bl (!decide (i = j)))) : OpV F X Γ c (compareOp .NotEq) (.str i) (.str j) P :=
  ov_neF (fun _ _ h => dv_str h) (fun _ _ h => dv_str h) rfl (by rw [show decide (V.str i = V.str j) = decide (i = j) by rw [Bool.eq_iff_iff]; simp]; exact p)
structure Fit (n : Nat) (d : Dt) : Prop where
  pl : plain d = true
  lay : (py d).canLay0 = true
  dp : (py d).depth ≤ n
theorem Fit.mono {n m : Nat} {d : Dt} (h : Fit n d) (l : n ≤ m) : Fit m d := ⟨h.pl, h.lay, Nat.le_trans h.dp l⟩
theorem fit_str {n : Nat} {b : Str} (h : PyData.strOk b = true) : Fit n (.str b) := ⟨rfl, h, Nat.zero_le _⟩
theorem fits_all {n : Nat} : ∀ {l : List Dt}, (∀ x ∈ l, Fit n x) → plains l = true ∧ PyData.canLayAll0 (pys l) = true ∧ PyData.depthAll (pys l) ≤ n
  | [], _ => ⟨rfl, rfl, Nat.zero_le _⟩
  | d :: l, h => by
    obtain ⟨h1, h2, h3⟩ := fits_all (l := l) fun x hx => h x (List.mem_cons_of_mem _ hx)
    have q := h d (List.mem_cons_self ..)
    exact ⟨by rw [plains, q.pl, h1]; rfl, by rw [pys, PyData.canLayAll0, q.lay, h2]; rfl, by rw [pys, PyData.depthAll]; exact Nat.max_le.mpr ⟨q.dp, h3⟩⟩
theorem fit_tup {n : Nat} {l : List Dt} (h : ∀ x ∈ l, Fit n x) : Fit (n + 1) (.tup l) := by
  obtain ⟨h1, h2, h3⟩ := fits_all h
  exact ⟨h1, h2, Nat.succ_le_succ h3⟩
theorem fit_lst {n : Nat} {l : List Dt} (h : ∀ x ∈ l, Fit n x) : Fit (n + 1) (.lst l) := by
  obtain ⟨h1, h2, h3⟩ := fits_all h
  exact ⟨h1, h2, Nat.succ_le_succ h3⟩
theorem Fit.shaped {d : Dt} (h : Fit 64 d) : SeqAt.shaped (py d) = true := by
  unfold SeqAt.shaped
  rw [h.lay, decide_eq_true h.dp]
  rfl
def eqd (a b : Dt) : Bool := PyData.eqv (py a) (py b)
theorem ov_eqD {d1 d2 : Dt} (hu : X.A.units + 64 < cLine) (f1 : Fit 64 d1) (f2 : Fit 64 d2) (p : P c (.bl (eqd d1 d2))) : OpV F X Γ c (compareOp .Eq) d1 d2 P :=
  OpV.of (op_eqD hu) fun σ H x y Q S h1 h2 k => ⟨py d1, py d2, (h1.mono (mask_ex _ _)).dp f1.pl, (h2.mono (mask_ex _ _)).dp f2.pl, f1.shaped, f2.shaped, k _ H c _ p S (Ex.refl _) (.bl _)⟩
theorem ov_neD {d1 d2 : Dt} (hu : X.A.units + 64 < cLine) (f1 : Fit 64 d1) (f2 : Fit 64 d2) (p : P c (.bl (!eqd d1 d2))) : OpV F X Γ c (compareOp .NotEq) d1 d2 P :=
  OpV.of (op_neD hu) fun σ H x y Q S h1 h2 k => ⟨py d1, py d2, (h1.mono (mask_ex _ _)).dp f1.pl, (h2.mono (mask_ex _ _)).dp f2.pl, f1.shaped, f2.shaped, k _ H c _ p S (Ex.refl _) (.bl _)⟩
def flatD : Dt → Bool
  | .non => true | .bl _ => true | .int _ => true | .str _ => true | _ => false
def flatOf : Dt → V
  | .bl b => .bl b | .int i => .int i | .str s => .str s | _ => .non
theorem dv_flat {K : PySem.W.Frag} {H : Hp} {v : V} {d : Dt} (h : DV K H v d) (f : flatD d = true) : v = flatOf d := by cases h <;> first | rfl | cases f
theorem dvs_flat {K : PySem.W.Frag} {H : Hp} : ∀ {vs : List V} {ds : List Dt}, DVs K H vs ds → ds.all flatD = true → vs = ds.map flatOf
  | _, _, .nil, _ => rfl
  | _, _, .cons h t, f => by
    simp only [List.all_cons, Bool.and_eq_true] at f
    rw [dv_flat h f.1, dvs_flat t f.2]; rfl
theorem flat_flatOf {d : Dt} : flatV (flatOf d) = true := by cases d <;> rfl
theorem flats_flatOf {ds : List Dt} : (ds.map flatOf).all flatV = true := by rw [List.all_eq_true]; intro x hx; obtain ⟨d, _, rfl⟩ := List.mem_map.mp hx; exact flat_flatOf
def seqD : Dt → Option (List Dt)
  | .lst l => some l
  | .tup l => some l
  | _ => none
theorem dv_seq {K : PySem.W.Frag} {H : Hp} {v : V} {d : Dt} {l : List Dt} (h : DV K H v d) (e : seqD d = some l) : ∃ a xs, v = .ref a ∧ (SqL K H a xs ∨ SqT K H a xs) ∧ DVs K H xs l := by
  cases h with
  | lst h t => cases e; exact ⟨_, _, rfl, .inl (.inl (.inl h)), t⟩
  | tup h t => cases e; exact ⟨_, _, rfl, .inr h.t, t⟩
  | _ => cases e
def inD (d : Dt) (l : List Dt) : Bool := inV (flatOf d) (l.map flatOf)
theorem ov_in {d s : Dt} {l : List Dt} (hs : seqD s = some l) (f1 : flatD d = true) (f2 : l.all flatD = true) (p : P c (.bl (inD d l))) : OpV F X Γ c (compareOp .In) d s P :=
  OpV.of op_in_seq fun σ H x y Q S h1 h2 k => by
    obtain ⟨a, xs, rfl, hq, dv⟩ := dv_seq (h2.mono (mask_ex _ _)) hs
    rw [dv_flat h1 f1]
    have e := dvs_flat dv f2
    subst e
    exact ⟨a, _, rfl, hq, flat_flatOf, flats_flatOf, k _ H c _ p S (Ex.refl _) (.bl _)⟩
theorem ov_notIn {d s : Dt} {l : List Dt} (hs : seqD s = some l) (f1 : flatD d = true) (f2 : l.all flatD = true) (p : P c (.bl (!inD d l))) : OpV F X Γ c (compareOp .NotIn) d s P :=
  OpV.of op_notIn_seq fun σ H x y Q S h1 h2 k => by
    obtain ⟨a, xs, rfl, hq, dv⟩ := dv_seq (h2.mono (mask_ex _ _)) hs
    rw [dv_flat h1 f1]
    have e := dvs_flat dv f2
    subst e
    exact ⟨a, _, rfl, hq, flat_flatOf, flats_flatOf, k _ H c _ p S (Ex.refl _) (.bl _)⟩
theorem ov_cat {l m : List Dt} (hz : l.length + m.length ≤ sizeLine) (p : P c (.lst (l ++ m))) : OpV F X Γ c (binaryOp .Add) (.lst l) (.lst m) P :=
  OpV.of op_cat fun σ H x y Q S h1 h2 k => by
    cases h1 with
    | lst a1 t1 => cases h2 with
      | lst a2 t2 => exact ⟨_, _, _, _, rfl, rfl, (of_mask a1).2, (of_mask a2).2, by rw [t1.length, t2.length]; exact hz, fun q hq => k _ _ c _ p (S.new hq) (Kp.new (F := F) hq).hid (S.newL hq (t1.append t2))⟩
theorem ov_catT {l m : List Dt} (hz : l.length + m.length ≤ sizeLine) (p : P c (.tup (l ++ m))) : OpV F X Γ c (binaryOp .Add) (.tup l) (.tup m) P :=
  OpV.of op_catF fun σ H x y Q S h1 h2 k => by
    cases h1 with
    | tup a1 t1 => cases h2 with
      | tup a2 t2 =>
        refine ⟨_, _, _, _, rfl, rfl, (a1.mono (mask_ex _ _)).t, (a2.mono (mask_ex _ _)).t, by rw [t1.length, t2.length]; exact hz, fun e => ?_, fun e1 e2 => ?_, fun e1 e2 q o hq ho => k _ _ c _ p (S.new hq) (Kp.new (F := F) hq).hid (S.newT hq ho (t1.append t2))⟩
        · subst e
          cases t1
          exact k _ H c _ p S (Ex.refl _) (.tup a2 t2)
        · subst e2
          cases t2
          rw [List.append_nil] at p
          exact k _ H c _ p S (Ex.refl _) (.tup a1 t1)
theorem ov_rep {l : List Dt} {n : Int} (h1 : -(2 ^ 63) ≤ n) (h2 : n < 2 ^ 63) (hz : l.length * n.toNat ≤ sizeLine) (p : P c (.lst (List.replicate n.toNat l).flatten)) : OpV F X Γ c (binaryOp .Mult) (.lst l) (.int n) P :=
  OpV.of op_rep fun σ H x y Q S q1 q2 k => by
    cases q1 with
    | lst a1 t1 =>
      cases q2
      exact ⟨_, _, _, rfl, rfl, (of_mask a1).2, h1, h2, by rw [t1.length]; exact hz, fun q hq => k _ _ c _ p (S.new hq) (Kp.new (F := F) hq).hid (S.newL hq (t1.flat _))⟩
theorem atI_dvs {K : PySem.W.Frag} {H : Hp} {xs : List V} {l : List Dt} {i : Int} {d : Dt} (t : DVs K H xs l) (h : atI l i = some d) : ∃ v, atI xs i = some v ∧ DV K H v d := by
  unfold atI at h ⊢
  rw [t.length]
  cases e : ixN l.length i with
  | none => rw [e] at h; cases h
  | some j =>
    rw [e] at h
    exact t.get h
theorem iv_lst {l : List Dt} {i : Int} {d : Dt} (h : atI l i = some d) (p : P c d) : IxV F X Γ c (.lst l) (.int i) P :=
  IxV.of ix_list fun σ H x y Q S h1 h2 k => by
    cases h1 with
    | lst a t =>
      cases h2
      obtain ⟨v, e, dv⟩ := atI_dvs t h
      exact ⟨_, _, i, v, rfl, rfl, .inl (.inl (of_mask a).2), e, k v H c d p S (Ex.refl _) dv⟩
theorem iv_tup {l : List Dt} {i : Int} {d : Dt} (h : atI l i = some d) (p : P c d) : IxV F X Γ c (.tup l) (.int i) P :=
  IxV.of ix_tup fun σ H x y Q S h1 h2 k => by
    cases h1 with
    | tup a t =>
      cases h2
      obtain ⟨v, e, dv⟩ := atI_dvs t h
      exact ⟨_, _, i, v, rfl, rfl, (a.mono (mask_ex _ _)).t, e, k v H c d p S (Ex.refl _) dv⟩
def cutD {α : Type} (xs : List α) (lo hi : Option Int) : List α := (xs.drop (HT.sIx xs.length 0 lo)).take (HT.sIx xs.length xs.length hi - HT.sIx xs.length 0 lo)
theorem cut_dvs {K : PySem.W.Frag} {H : Hp} {xs : List V} {l : List Dt} (t : DVs K H xs l) (lo hi : Option Int) : DVs K H (cutV xs lo hi) (cutD l lo hi) := by
  unfold cutV cutD
  rw [t.length]
  exact (t.drop _).take _
theorem sv_lst {l : List Dt} {lo hi : Option Int} (p : P c (.lst (cutD l lo hi))) : SlV F X Γ c lo hi (.lst l) P :=
  SlV.of sl_list fun σ H x Q S h1 k => by
    cases h1 with
    | lst a t => exact ⟨_, _, rfl, .inl (.inl (of_mask a).2), fun q hq => k _ _ c _ p (S.new hq) (Kp.new (F := F) hq).hid (S.newL hq (cut_dvs t lo hi))⟩
theorem cutD_whole {α : Type} {xs : List α} {lo hi : Option Int} (h : HT.sIx xs.length 0 lo = 0 ∧ HT.sIx xs.length xs.length hi = xs.length) : cutD xs lo hi = xs := by
  unfold cutD
  rw [h.1, h.2, List.drop_zero, Nat.sub_zero, List.take_length]
theorem sv_tup {l : List Dt} {lo hi : Option Int} (p : P c (.tup (cutD l lo hi))) : SlV F X Γ c lo hi (.tup l) P :=
  SlV.of sl_tupF fun σ H x Q S h1 k => by
    cases h1 with
    | tup a t =>
      refine ⟨_, _, rfl, (a.mono (mask_ex _ _)).t, fun hw => ?_, fun hw q o hq ho => k _ _ c _ p (S.new hq) (Kp.new (F := F) hq).hid (S.newT hq ho (cut_dvs t lo hi))⟩
      rw [t.length] at hw
      rw [cutD_whole hw] at p
      exact k _ H c _ p S (Ex.refl _) (.tup a t)
theorem cv_len {d : Dt} {l : List Dt} (hs : seqD d = some l) (p : P c (.int l.length)) : ClV F X Γ c (.builtin "len") [d] P :=
  ClV.of call_len_seq fun σ H vs Q S dv k => by
    cases dv with
    | cons h1 t =>
      cases t
      obtain ⟨a, xs, rfl, hq, dv⟩ := dv_seq (h1.mono (mask_ex _ _)) hs
      exact ⟨a, xs, rfl, hq, by rw [dv.length]; exact k _ H c _ p S (Ex.refl _) (.int _)⟩
theorem cv_lenF {l : List Dt} (p : P c (.int l.length)) : ClV F X Γ c (.builtin "len") [.fzl l] P :=
  ClV.of call_len_seq fun σ H vs Q S dv k => by
    cases dv with
    | cons h1 t =>
      cases t
      cases h1 with
      | fzl a t => exact ⟨_, _, rfl, .inl (ex_l (mask_ex _ _) a), by rw [t.length]; exact k _ H c _ p S (Ex.refl _) (.int _)⟩
theorem iv_fzl {l : List Dt} {i : Int} {d : Dt} (h : atI l i = some d) (p : P c d) : IxV F X Γ c (.fzl l) (.int i) P :=
  IxV.of ix_list fun σ H x y Q S h1 h2 k => by
    cases h1 with
    | fzl a t =>
      cases h2
      obtain ⟨v, e, dv⟩ := atI_dvs t h
      exact ⟨_, _, i, v, rfl, rfl, ex_l (mask_ex _ _) a, e, k v H c d p S (Ex.refl _) dv⟩
theorem cv_all {bs : List Bool} (hc : X.calm = true) (p : P c (.bl (bs.all id))) : ClV F X Γ c (.builtin "all") [.lst (bs.map Dt.bl)] P :=
  ClV.of (cr_all hc) fun σ H vs Q S dv k => by
    cases dv with
    | cons h1 t =>
      cases t
      cases h1 with
      | lst a t =>
        have e := t.of_bls
        subst e
        exact ⟨_, bs, rfl, .inl (.inl (of_mask a).2), k _ H c _ p S (Ex.refl _) (.bl _)⟩
theorem cv_any {bs : List Bool} (hc : X.calm = true) (p : P c (.bl (bs.any id))) : ClV F X Γ c (.builtin "any") [.lst (bs.map Dt.bl)] P :=
  ClV.of (cr_any hc) fun σ H vs Q S dv k => by
    cases dv with
    | cons h1 t =>
      cases t
      cases h1 with
      | lst a t =>
        have e := t.of_bls
        subst e
        exact ⟨_, bs, rfl, .inl (.inl (of_mask a).2), k _ H c _ p S (Ex.refl _) (.bl _)⟩
theorem cv_max2 {i j : Int} (hc : X.calm = true) (p : P c (.int (if j > i then j else i))) : ClV F X Γ c (.builtin "max") [.int i, .int j] P :=
  ClV.of (call_max2 hc) fun σ H vs Q S dv k => by
    cases dv with
    | cons h1 t => cases t with | cons h2 t => cases t; cases h1; cases h2; exact ⟨i, j, rfl, k _ H c _ p S (Ex.refl _) (.int _)⟩
theorem cv_min2 {i j : Int} (hc : X.calm = true) (p : P c (.int (if j < i then j else i))) : ClV F X Γ c (.builtin "min") [.int i, .int j] P :=
  ClV.of (call_min2 hc) fun σ H vs Q S dv k => by
    cases dv with
    | cons h1 t => cases t with | cons h2 t => cases t; cases h1; cases h2; exact ⟨i, j, rfl, k _ H c _ p S (Ex.refl _) (.int _)⟩
theorem cv_abs {i : Int} (p : P c (.int (if i < 0 then -i else i))) : ClV F X Γ c (.builtin "abs") [.int i] P :=
  ClV.of call_abs fun σ H vs Q S dv k => by
    cases dv with
    | cons h1 t => cases t; cases h1; exact ⟨i, rfl, k _ H c _ p S (Ex.refl _) (.int _)⟩
theorem cv_strI {i : Int} (hz : i.natAbs.log2 < 1920) (p : P c (.str (toString i))) : ClV F X Γ c (.type "str") [.int i] P :=
  ClV.of call_str_int fun σ H vs Q S dv k => by
    cases dv with
    | cons h1 t => cases t; cases h1; exact ⟨i, rfl, hz, k _ H c _ p S (Ex.refl _) (.str _)⟩
theorem cv_tuple {d : Dt} {l : List Dt} (hs : seqD d = some l) (p : P c (.tup l)) : ClV F X Γ c (.type "tuple") [d] P :=
  ClV.of call_tupleF fun σ H vs Q S dv k => by
    cases dv with
    | cons h1 t =>
      cases t
      cases h1 with
      | lst a t => cases hs; exact ⟨_, _, rfl, .inl ⟨.inl (.inl (of_mask a).2), fun q o hq ho => k _ _ c _ p (S.new hq) (Kp.new (F := F) hq).hid (S.newT hq ho t)⟩⟩
      | tup a t => cases hs; exact ⟨_, _, rfl, .inr ⟨(a.mono (mask_ex _ _)).t, k _ H c _ p S (Ex.refl _) (.tup a t)⟩⟩
      | _ => cases hs
theorem cv_list {d : Dt} {l : List Dt} (hs : seqD d = some l) (p : P c (.lst l)) : ClV F X Γ c (.type "list") [d] P :=
  ClV.of call_list_of fun σ H vs Q S dv k => by
    cases dv with
    | cons h1 t =>
      cases t
      cases h1 with
      | lst a t => cases hs; exact ⟨_, _, rfl, .inl (.inl (.inl (of_mask a).2)), fun q hq => k _ _ c _ p (S.new hq) (Kp.new (F := F) hq).hid (S.newL hq t)⟩
      | tup a t => cases hs; exact ⟨_, _, rfl, .inr (a.mono (mask_ex _ _)).t, fun q hq => k _ _ c _ p (S.new hq) (Kp.new (F := F) hq).hid (S.newL hq t)⟩
      | _ => cases hs
def tyD : Dt → String
  | .non => "NoneType" | .bl _ => "bool" | .int _ => "int" | .str _ => "str" | .lst _ => "list" | .tup _ => "tuple" | .par _ => "tuple" | .dct _ => "dict" | .dcu _ => "" | .fzl _ => "list" | .exc _ _ _ => "" | .xcv _ _ _ => "" | .obj _ => "" | .lck _ _ => "" | .lcu _ _ => "" | .raw _ => ""
def noRaw : Dt → Bool
  | .dcu _ => false
  | .exc _ _ _ => false
  | .xcv _ _ _ => false
  | .obj _ => false
  | .lck _ _ => false
  | .lcu _ _ => false
  | .raw _ => false
  | _ => true
theorem dv_ty {K : PySem.W.Frag} {H : Hp} {v : V} {d : Dt} (h : DV K H v d) (nr : noRaw d = true) : TyX K H v (.type (tyD d)) := by
  cases h with
  | non => exact .base .non
  | bl b => exact .base (.bl b)
  | int b => exact .base (.int b)
  | str b => exact .base (.str b)
  | lst h t => exact .base (.lst h)
  | tup h t =>
    rcases h.t with (h | ⟨o, h⟩) | ⟨o, its, n, h1, h2, _⟩
    · exact .base (.tup h)
    · exact .fTuple h
    · exact .kTuple h1 h2
  | par h t => exact .base (.tup h)
  | dct h t => exact .fDict h
  | dcu h t => cases nr
  | fzl h t =>
    rcases h with (h | ⟨o, h⟩) | ⟨o, its, n, h1, h2, _⟩
    · exact .base (.lst h)
    · exact .base (.frz h)
    · exact .kList h1 h2
  | exc h t => cases nr
  | xcv _ _ _ => cases nr
  | xc0 _ => cases nr
  | obj h => cases nr
  | lck h t => cases nr
  | lcu h t => cases nr
  | raw v => cases nr
theorem cv_isi {d : Dt} {T : String} {b : Bool} (nr : noRaw d = true) (hk : kitB (tyD d) T = some b) (p : P c (.bl b)) : ClV F X Γ c (.builtin "isinstance") [d, .raw (.ty T)] P :=
  ClV.of call_isi fun σ H vs Q S dv k => by
    cases dv with
    | cons h1 t => cases t with
      | cons h2 t =>
        cases t
        cases h2
        exact ⟨_, _, _, _, b, rfl, .ty T, dv_ty (h1.mono (mask_ex _ _)) nr, kit_ty hk, k _ H c _ p S (Ex.refl _) (.bl _)⟩
/-- a built-in class by its name -/
theorem se_ty {x : Str} {T : String} (hm : X.mg x = none) (p : P c (.raw (.ty T))) (hv : bootBuiltins x = some (.type T) := by decide +kernel) (hg : Gl X x := by rfl) (hn : x ≠ "__name__" := by decide) (hdb : (x == ("__debug__" : Str)) = false := by decide) : SE F X Γ c (.Name x pos) P :=
  SE.here (pe_bltn (v := .ty T) hg hm hv rfl hn hdb) (fun _ => .raw _) p
def isStrD : Dt → Bool
  | .str _ => true
  | _ => false
def isTupD : Dt → Bool
  | .tup _ => true
  | .par _ => true
  | _ => false
theorem cv_isStr {d : Dt} (nr : noRaw d = true) (p : P c (.bl (isStrD d))) : ClV F X Γ c (.builtin "isinstance") [d, .raw (.ty "str")] P :=
  cv_isi nr (b := isStrD d) (by
    cases d with
    | non => exact (by decide +kernel : kitB "NoneType" "str" = some false)
    | bl _ => exact (by decide +kernel : kitB "bool" "str" = some false)
    | int _ => exact (by decide +kernel : kitB "int" "str" = some false)
    | str _ => exact (by decide +kernel : kitB "str" "str" = some true)
    | lst _ => exact (by decide +kernel : kitB "list" "str" = some false)
    | tup _ => exact (by decide +kernel : kitB "tuple" "str" = some false)
    | par _ => exact (by decide +kernel : kitB "tuple" "str" = some false)
    | dct _ => exact (by decide +kernel : kitB "dict" "str" = some false)
    | dcu _ => cases nr
    | fzl _ => exact (by decide +kernel : kitB "list" "str" = some false)
    | exc _ _ _ => cases nr
    | xcv _ _ _ => cases nr
    | obj _ => cases nr
    | lck _ _ => cases nr
    | lcu _ _ => cases nr
    | raw _ => cases nr) p
theorem cv_isTup {d : Dt} (nr : noRaw d = true) (p : P c (.bl (isTupD d))) : ClV F X Γ c (.builtin "isinstance") [d, .raw (.ty "tuple")] P :=
  cv_isi nr (b := isTupD d) (by
    cases d with
    | non => exact (by decide +kernel : kitB "NoneType" "tuple" = some false)
    | bl _ => exact (by decide +kernel : kitB "bool" "tuple" = some false)
    | int _ => exact (by decide +kernel : kitB "int" "tuple" = some false)
    | str _ => exact (by decide +kernel : kitB "str" "tuple" = some false)
    | lst _ => exact (by decide +kernel : kitB "list" "tuple" = some false)
    | tup _ => exact (by decide +kernel : kitB "tuple" "tuple" = some true)
    | par _ => exact (by decide +kernel : kitB "tuple" "tuple" = some true)
    | dct _ => exact (by decide +kernel : kitB "dict" "tuple" = some false)
    | dcu _ => cases nr
    | fzl _ => exact (by decide +kernel : kitB "list" "tuple" = some false)
    | exc _ _ _ => cases nr
    | xcv _ _ _ => cases nr
    | obj _ => cases nr
    | lck _ _ => cases nr
    | lcu _ _ => cases nr
    | raw _ => cases nr) p
def isIntD : Dt → Bool
  | .int _ => true
  | .bl _ => true
  | _ => false
def isBoolD : Dt → Bool
  | .bl _ => true
  | _ => false
theorem cv_isInt {d : Dt} (nr : noRaw d = true) (p : P c (.bl (isIntD d))) : ClV F X Γ c (.builtin "isinstance") [d, .raw (.ty "int")] P :=
  cv_isi nr (b := isIntD d) (by
    cases d with
    | non => exact (by decide +kernel : kitB "NoneType" "int" = some false)
    | bl _ => exact (by decide +kernel : kitB "bool" "int" = some true)
    | int _ => exact (by decide +kernel : kitB "int" "int" = some true)
    | str _ => exact (by decide +kernel : kitB "str" "int" = some false)
    | lst _ => exact (by decide +kernel : kitB "list" "int" = some false)
    | tup _ => exact (by decide +kernel : kitB "tuple" "int" = some false)
    | par _ => exact (by decide +kernel : kitB "tuple" "int" = some false)
    | dct _ => exact (by decide +kernel : kitB "dict" "int" = some false)
    | dcu _ => cases nr
    | fzl _ => exact (by decide +kernel : kitB "list" "int" = some false)
    | exc _ _ _ => cases nr
    | xcv _ _ _ => cases nr
    | obj _ => cases nr
    | lck _ _ => cases nr
    | lcu _ _ => cases nr
    | raw _ => cases nr) p
theorem cv_isBool {d : Dt} (nr : noRaw d = true) (p : P c (.bl (isBoolD d))) : ClV F X Γ c (.builtin "isinstance") [d, .raw (.ty "bool")] P :=
  cv_isi nr (b := isBoolD d) (by
    cases d with
    | non => exact (by decide +kernel : kitB "NoneType" "bool" = some false)
    | bl _ => exact (by decide +kernel : kitB "bool" "bool" = some true)
    | int _ => exact (by decide +kernel : kitB "int" "bool" = some false)
    | str _ => exact (by decide +kernel : kitB "str" "bool" = some false)
    | lst _ => exact (by decide +kernel : kitB "list" "bool" = some false)
    | tup _ => exact (by decide +kernel : kitB "tuple" "bool" = some false)
    | par _ => exact (by decide +kernel : kitB "tuple" "bool" = some false)
    | dct _ => exact (by decide +kernel : kitB "dict" "bool" = some false)
    | dcu _ => cases nr
    | fzl _ => exact (by decide +kernel : kitB "list" "bool" = some false)
    | exc _ _ _ => cases nr
    | xcv _ _ _ => cases nr
    | obj _ => cases nr
    | lck _ _ => cases nr
    | lcu _ _ => cases nr
    | raw _ => cases nr) p
theorem se_join {o e : Expr} {apos : Pos} (h : SE F X Γ c o fun c1 d => ∃ a, d = .str a ∧ SE F X Γ c1 e fun c2 d2 => ∃ ys : List Str, seqD d2 = some (ys.map Dt.str) ∧ (ys.map (·.length)).sum + ys.length * a.length ≤ 16777216 ∧ P c2 (.str (Txt.join a ys)))
    (hs : starEach [e] X.env = [(false, eval e X.env)] := by rfl) (hb : attributeBase o "join" X.env (eval o X.env) = eval o X.env := by rfl) (hl : (apos.endLine == pos.line) = true := by rfl) : SE F X Γ c (.Call (.Attribute o "join" apos) [e] [] pos) P :=
  SE.of (pe_join pE pE hs hb hl) fun σ H Q S k => by
    refine h σ H _ S fun v H1 c1 d1 p S1 k1 dv1 => ?_
    obtain ⟨a, rfl, p⟩ := p
    cases dv1
    refine ⟨⟨a, rfl⟩, p σ H1 _ S1 fun w H2 c2 d2 p2 S2 k2 dv2 => ?_⟩
    obtain ⟨ys, e, hz, p2⟩ := p2
    obtain ⟨q, xs, rfl, hq, dv⟩ := dv_seq (dv2.mono (mask_ex _ _)) e
    have e2 := dv.of_strs
    subst e2
    exact ⟨a, q, ys, rfl, rfl, hq, hz, k _ H2 c2 _ p2 S2 (k1.trans k2) (.str _)⟩
end
end D
end
section
set_option Elab.async false
set_option linter.all false
set_option maxRecDepth 100000
namespace D
open PySem L2
structure PEnds where
  nx : List Sl → Cells → Prop
  rt : List Sl → Cells → Dt → Prop
  bk : List Sl → Cells → Prop := fun _ _ => False
  ct : List Sl → Cells → Prop := fun _ _ => False
structure EO (K : PySem.W.Frag) (F : Fm) (c : Cells) (H : Hp) (Φ : PEnds) (D : Ends) : Prop where
  nx : ∀ Γ' c' σ' H', Φ.nx Γ' c' → SI K F Γ' c' σ' H' → Ex (Vw F c H) (Vw F c' H') → D.nx σ' H'
  rt : ∀ Γ' c' σ' H' v d, Φ.rt Γ' c' d → SI K F Γ' c' σ' H' → Ex (Vw F c H) (Vw F c' H') → DV K (Vw F c' H') v d → D.rt v H'
  bk : ∀ Γ' c' σ' H', Φ.bk Γ' c' → SI K F Γ' c' σ' H' → Ex (Vw F c H) (Vw F c' H') → D.bk σ' H'
  ct : ∀ Γ' c' σ' H', Φ.ct Γ' c' → SI K F Γ' c' σ' H' → Ex (Vw F c H) (Vw F c' H') → D.ct σ' H'
theorem EO.ext {K : PySem.W.Frag} {F : Fm} {c c1 : Cells} {H H1 : Hp} {Φ : PEnds} {D : Ends} (E : EO K F c H Φ D) (e : Ex (Vw F c H) (Vw F c1 H1)) : EO K F c1 H1 Φ D :=
  ⟨fun Γ' c' σ' H' p S k => E.nx Γ' c' σ' H' p S (e.trans k), fun Γ' c' σ' H' v d p S k => E.rt Γ' c' σ' H' v d p S (e.trans k), fun Γ' c' σ' H' p S k => E.bk Γ' c' σ' H' p S (e.trans k), fun Γ' c' σ' H' p S k => E.ct Γ' c' σ' H' p S (e.trans k)⟩
structure SS (F : Fm) (X : Cx) (Γ : List Sl) (c : Cells) (ss : List Stmt) (Φ : PEnds) : Prop where
  run : ∀ (σ : L2.St) (H : Hp) (D : Ends), SI X.K F Γ c σ H → EO X.K F c H Φ D → tSts X ss D σ H
instance {F : Fm} {X : Cx} {Γ : List Sl} {c : Cells} {ss : List Stmt} {Φ : PEnds} : CoeFun (SS F X Γ c ss Φ) fun _ => ∀ (σ : L2.St) (H : Hp) (D : Ends), SI X.K F Γ c σ H → EO X.K F c H Φ D → tSts X ss D σ H := ⟨SS.run⟩
structure S1 (F : Fm) (X : Cx) (Γ : List Sl) (c : Cells) (st : Stmt) (Φ : PEnds) : Prop where
  run : ∀ (σ : L2.St) (H : Hp) (D : Ends), SI X.K F Γ c σ H → EO X.K F c H Φ D → tSt X st D σ H
instance {F : Fm} {X : Cx} {Γ : List Sl} {c : Cells} {st : Stmt} {Φ : PEnds} : CoeFun (S1 F X Γ c st Φ) fun _ => ∀ (σ : L2.St) (H : Hp) (D : Ends), SI X.K F Γ c σ H → EO X.K F c H Φ D → tSt X st D σ H := ⟨S1.run⟩
end D
end
section
set_option Elab.async false
set_option linter.all false
set_option maxRecDepth 100000
namespace D
open PySem L2
section
variable {F : Fm} {X : Cx} {Γ : List Sl} {c : Cells} {Φ : PEnds} {pos : Pos}
theorem ss_nil (p : Φ.nx Γ c) : SS F X Γ c [] Φ := .mk fun σ H D S E => tSts_of pss_nil (E.nx Γ c σ H p S (Ex.refl _))
theorem ss_cons {s : Stmt} {rest : List Stmt} (h : S1 F X Γ c s { Φ with nx := fun Γ1 c1 => SS F X Γ1 c1 rest Φ }) : SS F X Γ c (s :: rest) Φ := .mk fun σ H D S E =>
  tSts_of (pss_cons pSt pSts) (h σ H { D with nx := tSts X rest D } S ⟨fun Γ1 c1 σ1 H1 q S1 e => q σ1 H1 D S1 (E.ext e), E.rt, E.bk, E.ct⟩)
theorem ss_one {s : Stmt} (h : S1 F X Γ c s Φ) : SS F X Γ c [s] Φ := .mk fun σ H D S E => tSts_of (pss_one pSt) (h σ H D S E)
theorem S1.of {s : Stmt} {t : TS} (hp : PS X s t) (h : ∀ (σ : L2.St) (H : Hp) (D : Ends), SI X.K F Γ c σ H → EO X.K F c H Φ D → t D σ H) : S1 F X Γ c s Φ := .mk fun σ H D S E => tSt_of hp (h σ H D S E)
theorem s_ret {e : Expr} (h : SE F X Γ c e (Φ.rt Γ)) : S1 F X Γ c (.Return (some e) pos) Φ :=
  S1.of (ps_ret pE) fun σ H D S E => h σ H _ S fun v H' c' d p S' e' dv => E.rt Γ c' σ H' v d p S' e' dv
theorem s_if {t : Expr} {a b : List Stmt} (h : ST F X Γ c t fun c1 k => if k = true then SS F X Γ c1 a Φ else SS F X Γ c1 b Φ) : S1 F X Γ c (.If t a b pos) Φ :=
  S1.of (ps_if pT pSts pSts) fun σ H D S E => h σ H _ S fun k H1 c1 p S1 e => by
    cases k with
    | true => exact (show SS F X Γ c1 a Φ from p) σ H1 D S1 (E.ext e)
    | false => exact (show SS F X Γ c1 b Φ from p) σ H1 D S1 (E.ext e)
theorem s_expr {e : Expr} (h : SE F X Γ c e fun c1 _ => Φ.nx Γ c1) (hs : swapsWith e none pos.line X.env = pure false := by rfl) : S1 F X Γ c (.Expr e pos) Φ :=
  S1.of (ps_expr pE hs) fun σ H D S E => h σ H _ S fun v H' c' d p S' e' dv => E.nx Γ c' σ H' p S' e'
def tGt (X : Cx) (tg : Expr) : TG := fun v σ H Q => ∃ g, PG X tg g ∧ g v σ H Q
theorem pGt {tg : Expr} : PG X tg (tGt X tg) := ⟨fun pins s σ H v u Q I r ⟨g, h, q⟩ => h.run pins s σ H v u Q I r q⟩
def tGts (X : Cx) (tgs : List Expr) : TGs := fun vs σ H Q => ∃ g, PGs X tgs g ∧ g vs σ H Q
theorem pGts {tgs : List Expr} : PGs X tgs (tGts X tgs) := ⟨fun pins s σ H v u Q I r ⟨g, h, q⟩ => h.run pins s σ H v u Q I r q⟩
structure SG (F : Fm) (X : Cx) (Γ : List Sl) (c : Cells) (tg : Expr) (d : Dt) (N : List Sl → Prop) : Prop where
  run : ∀ (σ : L2.St) (H : Hp) (v : V) (Q : L2.St → Hp → Prop), SI X.K F Γ c σ H → DV X.K (Vw F c H) v d → (∀ Γ' σ', N Γ' → SI X.K F Γ' c σ' H → Q σ' H) → tGt X tg v σ H Q
instance {F : Fm} {X : Cx} {Γ : List Sl} {c : Cells} {tg : Expr} {d : Dt} {N : List Sl → Prop} : CoeFun (SG F X Γ c tg d N) fun _ => ∀ (σ : L2.St) (H : Hp) (v : V) (Q : L2.St → Hp → Prop), SI X.K F Γ c σ H → DV X.K (Vw F c H) v d → (∀ Γ' σ', N Γ' → SI X.K F Γ' c σ' H → Q σ' H) → tGt X tg v σ H Q := ⟨SG.run⟩
structure SGs (F : Fm) (X : Cx) (Γ : List Sl) (c : Cells) (tgs : List Expr) (ds : List Dt) (N : List Sl → Prop) : Prop where
  run : ∀ (σ : L2.St) (H : Hp) (vs : List V) (Q : L2.St → Hp → Prop), SI X.K F Γ c σ H → DVs X.K (Vw F c H) vs ds → (∀ Γ' σ', N Γ' → SI X.K F Γ' c σ' H → Q σ' H) → tGts X tgs vs σ H Q
instance {F : Fm} {X : Cx} {Γ : List Sl} {c : Cells} {tgs : List Expr} {ds : List Dt} {N : List Sl → Prop} : CoeFun (SGs F X Γ c tgs ds N) fun _ => ∀ (σ : L2.St) (H : Hp) (vs : List V) (Q : L2.St → Hp → Prop), SI X.K F Γ c σ H → DVs X.K (Vw F c H) vs ds → (∀ Γ' σ', N Γ' → SI X.K F Γ' c σ' H → Q σ' H) → tGts X tgs vs σ H Q := ⟨SGs.run⟩
theorem sg_name (i : Nat) {x : Str} {d : Dt} {N : List Sl → Prop} (hN : X.N.Nodup) (p : N (Γ.set i (.dat d))) (hi : X.N[i]? = some x := by rfl) (hx : Loc X.env.scope x := by first | exact Or.inl rfl | exact Or.inr rfl)
    (hf : X.fn x = true ∨ X.env.scope.names.lookup x = some .local := by first | exact .inl rfl | exact .inr rfl) : SG F X Γ c (.Name x pos) d N :=
  .mk fun σ H v Q S dv k => ⟨gName i, pg_name hN hi hx hf, k _ _ p (S.setD dv)⟩
theorem sgs_nil {N : List Sl → Prop} (p : N Γ) : SGs F X Γ c [] [] N := .mk fun σ H vs Q S dv k => by cases dv; exact ⟨gNil, pgs_nil, rfl, k Γ σ p S⟩
theorem sgs_cons {t : Expr} {ts : List Expr} {d : Dt} {ds : List Dt} {N : List Sl → Prop} (h : SG F X Γ c t d fun Γ1 => SGs F X Γ1 c ts ds N)
    (hs : (assignEach (t :: ts) X.env).map (·.2) = assign t X.env :: (assignEach ts X.env).map (·.2) := by rfl) : SGs F X Γ c (t :: ts) (d :: ds) N := .mk fun σ H vs Q S dv k => by
  cases dv with
  | cons h1 t1 =>
    refine ⟨gCons (tGt X t) (tGts X ts), pgs_cons pGt pGts hs, _, _, rfl, ?_⟩
    exact h σ H _ _ S h1 fun Γ1 σ1 p S1 => p σ1 H _ Q S1 t1 fun Γ2 σ2 p2 S2 => k Γ2 σ2 p2 S2
theorem sg_tup {es : List Expr} {kk : Nat} {ds : List Dt} {N : List Sl → Prop} (hc : X.calm = true) (h : SGs F X Γ c es ds N) (hn : (assignEach es X.env).length = ds.length := by rfl) (hst : (assignEach es X.env).findIdx? (·.1) = none := by rfl) : SG F X Γ c (.Tuple es kk pos) (.tup ds) N := .mk fun σ H v Q S dv k => by
  cases dv with
  | tup a t => exact ⟨_, pg_tup (n := ds.length) hc pGts hn hst, _, _, rfl, (a.mono (mask_ex _ _)).t, t.length, h σ H _ Q S t k⟩
theorem sg_par {es : List Expr} {kk : Nat} {ds : List Dt} {N : List Sl → Prop} (hc : X.calm = true) (h : SGs F X Γ c es ds N) (hn : (assignEach es X.env).length = ds.length := by rfl) (hst : (assignEach es X.env).findIdx? (·.1) = none := by rfl) : SG F X Γ c (.Tuple es kk pos) (.par ds) N := .mk fun σ H v Q S dv k => by
  cases dv with
  | par a t => exact ⟨_, pg_tup (n := ds.length) hc pGts hn hst, _, _, rfl, .inl (.inl (mask_ex _ _ _ _ a)), t.length, h σ H _ Q S t k⟩
theorem s_asg {tg e : Expr} (h : SE F X Γ c e fun c1 d => SG F X Γ c1 tg d fun Γ' => Φ.nx Γ' c1) (hs : swapsWithSole [tg] e pos.line X.env = pure false := by rfl) (hw : swappedStores [tg] e X.env = pure none := by rfl)
    (h1 : (assignEach [tg] X.env).map (·.2) = [assign tg X.env] := by rfl) : S1 F X Γ c (.Assign [tg] e pos) Φ :=
  S1.of (ps_asg pE pGt hs hw h1) fun σ H D S E => h σ H _ S fun v H' c' d p S' e' dv => p σ H' v _ S' dv fun Γ2 σ2 p2 S2 => E.nx Γ2 c' σ2 H' p2 S2 e'
/-- a, b = e1, e2, both names plain locals -/
theorem s_par (i j : Nat) {x y : Str} {a b : Expr} {px py pt : Pos} {kt k2 pt2} (hc : X.calm = true) (hN : X.N.Nodup) (hij : i ≠ j) (h : SA F X Γ c [a, b] fun c1 ds => ∃ d1 d2, ds = [d1, d2] ∧ Φ.nx ((Γ.set i (.dat d1)).set j (.dat d2)) c1)
    (hi : X.N[i]? = some x := by rfl) (hj : X.N[j]? = some y := by rfl) (hx : X.env.scope.names.lookup x = some .local := by rfl) (hy : X.env.scope.names.lookup y = some .local := by rfl)
    (hw : swappedStores [.Tuple [.Name x px, .Name y py] kt pt] (.Tuple [a, b] k2 pt2) X.env = pure (some [x, y]) := by rfl) (hs : swapsWithSole [.Tuple [.Name x px, .Name y py] kt pt] (.Tuple [a, b] k2 pt2) pos.line X.env = pure false := by rfl) :
    S1 F X Γ c (.Assign [.Tuple [.Name x px, .Name y py] kt pt] (.Tuple [a, b] k2 pt2) pos) Φ :=
  S1.of (ps_par hc hN hi hj hij hx hy pAs hw hs) fun σ H D S E => h σ H _ S fun vs H' c' ds p S' e' dv => by
    obtain ⟨d1, d2, rfl, p⟩ := p
    cases dv with
    | cons h1 t => cases t with
      | cons h2 t =>
        cases t
        exact ⟨_, _, rfl, E.nx _ c' _ H' p ((S'.setD h1).setD h2) e'⟩
structure SEL (F : Fm) (X : Cx) (Γ : List Sl) (c : Cells) (e : Expr) (P : Cells → List Dt → Prop) : Prop where
  run : ∀ (σ : L2.St) (H : Hp) (Q : VK), SI X.K F Γ c σ H → (∀ p xs H1 c' l, P c' l → SI X.K F Γ c' σ H1 → Ex (Vw F c H) (Vw F c' H1) → H1 p = none → DVs X.K (Vw F c' H1) xs l → Q (.ref p) (upd H1 p (.lst xs))) → tE X e σ H Q
instance {F : Fm} {X : Cx} {Γ : List Sl} {c : Cells} {e : Expr} {P : Cells → List Dt → Prop} : CoeFun (SEL F X Γ c e P) fun _ => ∀ (σ : L2.St) (H : Hp) (Q : VK), SI X.K F Γ c σ H → (∀ p xs H1 c' l, P c' l → SI X.K F Γ c' σ H1 → Ex (Vw F c H) (Vw F c' H1) → H1 p = none → DVs X.K (Vw F c' H1) xs l → Q (.ref p) (upd H1 p (.lst xs))) → tE X e σ H Q := ⟨SEL.run⟩
theorem SEL.se {e : Expr} {P : Cells → Dt → Prop} (h : SEL F X Γ c e fun c1 l => P c1 (.lst l)) : SE F X Γ c e P := .mk fun σ H Q S k =>
  h σ H Q S fun p xs H1 c' l q S1 e1 hp dv => k _ _ c' _ q (S1.new hp) (e1.trans (Kp.new (F := F) hp).hid) (S1.newL hp dv)
theorem sel_lst {es : List Expr} {P : Cells → List Dt → Prop} (h : SA F X Γ c es fun c1 ds => ds.length ≤ sizeLine ∧ P c1 ds) : SEL F X Γ c (.List es pos) P := .mk fun σ H Q S k =>
  tE_of (pe_lst pAs) (h σ H _ S fun vs H1 c1 ds p S1 k1 dv => ⟨by rw [dv.length]; exact p.1, fun q hq => k q vs H1 c1 ds p.2 S1 k1 hq dv⟩)
/-- a new list as a cell of one's own -/
theorem SEL.sc {e : Expr} {P : Cells → Dt → Prop} (h : SEL F X Γ c e fun c1 l => ∀ a, P (c1 ++ [(a, .lst l)]) (.raw (.ref a))) : SE F X Γ c e P := .mk fun σ H Q S k =>
  h σ H Q S fun p xs H1 c' l q S1 e1 hp dv => by
    obtain ⟨S2, e2⟩ := S1.addC (q := .lst l) (o := .lst xs) hp rfl ⟨xs, upd_same, dv⟩
    exact k _ _ _ _ (q p) S2 (e1.trans e2) (.raw _)
/-- other cells, of which the present ones are an order -/
theorem ss_perm {c' : Cells} {ss : List Stmt} (hp : c.Perm c') (h : SS F X Γ c' ss Φ) : SS F X Γ c ss Φ := .mk fun σ H D S E => h σ H D (S.perm hp) (E.ext (by rw [vw_perm hp]; exact Ex.refl _))
end
end D
end
section
set_option Elab.async false
set_option linter.all false
set_option maxRecDepth 100000
namespace D
open PySem L2
def wI (X : Cx) (tg iter : Expr) : TI := fun σ H R => ∃ w, PI X tg iter w ∧ w σ H R
theorem pI {X : Cx} {tg iter : Expr} : PI X tg iter (wI X tg iter) := ⟨fun pins s σ H R I ⟨w, h, q⟩ => h.run pins s σ H R I q⟩
/-- the i-th item: there already, or a pair that is new -/
def Item (K : PySem.W.Frag) (V0 : Hp) (H1 : Hp) (x : V) (H2 : Hp) (d : Dt) : Prop :=
  (H2 = H1 ∧ DV K V0 x d) ∨ (∃ T x1 x2 d1 d2, x = .ref T ∧ H1 T = none ∧ H2 = upd H1 T (.tup [x1, x2]) ∧ d = .par [d1, d2] ∧ DV K V0 x1 d1 ∧ DV K V0 x2 d2) ∨
  (H2 = H1 ∧ ∃ q xs ds, x = .ref q ∧ H1 q = some (.tup xs) ∧ d = .par ds ∧ ∀ V, DVs K V xs ds)
def Src (K : PySem.W.Frag) (V0 : Hp) (J : It) (ds : List Dt) : Prop :=
  ∃ (G : Hp → Prop) (Y : Nat → Hp → V → Hp → Prop), Walk J ds.length G Y ∧ (∀ H, Ex V0 H → G H) ∧ ∀ i H1 x H2, i < ds.length → Y i H1 x H2 → Ex V0 H1 → ∃ d, ds[i]? = some d ∧ Item K V0 H1 x H2 d
structure SW (F : Fm) (X : Cx) (Γ : List Sl) (c : Cells) (tg iter : Expr) (P : Cells → List Dt → Prop) : Prop where
  run : ∀ (σ : L2.St) (H : Hp) (R : It → Hp → Prop), SI X.K F Γ c σ H → (∀ J H' c' ds, P c' ds → SI X.K F Γ c' σ H' → Ex (Vw F c H) (Vw F c' H') → Src X.K (Vw F c' H') J ds → R J H') → wI X tg iter σ H R
instance {F : Fm} {X : Cx} {Γ : List Sl} {c : Cells} {tg iter : Expr} {P : Cells → List Dt → Prop} : CoeFun (SW F X Γ c tg iter P) fun _ => ∀ (σ : L2.St) (H : Hp) (R : It → Hp → Prop), SI X.K F Γ c σ H → (∀ J H' c' ds, P c' ds → SI X.K F Γ c' σ H' → Ex (Vw F c H) (Vw F c' H') → Src X.K (Vw F c' H') J ds → R J H') → wI X tg iter σ H R := ⟨SW.run⟩
/-- the signs of a text -/
def signs (z : Str) : List Dt := z.cps.toList.map fun a => Dt.str ⟨#[a]⟩
def idxs (n : Nat) : List Dt := (List.range n).map fun (i : Nat) => Dt.int (i : Int)
def zipD (l m : List Dt) : List Dt := (l.zip m).map fun p => Dt.par [p.1, p.2]
section
variable {F : Fm} {X : Cx} {Γ : List Sl} {c : Cells} {Φ : PEnds} {pos : Pos} {tg : Expr} {P : Cells → List Dt → Prop} {K : PySem.W.Frag}
theorem src_at {V0 : Hp} {J : It} {xs : List V} {l : List Dt} {G : Hp → Prop} (w : Walk J xs.length G (YAt xs)) (hG : ∀ H, Ex V0 H → G H) (t : DVs K V0 xs l) : Src K V0 J l :=
  ⟨G, YAt xs, t.length ▸ w, hG, fun i H1 x H2 hi y _ => by
    obtain ⟨d, h1, h2⟩ := t.getV y.2
    exact ⟨d, h1, .inl ⟨y.1, h2⟩⟩⟩
theorem sw_lst {e : Expr} (h : SE F X Γ c e fun c1 d => ∃ l, d = .lst l ∧ P c1 l) : SW F X Γ c tg e P := .mk fun σ H R S k =>
  ⟨_, pi_list pE, h σ H _ S fun v H1 c1 d p S1 k1 dv => by
    obtain ⟨l, rfl, p⟩ := p
    cases dv with
    | lst a t => exact ⟨_, rfl, ⟨_, .inl (.inl (of_mask a).2)⟩, k _ H1 c1 l p S1 k1 (src_at walk_list (fun H e => .inl (.inl (e _ _ a))) t)⟩⟩
theorem src_str {V0 : Hp} {z : Str} : Src K V0 (Its z) (signs z) := by
  have hl : (signs z).length = z.cps.size := by unfold signs; rw [List.length_map, Array.length_toList]
  refine ⟨_, _, hl.symm ▸ walk_str, fun _ _ => True.intro, fun i H1 x H2 hi y _ => ?_⟩
  obtain ⟨h1, a, h2, rfl⟩ := y
  refine ⟨.str ⟨#[a]⟩, ?_, .inl ⟨h1, .str _⟩⟩
  unfold signs
  rw [List.getElem?_map, Array.getElem?_toList, h2]
  rfl
theorem src_range {V0 : Hp} {n : Nat} : Src K V0 (Itr 0 n) (idxs n) := by
  have hl : (idxs n).length = n := by unfold idxs; rw [List.length_map, List.length_range]
  refine ⟨fun _ => True, YFn fun i => .int (0 + (i : Nat)), by rw [hl]; exact walk_range, fun _ _ => True.intro, fun i H1 x H2 hi y _ => ?_⟩
  obtain ⟨h1, h2⟩ := y
  rw [hl] at hi
  refine ⟨.int (i : Int), ?_, .inl ⟨h1, ?_⟩⟩
  · unfold idxs
    rw [List.getElem?_map, List.getElem?_range hi]
    rfl
  · rw [h2]
    show DV K V0 (V.int (0 + (i : Int))) _
    rw [Int.zero_add]
    exact .int _
theorem sw_range {e : Expr} {p : Pos} (hm : X.mg "range" = none) (h : SE F X Γ c e fun c1 d => ∃ j : Int, d = .int j ∧ -(2 ^ 62) ≤ j ∧ j < 2 ^ 62 ∧ P c1 (idxs j.toNat)) (hg : Gl X "range" := by rfl) (hs : starEach [e] X.env = [(false, eval e X.env)] := by rfl) : SW F X Γ c tg (.Call (.Name "range" p) [e] [] pos) P := .mk fun σ H R S k =>
  ⟨_, pi_range1 hg hm (pa_cons pE pa_nil hs) hs, h σ H _ S fun v H1 c1 d p S1 k1 dv => by
    obtain ⟨j, rfl, a, b, p⟩ := p
    cases dv
    exact ⟨j, rfl, a, b, k _ H1 c1 _ p S1 k1 src_range⟩⟩
theorem Item.dv {F : Fm} {Γ1 : List Sl} {c c1 : Cells} {σ : L2.St} {H H1 H2 : Hp} {x : V} {d : Dt} (it : Item K (Vw F c H) H1 x H2 d) (S : SI K F Γ1 c1 σ H1) (e : Ex (Vw F c H) (Vw F c1 H1)) : SI K F Γ1 c1 σ H2 ∧ Ex (Vw F c1 H1) (Vw F c1 H2) ∧ DV K (Vw F c1 H2) x d := by
  rcases it with ⟨rfl, dv⟩ | ⟨T, x1, x2, d1, d2, rfl, hT, rfl, rfl, h1, h2⟩ | ⟨rfl, q, xs, ds, rfl, hq, rfl, hd⟩
  · exact ⟨S, Ex.refl _, dv.mono e⟩
  · exact ⟨S.new hT, (Kp.new (F := F) hT).hid, S.newP hT (.cons (h1.mono e) (.cons (h2.mono e) .nil))⟩
  · exact ⟨S, Ex.refl _, .par (by show mask _ _ _ = _; rw [mask_out fun w => (S.hlive _ w).ne hq]; exact hq) (hd _)⟩
theorem s_for {iter : Expr} {body : List Stmt} (hp : PassesOwn (model X.prog X.w) X.A X.env X.xe) (hc : X.calm = true)
    (h : SW F X Γ c tg iter fun c1 ds => ∃ J : Nat → List Sl → Cells → Prop, J 0 Γ c1 ∧ (∀ i d Γ' c', ds[i]? = some d → J i Γ' c' → SG F X Γ' c' tg d fun Γ2 => SS F X Γ2 c' body { Φ with nx := J (i + 1), ct := J (i + 1), bk := Φ.nx }) ∧ ∀ Γ' c', J ds.length Γ' c' → Φ.nx Γ' c')
    (hs : ∀ x, foldedSetIterable iter X.env x = pure x := by intro _; rfl) : S1 F X Γ c (.For tg iter body [] pos) Φ :=
  S1.of (ps_for hp hc pI pGt pSts hs) fun σ H D S E => h σ H _ S fun It H1 c1 ds p S1 e1 src => by
    obtain ⟨J, j0, turn, done⟩ := p
    obtain ⟨G, Y, w, hG, hY⟩ := src
    refine for_it w (fun i σ' H' => ∃ Γ' c', J i Γ' c' ∧ SI X.K F Γ' c' σ' H' ∧ Ex (Vw F c1 H1) (Vw F c' H')) ⟨Γ, c1, j0, S1, Ex.refl _⟩ (fun i σ' H' _ ⟨Γ', c', _, _, e'⟩ => hG H' (e'.trans (mask_ex _ _))) ?_ ?_
    · rintro i x σ' H' H2 hi ⟨Γ', c', j, S', e'⟩ y
      obtain ⟨d, hd, it⟩ := hY i H' x H2 hi y (e'.trans (mask_ex _ _))
      obtain ⟨S2, e2, dv⟩ := it.dv S' e'
      refine turn i d Γ' c' hd j σ' H2 x _ S2 dv fun Γ3 σ3 q S3 => ?_
      have e4 := (e1.trans e').trans e2
      exact q σ3 H2 _ S3 ⟨fun Γ4 c4 σ4 H4 j4 S4 k4 => ⟨Γ4, c4, j4, S4, (e'.trans e2).trans k4⟩, fun Γ4 c4 σ4 H4 v4 d4 j4 S4 k4 => E.rt Γ4 c4 σ4 H4 v4 d4 j4 S4 (e4.trans k4), fun Γ4 c4 σ4 H4 j4 S4 k4 => E.nx Γ4 c4 σ4 H4 j4 S4 (e4.trans k4), fun Γ4 c4 σ4 H4 j4 S4 k4 => ⟨Γ4, c4, j4, S4, (e'.trans e2).trans k4⟩⟩
    · rintro σ' H' ⟨Γ', c', j, S', e'⟩
      exact E.nx Γ' c' σ' H' (done Γ' c' j) S' (e1.trans e')
end
end D
end
section
set_option Elab.async false
set_option linter.all false
set_option maxRecDepth 100000
namespace D
open PySem L2
def FD (F : Fm) (D : Addr) (o : HO) : Fm := { F with H0 := upd F.H0 D o, M := D :: F.M }
def rm (H : Hp) (D : Addr) : Hp := fun a => if a = D then none else H a
theorem rm_ne {H : Hp} {D a : Addr} (h : a ≠ D) : rm H D a = H a := if_neg h
theorem rm_same {H : Hp} {D : Addr} : rm H D D = none := if_pos rfl
theorem upd_rm {H : Hp} {D : Addr} {o : HO} (h : H D = some o) : upd (rm H D) D o = H := by
  funext a
  by_cases e : a = D
  · rw [e, upd_same, h]
  · rw [upd_ne e, rm_ne e]
def wipeG (Γ : List Sl) : List Nat → List Sl
  | [] => Γ
  | v :: vs => (wipeG Γ vs).set v .un
section
variable {K : PySem.W.Frag} {F : Fm} {Γ : List Sl} {c : Cells} {σ : L2.St} {H : Hp} {D : Addr} {o o' : HO}
theorem hid_FD : ∀ a, a ∈ hid (FD F D o) c ↔ a = D ∨ a ∈ hid F c := fun a => by
  unfold hid FD
  simp only [List.mem_append, List.mem_cons]
  constructor
  · rintro (h | h | h)
    · exact .inr (.inl h)
    · exact .inl h
    · exact .inr (.inr h)
  · rintro (h | h | h)
    · exact .inr (.inl h)
    · exact .inl h
    · exact .inr (.inr h)
theorem vw_FD (a : Addr) : Vw (FD F D o) c H a = if a = D then none else Vw F c H a := by
  by_cases e : a = D
  · rw [if_pos e]
    exact mask_in ((hid_FD a).mpr (.inl e))
  · rw [if_neg e]
    by_cases h : a ∈ hid F c
    · show mask _ _ _ = mask _ _ _
      rw [mask_in h, mask_in ((hid_FD a).mpr (.inr h))]
    · show mask _ _ _ = mask _ _ _
      rw [mask_out h, mask_out fun z => by rcases (hid_FD a).mp z with z | z; exact e z; exact h z]
theorem vw_FD_upd {u : HO} : Vw (FD F D o') c (upd H D u) = Vw (FD F D o) c H := by
  funext a
  rw [vw_FD, vw_FD]
  by_cases e : a = D
  · rw [if_pos e, if_pos e]
  · rw [if_neg e, if_neg e]
    show mask _ _ _ = mask _ _ _
    unfold mask
    rw [upd_ne e]
theorem SI.hide (S : SI K F Γ c σ H) (h : H D = none) (hn : ∀ xs, o ≠ .tup xs) : SI K (FD F D o) Γ c σ (upd H D o) ∧ Ex (Vw F c H) (Vw (FD F D o) c (upd H D o)) := by
  have nh : D ∉ hid F c := S.fresh h
  have sub : Ex (Vw F c H) (Vw (FD F D o) c (upd H D o)) := fun a u q => by
    obtain ⟨n, e⟩ := of_mask q
    have hb : a ≠ D := ne_of_none e h
    rw [vw_FD, if_neg hb]
    show mask _ _ _ = _
    rw [mask_out n, upd_ne hb]
    exact e
  have na : ∀ a ∈ addrs c, a ≠ D := fun a ha z => nh (List.mem_append_left _ (by rw [← z]; exact ha))
  refine ⟨⟨S.len, S.nd, fun j d hj => ?_, fun p hp => ?_, fun b u q => ?_, fun b hb => ?_, fun b hb => ?_, fun b hb => ?_⟩, sub⟩
  · obtain ⟨v, h1, h2⟩ := S.sl j d hj
    exact ⟨v, h1, h2.mono sub⟩
  · exact (S.ce p hp).mono sub fun x hx => upd_ne (na x (mem_addrs hp hx))
  · obtain ⟨n, e⟩ := of_mask q
    rw [show (FD F D o).W = F.W from rfl] at n ⊢
    rw [mask_out n]
    by_cases hb : b = D
    · subst hb
      rw [show (FD F b o).H0 = upd F.H0 b o from rfl, upd_same] at e
      rw [upd_same]
      exact e
    · rw [show (FD F D o).H0 = upd F.H0 D o from rfl, upd_ne hb] at e
      rw [upd_ne hb]
      exact (of_mask (S.keep b u (by rw [mask_out n]; exact e))).2
  · have q := S.fr b hb
    refine ⟨?_, fun z => by rcases List.mem_cons.mp z with z | z; exact na b hb z; exact q.2 z⟩
    rcases q.1 with f | f
    · exact .inl f
    · exact .inr (by rw [show (FD F D o).H0 = upd F.H0 D o from rfl, upd_ne (na b hb)]; exact f)
  · rcases List.mem_cons.mp hb with z | z
    · rw [z]; exact ⟨_, upd_same, hn⟩
    · exact (S.live b z).mono fun u q => by rw [upd_ne (ne_of_none q h)]; exact q
  · obtain ⟨u, q⟩ := S.wl b hb
    exact ⟨u, by rw [upd_ne (ne_of_none q h)]; exact q⟩
theorem SI.grow (S : SI K (FD F D o) Γ c σ H) (hn : ∀ xs, o' ≠ .tup xs) : SI K (FD F D o') Γ c σ (upd H D o') := by
  have e1 : Vw (FD F D o') c (upd H D o') = Vw (FD F D o) c H := vw_FD_upd
  have na : ∀ a ∈ addrs c, a ≠ D := fun a ha z => (S.fr a ha).2 (by rw [z]; exact List.mem_cons_self ..)
  refine ⟨S.len, S.nd, fun j d hj => ?_, fun p hp => ?_, fun b u q => ?_, fun b hb => ?_, fun b hb => ?_, fun b hb => ?_⟩
  · obtain ⟨v, h1, h2⟩ := S.sl j d hj
    exact ⟨v, h1, h2.mono (fun a o q => (congrFun e1 a).trans q)⟩
  · exact (S.ce p hp).mono (fun a o q => (congrFun e1 a).trans q) fun x hx => upd_ne (na x (mem_addrs hp hx))
  · obtain ⟨n, e⟩ := of_mask q
    rw [mask_out n]
    by_cases hb : b = D
    · subst hb
      rw [show (FD F b o').H0 = upd F.H0 b o' from rfl, upd_same] at e
      rw [upd_same]
      exact e
    · rw [show (FD F D o').H0 = upd F.H0 D o' from rfl, upd_ne hb] at e
      rw [upd_ne hb]
      exact (of_mask (S.keep b u (by rw [mask_out (show b ∉ (FD F D o).W from n), show (FD F D o).H0 = upd F.H0 D o from rfl, upd_ne hb]; exact e))).2
  · have q := S.fr b hb
    refine ⟨?_, q.2⟩
    rcases q.1 with f | f
    · exact .inl f
    · exact .inr (by rw [show (FD F D o').H0 = upd F.H0 D o' from rfl, upd_ne (na b hb)]; rwa [show (FD F D o).H0 = upd F.H0 D o from rfl, upd_ne (na b hb)] at f)
  · by_cases z : b = D
    · rw [z]; exact ⟨_, upd_same, hn⟩
    · exact (S.live b hb).mono fun u q => by rw [upd_ne z]; exact q
  · by_cases z : b = D
    · rw [z]; exact ⟨_, upd_same⟩
    · obtain ⟨u, q⟩ := S.wl b hb
      exact ⟨u, by rw [upd_ne z]; exact q⟩
theorem vw_rm : Ex (Vw (FD F D o) c H) (Vw F c (rm H D)) := fun a u q => by
  rw [vw_FD] at q
  by_cases e : a = D
  · rw [if_pos e] at q; cases q
  · rw [if_neg e] at q
    obtain ⟨n, q⟩ := of_mask q
    show mask _ _ _ = _
    rw [mask_out n, rm_ne e]
    exact q
theorem SI.unhide (S : SI K (FD F D o) Γ c σ H) (h0 : F.H0 D = none) (nM : D ∉ F.M) (nW : D ∉ F.W) : SI K F Γ c σ (rm H D) := by
  have na : ∀ a ∈ addrs c, a ≠ D := fun a ha z => (S.fr a ha).2 (by rw [z]; exact List.mem_cons_self ..)
  refine ⟨S.len, S.nd, fun j d hj => ?_, fun p hp => ?_, fun b u q => ?_, fun b hb => ?_, fun b hb => ?_, fun b hb => ?_⟩
  · obtain ⟨v, h1, h2⟩ := S.sl j d hj
    exact ⟨v, h1, h2.mono vw_rm⟩
  · exact (S.ce p hp).mono vw_rm fun x hx => rm_ne (na x (mem_addrs hp hx))
  · obtain ⟨n, e⟩ := of_mask q
    have hb : b ≠ D := fun z => by rw [z, h0] at e; cases e
    rw [mask_out n, rm_ne hb]
    exact (of_mask (S.keep b u (by rw [mask_out (show b ∉ (FD F D o).W from n), show (FD F D o).H0 = upd F.H0 D o from rfl, upd_ne hb]; exact e))).2
  · have q := S.fr b hb
    refine ⟨?_, fun z => q.2 (List.mem_cons_of_mem _ z)⟩
    rcases q.1 with f | f
    · exact .inl f
    · exact .inr (by rwa [show (FD F D o).H0 = upd F.H0 D o from rfl, upd_ne (na b hb)] at f)
  · exact (S.live b (List.mem_cons_of_mem _ hb)).mono fun u q => by rw [rm_ne fun z => nM (by rw [← z]; exact hb)]; exact q
  · obtain ⟨u, q⟩ := S.wl b hb
    exact ⟨u, by rw [rm_ne fun z => nW (by rw [← z]; exact hb)]; exact q⟩
theorem SI.hD (S : SI K (FD F D o) Γ c σ H) (nW : D ∉ F.W) : H D = some o :=
  (of_mask (S.keep D o (by rw [mask_out (show D ∉ (FD F D o).W from nW)]; exact upd_same))).2
theorem SI.nW (S : SI K F Γ c σ H) (h : H D = none) : D ∉ F.W := fun z => by
  obtain ⟨u, q⟩ := S.wl D z
  rw [h] at q; cases q
/-- the slots of before, what was done since -/
theorem SI.back {Γ' : List Sl} {c' : Cells} {σ' : L2.St} {H' : Hp} (S : SI K F Γ c σ H) (S' : SI K F Γ' c' σ' H') (e : Ex (Vw F c H) (Vw F c' H')) : SI K F Γ c' σ H' :=
  ⟨S.len, S'.nd, fun i d hi => by obtain ⟨v, h1, h2⟩ := S.sl i d hi; exact ⟨v, h1, h2.mono e⟩, S'.ce, S'.keep, S'.fr, S'.live, S'.wl⟩
theorem SI.wipe (S : SI K F Γ c σ H) : ∀ vs : List Nat, SI K F (wipeG Γ vs) c (L2.wipe σ vs) H
  | [] => S
  | v :: vs => (SI.wipe S vs).setS fun d e => nomatch e
theorem Item.dv' {V0 H2 : Hp} {x : V} {d : Dt} (it : Item K V0 H x H2 d) (S : SI K F Γ c σ H) (e : Ex V0 (Vw F c H)) : SI K F Γ c σ H2 ∧ Ex (Vw F c H) (Vw F c H2) ∧ DV K (Vw F c H2) x d := by
  rcases it with ⟨rfl, dv⟩ | ⟨T, x1, x2, d1, d2, rfl, hT, rfl, rfl, h1, h2⟩ | ⟨rfl, q, xs, ds, rfl, hq, rfl, hd⟩
  · exact ⟨S, Ex.refl _, dv.mono e⟩
  · exact ⟨S.new hT, (Kp.new (F := F) hT).hid, S.newP hT (.cons (h1.mono e) (.cons (h2.mono e) .nil))⟩
  · exact ⟨S, Ex.refl _, .par (by show mask _ _ _ = _; rw [mask_out fun w => (S.hlive _ w).ne hq]; exact hq) (hd _)⟩
end
abbrev blk (X : Cx) (scope : Scope) (s0 : Shared) (H0 : Hp) (C : Addr) (cl : List (Str × Addr)) (fp : List Addr) : Cx := X.blk s0 H0 scope (compEnvC scope cl C X.env) fp
def tEb (X : Cx) (scope : Scope) (e : Expr) : TE := fun σ H Q => ∀ (s0 : Shared) (H0 : Hp) (C : Addr) (cl : List (Str × Addr)) (fp : List Addr), tE (blk X scope s0 H0 C cl fp) e σ H Q
theorem pEb {X : Cx} {scope : Scope} {e : Expr} (s0 : Shared) (H0 : Hp) (C : Addr) (cl : List (Str × Addr)) (fp : List Addr) : PE (X.blk s0 H0 scope (compEnvC scope cl C X.env) fp) e (tEb X scope e) := ⟨fun pins s σ H Q I h => (h s0 H0 C cl fp).run pins s I⟩
def tTb (X : Cx) (scope : Scope) (e : Expr) : TT := fun σ H Q => ∀ (s0 : Shared) (H0 : Hp) (C : Addr) (cl : List (Str × Addr)) (fp : List Addr), tT (blk X scope s0 H0 C cl fp) e σ H Q
theorem pTb {X : Cx} {scope : Scope} {e : Expr} (s0 : Shared) (H0 : Hp) (C : Addr) (cl : List (Str × Addr)) (fp : List Addr) : PT (X.blk s0 H0 scope (compEnvC scope cl C X.env) fp) e (tTb X scope e) := ⟨fun pins s σ H Q I h => (h s0 H0 C cl fp).run pins s I⟩
def tGb (X : Cx) (scope : Scope) (tg : Expr) : TG := fun v σ H Q => ∀ (s0 : Shared) (H0 : Hp) (C : Addr) (cl : List (Str × Addr)) (fp : List Addr), tGt (blk X scope s0 H0 C cl fp) tg v σ H Q
theorem pGb {X : Cx} {scope : Scope} {tg : Expr} (s0 : Shared) (H0 : Hp) (C : Addr) (cl : List (Str × Addr)) (fp : List Addr) : PG (X.blk s0 H0 scope (compEnvC scope cl C X.env) fp) tg (tGb X scope tg) := ⟨fun pins s σ H v u Q I r h => pGt.run pins s σ H v u Q I r (h s0 H0 C cl fp)⟩
/-- a block's target: only its own slots change -/
structure SGb (F : Fm) (X : Cx) (Γ : List Sl) (c : Cells) (vs : List Nat) (tg : Expr) (d : Dt) (N : List Sl → Prop) : Prop where
  run : ∀ (σ : L2.St) (H : Hp) (v : V) (Q : L2.St → Hp → Prop), SI X.K F Γ c σ H → DV X.K (Vw F c H) v d → (∀ Γ' σ', N Γ' → SI X.K F Γ' c σ' H → wipe σ' vs = wipe σ vs → Q σ' H) → tGt X tg v σ H Q
instance {F : Fm} {X : Cx} {Γ : List Sl} {c : Cells} {vs : List Nat} {tg : Expr} {d : Dt} {N : List Sl → Prop} : CoeFun (SGb F X Γ c vs tg d N) fun _ => ∀ (σ : L2.St) (H : Hp) (v : V) (Q : L2.St → Hp → Prop), SI X.K F Γ c σ H → DV X.K (Vw F c H) v d → (∀ Γ' σ', N Γ' → SI X.K F Γ' c σ' H → wipe σ' vs = wipe σ vs → Q σ' H) → tGt X tg v σ H Q := ⟨SGb.run⟩
structure SGbs (F : Fm) (X : Cx) (Γ : List Sl) (c : Cells) (vs : List Nat) (tgs : List Expr) (ds : List Dt) (N : List Sl → Prop) : Prop where
  run : ∀ (σ : L2.St) (H : Hp) (ws : List V) (Q : L2.St → Hp → Prop), SI X.K F Γ c σ H → DVs X.K (Vw F c H) ws ds → (∀ Γ' σ', N Γ' → SI X.K F Γ' c σ' H → wipe σ' vs = wipe σ vs → Q σ' H) → tGts X tgs ws σ H Q
instance {F : Fm} {X : Cx} {Γ : List Sl} {c : Cells} {vs : List Nat} {tgs : List Expr} {ds : List Dt} {N : List Sl → Prop} : CoeFun (SGbs F X Γ c vs tgs ds N) fun _ => ∀ (σ : L2.St) (H : Hp) (ws : List V) (Q : L2.St → Hp → Prop), SI X.K F Γ c σ H → DVs X.K (Vw F c H) ws ds → (∀ Γ' σ', N Γ' → SI X.K F Γ' c σ' H → wipe σ' vs = wipe σ vs → Q σ' H) → tGts X tgs ws σ H Q := ⟨SGbs.run⟩
theorem wipe_set {σ : L2.St} {i : Nat} {o : Option V} : ∀ {vs : List Nat}, i ∈ vs → wipe (σ.set i o) vs = wipe σ vs
  | [], h => nomatch h
  | v :: vs, h => by
    refine List.ext_getElem? fun j => ?_
    unfold wipe
    by_cases hv : v = j
    · subst hv
      by_cases hl : v < σ.length
      · rw [List.getElem?_set_self (by rw [wipe_length, List.length_set]; exact hl), List.getElem?_set_self (by rw [wipe_length]; exact hl)]
      · rw [List.getElem?_eq_none (by rw [List.length_set, wipe_length, List.length_set]; omega), List.getElem?_eq_none (by rw [List.length_set, wipe_length]; omega)]
    · rw [List.getElem?_set_ne hv, List.getElem?_set_ne hv]
      by_cases hi : i ∈ vs
      · rw [wipe_set hi]
      · have e : i = v := by
          rcases List.mem_cons.mp h with h | h
          · exact h
          · exact absurd h hi
        by_cases hj : j ∈ vs
        · have w : ∀ {τ : L2.St} {vs : List Nat}, j ∈ vs → j < τ.length → (wipe τ vs)[j]? = some none := by
            intro τ vs
            induction vs with
            | nil => intro h; exact nomatch h
            | cons u us ih =>
              intro h hl
              unfold wipe
              by_cases hu : u = j
              · subst hu; rw [List.getElem?_set_self (by rw [wipe_length]; exact hl)]
              · rw [List.getElem?_set_ne hu]
                rcases List.mem_cons.mp h with h | h
                · exact absurd h.symm hu
                · exact ih h hl
          by_cases hl : j < σ.length
          · rw [w hj (by rw [List.length_set]; exact hl), w hj hl]
          · rw [List.getElem?_eq_none (by rw [wipe_length, List.length_set]; omega), List.getElem?_eq_none (by rw [wipe_length]; omega)]
        · rw [wipe_out hj, wipe_out hj, List.getElem?_set_ne (by rw [e]; exact hv)]
section
variable {F : Fm} {X : Cx} {Γ : List Sl} {c : Cells} {Φ : PEnds} {pos : Pos} {P : Cells → List Dt → Prop} {vs : List Nat}
theorem sgb_name (i : Nat) {x : Str} {d : Dt} {N : List Sl → Prop} (hN : X.N.Nodup) (p : N (Γ.set i (.dat d))) (hv : i ∈ vs := by decide) (hi : X.N[i]? = some x := by rfl) (hx : Loc X.env.scope x := by first | exact Or.inl rfl | exact Or.inr rfl)
    (hf : X.fn x = true ∨ X.env.scope.names.lookup x = some .local := by first | exact .inl rfl | exact .inr rfl) : SGb F X Γ c vs (.Name x pos) d N :=
  .mk fun σ H v Q S dv k => ⟨gName i, pg_name hN hi hx hf, k _ _ p (S.setD dv) (wipe_set hv)⟩
theorem sgbs_nil {N : List Sl → Prop} (p : N Γ) : SGbs F X Γ c vs [] [] N := .mk fun σ H ws Q S dv k => by cases dv; exact ⟨gNil, pgs_nil, rfl, k Γ σ p S rfl⟩
theorem sgbs_cons {t : Expr} {ts : List Expr} {d : Dt} {ds : List Dt} {N : List Sl → Prop} (h : SGb F X Γ c vs t d fun Γ1 => SGbs F X Γ1 c vs ts ds N)
    (hs : (assignEach (t :: ts) X.env).map (·.2) = assign t X.env :: (assignEach ts X.env).map (·.2) := by rfl) : SGbs F X Γ c vs (t :: ts) (d :: ds) N := .mk fun σ H ws Q S dv k => by
  cases dv with
  | cons h1 t1 =>
    refine ⟨gCons (tGt X t) (tGts X ts), pgs_cons pGt pGts hs, _, _, rfl, ?_⟩
    exact h σ H _ _ S h1 fun Γ1 σ1 p S1 w1 => p σ1 H _ Q S1 t1 fun Γ2 σ2 p2 S2 w2 => k Γ2 σ2 p2 S2 (w2.trans w1)
theorem sgb_tup {es : List Expr} {kk : Nat} {ds : List Dt} {N : List Sl → Prop} (hc : X.calm = true) (h : SGbs F X Γ c vs es ds N) (hn : (assignEach es X.env).length = ds.length := by rfl) (hst : (assignEach es X.env).findIdx? (·.1) = none := by rfl) : SGb F X Γ c vs (.Tuple es kk pos) (.tup ds) N := .mk fun σ H v Q S dv k => by
  cases dv with
  | tup a t => exact ⟨_, pg_tup (n := ds.length) hc pGts hn hst, _, _, rfl, (a.mono (mask_ex _ _)).t, t.length, h σ H _ Q S t k⟩
theorem sgb_par {es : List Expr} {kk : Nat} {ds : List Dt} {N : List Sl → Prop} (hc : X.calm = true) (h : SGbs F X Γ c vs es ds N) (hn : (assignEach es X.env).length = ds.length := by rfl) (hst : (assignEach es X.env).findIdx? (·.1) = none := by rfl) : SGb F X Γ c vs (.Tuple es kk pos) (.par ds) N := .mk fun σ H v Q S dv k => by
  cases dv with
  | par a t => exact ⟨_, pg_tup (n := ds.length) hc pGts hn hst, _, _, rfl, .inl (.inl (mask_ex _ _ _ _ a)), t.length, h σ H _ Q S t k⟩
/-- the turns of a list's comprehension -/
theorem lc_turns {σ : L2.St} {H1 : Hp} {c1 : Cells} {J : It} {ds : List Dt} {D : Addr} {Q : VK} {g : TG} {tt : TT} {te : TE} (S1 : SI X.K F Γ c1 σ H1) (src : Src X.K (Vw F c1 H1) J ds) (hD : H1 D = none) (hz : ds.length ≤ sizeLine)
    (Jv : Nat → Cells → List Dt → Prop) (j0 : Jv 0 c1 [])
    (turn : ∀ i d c' acc, ds[i]? = some d → Jv i c' acc → ∀ (F' : Fm) σ' H' x, SI X.K F' (wipeG Γ vs) c' σ' H' → DV X.K (Vw F' c' H') x d → ∀ (R : V → L2.St → Hp → Prop) (R' : L2.St → Hp → Prop),
      (∀ y H4 c3 dy Γ2 σ2, Jv (i + 1) c3 (acc ++ [dy]) → SI X.K F' Γ2 c3 σ2 H4 → Ex (Vw F' c' H') (Vw F' c3 H4) → DV X.K (Vw F' c3 H4) y dy → R y σ2 H4) →
      (∀ H3 c3 Γ2 σ2, Jv (i + 1) c3 acc → SI X.K F' Γ2 c3 σ2 H3 → Ex (Vw F' c' H') (Vw F' c3 H3) → R' σ2 H3) →
      g x σ' H' fun σ2 H2 => wipe σ2 vs = wipe σ' vs ∧ tt σ2 H2 fun b H3 => if b = true then te σ2 H3 fun y H4 => R y σ2 H4 else R' σ2 H3)
    (done : ∀ c' acc xs H', Jv ds.length c' acc → SI X.K F Γ c' σ H' → Ex (Vw F c1 H1) (Vw F c' H') → H' D = none → DVs X.K (Vw F c' H') xs acc → Q (.ref D) (upd H' D (.lst xs))) :
    ∃ W : Nat → Nat → Hp → Prop, (∃ m, W 0 m (upd H1 D (.lst []))) ∧ ∀ i m H, W i m H →
      (J.stop i H ∧ Q (.ref D) H) ∨ (J.go i H ∧ ∃ Nx : Hp → Prop, (∀ H', Nx H' → ∃ m', m' < m ∧ W (i + 1) m' H') ∧ ∀ x H', J.yld i H x H' → g x (wipe σ vs) H' fun σ2 H2 => wipe σ2 vs = wipe σ vs ∧ tt σ2 H2 fun b H3 =>
        if b = true then te σ2 H3 fun y H4 => ∃ acc, H4 D = some (.lst acc) ∧ acc.length < sizeLine ∧ Nx (upd H4 D (.lst (acc ++ [y]))) else Nx H3) := by
  obtain ⟨G, Y, w, hG, hY⟩ := src
  have nh : D ∉ hid F c1 := S1.fresh hD
  have nM : D ∉ F.M := fun z => nh (List.mem_append_right _ z)
  have nW := S1.nW hD
  have h0 := S1.h0 hD
  obtain ⟨Sh, eh⟩ := S1.hide (D := D) (o := .lst []) hD (fun _ z => nomatch z)
  have ww : wipe (wipe σ vs) vs = wipe σ vs := by
    have : ∀ (us : List Nat), (∀ u ∈ us, u ∈ vs) → wipe (wipe σ us) vs = wipe σ vs := by
      intro us
      induction us with
      | nil => intro _; rfl
      | cons u us ih =>
        intro h
        show wipe ((wipe σ us).set u none) vs = _
        rw [wipe_set (h u (List.mem_cons_self ..))]
        exact ih fun v hv => h v (List.mem_cons_of_mem _ hv)
    exact this vs fun u h => h
  refine lc_it w (fun i H' => ∃ c' acc xs, Jv i c' acc ∧ acc.length ≤ i ∧ SI X.K (FD F D (.lst xs)) Γ c' σ H' ∧ Ex (Vw F c1 H1) (Vw (FD F D (.lst xs)) c' H') ∧ DVs X.K (Vw (FD F D (.lst xs)) c' H') xs acc) ⟨c1, [], [], j0, Nat.le_refl _, Sh, eh, .nil⟩
    (fun i H' _ ⟨c', acc, xs, _, _, _, e', _⟩ => hG H' (e'.trans (mask_ex _ _))) ?_ ?_
  · rintro i x H' H2 hi ⟨c', acc, xs, jv, la, S', e', dvs⟩ y
    obtain ⟨d, hd, it⟩ := hY i H' x H2 hi y (e'.trans (mask_ex _ _))
    obtain ⟨S2, e2, dv⟩ := it.dv' S' e'
    have q := turn i d c' acc hd jv (FD F D (.lst xs)) (wipe σ vs) H2 x (S2.wipe vs) dv
      (fun y σ2 H4 => ∃ acc, H4 D = some (.lst acc) ∧ acc.length < sizeLine ∧ ∃ c' acc' xs, Jv (i + 1) c' acc' ∧ acc'.length ≤ i + 1 ∧ SI X.K (FD F D (.lst xs)) Γ c' σ (upd H4 D (.lst (acc ++ [y]))) ∧ Ex (Vw F c1 H1) (Vw (FD F D (.lst xs)) c' (upd H4 D (.lst (acc ++ [y])))) ∧ DVs X.K (Vw (FD F D (.lst xs)) c' (upd H4 D (.lst (acc ++ [y])))) xs acc')
      (fun σ2 H3 => ∃ c' acc xs, Jv (i + 1) c' acc ∧ acc.length ≤ i + 1 ∧ SI X.K (FD F D (.lst xs)) Γ c' σ H3 ∧ Ex (Vw F c1 H1) (Vw (FD F D (.lst xs)) c' H3) ∧ DVs X.K (Vw (FD F D (.lst xs)) c' H3) xs acc) ?_ ?_
    · rw [ww] at q
      exact q
    · intro y H4 c3 dy Γ2 σ2 jn S4 e4 dvy
      have S5 : SI X.K (FD F D (.lst xs)) Γ c3 σ H4 := S2.back S4 e4
      refine ⟨xs, S5.hD nW, by rw [dvs.length]; omega, c3, acc ++ [dy], xs ++ [y], jn, ?_, S5.grow (fun _ z => nomatch z), ?_, ?_⟩
      · rw [List.length_append]
        exact Nat.succ_le_succ la
      · rw [vw_FD_upd (o := .lst xs)]
        exact e'.trans (e2.trans e4)
      · rw [vw_FD_upd (o := .lst xs)]
        exact (dvs.mono (e2.trans e4)).append (.cons dvy .nil)
    · intro H3 c3 Γ2 σ2 jn S3 e3
      exact ⟨c3, acc, xs, jn, Nat.le_succ_of_le la, S2.back S3 e3, e'.trans (e2.trans e3), dvs.mono (e2.trans e3)⟩
  · rintro H' ⟨c', acc, xs, jv, la, S', e', dvs⟩
    have q := done c' acc xs (rm H' D) jv (S'.unhide h0 nM nW) (e'.trans vw_rm) rm_same (dvs.mono vw_rm)
    rw [upd_rm (S'.hD nW)] at q
    exact q
/-- in any context of the block -/
def AB (X : Cx) (scope : Scope) (φ : Cx → Prop) : Prop := ∀ (s0 : Shared) (H0 : Hp) (C : Addr) (cl : List (Str × Addr)) (fp : List Addr), φ (blk X scope s0 H0 C cl fp)
/-- one turn of [elt for tg in iter] -/
def Turn0 (X : Cx) (Γ : List Sl) (scope : Scope) (vs : List Nat) (tg elt : Expr) (d : Dt) (c' : Cells) (N : Cells → Dt → Prop) : Prop :=
  ∀ F' : Fm, AB X scope fun Y => SGb F' Y (wipeG Γ vs) c' vs tg d fun Γ2 => AB X scope fun Y => SE F' Y Γ2 c' elt N
/-- one turn of [elt for tg in iter if t] -/
def Turn1 (X : Cx) (Γ : List Sl) (scope : Scope) (vs : List Nat) (tg t elt : Expr) (d : Dt) (c' : Cells) (N : Cells → Dt → Prop) (N0 : Cells → Prop) : Prop :=
  ∀ F' : Fm, AB X scope fun Y => SGb F' Y (wipeG Γ vs) c' vs tg d fun Γ2 => AB X scope fun Y => ST F' Y Γ2 c' t fun c2 b => if b = true then AB X scope fun Y => SE F' Y Γ2 c2 elt N else N0 c2
def SELt (F : Fm) (X : Cx) (Γ : List Sl) (c : Cells) (t : TE) (P : Cells → List Dt → Prop) : Prop :=
  ∀ (σ : L2.St) (H : Hp) (Q : VK), SI X.K F Γ c σ H → (∀ p xs H1 c' l, P c' l → SI X.K F Γ c' σ H1 → Ex (Vw F c H) (Vw F c' H1) → H1 p = none → DVs X.K (Vw F c' H1) xs l → Q (.ref p) (upd H1 p (.lst xs))) → t σ H Q
theorem s_setT {st : Stmt} {t : TE} (i : Nat) (hp : PS X st (tAsg t (gName i))) (h : SELt F X Γ c t fun c1 l => Φ.nx (Γ.set i (.dat (.lst l))) c1) : S1 F X Γ c st Φ :=
  S1.of hp fun σ H D S E => h σ H _ S fun p xs H1 c' l q S1 e1 hp dv => E.nx _ c' _ _ q ((S1.new hp).setD (S1.newL hp dv)) (e1.trans (Kp.new (F := F) hp).hid)
theorem lct_lc {elt tg iter : Expr} {scope : Scope}
    (h : SW F X Γ c tg iter fun c1 ds => ds.length ≤ sizeLine ∧ ∃ Jv : Nat → Cells → List Dt → Prop, Jv 0 c1 [] ∧
      (∀ i d c' acc, ds[i]? = some d → Jv i c' acc → Turn0 X Γ scope vs tg elt d c' fun c2 y => Jv (i + 1) c2 (acc ++ [y])) ∧ ∀ c' acc, Jv ds.length c' acc → P c' acc) : SELt F X Γ c (tLc (wI X tg iter) (tGb X scope tg) tYes (tEb X scope elt) vs) P := fun σ H Q S k => by
  refine h σ H _ S fun J H1 c1 ds p S1 e1 src D hD => ?_
  obtain ⟨hz, Jv, j0, turn, done⟩ := p
  refine lc_turns (g := tGb X scope tg) (tt := tYes) (te := tEb X scope elt) S1 src hD hz Jv j0 (fun i d c' acc hd jv F' σ' H' x S' dv R R' k1 k2 => ?_) fun c' acc xs H' jv S' e' hn dv => k D xs H' c' acc (done c' acc jv) S' (e1.trans e') hn dv
  intro s0 H0 C cl fp
  refine turn i d c' acc hd jv F' s0 H0 C cl fp σ' H' x _ S' dv fun Γ2 σ2 q S2 w => ⟨w, ?_⟩
  intro s0 H0 C cl fp
  exact q s0 H0 C cl fp σ2 H' _ S2 fun y H4 c3 dy jn S4 e4 dvy => k1 y H4 c3 dy Γ2 σ2 jn S4 e4 dvy
theorem lct_lcIf {elt tg iter t : Expr} {scope : Scope}
    (h : SW F X Γ c tg iter fun c1 ds => ds.length ≤ sizeLine ∧ ∃ Jv : Nat → Cells → List Dt → Prop, Jv 0 c1 [] ∧
      (∀ i d c' acc, ds[i]? = some d → Jv i c' acc → Turn1 X Γ scope vs tg t elt d c' (fun c2 y => Jv (i + 1) c2 (acc ++ [y])) fun c2 => Jv (i + 1) c2 acc) ∧ ∀ c' acc, Jv ds.length c' acc → P c' acc) : SELt F X Γ c (tLc (wI X tg iter) (tGb X scope tg) (tTb X scope t) (tEb X scope elt) vs) P := fun σ H Q S k => by
  refine h σ H _ S fun J H1 c1 ds p S1 e1 src D hD => ?_
  obtain ⟨hz, Jv, j0, turn, done⟩ := p
  refine lc_turns (g := tGb X scope tg) (tt := tTb X scope t) (te := tEb X scope elt) S1 src hD hz Jv j0 (fun i d c' acc hd jv F' σ' H' x S' dv R R' k1 k2 => ?_) fun c' acc xs H' jv S' e' hn dv => k D xs H' c' acc (done c' acc jv) S' (e1.trans e') hn dv
  intro s0 H0 C cl fp
  refine turn i d c' acc hd jv F' s0 H0 C cl fp σ' H' x _ S' dv fun Γ2 σ2 q S2 w => ⟨w, ?_⟩
  intro s0 H0 C cl fp
  refine q s0 H0 C cl fp σ2 H' _ S2 fun b H3 c2 hb S3 e3 => ?_
  cases b with
  | false => exact k2 H3 c2 Γ2 σ2 hb S3 e3
  | true =>
    rw [if_pos rfl] at hb
    intro s0 H0 C cl fp
    exact hb s0 H0 C cl fp σ2 H3 _ S3 fun y H4 c3 dy jn S4 e4 dvy => k1 y H4 c3 dy Γ2 σ2 jn S4 (e3.trans e4) dvy
/-- [elt for tg in iter], as a new list -/
theorem sel_lc {elt tg iter : Expr} {scope : Scope} (own : List (Str × Nat)) (hc : X.calm = true) (hN : X.N.Nodup) (ok : BlkOk X.N X.env.scope scope own)
    (h : SW F X Γ c tg iter fun c1 ds => ds.length ≤ sizeLine ∧ ∃ Jv : Nat → Cells → List Dt → Prop, Jv 0 c1 [] ∧
      (∀ i d c' acc, ds[i]? = some d → Jv i c' acc → Turn0 X Γ scope (own.map (·.2)) tg elt d c' fun c2 y => Jv (i + 1) c2 (acc ++ [y])) ∧ ∀ c' acc, Jv ds.length c' acc → P c' acc)
    (hfs : ∀ x, foldedSetIterable iter X.env x = pure x := by intro _; rfl) : SEL F X Γ c (.ListComp elt [⟨tg, iter, [], 0⟩] scope pos) P := .mk fun σ H Q S k =>
  tE_of (pe_lc (own := own) (g := tGb X scope tg) hc hN pI ok (fun s0 H0 C cl fp => pGb s0 H0 C cl fp) (fun _ _ _ _ _ => pts_nil) (fun s0 H0 C cl fp => pEb s0 H0 C cl fp) hfs) (lct_lc h σ H Q S k)
theorem sel_lcIf {elt tg iter t : Expr} {scope : Scope} (own : List (Str × Nat)) (hc : X.calm = true) (hN : X.N.Nodup) (ok : BlkOk X.N X.env.scope scope own)
    (h : SW F X Γ c tg iter fun c1 ds => ds.length ≤ sizeLine ∧ ∃ Jv : Nat → Cells → List Dt → Prop, Jv 0 c1 [] ∧
      (∀ i d c' acc, ds[i]? = some d → Jv i c' acc → Turn1 X Γ scope (own.map (·.2)) tg t elt d c' (fun c2 y => Jv (i + 1) c2 (acc ++ [y])) fun c2 => Jv (i + 1) c2 acc) ∧ ∀ c' acc, Jv ds.length c' acc → P c' acc)
    (hfs : ∀ x, foldedSetIterable iter X.env x = pure x := by intro _; rfl) : SEL F X Γ c (.ListComp elt [⟨tg, iter, [t], 0⟩] scope pos) P := .mk fun σ H Q S k =>
  tE_of (pe_lc (own := own) (g := tGb X scope tg) (tt := tTb X scope t) hc hN pI ok (fun s0 H0 C cl fp => pGb s0 H0 C cl fp) (fun s0 H0 C cl fp => pts_one (pTb s0 H0 C cl fp)) (fun s0 H0 C cl fp => pEb s0 H0 C cl fp) hfs) (lct_lcIf h σ H Q S k)
/-- x = [elt for tg in iter] -/
theorem ps_lc {elt tg iter : Expr} {y : Str} {py spos : Pos} {scope : Scope} (i : Nat) (own : List (Str × Nat)) (hc : X.calm = true) (hN : X.N.Nodup) (ok : BlkOk X.N X.env.scope scope own) (hsw : swapsWith (.ListComp elt [⟨tg, iter, [], 0⟩] scope pos) (some (.Name y py)) spos.line X.env = pure true := by exact sw_true rfl rfl rfl (by decide +kernel))
    (hy : X.N[i]? = some y := by rfl) (hyl : X.env.scope.names.lookup y = some .local := by rfl) (hfs : ∀ x, foldedSetIterable iter X.env x = pure x := by intro _; rfl) :
    PS X (.Assign [.Name y py] (.ListComp elt [⟨tg, iter, [], 0⟩] scope pos) spos) (tAsg (tLc (wI X tg iter) (tGb X scope tg) tYes (tEb X scope elt) (own.map (·.2))) (gName i)) :=
  ps_setLc (own := own) (g := tGb X scope tg) hc hN hy hyl hsw pI ok (fun s0 H0 C cl fp => pGb s0 H0 C cl fp) (fun _ _ _ _ _ => pts_nil) (fun s0 H0 C cl fp => pEb s0 H0 C cl fp) hfs
theorem ps_lcIf {elt tg iter t : Expr} {y : Str} {py spos : Pos} {scope : Scope} (i : Nat) (own : List (Str × Nat)) (hc : X.calm = true) (hN : X.N.Nodup) (ok : BlkOk X.N X.env.scope scope own) (hsw : swapsWith (.ListComp elt [⟨tg, iter, [t], 0⟩] scope pos) (some (.Name y py)) spos.line X.env = pure true := by exact sw_true rfl rfl rfl (by decide +kernel))
    (hy : X.N[i]? = some y := by rfl) (hyl : X.env.scope.names.lookup y = some .local := by rfl) (hfs : ∀ x, foldedSetIterable iter X.env x = pure x := by intro _; rfl) :
    PS X (.Assign [.Name y py] (.ListComp elt [⟨tg, iter, [t], 0⟩] scope pos) spos) (tAsg (tLc (wI X tg iter) (tGb X scope tg) (tTb X scope t) (tEb X scope elt) (own.map (·.2))) (gName i)) :=
  ps_setLc (own := own) (g := tGb X scope tg) (tt := tTb X scope t) hc hN hy hyl hsw pI ok (fun s0 H0 C cl fp => pGb s0 H0 C cl fp) (fun s0 H0 C cl fp => pts_one (pTb s0 H0 C cl fp)) (fun s0 H0 C cl fp => pEb s0 H0 C cl fp) hfs
theorem ST.mono {e : Expr} {P P' : Cells → Bool → Prop} (h : ST F X Γ c e P) (hp : ∀ c d, P c d → P' c d) : ST F X Γ c e P' := .mk fun σ H Q S k => h σ H Q S fun b H' c' p => k b H' c' (hp c' b p)
end
end D
end
section
set_option Elab.async false
set_option linter.all false
set_option maxRecDepth 100000
namespace D
open PySem L2 PyProof.Rows
theorem mask_eq {M M' : List Addr} {H : Hp} (h : ∀ a, a ∈ M ↔ a ∈ M') : mask M H = mask M' H := by
  funext a
  by_cases z : a ∈ M
  · rw [mask_in z, mask_in ((h a).mp z)]
  · rw [mask_out z, mask_out fun w => z ((h a).mpr w)]
/-- behind a call: what stays, and the cells that are given back -/
structure Aft (K : PySem.W.Frag) (M : List Addr) (H : Hp) (C C' : Cells) (H' : Hp) : Prop where
  keep : ∀ b o, H b = some o → b ∉ addrs C → H' b = some o
  nd : (addrs C').Nodup
  fr : ∀ x ∈ addrs C', x ∉ M ∧ (x ∈ addrs C ∨ H x = none)
  ce : ∀ p ∈ C', CelAt K (mask (addrs C' ++ M) H') H' p.1 p.2
  wl : ∀ x ∈ addrs C, ∃ o, H' x = some o
/-- an exception by data: its class, its fields (none: it has no dict of its own) -/
structure Xc where
  cls : Addr
  fs : Option (List (Str × Dt))
def XcAt (K : PySem.W.Frag) (V : Hp) (x : Xc) (cls : Value) (d : Option Addr) : Prop :=
  cls = .ref x.cls ∧ match x.fs with
    | none => d = none
    | some l => ∃ dd xs, d = some dd ∧ V dd = some (.xd xs) ∧ DVx K V xs l
theorem XcAt.mono {K : PySem.W.Frag} {V V' : Hp} {x : Xc} {cls : Value} {d : Option Addr} (h : XcAt K V x cls d) (e : Ex V V') : XcAt K V' x cls d := by
  obtain ⟨C, fs⟩ := x
  obtain ⟨h1, h2⟩ := h
  refine ⟨h1, ?_⟩
  cases fs with
  | none => exact h2
  | some l =>
    obtain ⟨dd, xs, a, b, t⟩ := h2
    exact ⟨dd, xs, a, e _ _ b, t.mono e⟩
/-- THE PROMISE of a def: arguments, cells handed in; what comes back, what may be raised -/
def spG (K : PySem.W.Frag) {α : Type} (args : α → List Dt) (cells : α → Cells) (pre : α → Prop) (post : α → Cells → Dt → Prop) (exc : α → Cells → Xc → Prop) : Sp := fun vs H Q E =>
  ∃ (M : List Addr) (a : α), (∀ x ∈ M, Lv H x) ∧ (addrs (cells a)).Nodup ∧ (∀ x ∈ addrs (cells a), x ∉ M) ∧ (∀ p ∈ cells a, CelAt K (mask (addrs (cells a) ++ M) H) H p.1 p.2) ∧
    DVs K (mask (addrs (cells a) ++ M) H) vs (args a) ∧ pre a ∧ (∀ v H' C' d, post a C' d → Aft K M H (cells a) C' H' → DV K (mask (addrs C' ++ M) H') v d → Q v H') ∧
    ∀ cls dx H' C' x, exc a C' x → Aft K M H (cells a) C' H' → XcAt K (mask (addrs C' ++ M) H') x cls dx → E cls dx H'
/-- what is taken of what is raised -/
structure XT (F : Fm) (X : Cx) (Wd : List Sl → Cells → Xc → Prop) : Prop where
  ex : ∃ W : WX, Takes X W ∧ ∀ Γ c σ H x cls dx, Wd Γ c x → SI X.K F Γ c σ H → XcAt X.K (Vw F c H) x cls dx → W cls dx σ H
theorem XT.no {F : Fm} {X : Cx} : XT F X fun _ _ _ => False := ⟨_, takes0, fun _ _ _ _ _ _ _ z => z.elim⟩
section
variable {K : PySem.W.Frag} {F : Fm} {Γ : List Sl} {σ : L2.St} {H H' : Hp} {l m m' r : Cells}
theorem mem_lmr {x : Addr} : x ∈ addrs (l ++ m ++ r) ↔ x ∈ addrs l ∨ x ∈ addrs m ∨ x ∈ addrs r := by
  rw [addrs_app, addrs_app, List.mem_append, List.mem_append, or_assoc]
theorem vw_lmr : mask (addrs m ++ (addrs l ++ addrs r ++ F.M)) H = Vw F (l ++ m ++ r) H := mask_eq fun a => by
  unfold hid
  simp only [List.mem_append, mem_lmr, addrs_app]
  constructor
  · rintro (h | (h | h) | h)
    · exact .inl (.inl (.inr h))
    · exact .inl (.inl (.inl h))
    · exact .inl (.inr h)
    · exact .inr h
  · rintro (((h | h) | h) | h)
    · exact .inr (.inl (.inl h))
    · exact .inl h
    · exact .inr (.inl (.inr h))
    · exact .inr (.inr h)
/-- the caller behind the call -/
theorem SI.after (S : SI K F Γ (l ++ m ++ r) σ H) (A : Aft K (addrs l ++ addrs r ++ F.M) H m m' H') : SI K F Γ (l ++ m' ++ r) σ H' ∧ Ex (Vw F (l ++ m ++ r) H) (Vw F (l ++ m' ++ r) H') := by
  have nd := S.nd
  rw [addrs_app, addrs_app] at nd
  obtain ⟨n1, n2, n3⟩ := List.nodup_append.mp nd
  obtain ⟨n4, n5, n6⟩ := List.nodup_append.mp n1
  have ml : ∀ x ∈ addrs l, x ∉ addrs m := fun x hx z => n6 x hx x z rfl
  have mr : ∀ x ∈ addrs r, x ∉ addrs m := fun x hx z => n3 x (List.mem_append_right _ z) x hx rfl
  have nm : ∀ x ∈ addrs m', x ∉ addrs l ∧ x ∉ addrs r ∧ x ∉ F.M := fun x hx => by
    have := (A.fr x hx).1
    exact ⟨fun z => this (List.mem_append_left _ (List.mem_append_left _ z)), fun z => this (List.mem_append_left _ (List.mem_append_right _ z)), fun z => this (List.mem_append_right _ z)⟩
  have ev : Ex (Vw F (l ++ m ++ r) H) (Vw F (l ++ m' ++ r) H') := fun x o q => by
    obtain ⟨n, e⟩ := of_mask q
    have n' : ¬ (x ∈ addrs l ∨ x ∈ addrs m ∨ x ∈ addrs r) := fun z => n (List.mem_append_left _ (mem_lmr.mpr z))
    have nM : x ∉ F.M := fun z => n (List.mem_append_right _ z)
    show mask _ _ _ = _
    rw [mask_out]
    · exact A.keep x o e fun z => n' (.inr (.inl z))
    · intro z
      rcases List.mem_append.mp z with z | z
      · rcases mem_lmr.mp z with z | z | z
        · exact n' (.inl z)
        · rcases (A.fr x z).2 with w | w
          · exact n' (.inr (.inl w))
          · rw [e] at w; cases w
        · exact n' (.inr (.inr z))
      · exact nM z
  have kp : ∀ p, (p ∈ l ∨ p ∈ r) → CelAt K (Vw F (l ++ m' ++ r) H') H' p.1 p.2 := fun p hp => by
    have hc : p ∈ l ++ m ++ r := by
      rcases hp with h | h
      · exact List.mem_append_left _ (List.mem_append_left _ h)
      · exact List.mem_append_right _ h
    refine (S.ce p hc).mono ev fun x hx => ?_
    obtain ⟨o, e, _⟩ := (S.ce p hc).live x hx
    rw [e]
    refine A.keep x o e ?_
    rcases hp with h | h
    · exact ml x (mem_addrs h hx)
    · exact mr x (mem_addrs h hx)
  refine ⟨⟨S.len, ?_, fun i d hi => ?_, fun p hp => ?_, fun x o q => ?_, fun x hx => ?_, fun x hx => ?_, fun x hx => ?_⟩, ev⟩
  · rw [addrs_app, addrs_app]
    refine List.nodup_append.mpr ⟨List.nodup_append.mpr ⟨n4, A.nd, fun x hx y hy e => (nm y hy).1 (e ▸ hx)⟩, n2, fun x hx y hy e => ?_⟩
    rcases List.mem_append.mp hx with hx | hx
    · exact n3 x (List.mem_append_left _ hx) y hy e
    · exact (nm x hx).2.1 (e ▸ hy)
  · obtain ⟨v, h1, h2⟩ := S.sl i d hi
    exact ⟨v, h1, h2.mono ev⟩
  · rcases List.mem_append.mp hp with hp | hp
    · rcases List.mem_append.mp hp with hp | hp
      · exact kp p (.inl hp)
      · have := A.ce p hp
        rw [vw_lmr] at this
        exact this
    · exact kp p (.inr hp)
  · obtain ⟨n, h0⟩ := of_mask q
    have h1 := (of_mask (S.keep x o q)).2
    rw [mask_out n]
    refine A.keep x o h1 fun z => ?_
    rcases (S.fr x (mem_lmr.mpr (.inr (.inl z)))).1 with f | f
    · exact n f
    · rw [h0] at f; cases f
  · rcases mem_lmr.mp hx with hx | hx | hx
    · exact S.fr x (mem_lmr.mpr (.inl hx))
    · refine ⟨?_, (nm x hx).2.2⟩
      rcases (A.fr x hx).2 with w | w
      · exact (S.fr x (mem_lmr.mpr (.inr (.inl w)))).1
      · exact .inr (S.h0 w)
    · exact S.fr x (mem_lmr.mpr (.inr (.inr hx)))
  · exact (S.live x hx).mono fun o e => A.keep x o e fun z => (S.fr x (mem_lmr.mpr (.inr (.inl z)))).2 hx
  · by_cases z : x ∈ addrs m
    · exact A.wl x z
    · obtain ⟨o, e⟩ := S.wl x hx
      exact ⟨o, A.keep x o e z⟩
end
/-- a def that stands under its name and keeps a promise -/
structure DefOk (P : Program) (w : World) (K : PySem.W.Frag) (mg : Str → Option Value) (base : Heap) (k : Nat) (x : Str) (ps : List Str) (sp : Sp) : Prop where
  ex : ∃ f fd, FnOk P w K mg base (L2.CX P w) k f fd ps sp ∧ mg x = some (.ref f) ∧ PySem.W.keepIn K (.ref f) = true ∧ Binds K fd ps []
theorem DefOk.mono {P : Program} {w : World} {K : PySem.W.Frag} {mg : Str → Option Value} {base : Heap} {j k : Nat} {x : Str} {ps : List Str} {sp : Sp} (D : DefOk P w K mg base j x ps sp) (h : j ≤ k) : DefOk P w K mg base k x ps sp := by
  obtain ⟨f, fd, h1, h2⟩ := D.ex
  exact ⟨f, fd, h1.mono h, h2⟩
section
variable {F : Fm} {X : Cx} {Γ : List Sl} {c : Cells} {P : Cells → Dt → Prop} {pos : Pos}
/-- what a call of a promise asks -/
theorem sp_use {α : Type} {args : α → List Dt} {cells : α → Cells} {pre : α → Prop} {post : α → Cells → Dt → Prop} {exc : α → Cells → Xc → Prop} {l r c1 : Cells} {σ : L2.St} {H : Hp} {vs : List V} {Q : VK} {W : WX} {a : α} {Wd : List Sl → Cells → Xc → Prop}
    (hW : ∀ Γ c σ H x cls dx, Wd Γ c x → SI X.K F Γ c σ H → XcAt X.K (Vw F c H) x cls dx → W cls dx σ H) (S : SI X.K F Γ c1 σ H) (hc : c1 = l ++ cells a ++ r) (dv : DVs X.K (Vw F c1 H) vs (args a)) (hp : pre a)
    (hq : ∀ v H' c' d, post a c' d → SI X.K F Γ (l ++ c' ++ r) σ H' → Ex (Vw F c1 H) (Vw F (l ++ c' ++ r) H') → DV X.K (Vw F (l ++ c' ++ r) H') v d → Q v H') (hx : ∀ c' x, exc a c' x → Wd Γ (l ++ c' ++ r) x) :
    spG X.K args cells pre post exc vs H Q (WE W σ) := by
  subst hc
  have nd := S.nd
  rw [addrs_app, addrs_app] at nd
  obtain ⟨n1, n2, n3⟩ := List.nodup_append.mp nd
  obtain ⟨n4, n5, n6⟩ := List.nodup_append.mp n1
  refine ⟨addrs l ++ addrs r ++ F.M, a, fun x hx => ?_, n5, fun x hx z => ?_, fun p hp => ?_, ?_, hp, fun v H' C' d pd A dv' => ?_, fun cls dx H' C' x ex A xa => ?_⟩
  · refine S.hlive x ?_
    rcases List.mem_append.mp hx with h | h
    · refine List.mem_append_left _ (mem_lmr.mpr ?_)
      rcases List.mem_append.mp h with h | h
      · exact .inl h
      · exact .inr (.inr h)
    · exact List.mem_append_right _ h
  · rcases List.mem_append.mp z with h | h
    · rcases List.mem_append.mp h with h | h
      · exact n6 x h x hx rfl
      · exact n3 x (List.mem_append_right _ hx) x h rfl
    · exact (S.fr x (mem_lmr.mpr (.inr (.inl hx)))).2 h
  · rw [vw_lmr]
    exact S.ce p (List.mem_append_left _ (List.mem_append_right _ hp))
  · rw [vw_lmr]
    exact dv
  · obtain ⟨S2, e2⟩ := S.after A
    exact hq v H' C' d pd S2 e2 (by rw [← vw_lmr]; exact dv')
  · obtain ⟨S2, e2⟩ := S.after A
    exact hW Γ _ σ H' x cls dx (hx C' x ex) S2 (by rw [← vw_lmr]; exact xa)
theorem se_fG {α : Type} {args : α → List Dt} {cells : α → Cells} {pre : α → Prop} {post : α → Cells → Dt → Prop} {exc : α → Cells → Xc → Prop} {k : Nat} {ps : List Str} {x : Str} {p : Pos} {e : Expr} {es : List Expr} {Wd : List Sl → Cells → Xc → Prop}
    (Df : DefOk X.prog X.w X.K X.mg X.base k x ps (spG X.K args cells pre post exc)) (hr : Room k X.A) (xt : XT F X Wd)
    (h : SA F X Γ c (e :: es) fun c1 ds => ∃ a l r, ds = args a ∧ c1 = l ++ cells a ++ r ∧ pre a ∧ (∀ c' d, post a c' d → P (l ++ c' ++ r) d) ∧ ∀ c' x, exc a c' x → Wd Γ (l ++ c' ++ r) x) (hg : Gl X x := by rfl) (hdb : (x == ("__debug__" : Str)) = false := by decide)
    (he : starEach (e :: es) X.env = (false, eval e X.env) :: starEach es X.env := by rfl) (hpl : (backTo pos (starEach es X.env)).any (·.1) = false := by rfl) : SE F X Γ c (.Call (.Name x p) (e :: es) [] pos) P := by
  obtain ⟨f, fd, h1, h2, h3, h4⟩ := Df.ex
  obtain ⟨W, tk, hW⟩ := xt.ex
  refine SE.of (pe_callS h1 hr hg h2 h3 h4 (fun σ => passAt tk σ) pAs hdb he hpl) fun σ H Q S k => h σ H _ S fun vs H1 c1 ds q S1 k1 dv => ?_
  obtain ⟨a, l, r, rfl, hc, hp, q1, q2⟩ := q
  exact sp_use hW S1 hc dv hp (fun v H' c' d pd S2 e2 dv' => k v H' _ d (q1 c' d pd) S2 (k1.trans e2) dv') q2
end
def startP (N : List Str) (ds : List Dt) : List Sl := ds.map Sl.dat ++ List.replicate (N.length - ds.length) Sl.un
theorem slots_dat {K : PySem.W.Frag} {H : Hp} : ∀ {vs : List V} {ds : List Dt} (n : Nat), DVs K H vs ds → ∀ (i : Nat) (d : Dt), (ds.map Sl.dat ++ List.replicate n Sl.un)[i]? = some (.dat d) → ∃ v, (vs.map some ++ List.replicate n (none : Option V))[i]? = some (some v) ∧ DV K H v d
  | _, _, n, .nil, i, d, h => by
    simp only [List.map_nil, List.nil_append] at h
    have := List.mem_of_getElem? h
    cases (List.mem_replicate.mp this).2
  | _, _, n, .cons h1 t, 0, d, h => by
    simp at h
    subst h
    exact ⟨_, rfl, h1⟩
  | _ :: vs, _ :: ds, n, .cons h1 t, i + 1, d, h => by
    have h' : (ds.map Sl.dat ++ List.replicate n Sl.un)[i]? = some (.dat d) := by simpa using h
    have q := slots_dat n t i d h'
    simpa using q
section
variable {P : Program} {w : World} {K : PySem.W.Frag} {mg : Str → Option Value} {base : Heap}
theorem fn_G {α : Type} {args : α → List Dt} {cells : α → Cells} {pre : α → Prop} {post : α → Cells → Dt → Prop} {exc : α → Cells → Xc → Prop} {x qual : Str} {st : Stmt} {f : Addr} {fd : FuncData} {N ps : List Str} {k : Nat} (Fu : Fun K x qual st f fd) (S : FnScope N ps (defScope st)) (hl : ∀ a, (args a).length = ps.length)
    (h : ∀ (cdv : Value) (A : Around) (outer : List Env) (s : Shared) (H : Hp) (E : XK) (F : Fm) (a : α), pre a → Room k (A.deeper (envOfC qual (defScope st) s.heap.objs.size f cdv)) →
      XT F (cxOf (L2.CX P w) P w K mg base N qual (defScope st) f cdv A outer s H E) (fun _ => exc a) →
      SS F (cxOf (L2.CX P w) P w K mg base N qual (defScope st) f cdv A outer s H E) (startP N (args a)) (cells a) (defBody st) { nx := fun _ c' => post a c' .non, rt := fun _ c' d => post a c' d }) : FnOk P w K mg base (L2.CX P w) (k + 1) f fd ps (spG K args cells pre post exc) := by
  refine Fu.okX S (fun vs H Q E ⟨M, a, _, _, _, _, dv, _⟩ => by rw [dv.length, hl a]) (fun cdv A outer s H vs Q E hr ⟨M, a, hM, nd, dj, ce, dv, hp, k, kx⟩ => ?_)
  have aft : ∀ {Γ' : List Sl} {c' : Cells} {σ' : L2.St} {H' : Hp}, SI K { H0 := H, M := M, W := addrs (cells a) } Γ' c' σ' H' → Aft K M H (cells a) c' H' := fun S' =>
    ⟨fun b o e n => (of_mask (S'.keep b o (by rw [mask_out n]; exact e))).2, S'.nd, fun x hx => ⟨(S'.fr x hx).2, (S'.fr x hx).1⟩, S'.ce, S'.wl⟩
  have hq := h cdv A outer s H E { H0 := H, M := M, W := addrs (cells a) } a hp hr ⟨fun cls d _ H => E cls d H, takes_of rfl rfl rfl rfl, fun Γ' c' σ' H' x cls dx ex S' xa => kx cls dx H' c' x ex (aft S') xa⟩
  refine ⟨_, pSts, hq _ H _ ⟨?_, nd, fun i d hi => ?_, ce, Ex.refl _, fun x hx => ⟨.inl hx, dj x hx⟩, hM, fun x hx => ?_⟩ ⟨?_, ?_, fun _ _ _ _ z => z.elim, fun _ _ _ _ z => z.elim⟩⟩
  · unfold L2.start startP
    rw [List.length_append, List.length_append, List.length_map, List.length_map, List.length_replicate, List.length_replicate, dv.length]
  · unfold L2.start
    rw [dv.length]
    exact slots_dat _ dv i d hi
  · obtain ⟨p, h1, h2⟩ := of_addrs hx
    exact ((ce p h1).live x h2).ex
  · intro Γ' c' σ' H' p S' e'
    exact k .non H' c' .non p (aft S') .non
  · intro Γ' c' σ' H' v d p S' e' dv'
    exact k v H' c' d p (aft S') dv'
/-- a def that changes nothing -/
def spP (K : PySem.W.Frag) {α : Type} (args : α → List Dt) (pre : α → Prop) (post : α → Dt → Prop) : Sp := spG K args (fun _ => []) pre (fun a c' d => c' = [] ∧ post a d) fun _ _ _ => False
def LIM : Nat := 1000000000
/-- a def whose first argument is the bag -/
def spB (K : PySem.W.Frag) {α : Type} (args : α → List Dt) (pre : α → Prop) (cost : α → Nat) (post : α → Dt → Prop) : Sp :=
  spG K (fun (a : Addr × Nat × α) => .raw (.ref a.1) :: args a.2.2) (fun a => [(a.1, .bag a.2.1)]) (fun a => a.2.1 + cost a.2.2 ≤ LIM ∧ pre a.2.2) (fun a c' d => (∃ n, n ≤ a.2.1 + cost a.2.2 ∧ c' = [(a.1, .bag n)]) ∧ post a.2.2 d) fun _ _ _ => False
theorem fn_P {α : Type} {args : α → List Dt} {pre : α → Prop} {post : α → Dt → Prop} {x qual : Str} {st : Stmt} {f : Addr} {fd : FuncData} {N ps : List Str} {k : Nat} (Fu : Fun K x qual st f fd) (S : FnScope N ps (defScope st)) (hl : ∀ a, (args a).length = ps.length)
    (h : ∀ (cdv : Value) (A : Around) (outer : List Env) (s : Shared) (H : Hp) (E : XK) (F : Fm) (a : α), pre a → Room k (A.deeper (envOfC qual (defScope st) s.heap.objs.size f cdv)) →
      SS F (cxOf (L2.CX P w) P w K mg base N qual (defScope st) f cdv A outer s H E) (startP N (args a)) [] (defBody st) { nx := fun _ c' => c' = [] ∧ post a .non, rt := fun _ c' d => c' = [] ∧ post a d }) : FnOk P w K mg base (L2.CX P w) (k + 1) f fd ps (spP K args pre post) :=
  fn_G Fu S hl fun cdv A outer s H E F a hp hr _ => h cdv A outer s H E F a hp hr
theorem fn_B {α : Type} {args : α → List Dt} {pre : α → Prop} {cost : α → Nat} {post : α → Dt → Prop} {x qual : Str} {st : Stmt} {f : Addr} {fd : FuncData} {N ps : List Str} {k : Nat} (Fu : Fun K x qual st f fd) (S : FnScope N ps (defScope st)) (hl : ∀ a, (args a).length + 1 = ps.length)
    (h : ∀ (cdv : Value) (A : Around) (outer : List Env) (s : Shared) (H : Hp) (E : XK) (F : Fm) (b : Addr) (n : Nat) (a : α), pre a → n + cost a ≤ LIM → Room k (A.deeper (envOfC qual (defScope st) s.heap.objs.size f cdv)) →
      SS F (cxOf (L2.CX P w) P w K mg base N qual (defScope st) f cdv A outer s H E) (startP N (.raw (.ref b) :: args a)) [(b, .bag n)] (defBody st) { nx := fun _ c' => (∃ m, m ≤ n + cost a ∧ c' = [(b, .bag m)]) ∧ post a .non, rt := fun _ c' d => (∃ m, m ≤ n + cost a ∧ c' = [(b, .bag m)]) ∧ post a d }) : FnOk P w K mg base (L2.CX P w) (k + 1) f fd ps (spB K args pre cost post) :=
  fn_G Fu S (fun a => by rw [List.length_cons]; exact hl a.2.2) fun cdv A outer s H E F a hp hr _ => h cdv A outer s H E F a.1 a.2.1 a.2.2 hp.2 hp.1 hr
end
section
variable {F : Fm} {X : Cx} {Γ : List Sl} {c : Cells} {P : Cells → Dt → Prop} {pos : Pos}
theorem se_fP {α : Type} {args : α → List Dt} {pre : α → Prop} {post : α → Dt → Prop} {k : Nat} {ps : List Str} {x : Str} {p : Pos} {e : Expr} {es : List Expr}
    (Df : DefOk X.prog X.w X.K X.mg X.base k x ps (spP X.K args pre post)) (hr : Room k X.A)
    (h : SA F X Γ c (e :: es) fun c1 ds => ∃ a, ds = args a ∧ pre a ∧ ∀ d, post a d → P c1 d) (hg : Gl X x := by rfl) (hdb : (x == ("__debug__" : Str)) = false := by decide)
    (he : starEach (e :: es) X.env = (false, eval e X.env) :: starEach es X.env := by rfl) (hpl : (backTo pos (starEach es X.env)).any (·.1) = false := by rfl) : SE F X Γ c (.Call (.Name x p) (e :: es) [] pos) P :=
  se_fG Df hr XT.no (.mk fun σ H Q S k => h σ H Q S fun vs H' c' ds q => k vs H' c' ds (by
    obtain ⟨a, h1, h2, h3⟩ := q
    refine ⟨a, c', [], h1, by simp, h2, ?_, fun _ _ z => z⟩
    rintro c2 d ⟨rfl, pd⟩
    rw [List.append_nil, List.append_nil]
    exact h3 d pd)) hg hdb he hpl
theorem SI.bagW {K : PySem.W.Frag} {σ : L2.St} {H : Hp} (S : SI K F Γ c σ H) {j : Nat} {b : Addr} {n m : Nat} (hj : c[j]? = some (b, .bag n)) (h : n ≤ m) : SI K F Γ (c.set j (b, .bag m)) σ H ∧ Ex (Vw F c H) (Vw F (c.set j (b, .bag m)) H) :=
  S.chg (q' := .bag m) hj rfl (fun _ _ => rfl) (BagAt.mono (S.cat hj) h)
theorem split_at {α : Type} {l : List α} {j : Nat} {x : α} (h : l[j]? = some x) : l = l.take j ++ [x] ++ l.drop (j + 1) ∧ ∀ y, l.set j y = l.take j ++ [y] ++ l.drop (j + 1) := by
  have hl : j < l.length := (List.getElem?_eq_some_iff.mp h).1
  have e : l[j] = x := (List.getElem?_eq_some_iff.mp h).2
  refine ⟨?_, fun y => ?_⟩
  · rw [List.append_assoc, ← e]
    show l = l.take j ++ (l[j] :: l.drop (j + 1))
    rw [← List.drop_eq_getElem_cons hl, List.take_append_drop]
  · rw [List.append_assoc]
    show l.set j y = l.take j ++ (y :: l.drop (j + 1))
    rw [List.set_eq_take_append_cons_drop, if_pos hl]
theorem se_fB {α : Type} {args : α → List Dt} {pre : α → Prop} {cost : α → Nat} {post : α → Dt → Prop} {k : Nat} {ps : List Str} {x : Str} {p : Pos} {e : Expr} {es : List Expr} (j : Nat)
    (Df : DefOk X.prog X.w X.K X.mg X.base k x ps (spB X.K args pre cost post)) (hr : Room k X.A)
    (h : SA F X Γ c (e :: es) fun c1 ds => ∃ b n a, c1[j]? = some (b, .bag n) ∧ ds = .raw (.ref b) :: args a ∧ pre a ∧ n + cost a ≤ LIM ∧ ∀ d, post a d → P (c1.set j (b, .bag (n + cost a))) d) (hg : Gl X x := by rfl) (hdb : (x == ("__debug__" : Str)) = false := by decide)
    (he : starEach (e :: es) X.env = (false, eval e X.env) :: starEach es X.env := by rfl) (hpl : (backTo pos (starEach es X.env)).any (·.1) = false := by rfl) : SE F X Γ c (.Call (.Name x p) (e :: es) [] pos) P := by
  refine .mk fun σ H Q S k => ?_
  refine se_fG (P := fun c2 d => ∃ c1 b n m, c1[j]? = some (b, .bag n) ∧ n ≤ m ∧ P (c1.set j (b, .bag m)) d ∧ c2 = c1) Df hr XT.no (.mk fun σ H Q S k => h σ H Q S fun vs H' c' ds q => k vs H' c' ds (by
    obtain ⟨b, n, a, h1, h2, h3, h4, h5⟩ := q
    obtain ⟨e1, e2⟩ := split_at h1
    refine ⟨(b, n, a), c'.take j, c'.drop (j + 1), h2, e1, ⟨h4, h3⟩, ?_, fun _ _ z => z⟩
    rintro c2 d ⟨⟨m, hm, rfl⟩, pd⟩
    refine ⟨_, b, m, n + cost a, ?_, hm, ?_, rfl⟩
    · rw [← e2]
      exact List.getElem?_set_self (List.getElem?_eq_some_iff.mp h1).1
    · rw [← e2, List.set_set]
      exact h5 d pd)) hg hdb he hpl σ H Q S ?_
  rintro v H' c' d ⟨c1, b, n, m, h1, h2, h3, rfl⟩ S' e' dv
  obtain ⟨S2, e2⟩ := S'.bagW h1 h2
  exact k v H' _ d h3 S2 (e'.trans e2) (dv.mono e2)
end
end D
end
section
set_option Elab.async false
set_option linter.all false
set_option maxRecDepth 100000
namespace D
open PySem L2 PyProof.Rows
abbrev tl (s : Str) : List Nat := s.cps.toList
theorem tl_app (a b : Str) : tl (a ++ b) = tl a ++ tl b := TL.tl_append a b
theorem len_app (a b : Str) : (a ++ b).length = a.length + b.length := by rw [TL.len_tl, TL.len_tl a, TL.len_tl b, TL.tl_append, List.length_append]
theorem len_tl (s : Str) : s.length = (tl s).length := TL.len_tl s
/-- plain texts: a length, signs of seven bits -/
structure Asc (n : Nat) (s : Str) : Prop where
  len : s.length ≤ n
  cp : ∀ a ∈ tl s, a < 128
theorem Asc.mono {n m : Nat} {s : Str} (h : Asc n s) (l : n ≤ m) : Asc m s := ⟨Nat.le_trans h.len l, h.cp⟩
theorem Asc.ok {n : Nat} {s : Str} (h : Asc n s) : PyData.strOk s = true := by
  unfold PyData.strOk
  rw [Array.all_eq_true_iff_forall_mem]
  intro a ha
  have := h.cp a (by simpa [tl] using ha)
  exact decide_eq_true (by omega)
theorem Asc.app {n m : Nat} {a b : Str} (h : Asc n a) (k : Asc m b) : Asc (n + m) (a ++ b) := ⟨by rw [len_app]; exact Nat.add_le_add h.len k.len, fun x hx => by
  rw [tl_app] at hx
  rcases List.mem_append.mp hx with z | z
  · exact h.cp x z
  · exact k.cp x z⟩
theorem cutD_from {α : Type} (l : List α) {k : Int} (h : 0 ≤ k) : cutD l (some k) none = l.drop k.toNat := by
  unfold cutD
  show (l.drop (if k < 0 then _ else min k.toNat l.length)).take (l.length - (if k < 0 then _ else min k.toNat l.length)) = _
  rw [if_neg (by omega)]
  by_cases e : k.toNat ≤ l.length
  · rw [Nat.min_eq_left e, List.take_of_length_le (by rw [List.length_drop]; omega)]
  · rw [Nat.min_eq_right (by omega), List.drop_length, List.drop_of_length_le (by omega)]
    simp
theorem cutD_to {α : Type} (l : List α) {k : Int} (h : 0 ≤ k) : cutD l none (some k) = l.take k.toNat := by
  unfold cutD
  show (l.drop 0).take ((if k < 0 then _ else min k.toNat l.length) - 0) = _
  rw [if_neg (by omega), List.drop_zero, Nat.sub_zero]
  by_cases e : k.toNat ≤ l.length
  · rw [Nat.min_eq_left e]
  · rw [Nat.min_eq_right (by omega), List.take_length, List.take_of_length_le (by omega)]
section
variable {F : Fm} {X : Cx} {Γ : List Sl} {c : Cells} {Φ : PEnds} {pos : Pos}
theorem so_none {P : Cells → Option Int → Prop} (p : P c none) : SO F X Γ c none P := p
theorem so_some {e : Expr} {P : Cells → Option Int → Prop} (h : SE F X Γ c e fun c1 d => ∃ i, d = .int i ∧ P c1 (some i)) : SO F X Γ c (some e) P := SE.mono h fun _ _ q => .inl q
end
end D
end
section
set_option Elab.async false
set_option linter.all false
set_option maxRecDepth 100000
namespace D
open PySem L2 PyProof.Rows
section
variable {F : Fm} {X : Cx} {Γ : List Sl} {c : Cells} {P : Cells → Dt → Prop} {Φ : PEnds} {pos : Pos}
theorem se_neg {e : Expr} (h : SE F X Γ c e fun c1 d => ∃ i : Int, d = .int i ∧ P c1 (.int (-i))) : SE F X Γ c (.UnaryOp .USub e pos) P :=
  SE.of (pe_un un_neg pE) fun σ H Q S k => h σ H _ S fun v H1 c1 d p S1 e1 dv => by
    obtain ⟨i, rfl, p⟩ := p
    cases dv
    exact ⟨i, rfl, k _ H1 c1 _ p S1 e1 (.int _)⟩
end
end D
end
section
set_option Elab.async false
set_option linter.all false
set_option maxRecDepth 100000
namespace D
open PySem L2 PyProof.Rows
def spI (K : PySem.W.Frag) (C : Addr) (fld : Str) (pre : Dt → Prop) : Sp := fun vs H Q _ => ∃ (a : Addr) (v : V) (M : List Addr) (d : Dt), vs = [.ref a, v] ∧ H a = some (exo a C none) ∧ DV K (mask M H) v d ∧ pre d ∧
  ∀ dx, H dx = none → dx ≠ a → Q .non (upd (upd H dx (exd dx [(fld, v)])) a (exo a C (some dx)))
end D
end
section
set_option Elab.async false
set_option linter.all false
set_option maxRecDepth 100000
namespace D
open PySem L2 PyProof.Rows
section
variable {κ : Type} [DecidableEq κ]
def dval (l : List (κ × Dt)) (k : κ) : Option Dt := (l.find? fun kv => decide (kv.1 = k)).map (·.2)
def dput (l : List (κ × Dt)) (k : κ) (d : Dt) : List (κ × Dt) := if (l.any fun kv => decide (kv.1 = k)) = true then l.map (fun kv => if kv.1 = k then (kv.1, d) else kv) else l ++ [(k, d)]
def ddrop (l : List (κ × Dt)) (k : κ) : List (κ × Dt) := l.filter fun kv => decide (kv.1 ≠ k)
end
/-- the values, key by key -/
inductive DVp {κ : Type} (K : PySem.W.Frag) (H : Hp) : List (κ × V) → List (κ × Dt) → Prop
  | nil : DVp K H [] []
  | cons {k : κ} {v : V} {vs : List (κ × V)} {d : Dt} {ds : List (κ × Dt)} : DV K H v d → DVp K H vs ds → DVp K H ((k, v) :: vs) ((k, d) :: ds)
section
variable {K : PySem.W.Frag} {H : Hp}
theorem DVk.p : ∀ {xs : List (Key × V)} {l : List (Key × Dt)}, DVk K H xs l → DVp K H xs l
  | _, _, .nil => .nil
  | _, _, .cons h t => .cons h (DVk.p t)
theorem DVp.k : ∀ {xs : List (Key × V)} {l : List (Key × Dt)}, DVp K H xs l → DVk K H xs l
  | _, _, .nil => .nil
  | _, _, .cons h t => .cons h (DVp.k t)
theorem DVu.p : ∀ {xs : List (List Key × V)} {l : List (List Key × Dt)}, DVu K H xs l → DVp K H xs l
  | _, _, .nil => .nil
  | _, _, .cons h t => .cons h (DVu.p t)
theorem DVp.u : ∀ {xs : List (List Key × V)} {l : List (List Key × Dt)}, DVp K H xs l → DVu K H xs l
  | _, _, .nil => .nil
  | _, _, .cons h t => .cons h (DVp.u t)
section
variable {κ : Type} [DecidableEq κ]
theorem DVp.length : ∀ {xs : List (κ × V)} {l : List (κ × Dt)}, DVp K H xs l → xs.length = l.length
  | _, _, .nil => rfl
  | _, _, .cons _ t => congrArg (· + 1) (DVp.length t)
theorem DVp.get : ∀ {xs : List (κ × V)} {l : List (κ × Dt)} {i : Nat} {k : κ} {v : V}, DVp K H xs l → xs[i]? = some (k, v) → ∃ d, l[i]? = some (k, d) ∧ DV K H v d
  | _, _, _, _, _, .nil, h => by simp at h
  | _, _, 0, _, _, .cons h t, e => by simp at e; obtain ⟨rfl, rfl⟩ := e; exact ⟨_, rfl, h⟩
  | _, _, i + 1, k, v, .cons h t, e => by
    obtain ⟨d, h1, h2⟩ := DVp.get (i := i) t (by simpa using e)
    exact ⟨d, by simpa using h1, h2⟩
theorem dval_pos {p : κ × Dt} {r : List (κ × Dt)} {k : κ} (e : p.1 = k) : dval (p :: r) k = some p.2 := by simp [dval, List.find?_cons, e]
theorem dval_neg {p : κ × Dt} {r : List (κ × Dt)} {k : κ} (e : ¬ p.1 = k) : dval (p :: r) k = dval r k := by simp [dval, List.find?_cons, e]
theorem dval_any (k : κ) : ∀ l : List (κ × Dt), (l.any fun kv => decide (kv.1 = k)) = (dval l k).isSome
  | [] => rfl
  | p :: l => by
    by_cases e : p.1 = k
    · rw [dval_pos e, List.any_cons]; simp [e]
    · rw [dval_neg e, List.any_cons, dval_any k l]; simp [e]
/-- the looked-up value: both there, or both not -/
theorem DVp.val (k : κ) : ∀ {xs : List (κ × V)} {l : List (κ × Dt)}, DVp K H xs l → (valV xs k = none ∧ dval l k = none) ∨ ∃ v d, valV xs k = some v ∧ dval l k = some d ∧ DV K H v d
  | _, _, .nil => .inl ⟨rfl, rfl⟩
  | _, _, .cons (k := j) (v := v) (d := d) h t => by
    by_cases e : j = k
    · exact .inr ⟨v, d, valV_pos e, dval_pos e, h⟩
    · rw [valV_neg (p := (j, v)) e, dval_neg (p := (j, d)) e]
      exact DVp.val k t
theorem DVp.repl (k : κ) {v : V} {d : Dt} (dv : DV K H v d) : ∀ {xs : List (κ × V)} {l : List (κ × Dt)}, DVp K H xs l → DVp K H (xs.map fun kv => if kv.1 = k then (kv.1, v) else kv) (l.map fun kv => if kv.1 = k then (kv.1, d) else kv)
  | _, _, .nil => .nil
  | _, _, .cons (k := j) h t => by
    by_cases e : j = k
    · simp only [List.map_cons, e, if_true]; exact .cons dv (DVp.repl k dv t)
    · simp only [List.map_cons, if_neg e]; exact .cons h (DVp.repl k dv t)
theorem DVp.app : ∀ {xs ys : List (κ × V)} {l m : List (κ × Dt)}, DVp K H xs l → DVp K H ys m → DVp K H (xs ++ ys) (l ++ m)
  | _, _, _, _, .nil, u => u
  | _, _, _, _, .cons h t, u => .cons h (DVp.app t u)
theorem DVp.put (k : κ) {v : V} {d : Dt} (dv : DV K H v d) {xs : List (κ × V)} {l : List (κ × Dt)} (t : DVp K H xs l) : DVp K H (putK xs k v) (dput l k d) := by
  have e : (xs.any fun kv => decide (kv.1 = k)) = (l.any fun kv => decide (kv.1 = k)) := by
    rw [valV_any, dval_any]
    rcases t.val k with ⟨h1, h2⟩ | ⟨a, b, h1, h2, _⟩ <;> rw [h1, h2] <;> rfl
  unfold putK dput
  rw [e]
  by_cases z : (l.any fun kv => decide (kv.1 = k)) = true
  · rw [if_pos z, if_pos z]; exact t.repl k dv
  · rw [if_neg z, if_neg z]; exact t.app (.cons dv .nil)
theorem DVp.drop (k : κ) : ∀ {xs : List (κ × V)} {l : List (κ × Dt)}, DVp K H xs l → DVp K H (dropK xs k) (ddrop l k)
  | _, _, .nil => .nil
  | _, _, .cons (k := j) h t => by
    unfold dropK ddrop
    by_cases e : j = k
    · simp only [List.filter_cons, e, ne_eq, not_true_eq_false, decide_false]
      exact DVp.drop k t
    · simp only [List.filter_cons, e, ne_eq, not_false_eq_true, decide_true, if_true]
      exact .cons h (DVp.drop k t)
end
end
/-- a datum as a key -/
def dkey : Dt → Option Key
  | .int i => some (.inl i)
  | .str s => some (.inr s)
  | _ => none
theorem dkey_dv {K : PySem.W.Frag} {H : Hp} {v : V} {d : Dt} {k : Key} (h : DV K H v d) (e : dkey d = some k) : v = kV k := by
  cases h <;> cases e <;> rfl
end D
end
section
set_option Elab.async false
set_option linter.all false
set_option maxRecDepth 100000
namespace D
open PySem L2 PyProof.Rows
section
variable {F : Fm} {X : Cx} {Γ : List Sl} {c : Cells} {P : Cells → Dt → Prop} {Φ : PEnds} {pos : Pos}
def keysD (l : List (Key × Dt)) : List Dt := l.map fun kv => match kv.1 with | .inl i => Dt.int i | .inr s => Dt.str s
def valsD (l : List (Key × Dt)) : List Dt := l.map (·.2)
def kD : Key → Dt
  | .inl i => .int i
  | .inr s => .str s
theorem keysD_eq (l : List (Key × Dt)) : keysD l = l.map fun kv => kD kv.1 := rfl
theorem kD_dv {K : PySem.W.Frag} {H : Hp} (k : Key) : DV K H (kV k) (kD k) := by cases k with
  | inl i => exact .int i
  | inr s => exact .str s
variable {tg : Expr} {Pl : Cells → List Dt → Prop}
theorem sw_vals {e : Expr} {apos : Pos} (h : SE F X Γ c e fun c1 d => ∃ l, d = .dct l ∧ Pl c1 (valsD l)) (hbase : attributeBase e "values" X.env (eval e X.env) = eval e X.env := by rfl) (hline : (apos.endLine == pos.line) = true := by rfl) : SW F X Γ c tg (.Call (.Attribute e "values" apos) [] [] pos) Pl := .mk fun σ H R S k =>
  ⟨_, pi_values pE hbase hline, h σ H _ S fun v H1 c1 d p S1 k1 dv => by
    obtain ⟨l, rfl, p⟩ := p
    cases dv with
    | dct a t =>
      refine ⟨_, _, _, rfl, (of_mask a).2, k _ H1 c1 _ p S1 k1 ?_⟩
      have hl : (valsD l).length = _ := (List.length_map _).trans t.p.length.symm
      refine ⟨_, _, hl.symm ▸ walk_values, fun H e => e _ _ a, fun i Ha x Hb hi y _ => ?_⟩
      obtain ⟨h1, key, h2⟩ := y
      obtain ⟨d, h3, h4⟩ := t.p.get h2
      refine ⟨d, ?_, .inl ⟨h1, h4⟩⟩
      unfold valsD
      rw [List.getElem?_map, h3]
      rfl⟩
theorem ss_dropC {ss : List Stmt} (j : Nat) {p : Addr × Cel} (hj : c[j]? = some p) (h : SS F X Γ (c.eraseIdx j) ss Φ) : SS F X Γ c ss Φ := .mk fun σ H D S E => by
  obtain ⟨S2, e2, _⟩ := S.letGo (H' := H) hj (fun _ _ => rfl) ((S.cat hj).live)
  exact h σ H D S2 (E.ext e2)
end
end D
end
section
set_option Elab.async false
set_option linter.all false
set_option maxRecDepth 100000
namespace D
open PySem PySem.Spec L2 PyProof.Rows
end D
end
section
set_option Elab.async false
set_option linter.all false
set_option maxRecDepth 100000
namespace D
open PySem PySem.Spec L2 PyProof.Rows
section
variable {X : Cx}
theorem swD_true {kx vx : Expr} {gs : List Comprehension} {sc : Scope} {pos py : Pos} {y : Str} {l : Nat} {env : Env} (hk : env.scope.kind = .function) (hy : env.scope.names.lookup y = some .local) (hl : (py.line == pos.line) = true)
    (ha : (sc.names.any fun (n, k) => n == y && (k == .local || k == .cell)) = false) : swapsWith (.DictComp kx vx gs sc pos) (some (.Name y py)) l env = pure true := by
  have k1 : env.kindOf y = some .local := hy
  have k2 : env.blockKind = .function := by unfold Env.blockKind; rw [hk]; rfl
  unfold swapsWith
  simp only [k2, k1, ha, Expr.pos, hl]
  rfl
/-- the end of an assignment of what a comprehension has made -/
theorem use_end {pins : List (Addr × Obj)} {σ : L2.St} {D : Ends} {i : Nat} {y : Str} {py : Pos} {L C : Addr} {t : Shared} {m : Str → Option Value} {H' : Hp} (hN : X.N.Nodup) (hy : X.N[i]? = some y) (hyl : X.env.scope.names.lookup y = some .local)
    (I' : Inv X pins σ H' t) (q : gName i (.ref L) σ H' D.nx) (hn : t.heap.Ns C m) (f : FpOk X pins H' C) : compPost (model X.prog X.w) X.A X.xe (some (assign (.Name y py) X.env)) (fun _ t' => SP X pins D .next t') (.ref L) C (.ok .next) t := by
  show wpAny _ _ (assign (.Name y py) X.env (.ref L)) _ _ _
  refine wpAny_assign_Name (store_ok2 (v := V.ref L) I' hN hy (.inl hyl) rfl (fun t2 I2 ⟨a, sb, ha⟩ => ?_) (.inr hyl))
  obtain ⟨f0, f1, f2, f3, f4, f5⟩ := f
  have haC : C ≠ a := ha.elim (fun z => by rw [z]; exact f1) fun z e => f4 y a z e.symm
  exact ⟨m, hn.sameBut sb haC, fun h3 sb3 => ⟨_, H', I2.turned (t' := t2.toks) (fun b o hb e => (sb3.2 b hb).trans e) f0 f1 f3 f4 f5, q⟩⟩
theorem ps_setDc {i : Nat} {y : Str} {py spos : Pos} {kx vx tg iter : Expr} {ifs : List Expr} {sc : Scope} {own : List (Str × Nat)} {ps : Pos} {wi : TI} {g : TG} {tt : TT} {tk tv : TE} (hc : X.calm = true) (hN : X.N.Nodup) (hy : X.N[i]? = some y) (hyl : X.env.scope.names.lookup y = some .local)
    (hsw : swapsWith (.DictComp kx vx [⟨tg, iter, ifs, 0⟩] sc ps) (some (.Name y py)) spos.line X.env = pure true) (hi : PI X tg iter wi) (ok : BlkOk X.N X.env.scope sc own)
    (hg : AB X sc fun Y => PG Y tg g) (ht : AB X sc fun Y => PTs Y ifs tt) (hk : AB X sc fun Y => PE Y kx tk) (he : AB X sc fun Y => PE Y vx tv) (hs : ∀ z, foldedSetIterable iter X.env z = pure z) :
    PS X (.Assign [.Name y py] (.DictComp kx vx [⟨tg, iter, ifs, 0⟩] sc ps) spos) (tAsg (tDc wi g tt tk tv (own.map (·.2))) (gName i)) := by
  refine ⟨fun pins s σ H D I h => ?_⟩
  rw [exec_Assign_Name_used _ _ _ _ hsw]
  refine wpAny_bind (wpAny_standAt (wpAny_bind ?_))
  show wpAny _ X.A (do let _ ← comprehension (.DictComp kx vx [⟨tg, iter, ifs, 0⟩] sc ps) sc X.env (firstIterPos [⟨tg, iter, ifs, 0⟩] ps) newDict false (eval iter X.env) (some (assign (.Name y py) X.env))) _ _ s
  have h : tDc wi g tt tk tv (own.map (·.2)) σ H (fun x H1 => gName i x σ H1 D.nx) := h
  exact wpAny_bind (thn (dc_core (Qf := fun _ t => SP X pins D .next t) hc hN I hi ok hg ht hk he hs h fun L C t m H' I' q hn f => use_end hN hy hyl I' q hn f) fun _ t hq => wpAny_pure (wpAny_pure hq))
end
end D
end
section
set_option Elab.async false
set_option linter.all false
set_option maxRecDepth 100000
namespace D
open PySem PySem.Spec L2 PyProof.Rows
theorem dput_length {κ : Type} [DecidableEq κ] (l : List (κ × Dt)) (k : κ) (d : Dt) : (dput l k d).length ≤ l.length + 1 := by
  unfold dput
  split
  · rw [List.length_map]; omega
  · rw [List.length_append]; simp
theorem ww {σ : L2.St} (vs : List Nat) : wipe (wipe σ vs) vs = wipe σ vs := by
  have : ∀ (us : List Nat), (∀ u ∈ us, u ∈ vs) → wipe (wipe σ us) vs = wipe σ vs := by
    intro us
    induction us with
    | nil => intro _; rfl
    | cons u us ih =>
      intro h
      show wipe ((wipe σ us).set u none) vs = _
      rw [wipe_set (h u (List.mem_cons_self ..))]
      exact ih fun v hv => h v (List.mem_cons_of_mem _ hv)
  exact this vs fun u h => h
/-- a new dict -/
def SDt (F : Fm) (X : Cx) (Γ : List Sl) (c : Cells) (t : TE) (P : Cells → List (Key × Dt) → Prop) : Prop :=
  ∀ (σ : L2.St) (H : Hp) (Q : VK), SI X.K F Γ c σ H → (∀ p xs H1 c' l, P c' l → SI X.K F Γ c' σ H1 → Ex (Vw F c H) (Vw F c' H1) → H1 p = none → DVk X.K (Vw F c' H1) xs l → Q (.ref p) (upd H1 p (.dK xs))) → t σ H Q
section
variable {F : Fm} {X : Cx} {Γ : List Sl} {c : Cells} {Φ : PEnds} {pos : Pos} {P : Cells → List (Key × Dt) → Prop} {vs vs1 : List Nat}
theorem SDt.se {e : Expr} {t : TE} {P : Cells → Dt → Prop} (hp : PE X e t) (h : SDt F X Γ c t fun c1 l => ∀ a, P (c1 ++ [(a, .dk l)]) (.raw (.ref a))) : SE F X Γ c e P :=
  SE.of hp fun σ H Q S k => h σ H Q S fun p xs H1 c' l q S1 e1 hp dv => by
    obtain ⟨S2, e2⟩ := S1.addC (q := .dk l) (o := .dK xs) hp rfl ⟨xs, upd_same, dv⟩
    exact k _ _ _ _ (q p) S2 (e1.trans e2) (.raw _)
theorem s_setDT {st : Stmt} {t : TE} (i : Nat) (hp : PS X st (tAsg t (gName i))) (h : SDt F X Γ c t fun c1 l => ∀ a, Φ.nx (Γ.set i (.dat (.raw (.ref a)))) (c1 ++ [(a, .dk l)])) : S1 F X Γ c st Φ :=
  S1.of hp fun σ H D S E => h σ H _ S fun p xs H1 c' l q S1 e1 hp dv => by
    obtain ⟨S2, e2⟩ := S1.addC (q := .dk l) (o := .dK xs) hp rfl ⟨xs, upd_same, dv⟩
    exact E.nx _ _ _ _ (q p) (S2.setD (.raw _)) (e1.trans e2)
/-- one turn of {k: v for tg in iter} -/
def TurnD (X : Cx) (Γ : List Sl) (sc : Scope) (vs : List Nat) (tg kx vx : Expr) (d : Dt) (c' : Cells) (N : Cells → Key → Dt → Prop) : Prop :=
  ∀ F' : Fm, AB X sc fun Y => SGb F' Y (wipeG Γ vs) c' vs tg d fun Γ2 => AB X sc fun Y => SE F' Y Γ2 c' kx fun c2 dk => ∃ k, dkey dk = some k ∧ AB X sc fun Y => SE F' Y Γ2 c2 vx fun c3 dv => N c3 k dv
theorem sdt_dc {kx vx tg iter : Expr} {sc : Scope}
    (h : SW F X Γ c tg iter fun c1 ds => ds.length ≤ sizeLine ∧ ∃ Jv : Nat → Cells → List (Key × Dt) → Prop, Jv 0 c1 [] ∧
      (∀ i d c' acc, ds[i]? = some d → Jv i c' acc → TurnD X Γ sc vs tg kx vx d c' fun c2 k y => Jv (i + 1) c2 (dput acc k y)) ∧ ∀ c' acc, Jv ds.length c' acc → P c' acc) : SDt F X Γ c (tDc (wI X tg iter) (tGb X sc tg) tYes (tEb X sc kx) (tEb X sc vx) vs) P := fun σ H Q S kk => by
  refine h σ H _ S fun J H1 c1 ds p S1 e1 src L hL => ?_
  obtain ⟨hz, Jv, j0, turn, done⟩ := p
  obtain ⟨G, Y, w, hG, hY⟩ := src
  have nM : L ∉ F.M := fun z => S1.fresh hL (List.mem_append_right _ z)
  have nW := S1.nW hL
  have h0 := S1.h0 hL
  obtain ⟨Sh, eh⟩ := S1.hide (D := L) (o := .dK []) hL (fun _ z => nomatch z)
  let Pv : Nat → Hp → Prop := fun i H' => ∃ c' acc xs, Jv i c' acc ∧ acc.length ≤ i ∧ SI X.K (FD F L (.dK xs)) Γ c' σ H' ∧ Ex (Vw F c1 H1) (Vw (FD F L (.dK xs)) c' H') ∧ DVk X.K (Vw (FD F L (.dK xs)) c' H') xs acc
  refine ⟨fun i m H => m = ds.length - i ∧ i ≤ ds.length ∧ Pv i H, ⟨ds.length, by simp, Nat.zero_le _, c1, [], [], j0, Nat.le_refl _, Sh, eh, .nil⟩, ?_⟩
  rintro i m H' ⟨rfl, hi, c', acc, xs, jv, la, S', e', dvs⟩
  have g := hG H' (e'.trans (mask_ex _ _))
  by_cases hlt : i < ds.length
  · refine .inr ⟨w.goes i H' hlt g, Pv (i + 1), fun H2 p2 => ⟨ds.length - (i + 1), by omega, rfl, hlt, p2⟩, fun x H2 y => ?_⟩
    obtain ⟨d, hd, it⟩ := hY i H' x H2 hlt (w.yields i H' x H2 hlt g y) (e'.trans (mask_ex _ _))
    obtain ⟨S2, e2, dv⟩ := it.dv' S' e'
    intro s0 H0 C cl fp
    refine turn i d c' acc hd jv (FD F L (.dK xs)) s0 H0 C cl fp (wipe σ vs) H2 x _ (S2.wipe vs) dv fun Γ2 σ2 q Sg hw => ⟨by rw [ww] at hw; exact hw, ?_⟩
    show tEb X sc kx σ2 H2 _
    intro s0 H0 C cl fp
    refine q s0 H0 C cl fp σ2 H2 _ Sg fun yk H3 c2 dk q2 S3 e3 dvk => ?_
    obtain ⟨key, hk, q2⟩ := q2
    intro s0 H0 C cl fp
    refine q2 s0 H0 C cl fp σ2 H3 _ S3 fun yv H4 c3 dy jn S4 e4 dvy => ?_
    have S5 : SI X.K (FD F L (.dK xs)) Γ c3 σ H4 := S2.back S4 (e3.trans e4)
    have ee := e2.trans (e3.trans e4)
    refine ⟨xs, key, dkey_dv dvk hk, S5.hD nW, by rw [dvs.p.length]; omega, c3, dput acc key dy, putK xs key yv, jn, ?_, S5.grow (fun _ z => nomatch z), ?_, ?_⟩
    · have := dput_length acc key dy; omega
    · rw [vw_FD_upd (o := .dK xs)]
      exact e'.trans ee
    · rw [vw_FD_upd (o := .dK xs)]
      exact ((dvs.mono ee).p.put key dvy).k
  · have ei : i = ds.length := by omega
    subst ei
    refine .inl ⟨w.stops H' g, ?_⟩
    have q := kk L xs (rm H' L) c' acc (done c' acc jv) (S'.unhide h0 nM nW) (e1.trans (e'.trans vw_rm)) rm_same (dvs.mono vw_rm)
    rw [upd_rm (S'.hD nW)] at q
    exact q
end
end D
end
section
set_option Elab.async false
set_option linter.all false
set_option maxRecDepth 100000
namespace D
open PySem PySem.Spec L2 PyProof.Rows
end D
end
section
set_option Elab.async false
set_option linter.all false
set_option maxRecDepth 100000
namespace D
open PySem PySem.Spec L2 PyProof.Rows
end D
end
section
set_option Elab.async false
set_option linter.all false
set_option maxRecDepth 100000
namespace D
open PySem L2 PyProof.Rows
def getG : List Str → List Sl → Str → Option Sl
  | n :: N, s :: Γ, x => if n == x then some s else getG N Γ x
  | _, _, _ => none
theorem getG_at {x : Str} {s : Sl} : ∀ {N : List Str} {Γ : List Sl}, getG N Γ x = some s → ∃ i : Nat, N[i]? = some x ∧ Γ[i]? = some s
  | [], _, h => by simp [getG] at h
  | _ :: _, [], h => by simp [getG] at h
  | n :: N, t :: Γ, h => by
    unfold getG at h
    by_cases e : (n == x) = true
    · rw [if_pos e] at h
      exact ⟨0, by simp [eq_of_beq e], by simpa using h⟩
    · rw [if_neg e] at h
      obtain ⟨i, h1, h2⟩ := getG_at h
      exact ⟨i + 1, by simpa using h1, by simpa using h2⟩
section
variable {F : Fm} {X : Cx} {Γ : List Sl} {c : Cells} {P : Cells → Dt → Prop} {pos : Pos}
theorem se_nm {x : Str} {d : Dt} (hs : getG X.N Γ x = some (.dat d)) (p : P c d) (hv : Vis X.env.scope x := by first | exact Or.inl rfl | exact Or.inr (Or.inl rfl) | exact Or.inr (Or.inr rfl))
    (hd : (x == ("__debug__" : Str)) = false := by decide) (hcd : (x == ("__classdict__" : Str)) = false := by decide) : SE F X Γ c (.Name x pos) P := by
  obtain ⟨i, h1, h2⟩ := getG_at hs
  exact se_var i h2 p h1 hv hd hcd
end
abbrev abc : Str := "abcdefghijklmnopqrstuvwxyz"
def nameC (s : Str) : Bool := decide (1 ≤ (s.length : Int)) && (decide ((s.length : Int) ≤ 8) && s.cps.toList.all fun a => decide (a ∈ abc.cps.toList))
abbrev Nm := { s : Str // nameC s = true }
abbrev nD (x : Nm) : Dt := .str x.1
abbrev nL (l : List Nm) : Dt := .lst (l.map nD)
abbrev nT (l : List Nm) : Dt := .tup (l.map nD)
theorem eqV_str (a b : Str) : eqV (.str a) (.str b) = decide (a = b) := by
  show _ = _
  by_cases h : a = b
  · subst h; simp [eqV]
  · simp [eqV, h]
theorem inD_n (x : Nm) (l : List Nm) : inD (nD x) (l.map nD) = decide (x ∈ l) := by
  unfold inD inV
  rw [List.map_map]
  induction l with
  | nil => rfl
  | cons y l ih =>
    rw [List.map_cons, List.any_cons, ih]
    show (eqV (.str y.1) (.str x.1) || _) = _
    rw [eqV_str]
    by_cases e : y = x
    · subst e; simp
    · have : y.1 ≠ x.1 := fun z => e (Subtype.ext z)
      have e' : ¬ x = y := fun z => e z.symm
      simp [this, e']
theorem flats_n (l : List Nm) : (l.map nD).all flatD = true := by rw [List.all_eq_true]; intro d hd; obtain ⟨x, _, rfl⟩ := List.mem_map.mp hd; rfl
theorem big_line : 1000000 ≤ sizeLine := by decide
section
variable {F : Fm} {X : Cx} {Γ : List Sl} {c : Cells} {P : Cells → Dt → Prop} {pos : Pos}
theorem ov_inN {x : Nm} {l : List Nm} (p : P c (.bl (decide (x ∈ l)))) : OpV F X Γ c (compareOp .In) (nD x) (nL l) P := ov_in rfl rfl (flats_n l) (by rw [inD_n]; exact p)
theorem ov_inNT {x : Nm} {l : List Nm} (p : P c (.bl (decide (x ∈ l)))) : OpV F X Γ c (compareOp .In) (nD x) (nT l) P := ov_in rfl rfl (flats_n l) (by rw [inD_n]; exact p)
theorem ov_ninN {x : Nm} {l : List Nm} (p : P c (.bl (!decide (x ∈ l)))) : OpV F X Γ c (compareOp .NotIn) (nD x) (nL l) P := ov_notIn rfl rfl (flats_n l) (by rw [inD_n]; exact p)
theorem ov_ninNT {x : Nm} {l : List Nm} (p : P c (.bl (!decide (x ∈ l)))) : OpV F X Γ c (compareOp .NotIn) (nD x) (nT l) P := ov_notIn rfl rfl (flats_n l) (by rw [inD_n]; exact p)
theorem nm_eq (a b : Nm) : decide (a.1 = b.1) = decide (a = b) := by
  by_cases h : a = b
  · subst h; simp
  · have : a.1 ≠ b.1 := fun z => h (Subtype.ext z)
    simp [h, this]
theorem ov_eqN {a b : Nm} (p : P c (.bl (decide (a = b)))) : OpV F X Γ c (compareOp .Eq) (nD a) (nD b) P := ov_eqS (by rw [nm_eq]; exact p)
theorem ov_neN {a b : Nm} (p : P c (.bl (!decide (a = b)))) : OpV F X Γ c (compareOp .NotEq) (nD a) (nD b) P := ov_neS (by rw [nm_eq]; exact p)
theorem sv_fromL {α : Type} {f : α → Dt} {l : List α} {k : Int} (h : 0 ≤ k) (p : P c (.lst ((l.drop k.toNat).map f))) : SlV F X Γ c (some k) none (.lst (l.map f)) P := sv_lst (by rw [cutD_from _ h, ← List.map_drop]; exact p)
theorem sv_fromT {α : Type} {f : α → Dt} {l : List α} {k : Int} (h : 0 ≤ k) (p : P c (.tup ((l.drop k.toNat).map f))) : SlV F X Γ c (some k) none (.tup (l.map f)) P := sv_tup (by rw [cutD_from _ h, ← List.map_drop]; exact p)
theorem sv_toL {α : Type} {f : α → Dt} {l : List α} {k : Int} (h : 0 ≤ k) (p : P c (.lst ((l.take k.toNat).map f))) : SlV F X Γ c none (some k) (.lst (l.map f)) P := sv_lst (by rw [cutD_to _ h, ← List.map_take]; exact p)
theorem sv_toT {α : Type} {f : α → Dt} {l : List α} {k : Int} (h : 0 ≤ k) (p : P c (.tup ((l.take k.toNat).map f))) : SlV F X Γ c none (some k) (.tup (l.map f)) P := sv_tup (by rw [cutD_to _ h, ← List.map_take]; exact p)
theorem iv_cons {d : Dt} {l : List Dt} (p : P c d) : IxV F X Γ c (.lst (d :: l)) (.int 0) P := iv_lst (by simp [atI, ixN]) p
theorem iv_consT {d : Dt} {l : List Dt} (p : P c d) : IxV F X Γ c (.tup (d :: l)) (.int 0) P := iv_tup (by simp [atI, ixN]) p
theorem any_map {α : Type} (l : List α) (q : α → Bool) : ((l.map q).any id) = l.any q := by rw [List.any_map]; rfl
theorem all_map {α : Type} (l : List α) (q : α → Bool) : ((l.map q).all id) = l.all q := by rw [List.all_map]; rfl
theorem cv_anyM {α : Type} {l : List α} {q : α → Bool} (hc : X.calm = true) (p : P c (.bl (l.any q))) : ClV F X Γ c (.builtin "any") [.lst (l.map fun x => .bl (q x))] P := by
  have := cv_any (F := F) (Γ := Γ) (c := c) (P := P) (bs := l.map q) hc (by rw [any_map]; exact p)
  rw [List.map_map] at this
  exact this
theorem cv_allM {α : Type} {l : List α} {q : α → Bool} (hc : X.calm = true) (p : P c (.bl (l.all q))) : ClV F X Γ c (.builtin "all") [.lst (l.map fun x => .bl (q x))] P := by
  have := cv_all (F := F) (Γ := Γ) (c := c) (P := P) (bs := l.map q) hc (by rw [all_map]; exact p)
  rw [List.map_map] at this
  exact this
variable {vs : List Nat} {Pl : Cells → List Dt → Prop}
theorem map_t {α : Type} {elt tg : Expr} {scope : Scope} {enc : α → Dt} {l : List α} (g : α → Dt) (hz : l.length ≤ sizeLine)
    (turn : ∀ r, r ∈ l → Turn0 X Γ scope vs tg elt (enc r) c fun c2 y => c2 = c ∧ y = g r) (p : Pl c (l.map g)) :
    (l.map enc).length ≤ sizeLine ∧ ∃ Jv : Nat → Cells → List Dt → Prop, Jv 0 c [] ∧ (∀ i d c' acc, (l.map enc)[i]? = some d → Jv i c' acc → Turn0 X Γ scope vs tg elt d c' fun c2 y => Jv (i + 1) c2 (acc ++ [y])) ∧ ∀ c' acc, Jv (l.map enc).length c' acc → Pl c' acc := by
  refine ⟨by rw [List.length_map]; exact hz, fun i c' acc => c' = c ∧ acc = (l.take i).map g, ⟨rfl, by simp⟩, ?_, ?_⟩
  · rintro i d c' acc hd ⟨rfl, rfl⟩ F' s0 H0 C cl fp
    refine .mk fun σ H v Q S dv k => ?_
    rw [List.getElem?_map] at hd
    obtain ⟨r, hr, rfl⟩ := Option.map_eq_some_iff.mp hd
    refine turn r (List.mem_of_getElem? hr) F' s0 H0 C cl fp σ H v Q S dv fun Γ2 σ2 q S2 w => k Γ2 σ2 ?_ S2 w
    intro s0 H0 C cl fp
    refine (q s0 H0 C cl fp).mono ?_
    rintro c2 y ⟨rfl, rfl⟩
    refine ⟨rfl, ?_⟩
    rw [List.take_add_one, hr, List.map_append]
    rfl
  · rintro c' acc ⟨rfl, rfl⟩
    rw [List.length_map, List.take_length]
    exact p
theorem filter_t {α : Type} {elt t tg : Expr} {scope : Scope} {enc : α → Dt} {l : List α} (q : α → Bool) (g : α → Dt) (hz : l.length ≤ sizeLine)
    (turn : ∀ r, r ∈ l → Turn1 X Γ scope vs tg t elt (enc r) c (fun c2 y => q r = true ∧ c2 = c ∧ y = g r) fun c2 => c2 = c ∧ q r = false) (p : Pl c ((l.filter q).map g)) :
    (l.map enc).length ≤ sizeLine ∧ ∃ Jv : Nat → Cells → List Dt → Prop, Jv 0 c [] ∧ (∀ i d c' acc, (l.map enc)[i]? = some d → Jv i c' acc → Turn1 X Γ scope vs tg t elt d c' (fun c2 y => Jv (i + 1) c2 (acc ++ [y])) fun c2 => Jv (i + 1) c2 acc) ∧ ∀ c' acc, Jv (l.map enc).length c' acc → Pl c' acc := by
  refine ⟨by rw [List.length_map]; exact hz, fun i c' acc => c' = c ∧ acc = ((l.take i).filter q).map g, ⟨rfl, by simp⟩, ?_, ?_⟩
  · rintro i d c' acc hd ⟨rfl, rfl⟩ F' s0 H0 C cl fp
    refine .mk fun σ H v Q S dv k => ?_
    rw [List.getElem?_map] at hd
    obtain ⟨r, hr, rfl⟩ := Option.map_eq_some_iff.mp hd
    have e : ((l.take (i + 1)).filter q).map g = ((l.take i).filter q).map g ++ (if q r = true then [g r] else []) := by
      rw [List.take_add_one, hr, List.filter_append, List.map_append]
      congr 1
      show ([r].filter q).map g = _
      cases hq : q r with
      | true => rw [List.filter_cons_of_pos hq]; rfl
      | false => rw [List.filter_cons_of_neg (by rw [hq]; exact Bool.false_ne_true)]; rfl
    refine turn r (List.mem_of_getElem? hr) F' s0 H0 C cl fp σ H v Q S dv fun Γ2 σ2 z S2 w => k Γ2 σ2 ?_ S2 w
    intro s0 H0 C cl fp
    refine (z s0 H0 C cl fp).mono ?_
    intro c2 b hb
    cases b with
    | true =>
      rw [if_pos rfl] at hb
      rw [if_pos rfl]
      intro s0 H0 C cl fp
      refine SE.mono (hb s0 H0 C cl fp) ?_
      rintro c3 y ⟨hq, rfl, rfl⟩
      exact ⟨rfl, by rw [e, hq]; rfl⟩
    | false =>
      obtain ⟨rfl, hq⟩ := hb
      refine ⟨rfl, ?_⟩
      rw [e, hq]
      simp
  · rintro c' acc ⟨rfl, rfl⟩
    rw [List.length_map, List.take_length]
    exact p
end
end D
end
section
set_option Elab.async false
set_option linter.all false
set_option maxRecDepth 100000
namespace D
open PySem L2 PyProof.Rows
section
variable {F : Fm} {X : Cx} {Γ : List Sl} {c c1 : Cells} {Φ : PEnds} {tg : Expr}
/-- a for over typed data: J tells of what is left -/
theorem for_t {α : Type} {enc : α → Dt} {l : List α} {body : List Stmt} (J : List α → List Sl → Cells → Prop) (h0 : J l Γ c1)
    (turn : ∀ pre r rest Γ' c', l = pre ++ r :: rest → J (r :: rest) Γ' c' → SG F X Γ' c' tg (enc r) fun Γ2 => SS F X Γ2 c' body { Φ with nx := J rest, ct := J rest, bk := Φ.nx })
    (done : ∀ Γ' c', J [] Γ' c' → Φ.nx Γ' c') :
    ∃ J : Nat → List Sl → Cells → Prop, J 0 Γ c1 ∧ (∀ i d Γ' c', (l.map enc)[i]? = some d → J i Γ' c' → SG F X Γ' c' tg d fun Γ2 => SS F X Γ2 c' body { Φ with nx := J (i + 1), ct := J (i + 1), bk := Φ.nx }) ∧ ∀ Γ' c', J (l.map enc).length Γ' c' → Φ.nx Γ' c' := by
  refine ⟨fun i => J (l.drop i), h0, fun i d Γ' c' hd hj => ?_, fun Γ' c' hj => done Γ' c' (by have hj : J (l.drop (l.map enc).length) Γ' c' := hj; rw [List.length_map, List.drop_length] at hj; exact hj)⟩
  rw [List.getElem?_map] at hd
  obtain ⟨r, hr, rfl⟩ := Option.map_eq_some_iff.mp hd
  have hl : i < l.length := (List.getElem?_eq_some_iff.mp hr).1
  have he : l.drop i = r :: l.drop (i + 1) := by
    rw [List.drop_eq_getElem_cons hl, (List.getElem?_eq_some_iff.mp hr).2]
  have hj : J (l.drop i) Γ' c' := hj
  rw [he] at hj
  exact turn (l.take i) r (l.drop (i + 1)) Γ' c' (by rw [← he, List.take_append_drop]) hj
end
def ixOf : List Str → Str → Nat
  | [], _ => 0
  | n :: N, x => if n == x then 0 else ixOf N x + 1
def ownOf (N : List Str) : Expr → List (Str × Nat)
  | .Name x _ => [(x, ixOf N x)]
  | .Tuple [.Name x _, .Name y _] _ _ => [(x, ixOf N x), (y, ixOf N y)]
  | _ => []
section
variable {F : Fm} {X : Cx} {Γ : List Sl} {c c1 : Cells} {P : Cells → Dt → Prop} {pos : Pos}
/-- what a map's turns give -/
def LcM (X : Cx) (Γ : List Sl) (scope : Scope) (vs : List Nat) (tg elt : Expr) (c1 : Cells) (ds : List Dt) (Q : List Dt → Prop) : Prop :=
  ∃ (α : Type) (enc : α → Dt) (l : List α) (g : α → Dt), ds = l.map enc ∧ l.length ≤ sizeLine ∧ (∀ r, r ∈ l → Turn0 X Γ scope vs tg elt (enc r) c1 fun c2 y => c2 = c1 ∧ y = g r) ∧ Q (l.map g)
def LcF (X : Cx) (Γ : List Sl) (scope : Scope) (vs : List Nat) (tg t elt : Expr) (c1 : Cells) (ds : List Dt) (Q : List Dt → Prop) : Prop :=
  ∃ (α : Type) (enc : α → Dt) (l : List α) (q : α → Bool) (g : α → Dt), ds = l.map enc ∧ l.length ≤ sizeLine ∧ (∀ r, r ∈ l → Turn1 X Γ scope vs tg t elt (enc r) c1 (fun c2 y => q r = true ∧ c2 = c1 ∧ y = g r) fun c2 => c2 = c1 ∧ q r = false) ∧ Q ((l.filter q).map g)
theorem lcM {α : Type} {enc : α → Dt} {l : List α} {scope : Scope} {vs : List Nat} {tg elt : Expr} {Q : List Dt → Prop} (g : α → Dt) (hz : l.length ≤ sizeLine) (turn : ∀ r, r ∈ l → Turn0 X Γ scope vs tg elt (enc r) c1 fun c2 y => c2 = c1 ∧ y = g r) (p : Q (l.map g)) : LcM X Γ scope vs tg elt c1 (l.map enc) Q :=
  ⟨α, enc, l, g, rfl, hz, turn, p⟩
theorem sel_M {elt tg iter : Expr} {scope : Scope} {Pl : Cells → List Dt → Prop} (hc : X.calm = true) (hN : X.N.Nodup) (ok : BlkOk X.N X.env.scope scope (ownOf X.N tg))
    (h : SW F X Γ c tg iter fun c1 ds => LcM X Γ scope ((ownOf X.N tg).map (·.2)) tg elt c1 ds (Pl c1)) (hfs : ∀ x, foldedSetIterable iter X.env x = pure x := by intro _; rfl) : SEL F X Γ c (.ListComp elt [⟨tg, iter, [], 0⟩] scope pos) Pl :=
  sel_lc _ hc hN ok (.mk fun σ H R S k => h σ H R S fun J H' c' ds p S' => k J H' c' ds (by
    obtain ⟨α, enc, l, g, rfl, hz, turn, p⟩ := p
    exact map_t g hz turn p) S') hfs
theorem sel_F {elt tg iter t : Expr} {scope : Scope} {Pl : Cells → List Dt → Prop} (hc : X.calm = true) (hN : X.N.Nodup) (ok : BlkOk X.N X.env.scope scope (ownOf X.N tg))
    (h : SW F X Γ c tg iter fun c1 ds => LcF X Γ scope ((ownOf X.N tg).map (·.2)) tg t elt c1 ds (Pl c1)) (hfs : ∀ x, foldedSetIterable iter X.env x = pure x := by intro _; rfl) : SEL F X Γ c (.ListComp elt [⟨tg, iter, [t], 0⟩] scope pos) Pl :=
  sel_lcIf _ hc hN ok (.mk fun σ H R S k => h σ H R S fun J H' c' ds p S' => k J H' c' ds (by
    obtain ⟨α, enc, l, q, g, rfl, hz, turn, p⟩ := p
    exact filter_t q g hz turn p) S') hfs
theorem se_M {elt tg iter : Expr} {scope : Scope} (hc : X.calm = true) (hN : X.N.Nodup) (ok : BlkOk X.N X.env.scope scope (ownOf X.N tg))
    (h : SW F X Γ c tg iter fun c1 ds => LcM X Γ scope ((ownOf X.N tg).map (·.2)) tg elt c1 ds fun z => P c1 (.lst z)) (hfs : ∀ x, foldedSetIterable iter X.env x = pure x := by intro _; rfl) : SE F X Γ c (.ListComp elt [⟨tg, iter, [], 0⟩] scope pos) P := SEL.se (sel_M hc hN ok h hfs)
theorem se_F {elt tg iter t : Expr} {scope : Scope} (hc : X.calm = true) (hN : X.N.Nodup) (ok : BlkOk X.N X.env.scope scope (ownOf X.N tg))
    (h : SW F X Γ c tg iter fun c1 ds => LcF X Γ scope ((ownOf X.N tg).map (·.2)) tg t elt c1 ds fun z => P c1 (.lst z)) (hfs : ∀ x, foldedSetIterable iter X.env x = pure x := by intro _; rfl) : SE F X Γ c (.ListComp elt [⟨tg, iter, [t], 0⟩] scope pos) P := SEL.se (sel_F hc hN ok h hfs)
theorem se_any {p : Pos} {e : Expr} {es : List Expr} (hm : X.mg "any" = none) (h : SA F X Γ c (e :: es) fun c1 ds => ClV F X Γ c1 (.builtin "any") ds P) (hg : Gl X "any" := by rfl) (he : starEach (e :: es) X.env = (false, eval e X.env) :: starEach es X.env := by rfl) (hpl : (backTo pos (starEach es X.env)).any (·.1) = false := by rfl) : SE F X Γ c (.Call (.Name "any" p) (e :: es) [] pos) P := se_callB (id := "any") hm h (by decide +kernel) hg (by decide) (by decide) he hpl
theorem se_all {p : Pos} {e : Expr} {es : List Expr} (hm : X.mg "all" = none) (h : SA F X Γ c (e :: es) fun c1 ds => ClV F X Γ c1 (.builtin "all") ds P) (hg : Gl X "all" := by rfl) (he : starEach (e :: es) X.env = (false, eval e X.env) :: starEach es X.env := by rfl) (hpl : (backTo pos (starEach es X.env)).any (·.1) = false := by rfl) : SE F X Γ c (.Call (.Name "all" p) (e :: es) [] pos) P := se_callB (id := "all") hm h (by decide +kernel) hg (by decide) (by decide) he hpl
theorem se_len {p : Pos} {e : Expr} {es : List Expr} (hm : X.mg "len" = none) (h : SA F X Γ c (e :: es) fun c1 ds => ClV F X Γ c1 (.builtin "len") ds P) (hg : Gl X "len" := by rfl) (he : starEach (e :: es) X.env = (false, eval e X.env) :: starEach es X.env := by rfl) (hpl : (backTo pos (starEach es X.env)).any (·.1) = false := by rfl) : SE F X Γ c (.Call (.Name "len" p) (e :: es) [] pos) P := se_callB (id := "len") hm h (by decide +kernel) hg (by decide) (by decide) he hpl
theorem se_min {p : Pos} {e : Expr} {es : List Expr} (hm : X.mg "min" = none) (h : SA F X Γ c (e :: es) fun c1 ds => ClV F X Γ c1 (.builtin "min") ds P) (hg : Gl X "min" := by rfl) (he : starEach (e :: es) X.env = (false, eval e X.env) :: starEach es X.env := by rfl) (hpl : (backTo pos (starEach es X.env)).any (·.1) = false := by rfl) : SE F X Γ c (.Call (.Name "min" p) (e :: es) [] pos) P := se_callB (id := "min") hm h (by decide +kernel) hg (by decide) (by decide) he hpl
theorem se_max {p : Pos} {e : Expr} {es : List Expr} (hm : X.mg "max" = none) (h : SA F X Γ c (e :: es) fun c1 ds => ClV F X Γ c1 (.builtin "max") ds P) (hg : Gl X "max" := by rfl) (he : starEach (e :: es) X.env = (false, eval e X.env) :: starEach es X.env := by rfl) (hpl : (backTo pos (starEach es X.env)).any (·.1) = false := by rfl) : SE F X Γ c (.Call (.Name "max" p) (e :: es) [] pos) P := se_callB (id := "max") hm h (by decide +kernel) hg (by decide) (by decide) he hpl
theorem se_sorted {p : Pos} {e : Expr} {es : List Expr} (hm : X.mg "sorted" = none) (h : SA F X Γ c (e :: es) fun c1 ds => ClV F X Γ c1 (.builtin "sorted") ds P) (hg : Gl X "sorted" := by rfl) (he : starEach (e :: es) X.env = (false, eval e X.env) :: starEach es X.env := by rfl) (hpl : (backTo pos (starEach es X.env)).any (·.1) = false := by rfl) : SE F X Γ c (.Call (.Name "sorted" p) (e :: es) [] pos) P := se_callB (id := "sorted") hm h (by decide +kernel) hg (by decide) (by decide) he hpl
theorem se_isi {p : Pos} {e : Expr} {es : List Expr} (hm : X.mg "isinstance" = none) (h : SA F X Γ c (e :: es) fun c1 ds => ClV F X Γ c1 (.builtin "isinstance") ds P) (hg : Gl X "isinstance" := by rfl) (he : starEach (e :: es) X.env = (false, eval e X.env) :: starEach es X.env := by rfl) (hpl : (backTo pos (starEach es X.env)).any (·.1) = false := by rfl) : SE F X Γ c (.Call (.Name "isinstance" p) (e :: es) [] pos) P := se_callB (id := "isinstance") hm h (by decide +kernel) hg (by decide) (by decide) he hpl
theorem se_abs {p : Pos} {e : Expr} {es : List Expr} (hm : X.mg "abs" = none) (h : SA F X Γ c (e :: es) fun c1 ds => ClV F X Γ c1 (.builtin "abs") ds P) (hg : Gl X "abs" := by rfl) (he : starEach (e :: es) X.env = (false, eval e X.env) :: starEach es X.env := by rfl) (hpl : (backTo pos (starEach es X.env)).any (·.1) = false := by rfl) : SE F X Γ c (.Call (.Name "abs" p) (e :: es) [] pos) P := se_callB (id := "abs") hm h (by decide +kernel) hg (by decide) (by decide) he hpl
theorem se_sum {p : Pos} {e : Expr} {es : List Expr} (hm : X.mg "sum" = none) (h : SA F X Γ c (e :: es) fun c1 ds => ClV F X Γ c1 (.builtin "sum") ds P) (hg : Gl X "sum" := by rfl) (he : starEach (e :: es) X.env = (false, eval e X.env) :: starEach es X.env := by rfl) (hpl : (backTo pos (starEach es X.env)).any (·.1) = false := by rfl) : SE F X Γ c (.Call (.Name "sum" p) (e :: es) [] pos) P := se_callB (id := "sum") hm h (by decide +kernel) hg (by decide) (by decide) he hpl
theorem se_tupleC {p : Pos} {e : Expr} {es : List Expr} (hm : X.mg "tuple" = none) (h : SA F X Γ c (e :: es) fun c1 ds => ClV F X Γ c1 (.type "tuple") ds P) (hg : Gl X "tuple" := by rfl) (he : starEach (e :: es) X.env = (false, eval e X.env) :: starEach es X.env := by rfl) (hpl : (backTo pos (starEach es X.env)).any (·.1) = false := by rfl) : SE F X Γ c (.Call (.Name "tuple" p) (e :: es) [] pos) P := se_callT (id := "tuple") hm h (by decide +kernel) hg (by decide) (by decide) he hpl
theorem se_listC {p : Pos} {e : Expr} {es : List Expr} (hm : X.mg "list" = none) (h : SA F X Γ c (e :: es) fun c1 ds => ClV F X Γ c1 (.type "list") ds P) (hg : Gl X "list" := by rfl) (he : starEach (e :: es) X.env = (false, eval e X.env) :: starEach es X.env := by rfl) (hpl : (backTo pos (starEach es X.env)).any (·.1) = false := by rfl) : SE F X Γ c (.Call (.Name "list" p) (e :: es) [] pos) P := se_callT (id := "list") hm h (by decide +kernel) hg (by decide) (by decide) he hpl
end
section
variable {F : Fm} {X : Cx} {Γ : List Sl} {c c1 : Cells} {P : Cells → Dt → Prop} {pos : Pos} {vs : List Nat}
theorem sg_nm {x : Str} {d : Dt} {N : List Sl → Prop} (hN : X.N.Nodup) (p : N (Γ.set (ixOf X.N x) (.dat d))) (hi : X.N[ixOf X.N x]? = some x := by rfl) (hx : Loc X.env.scope x := by first | exact Or.inl rfl | exact Or.inr rfl)
    (hf : X.fn x = true ∨ X.env.scope.names.lookup x = some .local := by first | exact .inl rfl | exact .inr rfl) : SG F X Γ c (.Name x pos) d N := sg_name _ hN p hi hx hf
theorem sgb_nm {x : Str} {d : Dt} {N : List Sl → Prop} (hN : X.N.Nodup) (p : N (Γ.set (ixOf X.N x) (.dat d))) (hv : ixOf X.N x ∈ vs := by decide) (hi : X.N[ixOf X.N x]? = some x := by rfl) (hx : Loc X.env.scope x := by first | exact Or.inl rfl | exact Or.inr rfl)
    (hf : X.fn x = true ∨ X.env.scope.names.lookup x = some .local := by first | exact .inl rfl | exact .inr rfl) : SGb F X Γ c vs (.Name x pos) d N := sgb_name _ hN p hv hi hx hf
theorem vs_self {n : Nat} : n ∈ [n] := List.mem_singleton.mpr rfl
theorem vs_one {n m : Nat} : n ∈ [n, m] := List.mem_cons_self ..
theorem vs_two {n m : Nat} : m ∈ [n, m] := List.mem_cons_of_mem _ (List.mem_singleton.mpr rfl)
end
theorem abI {X : Cx} {scope : Scope} {φ : Cx → Prop} (h : ∀ (s0 : Shared) (H0 : Hp) (C : Addr) (cl : List (Str × Addr)) (fp : List Addr), φ (blk X scope s0 H0 C cl fp)) : AB X scope φ := h
theorem turn0I {X : Cx} {Γ : List Sl} {scope : Scope} {vs : List Nat} {tg elt : Expr} {d : Dt} {c' : Cells} {N : Cells → Dt → Prop} (h : ∀ (F' : Fm) (s0 : Shared) (H0 : Hp) (C : Addr) (cl : List (Str × Addr)) (fp : List Addr), SGb F' (blk X scope s0 H0 C cl fp) (wipeG Γ vs) c' vs tg d fun Γ2 => AB X scope fun Y => SE F' Y Γ2 c' elt N) : Turn0 X Γ scope vs tg elt d c' N := h
theorem turn1I {X : Cx} {Γ : List Sl} {scope : Scope} {vs : List Nat} {tg t elt : Expr} {d : Dt} {c' : Cells} {N : Cells → Dt → Prop} {N0 : Cells → Prop} (h : ∀ (F' : Fm) (s0 : Shared) (H0 : Hp) (C : Addr) (cl : List (Str × Addr)) (fp : List Addr), SGb F' (blk X scope s0 H0 C cl fp) (wipeG Γ vs) c' vs tg d fun Γ2 => AB X scope fun Y => ST F' Y Γ2 c' t fun c2 b => if b = true then AB X scope fun Y => SE F' Y Γ2 c2 elt N else N0 c2) : Turn1 X Γ scope vs tg t elt d c' N N0 := h
end D
end
section
set_option Elab.async false
set_option linter.all false
set_option maxRecDepth 100000
namespace D
open PySem L2 PyProof.Rows PyProof
theorem noI_tup : typeLookup (.type "tuple") (dunderI "add") = pure none := by rfl
section
variable {prog : Program} {w : World} {A : Around} {s : Shared} {E : Value → Shared → Prop}
theorem icat_tup {t b : Addr} {vs ws : List Value} {Q : Value → Shared → Prop} (ht : IsTup s.heap t vs.toArray) (hb : IsTup s.heap b ws.toArray)
    (h0 : vs = [] → Q (.ref b) s) (h1 : vs ≠ [] → ws = [] → Q (.ref t) s) (h2 : vs ≠ [] → ws ≠ [] → Q (.ref s.heap.objs.size) { s with heap := s.heap.push { cls := .type "tuple", data := .seq (vs ++ ws).toArray } })
    (hsz : vs.length + ws.length ≤ sizeLine) : wpAny (model prog w) A (inplaceOp .Add (.ref t) (.ref b)) Q E s := by
  obtain ⟨⟨cls, dd, data, sl⟩, ho, hc, n, hd⟩ := id ht
  obtain ⟨⟨cls2, dd2, data2, sl2⟩, ho2, hc2, n2, hd2⟩ := id hb
  simp only at hc hd hc2 hd2
  subst hc hd hc2 hd2
  have e : vs.toArray ++ ws.toArray = (vs ++ ws).toArray := by simp
  refine wpAny_inplaceOp_concat ⟨_, ho, rfl⟩ ⟨_, ho2, rfl⟩ noI_tup noFill_tuple_add seq_tuple_add ?_
  by_cases hv : vs = []
  · exact call_meets PySem.F.slot_tuple_add ⟨_, ho, rfl⟩ PySem.F.entry_tuple_add (PySem.F.args_tuple_add_2 _ _) (tuple_addW0 t b vs.toArray ws.toArray n n2 dd dd2 sl sl2 (by simp [hv])) ⟨ho, ho2, h0 hv⟩
  by_cases hw : ws = []
  · exact call_meets PySem.F.slot_tuple_add ⟨_, ho, rfl⟩ PySem.F.entry_tuple_add (PySem.F.args_tuple_add_2 _ _) (tuple_addW1 t b vs.toArray ws.toArray n n2 dd dd2 sl sl2 (by simpa using hv) (by simp [hw])) ⟨ho, ho2, h1 hv hw⟩
  · refine call_meets PySem.F.slot_tuple_add ⟨_, ho, rfl⟩ PySem.F.entry_tuple_add (PySem.F.args_tuple_add_2 _ _) (tuple_addW2 t b vs.toArray ws.toArray n n2 dd dd2 sl sl2 (by simpa using hv) (by simpa using hw) (by rw [List.size_toArray, List.size_toArray]; exact hsz)) ⟨ho, ho2, ?_⟩
    rw [e]
    exact h2 hv hw
end
section
variable {X : Cx}
theorem iop_catA : OpR X (inplaceOp .Add) (rCatF X.K) := by
  intro pins s σ H x y v u Q I rx ry h
  obtain ⟨a, b, xs, ys, rfl, rfl, ha, hb, hz, q0, q1, q2⟩ := h
  cases rx
  cases ry
  obtain ⟨its, r1, p1, _⟩ := I.tuple ha
  obtain ⟨its2, r2, p2, _⟩ := I.tuple hb
  refine icat_tup p1 p2 (fun z => ⟨.ref b, H, I, rfl, q0 (r1.nil_iff.mp z)⟩) (fun z z2 => ⟨.ref a, H, I, rfl, q1 (fun w => z (r1.nil_iff.mpr w)) (r2.nil_iff.mp z2)⟩) (fun z1 z => ?_) (by rw [← r1.length, ← r2.length]; exact hz)
  obtain ⟨o, ho, I2⟩ := laidF (t' := s.toks) (h' := s.heap) (xs := xs ++ ys) (us := its ++ its2) I (fun b u e => Heap.get?_push_of_some _ e) (Nat.le_refl _) (by rw [List.length_append]; exact hz) (r1.append r2)
  exact ⟨.ref s.heap.objs.size, _, I2, rfl, q2 (fun w => z1 (r1.nil_iff.mpr w)) (fun w => z (r2.nil_iff.mpr w)) _ o (I.hok.fresh (Nat.le_refl _)) ho⟩
end
section
variable {X : Cx} {tg : Expr}
def iSeq (K : PySem.W.Frag) (tl : TE) : TI := fun σ H R => tl σ H fun x H1 => (∃ a, x = .ref a ∧ (((∃ xs, SqL K H1 a xs) ∧ R (Itl K a) H1) ∨ ((∃ xs, SqT K H1 a xs) ∧ R (Itt K a) H1) ∨ ∃ o kvs, H1 a = some (.frz o (.dK kvs)) ∧ R (Itk a o kvs) H1)) ∨ ∃ z, x = .str z ∧ R (Its z) H1
theorem pi_seq {l : Expr} {tl : TE} (hl : PE X l tl) : PI X tg l (iSeq X.K tl) := ⟨fun pn sa sg HH RR I h => by
  refine thn (hl.run pn sa sg HH _ I h) fun v sb ⟨x, Hb, Ib, rb, qb⟩ => ?_
  rcases qb with ⟨a, e, z⟩ | ⟨z, e, q⟩
  · subst e
    cases rb
    have fpk : ∀ b, b ∈ [sb.heap.objs.size] → _ := fun b hb => by
      obtain rfl : b = sb.heap.objs.size := List.mem_singleton.mp hb
      exact Ib.fpOk (Nat.le_refl _) (Ib.hok.fresh (Nat.le_refl _))
    rcases z with ⟨⟨xs, hq⟩, q⟩ | ⟨⟨xs, hq⟩, q⟩ | ⟨o, kvs, hd, q⟩
    · obtain ⟨its, rv, p, hz⟩ := Ib.list hq
      exact wpAny_pyIter_list p.isList ⟨sb.heap.objs.size, [sb.heap.objs.size], _, _, Hb, rfl, Ib.kept (t' := sb.toks) fun b o e => Heap.get?_push_of_some _ e, turn_list a _, ⟨_, Heap.get?_push_size _ rfl, rfl, rfl⟩, fpk, q⟩
    · obtain ⟨its, rv, p, hz⟩ := Ib.tuple hq
      exact wpAny_pyIter_tuple (show sb.heap.IsTuple a its.toArray from p) ⟨sb.heap.objs.size, [sb.heap.objs.size], _, _, Hb, rfl, Ib.kept (t' := sb.toks) fun b o e => Heap.get?_push_of_some _ e, turn_tuple a _, ⟨_, Heap.get?_push_size _ rfl, rfl, rfl⟩, fpk, q⟩
    · obtain ⟨g1, g2, g3, es, ep, us, g4, g5, kv, hm⟩ := Ib.frzK hd
      exact iter_keys g1 g2 g3 g4 (pi_one (tk := sb.toks) Ib _ (turn_keys _ g4) ⟨_, Heap.get?_push_size _ rfl, rfl, by rw [g5] <;> rfl⟩ q)
  · subst e
    obtain ⟨t, rfl⟩ := rb
    cases ha : z.cps.all (· < 128)
    · exact wpAny_pyIter_wide ha (pi_one (tk := sb.toks) Ib _ (turn_str _ z t "str_iterator" (.inr rfl)) ⟨_, Heap.get?_push_size _ rfl, rfl, rfl⟩ q)
    · exact wpAny_pyIter_ascii ha (pi_one (tk := sb.toks) Ib _ (turn_str _ z t "str_ascii_iterator" (.inl rfl)) ⟨_, Heap.get?_push_size _ rfl, rfl, rfl⟩ q)⟩
end
/-- what a walk over a datum gives -/
def iterD : Dt → Option (List Dt)
  | .lst l => some l
  | .tup l => some l
  | .dct l => some (keysD l)
  | .str z => some (signs z)
  | _ => none
section
variable {F : Fm} {X : Cx} {Γ : List Sl} {c : Cells} {P : Cells → Dt → Prop} {Φ : PEnds} {pos : Pos}
theorem oi_add {i j : Int} (p : P c (.int (i + j))) : OpV F X Γ c (inplaceOp .Add) (.int i) (.int j) P := OpV.ints0 iop_add (fun _ => .int _) p
theorem oi_catT {l m : List Dt} (hz : l.length + m.length ≤ sizeLine) (p : P c (.tup (l ++ m))) : OpV F X Γ c (inplaceOp .Add) (.tup l) (.tup m) P :=
  OpV.of iop_catA fun σ H x y Q S h1 h2 k => by
    cases h1 with
    | tup a1 t1 => cases h2 with
      | tup a2 t2 =>
        refine ⟨_, _, _, _, rfl, rfl, (a1.mono (mask_ex _ _)).t, (a2.mono (mask_ex _ _)).t, by rw [t1.length, t2.length]; exact hz, fun e => ?_, fun e1 e2 => ?_, fun e1 e2 q o hq ho => k _ _ c _ p (S.new hq) (Kp.new (F := F) hq).hid (S.newT hq ho (t1.append t2))⟩
        · subst e
          cases t1
          exact k _ H c _ p S (Ex.refl _) (.tup a2 t2)
        · subst e2
          cases t2
          rw [List.append_nil] at p
          exact k _ H c _ p S (Ex.refl _) (.tup a1 t1)
theorem s_aug {x : Str} {e : Expr} {op : Operator} {pos' : Pos} {d0 : Dt} (hN : X.N.Nodup) (hs : getG X.N Γ x = some (.dat d0)) (h : SE F X Γ c e fun c1 d => OpV F X Γ c1 (inplaceOp op) d0 d fun c2 z => Φ.nx (Γ.set (ixOf X.N x) (.dat z)) c2)
    (hi : X.N[ixOf X.N x]? = some x := by rfl) (hg : Γ[ixOf X.N x]? = some (.dat d0) := by rfl) (hx : Loc X.env.scope x := by first | exact Or.inl rfl | exact Or.inr rfl) (hf : X.fn x = true ∨ X.env.scope.names.lookup x = some .local := by first | exact .inl rfl | exact .inr rfl) : S1 F X Γ c (.AugAssign (.Name x pos') op e pos) Φ :=
  S1.of (ps_aug (i := ixOf X.N x) (ti := rOp X (inplaceOp op)) hN hi hx pE opR hf) fun σ H D S E => by
    obtain ⟨v, h1, h2⟩ := S.sl _ _ hg
    refine ⟨v, h1, h σ H _ S fun w H1 c1 d q S1 e1 dv => ?_⟩
    obtain ⟨x, y, e2, r⟩ := q σ H1 [v, w] (fun z H2 => D.nx (σ.set (ixOf X.N x) (some z)) H2) S1 (.cons (h2.mono e1) (.cons dv .nil)) fun z H2 c2 d2 p S2 k2 dv2 => E.nx _ c2 _ H2 p (S2.setD dv2) (e1.trans k2)
    cases e2
    exact r
/-- x = e, by the name -/
theorem s_st {x : Str} {px : Pos} {e : Expr} (hN : X.N.Nodup) (h : SE F X Γ c e fun c1 d => Φ.nx (Γ.set (ixOf X.N x) (.dat d)) c1) (hi : X.N[ixOf X.N x]? = some x := by rfl) (hx : Loc X.env.scope x := by first | exact Or.inl rfl | exact Or.inr rfl)
    (hf : X.fn x = true ∨ X.env.scope.names.lookup x = some .local := by first | exact .inl rfl | exact .inr rfl) (hs : swapsWithSole [.Name x px] e pos.line X.env = pure false := by rfl) (hw : swappedStores [.Name x px] e X.env = pure none := by rfl) : S1 F X Γ c (.Assign [.Name x px] e pos) Φ :=
  s_asg (SE.mono h fun c1 d p => sg_name _ hN p hi hx hf) hs hw
theorem s_M {x : Str} {px lpos : Pos} {elt tg iter : Expr} {scope : Scope} (hc : X.calm = true) (hN : X.N.Nodup) (ok : BlkOk X.N X.env.scope scope (ownOf X.N tg))
    (h : SW F X Γ c tg iter fun c1 ds => LcM X Γ scope ((ownOf X.N tg).map (·.2)) tg elt c1 ds fun z => Φ.nx (Γ.set (ixOf X.N x) (.dat (.lst z))) c1)
    (hsw : swapsWith (.ListComp elt [⟨tg, iter, [], 0⟩] scope lpos) (some (.Name x px)) pos.line X.env = pure true := by exact sw_true rfl rfl rfl (by decide +kernel)) (hy : X.N[ixOf X.N x]? = some x := by rfl) (hyl : X.env.scope.names.lookup x = some .local := by rfl) (hfs : ∀ x, foldedSetIterable iter X.env x = pure x := by intro _; rfl) : S1 F X Γ c (.Assign [.Name x px] (.ListComp elt [⟨tg, iter, [], 0⟩] scope lpos) pos) Φ :=
  s_setT _ (ps_lc _ _ hc hN ok hsw hy hyl hfs) (lct_lc (.mk fun σ H R S k => h σ H R S fun J H' c' ds p S' => k J H' c' ds (by
    obtain ⟨α, enc, l, g, rfl, hz, turn, p⟩ := p
    exact map_t (Pl := fun c1 z => Φ.nx (Γ.set (ixOf X.N x) (.dat (.lst z))) c1) g hz turn p) S'))
theorem s_F {x : Str} {px lpos : Pos} {elt tg iter t : Expr} {scope : Scope} (hc : X.calm = true) (hN : X.N.Nodup) (ok : BlkOk X.N X.env.scope scope (ownOf X.N tg))
    (h : SW F X Γ c tg iter fun c1 ds => LcF X Γ scope ((ownOf X.N tg).map (·.2)) tg t elt c1 ds fun z => Φ.nx (Γ.set (ixOf X.N x) (.dat (.lst z))) c1)
    (hsw : swapsWith (.ListComp elt [⟨tg, iter, [t], 0⟩] scope lpos) (some (.Name x px)) pos.line X.env = pure true := by exact sw_true rfl rfl rfl (by decide +kernel)) (hy : X.N[ixOf X.N x]? = some x := by rfl) (hyl : X.env.scope.names.lookup x = some .local := by rfl) (hfs : ∀ x, foldedSetIterable iter X.env x = pure x := by intro _; rfl) : S1 F X Γ c (.Assign [.Name x px] (.ListComp elt [⟨tg, iter, [t], 0⟩] scope lpos) pos) Φ :=
  s_setT _ (ps_lcIf _ _ hc hN ok hsw hy hyl hfs) (lct_lcIf (.mk fun σ H R S k => h σ H R S fun J H' c' ds p S' => k J H' c' ds (by
    obtain ⟨α, enc, l, q, g, rfl, hz, turn, p⟩ := p
    exact filter_t (Pl := fun c1 z => Φ.nx (Γ.set (ixOf X.N x) (.dat (.lst z))) c1) q g hz turn p) S'))
theorem sw_seq {tg e : Expr} {P : Cells → List Dt → Prop} (h : SE F X Γ c e fun c1 d => ∃ l, iterD d = some l ∧ P c1 l) : SW F X Γ c tg e P := .mk fun σ H R S k => by
  refine ⟨_, pi_seq pE, h σ H _ S fun v H1 c1 d p S1 k1 dv => ?_⟩
  obtain ⟨l, e, p⟩ := p
  cases dv with
  | lst a t => cases e; exact .inl ⟨_, rfl, .inl ⟨⟨_, .inl (.inl (of_mask a).2)⟩, k _ H1 c1 l p S1 k1 (src_at walk_list (fun H e => .inl (.inl (e _ _ a))) t)⟩⟩
  | tup a t => cases e; exact .inl ⟨_, rfl, .inr (.inl ⟨⟨_, (a.mono (mask_ex _ _)).t⟩, k _ H1 c1 l p S1 k1 (src_at walk_tup (fun H e => (a.mono e).t) t)⟩)⟩
  | dct a t =>
    cases e
    refine .inl ⟨_, rfl, .inr (.inr ⟨_, _, (of_mask a).2, k _ H1 c1 _ p S1 k1 ?_⟩)⟩
    have hl : (keysD _).length = _ := (List.length_map _).trans t.p.length.symm
    refine ⟨_, _, hl.symm ▸ walk_keys, fun H e => e _ _ a, fun i Ha x Hb hi y _ => ?_⟩
    obtain ⟨h1, key, v, h2, rfl⟩ := y
    obtain ⟨d, h3, _⟩ := t.p.get h2
    refine ⟨kD key, ?_, .inl ⟨h1, kD_dv key⟩⟩
    rw [keysD_eq, List.getElem?_map, h3]
    rfl
  | str z => cases e; exact .inr ⟨_, rfl, k _ H1 c1 _ p S1 k1 src_str⟩
  | _ => cases e
theorem ov_eqB {a b : Bool} (p : P c (.bl (decide (a = b)))) : OpV F X Γ c (compareOp .Eq) (.bl a) (.bl b) P := ov_eqF (v1 := .bl a) (v2 := .bl b) (fun _ _ h => dv_bl h) (fun _ _ h => dv_bl h) rfl (by
  rw [show decide (V.bl a = V.bl b) = decide (a = b) by cases a <;> cases b <;> rfl]; exact p)
theorem ov_neB {a b : Bool} (p : P c (.bl (!decide (a = b)))) : OpV F X Γ c (compareOp .NotEq) (.bl a) (.bl b) P := ov_neF (v1 := .bl a) (v2 := .bl b) (fun _ _ h => dv_bl h) (fun _ _ h => dv_bl h) rfl (by
  rw [show decide (V.bl a = V.bl b) = decide (a = b) by cases a <;> cases b <;> rfl]; exact p)
end
end D
end
section
set_option Elab.async false
set_option linter.all false
set_option maxRecDepth 100000
namespace D
open PySem L2 PyProof.Rows
section
variable {F : Fm} {X : Cx} {Γ : List Sl} {c : Cells} {P : Cells → Dt → Prop} {Φ : PEnds} {pos : Pos}
theorem SE.nd {e : Expr} (h : (addrs c).Nodup → SE F X Γ c e P) : SE F X Γ c e P := .mk fun σ H Q S k => h S.nd σ H Q S k
theorem SS.nd {ss : List Stmt} (h : (addrs c).Nodup → SS F X Γ c ss Φ) : SS F X Γ c ss Φ := .mk fun σ H D S E => h S.nd σ H D S E
end
end D
namespace D
open PySem L2 PyProof.Rows
end D
end
section
set_option Elab.async false
set_option linter.all false
set_option maxRecDepth 100000
namespace D
open PySem L2 PyProof.Rows PyProof
section
variable {F : Fm} {X : Cx} {Γ : List Sl} {c : Cells} {P : Cells → Dt → Prop} {Φ : PEnds} {pos : Pos}
def LcD (X : Cx) (Γ : List Sl) (sc : Scope) (vs : List Nat) (tg kx vx : Expr) (c1 : Cells) (ds : List Dt) (Q : List (Key × Dt) → Prop) : Prop :=
  ∃ (α : Type) (enc : α → Dt) (l : List α) (kf : α → Key) (g : α → Dt), ds = l.map enc ∧ l.length ≤ sizeLine ∧ (∀ r, r ∈ l → TurnD X Γ sc vs tg kx vx (enc r) c1 fun c2 k y => c2 = c1 ∧ k = kf r ∧ y = g r) ∧ Q ((l.map fun r => (kf r, g r)).foldl (fun acc kv => dput acc kv.1 kv.2) [])
theorem turnDI {sc : Scope} {vs : List Nat} {tg kx vx : Expr} {d : Dt} {c' : Cells} {N : Cells → Key → Dt → Prop} (h : ∀ (F' : Fm) (s0 : Shared) (H0 : Hp) (C : Addr) (cl : List (Str × Addr)) (fp : List Addr), SGb F' (blk X sc s0 H0 C cl fp) (wipeG Γ vs) c' vs tg d fun Γ2 => AB X sc fun Y => SE F' Y Γ2 c' kx fun c2 dk => ∃ k, dkey dk = some k ∧ AB X sc fun Y => SE F' Y Γ2 c2 vx fun c3 dv => N c3 k dv) : TurnD X Γ sc vs tg kx vx d c' N := h
theorem dmap_t {α : Type} {kx vx tg : Expr} {sc : Scope} {vs : List Nat} {enc : α → Dt} {l : List α} {Pl : Cells → List (Key × Dt) → Prop} (kf : α → Key) (g : α → Dt) (hz : l.length ≤ sizeLine)
    (turn : ∀ r, r ∈ l → TurnD X Γ sc vs tg kx vx (enc r) c fun c2 k y => c2 = c ∧ k = kf r ∧ y = g r) (p : Pl c ((l.map fun r => (kf r, g r)).foldl (fun acc kv => dput acc kv.1 kv.2) [])) :
    (l.map enc).length ≤ sizeLine ∧ ∃ Jv : Nat → Cells → List (Key × Dt) → Prop, Jv 0 c [] ∧ (∀ i d c' acc, (l.map enc)[i]? = some d → Jv i c' acc → TurnD X Γ sc vs tg kx vx d c' fun c2 k y => Jv (i + 1) c2 (dput acc k y)) ∧ ∀ c' acc, Jv (l.map enc).length c' acc → Pl c' acc := by
  refine ⟨by rw [List.length_map]; exact hz, fun i c' acc => c' = c ∧ acc = ((l.take i).map fun r => (kf r, g r)).foldl (fun acc kv => dput acc kv.1 kv.2) [], ⟨rfl, by simp⟩, ?_, ?_⟩
  · rintro i d c' acc hd ⟨rfl, rfl⟩ F' s0 H0 C cl fp
    refine .mk fun σ H v Q S dv k => ?_
    rw [List.getElem?_map] at hd
    obtain ⟨r, hr, rfl⟩ := Option.map_eq_some_iff.mp hd
    refine turn r (List.mem_of_getElem? hr) F' s0 H0 C cl fp σ H v Q S dv fun Γ2 σ2 q S2 w => k Γ2 σ2 ?_ S2 w
    intro s0 H0 C cl fp
    refine (q s0 H0 C cl fp).mono ?_
    rintro c2 dk ⟨key, hk, q2⟩
    refine ⟨key, hk, fun s0 H0 C cl fp => (q2 s0 H0 C cl fp).mono ?_⟩
    rintro c3 y ⟨rfl, rfl, rfl⟩
    refine ⟨rfl, ?_⟩
    rw [List.take_add_one, hr, Option.toList_some, List.map_append, List.foldl_append]
    rfl
  · rintro c' acc ⟨rfl, rfl⟩
    rw [List.length_map, List.take_length]
    exact p
theorem se_Dc {kx vx tg iter : Expr} {sc : Scope} (hc : X.calm = true) (hN : X.N.Nodup) (ok : BlkOk X.N X.env.scope sc (ownOf X.N tg))
    (h : SW F X Γ c tg iter fun c1 ds => LcD X Γ sc ((ownOf X.N tg).map (·.2)) tg kx vx c1 ds fun z => ∀ a, P (c1 ++ [(a, .dk z)]) (.raw (.ref a))) (hfs : ∀ x, foldedSetIterable iter X.env x = pure x := by intro _; rfl) : SE F X Γ c (.DictComp kx vx [⟨tg, iter, [], 0⟩] sc pos) P :=
  SDt.se (pe_dc (own := ownOf X.N tg) (g := tGb X sc tg) (tt := tYes) (tk := tEb X sc kx) (tv := tEb X sc vx) hc hN pI ok (fun s0 H0 C cl fp => pGb s0 H0 C cl fp) (fun _ _ _ _ _ => pts_nil) (fun s0 H0 C cl fp => pEb s0 H0 C cl fp) (fun s0 H0 C cl fp => pEb s0 H0 C cl fp) hfs)
    (sdt_dc (.mk fun σ H R S k => h σ H R S fun J H' c' ds p S' => k J H' c' ds (by
      obtain ⟨α, enc, l, kf, g, rfl, hz, turn, p⟩ := p
      exact dmap_t (Pl := fun c1 z => ∀ a, P (c1 ++ [(a, .dk z)]) (.raw (.ref a))) kf g hz turn p) S'))
theorem s_Dc {y : Str} {py spos : Pos} {kx vx tg iter : Expr} {sc : Scope} (hc : X.calm = true) (hN : X.N.Nodup) (ok : BlkOk X.N X.env.scope sc (ownOf X.N tg))
    (h : SW F X Γ c tg iter fun c1 ds => LcD X Γ sc ((ownOf X.N tg).map (·.2)) tg kx vx c1 ds fun z => ∀ a, Φ.nx (Γ.set (ixOf X.N y) (.dat (.raw (.ref a)))) (c1 ++ [(a, .dk z)]))
    (hsw : swapsWith (.DictComp kx vx [⟨tg, iter, [], 0⟩] sc pos) (some (.Name y py)) spos.line X.env = pure true := by exact swD_true rfl rfl rfl (by decide +kernel))
    (hy : X.N[ixOf X.N y]? = some y := by rfl) (hyl : X.env.scope.names.lookup y = some .local := by rfl) (hfs : ∀ x, foldedSetIterable iter X.env x = pure x := by intro _; rfl) : S1 F X Γ c (.Assign [.Name y py] (.DictComp kx vx [⟨tg, iter, [], 0⟩] sc pos) spos) Φ :=
  s_setDT _ (ps_setDc (own := ownOf X.N tg) (g := tGb X sc tg) (tt := tYes) (tk := tEb X sc kx) (tv := tEb X sc vx) hc hN hy hyl hsw pI ok (fun s0 H0 C cl fp => pGb s0 H0 C cl fp) (fun _ _ _ _ _ => pts_nil) (fun s0 H0 C cl fp => pEb s0 H0 C cl fp) (fun s0 H0 C cl fp => pEb s0 H0 C cl fp) hfs)
    (sdt_dc (.mk fun σ H R S k => h σ H R S fun J H' c' ds p S' => k J H' c' ds (by
      obtain ⟨α, enc, l, kf, g, rfl, hz, turn, p⟩ := p
      exact dmap_t (Pl := fun c1 z => ∀ a, Φ.nx (Γ.set (ixOf X.N y) (.dat (.raw (.ref a)))) (c1 ++ [(a, .dk z)])) kf g hz turn p) S'))
end
end D
end
section
set_option Elab.async false
set_option linter.all false
set_option maxRecDepth 100000
namespace D
open PySem L2 PyProof.Rows PyProof
open PySem.W (AlikeAll minD dataLt alike min_list_data readsAll_at reads_keeps dataLt_str dataLt_int)
end D
end
section
set_option Elab.async false
set_option linter.all false
set_option maxRecDepth 100000
namespace D
open PySem L2 PyProof.Rows
section
variable {F : Fm} {X : Cx} {Γ : List Sl} {c : Cells} {P : Cells → Dt → Prop} {pos : Pos}
theorem cv_sum {ns : List Int} (hc : X.calm = true) (p : P c (.int ns.sum)) : ClV F X Γ c (.builtin "sum") [.lst (ns.map Dt.int)] P :=
  ClV.of (cr_sum hc) fun σ H vs Q S dvs k => by
    cases dvs with
    | cons dv t =>
      cases t
      cases dv with
      | lst a t => exact ⟨_, ns, rfl, .inl (.inl (by rw [← DVs.of_ints t]; exact (of_mask a).2)), k _ H c _ p S (Ex.refl _) (.int _)⟩
end
end D
end
section
set_option Elab.async false
set_option linter.all false
set_option maxRecDepth 100000
namespace D
open PySem L2 PyProof.Rows RZ
theorem walk_zipT {K : PySem.W.Frag} {a b : Addr} {xs ys : List V} {n : Nat} (hn : n = min xs.length ys.length) : Walk (ItzT K a b) n (fun H => SqT K H a xs ∧ SqT K H b ys) (YPair (fun i => xs[i]?) (fun i => ys[i]?)) := by
  subst hn
  refine ⟨fun i _ hi q => ?_, fun _ q => ⟨xs, ys, q.1, q.2, by omega⟩, fun i H v H' _ q y => ?_⟩
  · exact ⟨xs, ys, xs[i]'(by omega), ys[i]'(by omega), q.1, q.2, by simp [show i < xs.length by omega], by simp [show i < ys.length by omega]⟩
  · obtain ⟨T, x, z, h1, h2, h3, h4, h5⟩ := y
    exact ⟨T, x, z, h1, h2, h3, h4 xs q.1, h5 ys q.2⟩
section
variable {K : PySem.W.Frag} {F : Fm} {X : Cx} {Γ : List Sl} {c : Cells} {pos : Pos}
theorem src_zipT {V0 : Hp} {a b : Addr} {xs ys : List V} {l m : List Dt} (h1 : SqT K V0 a xs) (h2 : SqT K V0 b ys) (t : DVs K V0 xs l) (u : DVs K V0 ys m) : Src K V0 (ItzT K a b) (zipD l m) := by
  have hl : (zipD l m).length = min xs.length ys.length := by unfold zipD; rw [List.length_map, List.length_zip, t.length, u.length]
  refine ⟨_, _, hl.symm ▸ walk_zipT (K := K) (a := a) (b := b) (xs := xs) (ys := ys) rfl, fun H e => ⟨ex_t e h1, ex_t e h2⟩, fun i H1 x H2 hi y _ => ?_⟩
  obtain ⟨T, x1, x2, g1, g2, g3, g4, g5⟩ := y
  obtain ⟨d1, e1, dv1⟩ := t.getV g4
  obtain ⟨d2, e2, dv2⟩ := u.getV g5
  refine ⟨.par [d1, d2], ?_, .inr (.inl ⟨T, x1, x2, d1, d2, g1, g2, g3, rfl, dv1, dv2⟩)⟩
  unfold zipD
  rw [List.getElem?_map, List.getElem?_zip_eq_some (z := (d1, d2)) |>.mpr ⟨e1, e2⟩]
  rfl
theorem sw_zipT {e e2 : Expr} {p : Pos} {elts : List Expr} {kk : Nat} {tpos : Pos} {P : Cells → List Dt → Prop} (hm : X.mg "zip" = none) (h : SA F X Γ c [e, e2] fun c1 ds => ∃ l m, ds = [.tup l, .tup m] ∧ P c1 (zipD l m)) (hg : Gl X "zip" := by rfl)
    (hs : starEach [e, e2] X.env = (false, eval e X.env) :: starEach [e2] X.env := by rfl) (hpl : (backTo pos (starEach [e2] X.env)).any (·.1) = false := by rfl) : SW F X Γ c (.Tuple elts kk tpos) (.Call (.Name "zip" p) [e, e2] [] pos) P := .mk fun σ H R S k =>
  ⟨_, pi_zipA hg hm pAs hs hpl, h σ H _ S fun vs H1 c1 ds p S1 k1 dvs => by
    obtain ⟨l, m, rfl, p⟩ := p
    cases dvs with
    | cons d1 t => cases t with
      | cons d2 t =>
        cases t
        cases d1 with
        | tup a1 t1 => cases d2 with
          | tup a2 t2 => exact ⟨_, _, _, _, rfl, .inr ⟨(a1.mono (mask_ex _ _)).t, (a2.mono (mask_ex _ _)).t, k _ H1 c1 _ p S1 k1 (src_zipT a1.t a2.t t1 t2)⟩⟩⟩
theorem se_indexT {o e : Expr} {apos : Pos} {P : Cells → Dt → Prop} (h : SE F X Γ c o fun c1 dl => ∃ ys : List Str, dl = .tup (ys.map Dt.str) ∧ SE F X Γ c1 e fun c2 d => ∃ z j, d = .str z ∧ ys[j]? = some z ∧ (∀ m, m < j → ys[m]? ≠ some z) ∧ P c2 (.int (j : Nat)))
    (hb : attributeBase o "index" X.env (eval o X.env) = eval o X.env := by rfl)
    (hall : (((backTo pos (starEach [e] X.env)).all (fun x => !x.1)) && ((backToKw pos (keywordEach [] X.env)).all (fun x => x.1.isSome)) && decide ([e].length + ([] : List Keyword).length + (if ([] : List Keyword).isEmpty = true then 0 else 1) < 30)) = true := by rfl)
    (hline : (apos.endLine == pos.line) = true := by rfl) (hst : starEach [e] X.env = (false, eval e X.env) :: starEach [] X.env := by rfl) (hpl : (backTo pos (starEach [] X.env)).any (·.1) = false := by rfl) : SE F X Γ c (.Call (.Attribute o "index" apos) [e] [] pos) P :=
  SE.of (pe_tm PySem.F.slot_tuple_index PySem.F.type_tuple_index mt_tup_index pE (pa_cons pE pa_nil hst) hb hall hline hst hpl) fun σ H Q S k => h σ H _ S fun v H1 c1 d p S1 e1 dv => by
    obtain ⟨ys, rfl, p⟩ := p
    cases id dv with
    | tup a t =>
      have et := DVs.of_strs t
      subst et
      refine ⟨_, _, rfl, a.mono (mask_ex _ _), p σ H1 _ S1 fun w H2 c2 d2 p2 S2 e2 dv2 => ?_⟩
      obtain ⟨z, j, rfl, hj, hm, p2⟩ := p2
      cases dv2
      exact ⟨_, ys, z, j, rfl, rfl, (a.mono (e2.trans (mask_ex _ _))).t, hj, hm, k _ H2 c2 _ p2 S2 (e1.trans e2) (.int _)⟩
end
end D
end
section
set_option Elab.async false
set_option linter.all false
set_option maxRecDepth 100000
namespace D
open PySem L2 PyProof.Rows
def ixN : List Nm → Nm → Nat
  | [], _ => 0
  | y :: r, x => if y = x then 0 else ixN r x + 1
theorem ixN_at : ∀ {r : List Nm} {x : Nm}, x ∈ r → r[ixN r x]? = some x ∧ ∀ m, m < ixN r x → r[m]? ≠ some x
  | y :: r, x, h => by
    unfold ixN
    by_cases e : y = x
    · rw [if_pos e]; exact ⟨by simp [e], fun m hm => absurd hm (Nat.not_lt_zero _)⟩
    · rw [if_neg e]
      obtain ⟨h1, h2⟩ := ixN_at (r := r) (x := x) ((List.mem_cons.mp h).resolve_left fun z => e z.symm)
      refine ⟨by simpa using h1, fun m hm => ?_⟩
      cases m with
      | zero => simpa using e
      | succ m => simpa using h2 m (by omega)
section
variable {F : Fm} {X : Cx} {Γ : List Sl} {c : Cells} {P : Cells → Dt → Prop} {pos : Pos}
theorem se_indexN {o e : Expr} {apos : Pos} (h : SE F X Γ c o fun c1 dl => ∃ r : List Nm, dl = nT r ∧ SE F X Γ c1 e fun c2 d => ∃ x : Nm, d = nD x ∧ x ∈ r ∧ P c2 (.int (ixN r x : Nat)))
    (hb : attributeBase o "index" X.env (eval o X.env) = eval o X.env := by rfl)
    (hall : (((backTo pos (starEach [e] X.env)).all (fun x => !x.1)) && ((backToKw pos (keywordEach [] X.env)).all (fun x => x.1.isSome)) && decide ([e].length + ([] : List Keyword).length + (if ([] : List Keyword).isEmpty = true then 0 else 1) < 30)) = true := by rfl)
    (hline : (apos.endLine == pos.line) = true := by rfl) (hst : starEach [e] X.env = (false, eval e X.env) :: starEach [] X.env := by rfl) (hpl : (backTo pos (starEach [] X.env)).any (·.1) = false := by rfl) : SE F X Γ c (.Call (.Attribute o "index" apos) [e] [] pos) P :=
  se_indexT (h.mono fun c1 dl ⟨r, e1, q⟩ => ⟨r.map (·.1), by rw [e1, List.map_map]; rfl, q.mono fun c2 d ⟨x, e2, hx, p⟩ => by
    obtain ⟨h1, h2⟩ := ixN_at hx
    refine ⟨x.1, ixN r x, e2, by rw [List.getElem?_map, h1]; rfl, fun m hm z => ?_, p⟩
    rw [List.getElem?_map] at z
    obtain ⟨y, hy, e⟩ := Option.map_eq_some_iff.mp z
    exact h2 m hm (by rw [hy, Subtype.ext e])⟩) hb hall hline hst hpl
theorem se_tyTuple (hm : X.mg "tuple" = none) (p : P c (.raw (.ty "tuple"))) (hg : Gl X "tuple" := by rfl) : SE F X Γ c (.Name "tuple" pos) P := se_ty (T := "tuple") hm p (by decide +kernel) hg
theorem se_tyStr (hm : X.mg "str" = none) (p : P c (.raw (.ty "str"))) (hg : Gl X "str" := by rfl) : SE F X Γ c (.Name "str" pos) P := se_ty (T := "str") hm p (by decide +kernel) hg
theorem se_tyInt (hm : X.mg "int" = none) (p : P c (.raw (.ty "int"))) (hg : Gl X "int" := by rfl) : SE F X Γ c (.Name "int" pos) P := se_ty (T := "int") hm p (by decide +kernel) hg
theorem se_tyBool (hm : X.mg "bool" = none) (p : P c (.raw (.ty "bool"))) (hg : Gl X "bool" := by rfl) : SE F X Γ c (.Name "bool" pos) P := se_ty (T := "bool") hm p (by decide +kernel) hg
end
end D
end
section
set_option Elab.async false
set_option linter.all false
set_option maxRecDepth 100000
namespace D
open PySem L2 PyProof.Rows
section
variable {F : Fm} {X : Cx} {Γ : List Sl} {c : Cells} {P : Cells → Dt → Prop} {Φ : PEnds} {pos : Pos}
/-- xs[i], xs a cell -/
theorem iv_lcel (j : Nat) {a : Addr} {l : List Dt} {i : Int} {d : Dt} (hj : c[j]? = some (a, .lst l)) (h : atI l i = some d) (p : P c d) : IxV F X Γ c (.raw (.ref a)) (.int i) P :=
  IxV.of ix_list fun σ H x y Q S h1 h2 k => by
    cases h1
    cases h2
    obtain ⟨xs, ha, t⟩ := S.cat hj
    obtain ⟨v, e, dv⟩ := atI_dvs t h
    exact ⟨_, _, i, v, rfl, rfl, .inl (.inl ha), e, k v H c d p S (Ex.refl _) dv⟩
/-- xs[i] = e, xs a cell -/
theorem s_lput {o ix e : Expr} {sp : Pos} (h : SE F X Γ c e fun c1 d => SE F X Γ c1 o fun c2 d0 => ∃ a, d0 = .raw (.ref a) ∧ SE F X Γ c2 ix fun c3 d1 => ∃ j l i k, c3[j]? = some (a, .lst l) ∧ d1 = .int i ∧ L2.ixN l.length i = some k ∧ Φ.nx Γ (c3.set j (a, .lst (l.set k d))))
    (hs : swapsWithSole [.Subscript o ix sp] e pos.line X.env = pure false := by rfl) (hw : swappedStores [.Subscript o ix sp] e X.env = pure none := by rfl)
    (ha : ∀ v, assign (.Subscript o ix sp) X.env v = (do
      let ov ← holding [v] (eval o X.env)
      let iv ← holding [v, ov] (eval ix X.env)
      standAt sp
      holding [v, ov, iv] (setItem ov iv v)
      release [v, ov, iv] []) := by intro _; rfl) : S1 F X Γ c (.Assign [.Subscript o ix sp] e pos) Φ :=
  S1.of (ps_asg pE (pg_sub pE pE set_list ha) hs hw) fun σ H D S E => h σ H _ S fun v H1 c1 d p S1 e1 dv => p σ H1 _ S1 fun w H2 c2 d0 p2 S2 e2 dw => by
    obtain ⟨a, rfl, p2⟩ := p2
    cases dw
    refine p2 σ H2 _ S2 fun y H3 c3 d1 p3 S3 e3 dy => ?_
    obtain ⟨j, l, i, k, hj, rfl, hk, p3⟩ := p3
    cases dy
    obtain ⟨xs, ha, t⟩ := S3.cat hj
    obtain ⟨S4, e4⟩ := S3.updC (q' := .lst (l.set k d)) (o := .lst (xs.set k v)) hj rfl rfl ⟨_, upd_same, t.set (dv.mono (e2.trans e3)) k⟩
    exact ⟨a, xs, i, k, rfl, rfl, ha, by rw [t.length]; exact hk, E.nx _ _ _ _ p3 S4 (((e1.trans e2).trans e3).trans e4)⟩
theorem ss_openBag (j : Nat) {b : Addr} {n : Nat} {ss : List Stmt} (hj : c[j]? = some (b, .bag n)) (h : ∀ d s k : Int, 0 ≤ d → 0 ≤ s → s < 2147483647 → 0 ≤ k → k ≤ n → SS F X Γ (c.set j (b, .lst [.int d, .int s, .int k])) ss Φ) : SS F X Γ c ss Φ := .mk fun σ H D S E => by
  obtain ⟨d, s, k, ha, h1, h2, h3, h4, h5⟩ := S.cat hj
  obtain ⟨S2, e2⟩ := S.chg (q' := .lst [.int d, .int s, .int k]) (H' := H) hj rfl (fun _ _ => rfl) ⟨_, ha, .cons (.int _) (.cons (.int _) (.cons (.int _) .nil))⟩
  exact h d s k h1 h2 h3 h4 h5 σ H D S2 (E.ext e2)
theorem SE.closeBag {e : Expr} (h : SE F X Γ c e fun c1 z => ∃ j b d s k n, c1[j]? = some (b, .lst [.int d, .int s, .int k]) ∧ 0 ≤ d ∧ 0 ≤ s ∧ s < 2147483647 ∧ 0 ≤ k ∧ k ≤ ((n : Nat) : Int) ∧ P (c1.set j (b, .bag n)) z) : SE F X Γ c e P := .mk fun σ H Q S kk => h σ H Q S fun v H' c' z p S' e' dv => by
  obtain ⟨j, b, d, s, k, n, hj, h1, h2, h3, h4, h5, p⟩ := p
  obtain ⟨xs, ha, t⟩ := S'.cat hj
  have et : xs = [.int d, .int s, .int k] := DVs.of_ints (l := [d, s, k]) t
  subst et
  obtain ⟨S2, e2⟩ := S'.chg (q' := .bag n) (H' := H') hj rfl (fun _ _ => rfl) ⟨d, s, k, ha, h1, h2, h3, h4, h5⟩
  exact kk v H' _ z p S2 (e'.trans e2) (dv.mono e2)
end
end D
end
section
set_option Elab.async false
set_option linter.all false
set_option maxRecDepth 100000
namespace W
open PySem L2 D PyProof.Rows
def top (i : Nat) : Stmt := PySem.Challenge.pw_openlines_k01_errors_made.main.body.getD i (.Pass ⟨0, 0, 0, 0⟩)
abbrev s_NoName___init__ : Stmt := inClass (top 1) 0
abbrev n_NoName___init__ : List Str := ["self", "name"]
theorem sc_NoName___init__ : FnScope n_NoName___init__ ["self", "name"] (defScope s_NoName___init__) := ⟨rfl, rfl, rfl, by decide +kernel, rfl, by decide +kernel, by decide +kernel⟩
abbrev s_NoBases___init__ : Stmt := inClass (top 2) 0
abbrev n_NoBases___init__ : List Str := ["self", "at"]
theorem sc_NoBases___init__ : FnScope n_NoBases___init__ ["self", "at"] (defScope s_NoBases___init__) := ⟨rfl, rfl, rfl, by decide +kernel, rfl, by decide +kernel, by decide +kernel⟩
abbrev s_NoLine___init__ : Stmt := inClass (top 3) 0
abbrev n_NoLine___init__ : List Str := ["self", "kind", "ring"]
theorem sc_NoLine___init__ : FnScope n_NoLine___init__ ["self", "kind", "ring"] (defScope s_NoLine___init__) := ⟨rfl, rfl, rfl, by decide +kernel, rfl, by decide +kernel, by decide +kernel⟩
abbrev s_NoMerge___init__ : Stmt := inClass (top 4) 0
abbrev n_NoMerge___init__ : List Str := ["self", "ring"]
theorem sc_NoMerge___init__ : FnScope n_NoMerge___init__ ["self", "ring"] (defScope s_NoMerge___init__) := ⟨rfl, rfl, rfl, by decide +kernel, rfl, by decide +kernel, by decide +kernel⟩
abbrev s_NoCall___init__ : Stmt := inClass (top 5) 0
abbrev n_NoCall___init__ : List Str := ["self", "call"]
theorem sc_NoCall___init__ : FnScope n_NoCall___init__ ["self", "call"] (defScope s_NoCall___init__) := ⟨rfl, rfl, rfl, by decide +kernel, rfl, by decide +kernel, by decide +kernel⟩
abbrev s_NoBody___init__ : Stmt := inClass (top 6) 0
abbrev n_NoBody___init__ : List Str := ["self", "at"]
theorem sc_NoBody___init__ : FnScope n_NoBody___init__ ["self", "at"] (defScope s_NoBody___init__) := ⟨rfl, rfl, rfl, by decide +kernel, rfl, by decide +kernel, by decide +kernel⟩
abbrev s_NoChain___init__ : Stmt := inClass (top 7) 0
abbrev n_NoChain___init__ : List Str := ["self", "at"]
theorem sc_NoChain___init__ : FnScope n_NoChain___init__ ["self", "at"] (defScope s_NoChain___init__) := ⟨rfl, rfl, rfl, by decide +kernel, rfl, by decide +kernel, by decide +kernel⟩
abbrev s_NoText___init__ : Stmt := inClass (top 9) 0
abbrev n_NoText___init__ : List Str := ["self", "at"]
theorem sc_NoText___init__ : FnScope n_NoText___init__ ["self", "at"] (defScope s_NoText___init__) := ⟨rfl, rfl, rfl, by decide +kernel, rfl, by decide +kernel, by decide +kernel⟩
abbrev s_NoKind___init__ : Stmt := inClass (top 11) 0
abbrev n_NoKind___init__ : List Str := ["self", "name"]
theorem sc_NoKind___init__ : FnScope n_NoKind___init__ ["self", "name"] (defScope s_NoKind___init__) := ⟨rfl, rfl, rfl, by decide +kernel, rfl, by decide +kernel, by decide +kernel⟩
abbrev s_NoObject___init__ : Stmt := inClass (top 12) 0
abbrev n_NoObject___init__ : List Str := ["self", "number"]
theorem sc_NoObject___init__ : FnScope n_NoObject___init__ ["self", "number"] (defScope s_NoObject___init__) := ⟨rfl, rfl, rfl, by decide +kernel, rfl, by decide +kernel, by decide +kernel⟩
abbrev s_NoOpen___init__ : Stmt := inClass (top 13) 0
abbrev n_NoOpen___init__ : List Str := ["self", "number"]
theorem sc_NoOpen___init__ : FnScope n_NoOpen___init__ ["self", "number"] (defScope s_NoOpen___init__) := ⟨rfl, rfl, rfl, by decide +kernel, rfl, by decide +kernel, by decide +kernel⟩
abbrev s_Absent___init__ : Stmt := inClass (top 14) 0
abbrev n_Absent___init__ : List Str := ["self", "kind", "call"]
theorem sc_Absent___init__ : FnScope n_Absent___init__ ["self", "kind", "call"] (defScope s_Absent___init__) := ⟨rfl, rfl, rfl, by decide +kernel, rfl, by decide +kernel, by decide +kernel⟩
abbrev s_NoDefiner___init__ : Stmt := inClass (top 15) 0
abbrev n_NoDefiner___init__ : List Str := ["self", "definer"]
theorem sc_NoDefiner___init__ : FnScope n_NoDefiner___init__ ["self", "definer"] (defScope s_NoDefiner___init__) := ⟨rfl, rfl, rfl, by decide +kernel, rfl, by decide +kernel, by decide +kernel⟩
abbrev s_Taken___init__ : Stmt := inClass (top 16) 0
abbrev n_Taken___init__ : List Str := ["self", "name"]
theorem sc_Taken___init__ : FnScope n_Taken___init__ ["self", "name"] (defScope s_Taken___init__) := ⟨rfl, rfl, rfl, by decide +kernel, rfl, by decide +kernel, by decide +kernel⟩
abbrev s_InUse___init__ : Stmt := inClass (top 17) 0
abbrev n_InUse___init__ : List Str := ["self", "name"]
theorem sc_InUse___init__ : FnScope n_InUse___init__ ["self", "name"] (defScope s_InUse___init__) := ⟨rfl, rfl, rfl, by decide +kernel, rfl, by decide +kernel, by decide +kernel⟩
abbrev s_Busy___init__ : Stmt := inClass (top 18) 0
abbrev n_Busy___init__ : List Str := ["self", "number"]
theorem sc_Busy___init__ : FnScope n_Busy___init__ ["self", "number"] (defScope s_Busy___init__) := ⟨rfl, rfl, rfl, by decide +kernel, rfl, by decide +kernel, by decide +kernel⟩
abbrev s_TooDeep___init__ : Stmt := inClass (top 22) 0
abbrev n_TooDeep___init__ : List Str := ["self", "number"]
theorem sc_TooDeep___init__ : FnScope n_TooDeep___init__ ["self", "number"] (defScope s_TooDeep___init__) := ⟨rfl, rfl, rfl, by decide +kernel, rfl, by decide +kernel, by decide +kernel⟩
abbrev s__law_bag : Stmt := top 24
abbrev n__law_bag : List Str := ["_law_script", "_law_spot_at", "_law_cell", "_law_digits"]
theorem sc__law_bag : FnScope n__law_bag ["_law_script", "_law_spot_at"] (defScope s__law_bag) := ⟨rfl, rfl, rfl, by decide +kernel, rfl, by decide +kernel, by decide +kernel⟩
abbrev s__law_take : Stmt := top 25
abbrev n__law_take : List Str := ["_law_bag_here", "_law_many", "_law_digit"]
theorem sc__law_take : FnScope n__law_take ["_law_bag_here", "_law_many"] (defScope s__law_take) := ⟨rfl, rfl, rfl, by decide +kernel, rfl, by decide +kernel, by decide +kernel⟩
abbrev s__law_any : Stmt := top 26
abbrev n__law_any : List Str := ["_law_bag_here", "_law_objects", "_law_some", "_law_one"]
theorem sc__law_any : FnScope n__law_any ["_law_bag_here", "_law_objects"] (defScope s__law_any) := ⟨rfl, rfl, rfl, by decide +kernel, rfl, by decide +kernel, by decide +kernel⟩
abbrev s__law_word : Stmt := top 27
abbrev n__law_word : List Str := ["_law_e", "_law_words", "_law_some", "_law_above", "_law_where", "_law_group", "_law_due", "_law_shown", "_law_one"]
theorem sc__law_word : FnScope n__law_word ["_law_e"] (defScope s__law_word) := ⟨rfl, rfl, rfl, by decide +kernel, rfl, by decide +kernel, by decide +kernel⟩
abbrev s__law_named_right : Stmt := top 28
abbrev n__law_named_right : List Str := ["_law_term", "_law_named", "_law_placed", "_law_counted", "_law_found", "_law_one"]
theorem sc__law_named_right : FnScope n__law_named_right ["_law_term"] (defScope s__law_named_right) := ⟨rfl, rfl, rfl, by decide +kernel, rfl, by decide +kernel, by decide +kernel⟩
abbrev s__law_pairs_right : Stmt := top 29
abbrev n__law_pairs_right : List Str := ["_law_term", "_law_other", "_law_pairs", "_law_missing", "_law_found", "_law_one"]
theorem sc__law_pairs_right : FnScope n__law_pairs_right ["_law_term", "_law_other"] (defScope s__law_pairs_right) := ⟨rfl, rfl, rfl, by decide +kernel, rfl, by decide +kernel, by decide +kernel⟩
abbrev s_law : Stmt := top 30
abbrev n_law : List Str := ["_law_script", "_law_k", "_law_bag_here", "_law_term", "_law_other", "_law_some", "_law_words", "_law_one"]
theorem sc_law : FnScope n_law ["_law_script"] (defScope s_law) := ⟨rfl, rfl, rfl, by decide +kernel, rfl, by decide +kernel, by decide +kernel⟩
end W
end
section
set_option Elab.async false
set_option linter.all false
set_option maxRecDepth 100000
namespace D
open PySem L2 PyProof.Rows
section
variable {F : Fm} {X : Cx} {Γ : List Sl} {c : Cells} {Φ : PEnds} {pos : Pos}
theorem idxs_eq (n : Nat) : idxs n = (List.range n).map fun (i : Nat) => Dt.int (i : Int) := rfl
end
end D
end
section
set_option Elab.async false
set_option linter.all false
set_option maxRecDepth 100000
namespace D
open PySem L2 PyProof.Rows
end D
end
section
set_option Elab.async false
set_option linter.all false
set_option maxRecDepth 100000
namespace D
open PySem L2 PyProof.Rows PyProof
end D
end
section
set_option Elab.async false
set_option linter.all false
set_option maxRecDepth 100000
namespace D
open PySem L2 PyProof.Rows PyProof
section
variable {F : Fm} {X : Cx} {Γ : List Sl} {c : Cells} {P : Cells → Dt → Prop} {Φ : PEnds} {pos : Pos}
def putFD (f : Str) (d : Dt) : List (Str × Dt) → List (Str × Dt)
  | [] => [(f, d)]
  | (g, x) :: r => if g = f then (g, d) :: r else (g, x) :: putFD f d r
theorem DVx.put {K : PySem.W.Frag} {H : Hp} {f : Str} {y : V} {d : Dt} (dv : DV K H y d) : ∀ {xs : List (Str × V)} {fs : List (Str × Dt)}, DVx K H xs fs → DVx K H (putF f y xs) (putFD f d fs)
  | _, _, .nil => .cons dv .nil
  | _, _, .cons (k := g) h t => by
    unfold putF putFD
    by_cases e : g = f
    · rw [if_pos e, if_pos e]; exact .cons dv t
    · rw [if_neg e, if_neg e]; exact .cons h (DVx.put dv t)
theorem DVx.length {K : PySem.W.Frag} {H : Hp} : ∀ {xs : List (Str × V)} {fs : List (Str × Dt)}, DVx K H xs fs → xs.length = fs.length
  | _, _, .nil => rfl
  | _, _, .cons _ t => congrArg (· + 1) (DVx.length t)
end
end D
end
section
set_option Elab.async false
set_option linter.all false
set_option maxRecDepth 100000
set_option maxHeartbeats 2000000
namespace D
open PySem L2 PyProof.Rows PyProof HT
theorem filterMap_ext {α β : Type} {f g : α → Option β} : ∀ {l : List α}, (∀ x ∈ l, f x = g x) → l.filterMap f = l.filterMap g
  | [], _ => rfl
  | x :: l, h => by
    rw [List.filterMap_cons, List.filterMap_cons, h x (List.mem_cons_self ..), filterMap_ext fun y hy => h y (List.mem_cons_of_mem _ hy)]
section
variable {prog : Program} {w : World} {A : Around} {E : Value → Shared → Prop} {s : Shared}
theorem back_pick (xs : Array Value) : ((List.range xs.size).filterMap fun (m : Nat) => xs[(((xs.size : Nat) : Int) - 1 + (m : Int) * (-1)).toNat]?).toArray = xs.toList.reverse.toArray := by
  obtain ⟨l⟩ := xs
  simp only [List.size_toArray]
  congr 1
  have e : ∀ m, m < l.length → (l.toArray[(((l.length : Nat) : Int) - 1 + (m : Int) * (-1)).toNat]?) = some (l.reverse.getD m .none) := fun m hm => by
    have : (((l.length : Nat) : Int) - 1 + (m : Int) * (-1)).toNat = l.length - 1 - m := by omega
    rw [this, List.getElem?_toArray, List.getD_eq_getElem?_getD, List.getElem?_reverse hm]
    rw [List.getElem?_eq_getElem (by omega)]
    rfl
  have e2 : ((List.range l.length).filterMap fun (m : Nat) => l.toArray[(((l.length : Nat) : Int) - 1 + (m : Int) * (-1)).toNat]?) = (List.range l.length).map fun m => l.reverse.getD m .none := by
    rw [← List.filterMap_eq_map]
    exact filterMap_ext fun m hm => e m (List.mem_range.mp hm)
  rw [e2]
  apply List.ext_getElem
  · simp
  · intro i h1 h2
    simp only [List.getElem_map, List.getElem_range]
    rw [List.getD_eq_getElem?_getD, List.getElem?_eq_getElem h2]
    rfl
theorem applied_back {sl : Addr} {vl vu vs : Value} {n : Nat} {Q : Int × Int × Nat → Shared → Prop} (hs : s.heap.IsSliceOf sl vl vu vs) (pl : IsPart vl none) (pu : IsPart vu none) (ps : IsPart vs (some (-1)))
    (h : Q (((n : Nat) : Int) - 1, -1, n) s) : wpAny (model prog w) A (Builtin.Slice.sliceApplied (.ref sl) (pure (n : Int))) Q E s := by
  obtain ⟨os, hos, hcs, hds⟩ := id hs
  unfold Builtin.Slice.sliceApplied Builtin.Slice.sliceFields
  refine wpAny_bind (wpAny_bind (wpAny_field hos hds (x := vl) rfl (wpAny_bind (wpAny_field hos hds (x := vu) rfl (wpAny_bind (wpAny_field hos hds (x := vs) rfl (wpAny_pure ?_)))))))
  refine wpAny_bind (slicePart_ ps ?_)
  show wpAny _ _ (if ((-1 : Int) == 0) = true then _ else _) _ _ s
  rw [if_neg (by decide)]
  refine wpAny_bind (slicePart_ pl (wpAny_bind (slicePart_ pu (wpAny_bind (wpAny_pure ?_)))))
  have e1 : Builtin.Slice.sliceAdjust none none (-1) (n : Int) = ((n : Int) - 1, -1) := rfl
  have e2 : Builtin.Slice.slicePlaces ((n : Int) - 1) (-1) (-1) = n := by
    unfold Builtin.Slice.slicePlaces
    rw [if_neg (by decide)]
    by_cases hn : n = 0
    · subst hn; rfl
    · rw [if_pos (by omega), show (-(-1 : Int)) = 1 by rfl, Int.ediv_one]; omega
  show wpAny _ _ (match Builtin.Slice.sliceAdjust none none (-1) (n : Int) with | (lo, hi) => pure (lo, (-1 : Int), Builtin.Slice.slicePlaces lo hi (-1))) _ _ s
  rw [e1]
  show wpAny _ _ (pure ((n : Int) - 1, (-1 : Int), Builtin.Slice.slicePlaces ((n : Int) - 1) (-1) (-1))) _ _ s
  rw [e2]
  exact wpAny_pure h
theorem getItem_back {t sl : Addr} {items : Array Value} {vl vu vs : Value} {Q : Value → Shared → Prop} (ht : IsTup s.heap t items) (hs : s.heap.IsSliceOf sl vl vu vs) (pl : IsPart vl none) (pu : IsPart vu none) (ps : IsPart vs (some (-1))) (hsz : items.size ≤ sizeLine)
    (h : Q (.ref s.heap.objs.size) { s with heap := s.heap.push { cls := .type "tuple", data := .seq items.toList.reverse.toArray } }) : wpAny (model prog w) A (getItem (.ref t) (.ref sl)) Q E s := by
  have hok : sizeOk (.seq items.toList.reverse.toArray) := by
    show items.toList.reverse.toArray.size ≤ sizeLine
    rw [List.size_toArray, List.length_reverse, Array.length_toList]; exact hsz
  obtain ⟨os, hos, hcs, hds⟩ := id hs
  have hTs : s.TypeIs (.ref sl) "slice" := ⟨os, hos, hcs⟩
  unfold getItem
  try with_reducible refine wpAny_holding ?_
  first | refine wpAny_bind (wpAny_pure ?_) | skip
  refine wpAny_bind (wpAny_sequenceKey ht.typeIs (by decide) (wpAny_bind (wpAny_callSpecial?_slot (name := Str.ofString "__getitem__") ht.typeIs PyProof.Rows.slot_tuple_getitem (wpAny_call_entry PyProof.Rows.slot_tuple_getitem ht.typeIs entry_tuple_getitem ?_ (args_tuple_getitem _ _)))))
  show wpAny _ _ (Builtin.Tuple.tupleItemsOf (.ref t) >>= _) _ _ s
  refine wpAny_bind (tupleItemsOf_ ht (wpAny_bind (wpAny_typeOf hTs ?_)))
  rw [if_pos (by decide)]
  refine wpAny_bind (applied_back hs pl pu ps ?_)
  have hno : ¬ (((((items.size : Nat) : Int) - 1) == 0 && (-1 : Int) == 1 && items.size == items.size) = true) := by
    rw [show ((-1 : Int) == 1) = false from rfl, Bool.and_false, Bool.false_and]; exact Bool.false_ne_true
  show wpAny _ _ (if ((((items.size : Nat) : Int) - 1) == 0 && (-1 : Int) == 1 && items.size == items.size) = true then _ else _) _ _ s
  rw [if_neg hno, back_pick]
  first
    | exact wpAny_bind (m := Builtin.Tuple.tupleExact _) (wpAny_newObj_type (wpAny_pure ⟨_, rfl, wpAny_pure h⟩) hok)
    | exact wpAny_bind (m := Builtin.Tuple.tupleExact _) (wpAny_newObj_type (wpAny_bind (wpAny_pure (wpAny_pure ⟨_, rfl, wpAny_pure h⟩))) hok)
    | exact wpAny_bind (wpAny_bind (m := Builtin.Tuple.tupleExact _) (wpAny_newObj_type (wpAny_pure (wpAny_pure ⟨_, rfl, wpAny_pure h⟩)) hok))
    | exact wpAny_bind (wpAny_bind (m := Builtin.Tuple.tupleExact _) (wpAny_newObj_type (wpAny_pure ⟨_, rfl, wpAny_pure h⟩) hok))
end
section
variable {X : Cx}
def tBackT (K : PySem.W.Frag) (te : TE) : TE := fun σ H Q => te σ H fun x H1 => ∃ a xs, x = .ref a ∧ SqT K H1 a xs ∧ ∀ p (o : Obj), H1 p = none → o.dict = none → Q (.ref p) (upd H1 p (.frz o (.tup xs.reverse)))
theorem pe_backT {e : Expr} {te : TE} {k : Nat} {p1 p2 p3 pos : Pos} (he : PE X e te) : PE X (.Subscript e (.Slice none none (some (.UnaryOp .USub (.Constant (.int 1) k p1) p2)) p3) pos) (tBackT X.K te) := ⟨fun pn sa sg HH QQ I h => by
  refine Subscript_ (thn (he.run pn sa sg HH _ I h) fun v s1 ⟨x, H1, I1, r1, a, xs, ex, hx, q⟩ => ?_)
  subst ex
  cases r1
  have hst : PO X (some (.UnaryOp .USub (.Constant (.int 1) k p1) p2)) (tPart (tUn (rU fun i => .int (-i)) (tC (.int 1)))) := po_some (pe_un un_neg pe_int)
  refine wpAny_Slice (thn (po_none.run pn s1 sg H1 (fun o H2 => o = none ∧ H2 = H1) I1 ⟨rfl, rfl⟩) fun vl s2 ⟨l, H2, I2, pl, e1, e2⟩ => ?_)
  subst e1 e2
  refine thn (po_none.run pn s2 sg H2 (fun o H3 => o = none ∧ H3 = H2) I2 ⟨rfl, rfl⟩) fun vu s3 ⟨u, H3, I3, pu, e3, e4⟩ => ?_
  subst e3 e4
  refine thn (hst.run pn s3 sg H3 (fun o H4 => o = some (-1) ∧ H4 = H3) I3 ⟨1, rfl, -1, rfl, rfl, rfl⟩) fun vs s4 ⟨o, H4, I4, ps, e5, e6⟩ => ?_
  subst e5 e6
  have I5 : Inv X pn sg H4 { s4 with heap := s4.heap.push { cls := .type "slice", data := .fields #[vl, vu, vs] } } := I4.kept (t' := s4.toks) fun b ob q => Heap.get?_push_of_some _ q
  obtain ⟨its, r, ht, hz⟩ := I5.tuple hx
  have hlen := r.length
  show wpAny (model X.prog X.w) X.A (subscriptTail e (.Slice none none (some (.UnaryOp .USub (.Constant (.int 1) k p1) p2)) p3) (.ref a) (.ref s4.heap.objs.size)) (EP X pn sg QQ) X.xe { s4 with heap := s4.heap.push { cls := .type "slice", data := .fields #[vl, vu, vs] }, toks := s4.toks }
  refine tail_any (ops := [.ref a, .ref s4.heap.objs.size]) ht.typeIs (PyProof.Rows.slot_tuple_getitem.lookup) ?_ (by with_unfolding_all rfl)
  refine getItem_back ht (Heap.IsSliceOf.new _ vl vu vs) pl pu ps (by rw [List.size_toArray]; omega) ?_
  obtain ⟨o, ho, I6⟩ := laidF (t' := s4.toks) (h' := s4.heap.push { cls := .type "slice", data := .fields #[vl, vu, vs] }) (xs := xs.reverse) (us := its.reverse) I5 (fun b u e => Heap.get?_push_of_some _ e) (Nat.le_refl _) (by rw [List.length_reverse]; exact hz) r.reverse
  exact ⟨.ref _, _, I6, rfl, q _ o (I5.hok.fresh (Nat.le_refl _)) ho⟩⟩
end
section
variable {F : Fm} {X : Cx} {Γ : List Sl} {c : Cells} {P : Cells → Dt → Prop} {Φ : PEnds} {pos : Pos}
theorem DVs.rev {K : PySem.W.Frag} {H : Hp} : ∀ {v : List V} {d : List Dt}, DVs K H v d → DVs K H v.reverse d.reverse
  | _, _, .nil => .nil
  | _, _, .cons h t => by rw [List.reverse_cons, List.reverse_cons]; exact (DVs.rev t).append (.cons h .nil)
theorem se_backT {e : Expr} {k : Nat} {p1 p2 p3 : Pos} (h : SE F X Γ c e fun c1 d => ∃ l, d = .tup l ∧ P c1 (.tup l.reverse)) : SE F X Γ c (.Subscript e (.Slice none none (some (.UnaryOp .USub (.Constant (.int 1) k p1) p2)) p3) pos) P :=
  SE.of (pe_backT pE) fun σ H Q S kk => h σ H _ S fun v H1 c1 d p S1 e1 dv => by
    obtain ⟨l, rfl, p⟩ := p
    cases dv with
    | tup a t => exact ⟨_, _, rfl, (a.mono (mask_ex _ _)).t, fun q o hq ho => kk _ _ c1 _ p (S1.new hq) (e1.trans (Kp.new (F := F) hq).hid) (S1.newT hq ho t.rev)⟩
end
end D
end
section
set_option Elab.async false
set_option linter.all false
set_option maxRecDepth 100000
set_option maxHeartbeats 2000000
namespace D
open PySem L2 PyProof.Rows PyProof
open PySem.W (EachIs AllAlike Sortable dataLe list_sort_data KdlSrc kdl_hint_dict kdu_collect alike)
end D
end
section
set_option Elab.async false
set_option linter.all false
set_option maxRecDepth 100000
set_option maxHeartbeats 2000000
namespace D
open PySem L2 PyProof.Rows PyProof
open PySem.W (AllAlike dataLe alike)
end D
end
section
set_option Elab.async false
set_option linter.all false
set_option maxRecDepth 100000
set_option maxHeartbeats 2000000
namespace D
open PySem L2 PyProof.Rows PyProof
end D
end
section
set_option Elab.async false
set_option linter.all false
set_option maxRecDepth 100000
set_option maxHeartbeats 2000000
namespace D
open PySem L2 PyProof.Rows PyProof PySem.SeqAt
open AutoSeq1 (wpAny_loadPart')
end D
end
section
set_option Elab.async false
set_option linter.all false
set_option maxRecDepth 100000
set_option maxHeartbeats 2000000
namespace D
open PySem L2 PyProof.Rows PyProof PySem.SeqAt
section
variable {X : Cx} {k : Nat} {C : Addr}
def Kn (C : Addr) : Dt → Prop
  | .non => True
  | .bl _ => True
  | .int _ => True
  | .str _ => True
  | .lst _ => True
  | .tup _ => True
  | .obj C' => C' = C
  | _ => False
end
section
variable {F : Fm} {X : Cx} {Γ : List Sl} {c : Cells} {P : Cells → Dt → Prop}
theorem Kn.ne {C : Addr} {d : Dt} : Kn C d → ∀ v, d ≠ .raw v := fun h v e => by subst e; exact h
end
end D
end
section
set_option Elab.async false
set_option linter.all false
set_option maxRecDepth 100000
set_option maxHeartbeats 2000000
namespace D
open PySem L2 PyProof.Rows PyProof
open PySem.W (AlikeAll minD maxD dataLt alike max_list_data readsAll_at reads_keeps)
theorem iteTr {b : Bool} {p q : Prop} (h : b = true) (k : p) : if b = true then p else q := by rw [if_pos h]; exact k
theorem iteFr {b : Bool} {p q : Prop} (h : b = false) (k : q) : if b = true then p else q := by rw [if_neg (by rw [h]; exact Bool.false_ne_true)]; exact k
end D
end
section
set_option Elab.async false
set_option linter.all false
set_option maxRecDepth 100000
set_option maxHeartbeats 2000000
namespace D
open PySem L2 PyProof.Rows PyProof
end D
namespace D
open PySem L2 PyProof.Rows PyProof
end D
namespace D
open PySem L2 PyProof.Rows PyProof
end D
end
section
set_option Elab.async false
set_option linter.all false
set_option maxRecDepth 100000
set_option maxHeartbeats 2000000
namespace D
open PySem PySem.Spec L2 PyProof.Rows LamX
/-- the table at P holds code objects of the name q alone -/
def tabP (P : Addr) (q : Str) (V H : Hp) : Prop := ∃ ps : Array Value, H P = some (.tbl ps) ∧ TriplesOk ps.toList ∧ ∀ (pos : Pos) (cv : Value), codeAmong pos ps.toList = some cv → ∃ c, cv = .ref c ∧ V c = some (CodeO c q)
theorem tabP.mono {P : Addr} {q : Str} {V V' H H' : Hp} (h : tabP P q V H) (e : Ex V V') (k : H' P = H P) : tabP P q V' H' := by
  obtain ⟨ps, h1, h2, h3⟩ := h
  refine ⟨ps, k.trans h1, h2, fun pos cv z => ?_⟩
  obtain ⟨c, e1, e2⟩ := h3 pos cv z
  exact ⟨c, e1, e _ _ e2⟩
end D
end
section
set_option Elab.async false
set_option linter.all false
set_option maxRecDepth 100000
namespace D
open PySem L2 PyProof.Rows
end D
end
section
set_option Elab.async false
set_option linter.all false
set_option maxRecDepth 100000
namespace D
open PySem L2 PyProof.Rows
end D
end
section
set_option Elab.async false
set_option linter.all false
set_option maxRecDepth 100000
namespace D
open PySem L2 PyProof.Rows
end D
end
section
set_option Elab.async false
set_option linter.all false
set_option maxRecDepth 100000
set_option maxHeartbeats 2000000
namespace D
open PySem PySem.Spec L2 PyProof.Rows
end D
end
section
set_option Elab.async false
set_option linter.all false
set_option maxRecDepth 100000
set_option maxHeartbeats 2000000
namespace D
open PySem L2 PyProof.Rows PyProof
open PySem.W (EachIs AllAlike Sortable dataLe list_sort_data alike alikeAll)
end D
end
section
set_option Elab.async false
set_option linter.all false
set_option maxRecDepth 100000
set_option maxHeartbeats 4000000
namespace D
open PySem PySem.Spec L2 PyProof.Rows PyProof
end D
end
section
set_option Elab.async false
set_option linter.all false
set_option maxRecDepth 100000
set_option maxHeartbeats 2000000
namespace D
open PySem PySem.Spec L2 PyProof.Rows PyProof
end D
end
section
set_option Elab.async false
set_option linter.all false
set_option maxRecDepth 100000
namespace D
open PySem L2 PyProof.Rows
end D
end
section
set_option Elab.async false
set_option linter.all false
set_option maxRecDepth 100000
set_option maxHeartbeats 4000000
namespace L2H
open PySem PySem.Spec PyProof.Rows L2 HotX
section
variable {prog : Program} {w : World} {A : Around} {E : Value → Shared → Prop} {s : Shared}
theorem HotAt.put {x1 it : Addr} {h : Heap} {f : Obj → Obj} (hot : HotAt A x1 h) (hne : x1 ≠ it) : HotAt A x1 (h.update it f) := by
  obtain ⟨hh, o, vs, h1, d, c⟩ := hot
  exact ⟨hh, o, vs, by rw [Heap.get?_update_other _ _ (Ne.symm hne)]; exact h1, d, c⟩
end
end L2H
end
section
set_option Elab.async false
set_option linter.all false
set_option maxRecDepth 100000
set_option maxHeartbeats 4000000
namespace L2H
open PySem PySem.Spec PyProof.Rows L2 HotX
end L2H
namespace D
open PySem L2 PyProof.Rows
end D
end
section
set_option Elab.async false
set_option linter.all false
set_option maxRecDepth 100000
set_option maxHeartbeats 2000000
namespace D
open PySem L2 PyProof.Rows
open L2H (HotC PIH)
def wIH (X : Cx) (tg iter : Expr) : TI := fun σ H R => ∃ w, PIH X tg iter w ∧ w σ H R
structure SWH (F : Fm) (X : Cx) (Γ : List Sl) (c : Cells) (tg iter : Expr) (P : Cells → List Dt → Prop) : Prop where
  run : ∀ (σ : L2.St) (H : Hp) (R : It → Hp → Prop), SI X.K F Γ c σ H → (∀ J H' c' ds, P c' ds → SI X.K F Γ c' σ H' → Ex (Vw F c H) (Vw F c' H') → Src X.K (Vw F c' H') J ds → R J H') → wIH X tg iter σ H R
instance {F : Fm} {X : Cx} {Γ : List Sl} {c : Cells} {tg iter : Expr} {P : Cells → List Dt → Prop} : CoeFun (SWH F X Γ c tg iter P) fun _ => ∀ (σ : L2.St) (H : Hp) (R : It → Hp → Prop), SI X.K F Γ c σ H → (∀ J H' c' ds, P c' ds → SI X.K F Γ c' σ H' → Ex (Vw F c H) (Vw F c' H') → Src X.K (Vw F c' H') J ds → R J H') → wIH X tg iter σ H R := ⟨SWH.run⟩
end D
end
section
set_option Elab.async false
set_option linter.all false
set_option maxRecDepth 100000
set_option maxHeartbeats 4000000
namespace L2N
open PySem PySem.Spec PyProof.Rows L2
theorem takes_no {X : Cx} : L2N.Takes X (fun _ _ _ _ => False) := fun _ _ x => by
  obtain ⟨_, _, _, _, _, _, _, _, _, _, _, _, _, _, _, _, z⟩ := x
  exact z.elim
end L2N
namespace D
open PySem L2 PyProof.Rows
open L2H (HotC RoomH FnH cxH Hot1)
structure XTN (F : Fm) (X : Cx) (Wd : List Sl → Cells → Xc → Prop) : Prop where
  ex : ∃ W : WX, L2N.Takes X W ∧ ∀ Γ c σ H x cls dx, Wd Γ c x → SI X.K F Γ c σ H → XcAt X.K (Vw F c H) x cls dx → W cls dx σ H
theorem XTN.no {F : Fm} {X : Cx} : XTN F X fun _ _ _ => False := ⟨_, L2N.takes_no, fun _ _ _ _ _ _ _ z => z.elim⟩
end D
end
section
set_option Elab.async false
set_option linter.all false
set_option maxRecDepth 100000
set_option maxHeartbeats 4000000
namespace L2N
open PySem PySem.Spec PyProof.Rows L2
end L2N
namespace D
open PySem L2 PyProof.Rows
end D
end
section
set_option Elab.async false
set_option linter.all false
set_option maxRecDepth 100000
namespace D
open PySem L2 PyProof.Rows
end D
end
section
set_option Elab.async false
set_option linter.all false
set_option maxRecDepth 100000
set_option maxHeartbeats 4000000
namespace PySem.W
open PySem PySem.Spec PySem.Calls PyProof.Rows
end PySem.W
end
section
set_option Elab.async false
set_option linter.all false
set_option maxRecDepth 100000
set_option maxHeartbeats 4000000
namespace L2N
open PySem PySem.Spec PyProof.Rows L2
theorem flying_keeps {B h h' : Heap} {l : List Env} {e : Addr} {Z : Obj → Prop} (x : HandSPX.FlyingZ B l e Z h) (k : ∀ b o, h.get? b = some o → h'.get? b = some o) : HandSPX.FlyingZ B l e Z h' := by
  obtain ⟨x1, x2, x3, oe, vs, T, oT, ts, he, hz, hd, h1, hT, hTe, hgT, hdT, h3⟩ := x
  exact ⟨fun b o e => k b o (x1 b o e), x2, Heap.FunFrames.of_keeps (fun b o e _ => ⟨o, k b o e, rfl⟩) x3, oe, vs, T, oT, ts, k _ _ he, hz, hd, h1, hT, hTe, k _ _ hgT, hdT, h3⟩
end L2N
namespace D
open PySem L2 PyProof.Rows

end D
end
section
set_option Elab.async false
set_option linter.all false
set_option maxRecDepth 100000
set_option maxHeartbeats 4000000
namespace PySem.W
open PySem PySem.Spec PySem.Calls PyProof.Rows
section
variable {prog : Program} {w : World} {A : Around} {E : Value → Shared → Prop} {s : Shared} {K : Frag} {x D : Addr} {ox : Obj} {dd : Option Obj}
theorem findObj_dataD {C : Addr} {name : Str} {a g : Value} (hc : (clsIn K C).isSome = true) (ha : findIn K (.ref C) name = some (some a)) (hg : specialIn K a "__get__" = some (some g)) (ht : takesIn K a = some true) : findObj K C dd name = some (.bind g a) := by
  obtain ⟨cd, hc⟩ := Option.isSome_iff_exists.mp hc
  unfold findObj
  rw [hc, Option.bind_some, ha, Option.bind_some]
  simp [hg, ht]
theorem kin_classD {Q : Option Value → Shared → Prop} (hga : findIn K (.ref D) "__getattribute__" = some (some (.builtin "BaseException.__getattribute__"))) (hgt : findIn K (.ref D) "__getattr__" = some none) (hsub : subIn K (.ref D) (.type "BaseException") = some true)
    (hdct : hasDictIn K D = true) (ha : findIn K (.ref D) "__class__" = some (some (.builtin "object.__class__")))
    (hn : specialIn K (.builtin "object.__class__") "__get__" = some (some (.builtin "getset_descriptor.__get__"))) (htk : takesIn K (.builtin "object.__class__") = some true) (hm : mroIn K D (.type "object") = some true)
    (X : K.In s.heap) (I : InstAt s.heap x ox D dd) (h : Q (some (.ref D)) { s with toks := s.toks + 1 }) : wpAny (model prog w) A (getAttr? (.ref x) "__class__") Q E s := by
  have hf : findObj K D dd "__class__" = some (.bind (.builtin "getset_descriptor.__get__") (.builtin "object.__class__")) := findObj_dataD (by obtain ⟨cd, hc, _⟩ := any_some hdct; rw [hc]; rfl) ha hn htk
  obtain ⟨hp, g, d, t, os⟩ := s
  have L0 := I.type (M := model prog w)
  have L1 := looks_findIn (M := model prog w) X hga
  have L2 := looks_findIn (M := model prog w) X hgt
  have L3 := looks_find (M := model prog w) X I hf
  have sub : Looks (model prog w) hp (isInstance (.ref x) (.type "BaseException")) true := L0.andThen (looks_subIn X hsub)
  have hx0 : (false && onTheHeap (Value.builtin "BaseException.__getattribute__")) = false := rfl
  have hx2 : (Value.builtin "BaseException.__getattribute__" == Value.builtin "object.__getattribute__") = false := by decide +kernel
  have hx1 : (onTheHeap (Value.ref D) && Value.builtin "BaseException.__getattribute__" == Value.builtin "object.__getattribute__") = false := by rw [hx2]; rfl
  unfold getAttr? getAttrBy? getAttrBy
  refine wpAny_bind (wpAny_mkText (wpAny_bind (wpAny_attempt (wpAny_holding (wpAny_bind (L0.at (wpAny_bind (L1.at ?_))))))))
  show wpAny _ _ (if (onTheHeap (Value.ref D) && Value.builtin "BaseException.__getattribute__" == Value.builtin "object.__getattribute__") = true then _ else _) _ _ _
  rw [hx1, if_neg Bool.false_ne_true]
  unfold getAttrByItsOwn hookBefore
  refine wpAny_bind ?_
  rw [if_pos (show onTheHeap (Value.ref D) = true from rfl)]
  refine L2.at ?_
  refine wpAny_bind (wpAny_attempt (wpAny_holding ?_))
  unfold callGetattribute
  rw [hx0, if_neg Bool.false_ne_true]
  unfold boundAndCalled
  rw [PySem.F.excAttr_ValueError.ga.bind (.ref x)]
  refine wpAny_bind (wpAny_pure ?_)
  show wpAny _ _ (call (.builtin "BaseException.__getattribute__") [.ref x, .str "__class__" t]) _ _ _
  refine wpAny_call (codeAny_call_builtin PySem.F.excAttr_ValueError.ga.plain PySem.F.entry_bexc_ga ?_)
  refine @check_slot (model prog w) _ _ ⟨hp, g, d, t + 1, os⟩ "BaseException.__getattribute__" "BaseException" "__getattribute__" (.ref x) [.str "__class__" t] [] _ (by decide +kernel) (by decide +kernel) sub (PySem.F.args_bexc_ga (.ref x) (.str "__class__" t)) ?_
  unfold Builtin.«object.__getattribute__»
  refine wpAny_bind (wpAny_of_eq (a := ((Value.ref x : Value), [Value.str "__class__" t])) (by first | rfl | (simp only [slotArgs]; rfl)) ?_)
  refine wpAny_bind (wpAny_pure (wpAny_bind (L0.at (wpAny_bind (L3.at ?_)))))
  show wpAny _ _ (holding [Value.builtin "object.__class__"] (call (.builtin "getset_descriptor.__get__") [.builtin "object.__class__", .ref x, .ref D]) >>= ret) _ _ _
  refine wpAny_bind (wpAny_holding (wpAny_call (class_get (s := ⟨hp, g, d, t + 1, os⟩) (ox := ox) (od := dd) X I hm ?_)))
  refine wpAny_pure ?_
  show wpAny _ _ (handedOut (.ref D)) _ _ _
  rw [handedOut_of (v := .ref D) rfl]
  first
    | exact wpAny_pure (wpAny_pure h)
    | exact wpAny_pure h
    | exact wpAny_pure (wpAny_bind (wpAny_pure (wpAny_pure h)))
theorem kitx_excD (hga : findIn K (.ref D) "__getattribute__" = some (some (.builtin "BaseException.__getattribute__"))) (hgt : findIn K (.ref D) "__getattr__" = some none) (hsub : subIn K (.ref D) (.type "BaseException") = some true) (hdct : hasDictIn K D = true) (ha : findIn K (.ref D) "__class__" = some (some (.builtin "object.__class__")))
    (hn : specialIn K (.builtin "object.__class__") "__get__" = some (some (.builtin "getset_descriptor.__get__"))) (htk : takesIn K (.builtin "object.__class__") = some true) (hm : mroIn K D (.type "object") = some true) :
    KitX K (.ref x) (.ref D) (fun h => InstAt h x ox D dd) where
  ty := fun _ _ _ I => I.type
  it := fun _ _ X _ => by
    obtain ⟨cdD, hcD, _⟩ := any_some hdct
    unfold clsIn at hcD
    split at hcD
    · rename_i c' d' cd' sl' ho
      intro A' Q' E' s' k q
      unfold isType loadHead
      exact wpAny_bind (wpAny_loadPart (k _ _ (X _ _ ho)) (wpAny_pure q))
    · cases hcD
  ne := fun h tp dd its n sl X htp => by
    obtain ⟨cdD, hcD, _⟩ := any_some hdct
    refine Bool.eq_false_iff.mpr fun q => ?_
    have e : D = tp := Value.ref.inj (beq_iff_eq.mp q)
    subst e
    unfold clsIn at hcD
    split at hcD
    · rename_i c' d' cd' sl' ho
      have z := (X _ _ ho).symm.trans htp
      cases z
    · cases hcD
  ca := fun X I k => kin_classD hga hgt hsub hdct ha hn htk hm X I k
end
end PySem.W
namespace L2H
open PySem PySem.Spec PyProof.Rows L2
end L2H
end
section
set_option Elab.async false
set_option linter.all false
set_option maxRecDepth 100000
set_option maxHeartbeats 4000000
namespace L2H
open PySem PySem.Spec PyProof.Rows L2 HotX
end L2H
end
section
set_option Elab.async false
set_option linter.all false
set_option maxRecDepth 100000
set_option maxHeartbeats 4000000
namespace D
open PySem L2 PyProof.Rows
open L2H (HotC RoomH cxH Hot1)
end D
end
section
set_option Elab.async false
set_option linter.all false
set_option maxRecDepth 100000
set_option maxHeartbeats 4000000
namespace L2
open PySem PySem.Spec PyProof.Rows
def eqbk (k : Bool) (v : Value) : Bool := match v with
  | .bool b => b == k
  | _ => false
theorem vals_bl : ∀ {bs : List Bool} {us : List Value}, Vals (bs.map V.bl) us → us = bs.map Value.bool
  | [], _, .nil => rfl
  | b :: bs, _, .cons r t => by
    cases (show _ = Value.bool b from r)
    rw [vals_bl t]; rfl
theorem eqbk_count {k : Bool} (bs : List Bool) : (bs.map Value.bool).countP (eqbk k) = bs.count k := by
  rw [List.countP_map]; rfl
def rCntB (K : PySem.W.Frag) : V → List V → Hp → VK → Prop := fun x xs H Q => ∃ (p : Addr) (bs : List Bool) (k : Bool), x = .ref p ∧ xs = [.bl k] ∧ SqL K H p (bs.map V.bl) ∧ Q (.int (bs.count k : Nat)) H
theorem mt_bcount {X : Cx} : MtR X "list.count" (rCntB X.K) := by
  intro pins s σ H x xs v us Q I rx rxs h
  obtain ⟨p, bs, k, rfl, rfl, hs, q⟩ := h
  cases rx
  obtain ⟨u, rfl, ru⟩ := rxs.one
  cases (show u = Value.bool k from ru)
  obtain ⟨its, rv, ⟨⟨cls, dd, data, sl⟩, n, ho, hc, hdn, hd⟩, hlen⟩ := I.list hs
  simp only at hc hd
  subst hc hd
  obtain rfl := vals_bl rv
  refine call_meets PySem.F.slot_list_count ⟨_, ho, rfl⟩ PySem.F.entry_list_count (PySem.F.args_list_count_2 _ _)
    (SeqAt.list_countAt p (bs.map Value.bool).toArray n dd sl (.bool k) (eqbk k)) ⟨ho, fun y hy => ?_, ?_⟩
  · obtain ⟨b, _, rfl⟩ := List.mem_map.mp (by simpa using hy : y ∈ bs.map Value.bool)
    exact PySem.SeqAt.EqAt.bool_bool b k
  · refine ⟨.int (bs.count k : Nat), H, I.tok _, ⟨s.toks, ?_⟩, q⟩
    show Value.int (((bs.map Value.bool).toArray.toList.countP (eqbk k) : Nat) : Int) s.toks = Value.int ((bs.count k : Nat) : Int) s.toks
    rw [show (bs.map Value.bool).toArray.toList.countP (eqbk k) = bs.count k from eqbk_count bs]
def rIdxB (K : PySem.W.Frag) : V → List V → Hp → VK → Prop := fun x xs H Q => ∃ (p : Addr) (bs : List Bool) (k : Bool), x = .ref p ∧ xs = [.bl k] ∧ SqL K H p (bs.map V.bl) ∧ k ∈ bs ∧ Q (.int (bs.idxOf k : Nat)) H
theorem mt_bindex {X : Cx} : MtR X "list.index" (rIdxB X.K) := by
  intro pins s σ H x xs v us Q I rx rxs h
  obtain ⟨p, bs, k, rfl, rfl, hs, hk, q⟩ := h
  cases rx
  obtain ⟨u, rfl, ru⟩ := rxs.one
  cases (show u = Value.bool k from ru)
  obtain ⟨its, rv, pl, hlen⟩ := I.list hs
  obtain rfl := vals_bl rv
  have hz : bs.length ≤ sizeLine := by simpa using hlen
  refine PySem.SeqAt.call_list_index (ks := bs) (k := k) pl.isList ⟨by rw [List.length_map], fun j h1 h2 => ?_⟩ hz hk ?_
  · have e : (bs.map Value.bool)[j] = Value.bool bs[j] := List.getElem_map ..
    rw [e]
    exact (PySem.SeqAt.EqAt.bool_bool bs[j] k).cast (by by_cases e : bs[j] = k <;> simp [e])
  · exact ⟨.int (bs.idxOf k : Nat), H, I.tok _, ⟨s.toks, rfl⟩, q⟩
end L2
namespace D
open PySem L2 PyProof.Rows
section
variable {F : Fm} {X : Cx} {Γ : List Sl} {c : Cells} {P : Cells → Dt → Prop} {pos : Pos}
theorem dvs_bls {K : PySem.W.Frag} {H : Hp} : ∀ {bs : List Bool} {xs : List V}, DVs K H xs (bs.map Dt.bl) → xs = bs.map V.bl
  | [], _, .nil => rfl
  | b :: bs, _, .cons (.bl _) t => by rw [dvs_bls t]; rfl
theorem se_countB {o e : Expr} {apos : Pos} (h : SE F X Γ c o fun c1 d1 => ∃ bs : List Bool, d1 = .lst (bs.map Dt.bl) ∧ SE F X Γ c1 e fun c2 d2 => ∃ k : Bool, d2 = .bl k ∧ P c2 (.int (bs.count k : Nat)))
    (hb : attributeBase o "count" X.env (eval o X.env) = eval o X.env := by rfl)
    (hall : (((backTo pos (starEach [e] X.env)).all (fun x => !x.1)) && ((backToKw pos (keywordEach [] X.env)).all (fun x => x.1.isSome)) && decide ([e].length + ([] : List Keyword).length + (if ([] : List Keyword).isEmpty = true then 0 else 1) < 30)) = true := by rfl)
    (hline : (apos.endLine == pos.line) = true := by rfl) (hst : starEach [e] X.env = (false, eval e X.env) :: starEach [] X.env := by rfl) (hpl : (backTo pos (starEach [] X.env)).any (·.1) = false := by rfl) : SE F X Γ c (.Call (.Attribute o "count" apos) [e] [] pos) P :=
  SE.of (pe_bm PySem.F.plainAttrs_list PySem.F.slot_list_count PySem.F.type_list_count mt_bcount pE (pa_cons pE pa_nil hst) hb hall hline hst hpl) fun σ H Q S k => h σ H _ S fun v H1 c1 d1 q S1 e1 dv1 => by
    obtain ⟨bs, rfl, q⟩ := q
    cases dv1 with
    | lst a1 t1 =>
      obtain rfl := dvs_bls t1
      refine ⟨Or.inl ⟨rfl, _, .inl (.inl (of_mask a1).2)⟩, q σ H1 _ S1 fun u H2 c2 d2 q2 S2 e2 dv2 => ?_⟩
      obtain ⟨kb, rfl, p⟩ := q2
      cases dv2
      exact ⟨_, bs, kb, rfl, rfl, .inl (.inl (of_mask (e2 _ _ a1)).2), k _ H2 c2 _ p S2 (e1.trans e2) (.int _)⟩
theorem se_indexB {o e : Expr} {apos : Pos} (h : SE F X Γ c o fun c1 d1 => ∃ bs : List Bool, d1 = .lst (bs.map Dt.bl) ∧ SE F X Γ c1 e fun c2 d2 => ∃ k : Bool, d2 = .bl k ∧ k ∈ bs ∧ P c2 (.int (bs.idxOf k : Nat)))
    (hb : attributeBase o "index" X.env (eval o X.env) = eval o X.env := by rfl)
    (hall : (((backTo pos (starEach [e] X.env)).all (fun x => !x.1)) && ((backToKw pos (keywordEach [] X.env)).all (fun x => x.1.isSome)) && decide ([e].length + ([] : List Keyword).length + (if ([] : List Keyword).isEmpty = true then 0 else 1) < 30)) = true := by rfl)
    (hline : (apos.endLine == pos.line) = true := by rfl) (hst : starEach [e] X.env = (false, eval e X.env) :: starEach [] X.env := by rfl) (hpl : (backTo pos (starEach [] X.env)).any (·.1) = false := by rfl) : SE F X Γ c (.Call (.Attribute o "index" apos) [e] [] pos) P :=
  SE.of (pe_bm PySem.F.plainAttrs_list PySem.F.slot_list_index PySem.F.type_list_index mt_bindex pE (pa_cons pE pa_nil hst) hb hall hline hst hpl) fun σ H Q S k => h σ H _ S fun v H1 c1 d1 q S1 e1 dv1 => by
    obtain ⟨bs, rfl, q⟩ := q
    cases dv1 with
    | lst a1 t1 =>
      obtain rfl := dvs_bls t1
      refine ⟨Or.inl ⟨rfl, _, .inl (.inl (of_mask a1).2)⟩, q σ H1 _ S1 fun u H2 c2 d2 q2 S2 e2 dv2 => ?_⟩
      obtain ⟨kb, rfl, hk, p⟩ := q2
      cases dv2
      exact ⟨_, bs, kb, rfl, rfl, .inl (.inl (of_mask (e2 _ _ a1)).2), hk, k _ H2 c2 _ p S2 (e1.trans e2) (.int _)⟩
theorem cv_intB {b : Bool} (p : P c (.int (if b then 1 else 0))) : ClV F X Γ c (.type "int") [.bl b] P :=
  ClV.of call_int1 fun σ H vs Q S dv k => by
    cases dv with
    | cons h1 t =>
      cases t
      cases h1
      exact .inr ⟨b, rfl, k _ H c _ p S (Ex.refl _) (.int _)⟩
end
end D
end
section
set_option Elab.async false
set_option linter.all false
set_option maxRecDepth 100000
set_option maxHeartbeats 4000000
namespace XbA
open PySem PySem.W PySem.Calls PyProof.Rows PySem.HandSPX
open Builtin Builtin.ObjectAttr
section
variable {prog : Program} {w : World} {A : Around} {R : Result → Shared → Prop} {hp : Heap} {g : Array GenState} {d : Drawn} {t : Nat} {os : OsState}
/-- the first field of such an exception -/
theorem first_field {K : W.Frag} {name : Str} {tk : Tok} {v : Value} {x C : Addr} {fv : Array Value} {cd : ClassData} (X : K.In hp) (hx : hp.get? x = some { cls := .ref C, data := .fields fv }) (hcd : W.clsIn K C = some cd)
    (hpass : refuseLoop (.ref x) "__setattr__" cd.mro = pure ()) (hob : cd.mro.contains (.type "object") = true) (hh : cd.hasDict = true) (ha : W.findIn K (.ref C) name = some none)
    (hq : ∀ h' tk' dx, (∀ b o, b ≠ x → hp.get? b = some o → h'.get? b = some o) → hp.objs.size ≤ dx → dx ≠ x → h'.get? x = some { cls := .ref C, dict := some dx, data := .fields fv } → h'.Ns1 dx (fun y => if y = name then some v else none) → R (.ok (.ret .none)) ⟨h', g, d, tk', os⟩) :
    codeAny (model prog w) A (.call (.builtin "object.__setattr__") ⟨[.ref x, .str name tk, v], []⟩) R ⟨hp, g, d, t, os⟩ := by
  have ne : cd.mro.isEmpty = false := by
    cases e : cd.mro with
    | nil => rw [e] at hob; cases hob
    | cons _ _ => rfl
  have I : W.InstAt hp x { cls := .ref C, data := .fields fv } C none := ⟨hx, rfl, rfl, trivial⟩
  have hxs : x ≠ hp.objs.size := Nat.ne_of_lt (Heap.lt_size hx)
  have sub : W.Looks (model prog w) hp (isInstance (.ref x) (.type "object")) true := by
    refine I.type.andThen (W.looks_mroIn X ?_)
    unfold W.mroIn
    rw [hcd, Option.bind_some, if_neg (by rw [ne]; decide), hob]
  have hmr : W.Looks (model prog w) hp (mroOf (.ref C)) cd.mro := (W.looks_clsIn X hcd).andThen .now
  have hcls : W.Looks (model prog w) hp (classData C) cd := W.looks_clsIn X hcd
  have L3 : W.Looks (model prog w) hp (storeTaker? none) none := .now
  refine codeAny_call_builtin PySem.F.store_object.slot.plain PySem.F.store_object.entry ?_
  refine @W.check_slot (model prog w) _ _ ⟨hp, g, d, t, os⟩ "object.__setattr__" "object" "__setattr__" (.ref x) [.str name tk, v] [] _ PySem.F.store_object.kind PySem.F.store_object.split sub (PySem.F.store_object.args (.ref x) (.str name tk) v) ?_
  rw [W.osa_eq, refuse_eq]
  refine wpAny_bind (wpAny_bind (I.type.at (wpAny_bind (hmr.at ?_))))
  rw [hpass]
  refine wpAny_pure (wpAny_bind (I.type.at (wpAny_bind ((W.looks_findIn X ha).at (wpAny_bind (L3.at ?_))))))
  show wpAny _ _ (storeInOwnDict (.ref x) (.ref C) (.str name tk) name v false) _ _ _
  obtain ⟨nm, bs, mro, ns, qn, hd, sn, sb, ab, col, del⟩ := cd
  obtain rfl : hd = true := hh
  unfold storeInOwnDict ownDictForStores
  repeat (first | with_reducible refine store_in_new ?_ ?_ | with_reducible refine wpAny_loadPart_at hx ?_ | with_reducible refine hcls.at ?_ | wp_step)
  · refine ⟨_, #[], _, (Heap.get?_update_ne _ _ _ _ hxs.symm).trans (Heap.get?_push_at rfl rfl), rfl, fun e he => ?_, fun _ => rfl⟩
    exact absurd he (by simp)
  · intro h' tk' hn' hs
    refine hq h' tk' hp.objs.size (fun b o hb ho => (hs.2 b (Nat.ne_of_lt (Heap.lt_size ho))).trans ?_) (Nat.le_refl _) hxs.symm ?_ hn'
    · exact (Heap.get?_update_ne _ _ _ _ hb).trans (Heap.get?_push_of_some _ ho)
    · exact (hs.2 x hxs).trans (Heap.get?_update_self _ (Heap.get?_push_of_some _ hx) rfl)
end
end XbA
namespace L2N
open PySem PySem.Spec PyProof.Rows L2
end L2N
end
section
set_option Elab.async false
set_option linter.all false
set_option maxRecDepth 100000
set_option maxHeartbeats 4000000
namespace L2N
open PySem PySem.Spec PyProof.Rows L2
/-- an exception has come down into the frame of X that catches it; the heap is h -/
structure Down (X : Cx) (pins : List (Addr × Obj)) (σ : St) (H : Hp) (sI s : Shared) (B : Heap) (a : Addr) (cls : Value) (d : Option Addr) (h : Heap) : Prop where
  J : Inv X pins σ H sI
  nb : ∀ b o, sI.heap.get? b = some o → b ∉ frs X.stack → B.get? b = some o
  up : sI.heap.UpToSlots h
  fl : HandSPX.FlyingZ B (X.env :: X.outer) a (Zn cls d) h
  na : H a = none
  os : s.os = sI.os
  ag : AllBare s.gens
section
variable {X : Cx} {pins : List (Addr × Obj)} {σ : St} {H : Hp} {sI s : Shared} {B h h' : Heap} {a : Addr} {cls : Value} {d : Option Addr}
theorem Down.keep (Dn : Down X pins σ H sI s B a cls d h) (k : ∀ b o, h.get? b = some o → h'.get? b = some o) : Down X pins σ H sI s B a cls d h' :=
  ⟨Dn.J, Dn.nb, Dn.up.trans (Heap.UpToSlots.of_keeps k), flying_keeps Dn.fl k, Dn.na, Dn.os, Dn.ag⟩
end
end L2N
end
section
set_option Elab.async false
set_option linter.all false
set_option maxRecDepth 100000
set_option maxHeartbeats 4000000
namespace L2N
open PySem PySem.Spec PyProof.Rows L2 LamX
/-- the function object at f, called at a later state, does what tl tells -/
structure LamV (P : Program) (w : World) (K : PySem.W.Frag) (mg : Str → Option Value) (base : Heap) (k : Nat) (outer : List Env) (H0 : Hp) (h0 : Heap) (f : Addr) (tl : XK → Hp → VK → Prop) : Prop where
  run : ∀ (A : Around) (out : List Env) (s1 : Shared) (HZ : Hp) (Q : VK) (E : XK), Room k A → Env0 P w K mg base A out s1 HZ → Un (frs outer) [] H0 HZ h0 s1.heap → tl E HZ Q →
    codeAny (model P w) A (.call (.ref f) ⟨[], []⟩) (CR (L2N.CX P w) out P w HZ s1 Q E) s1
  obj : ∃ (oc : Value) (od : Option Addr) (fd : FuncData) (sl : Array (Option Value)), h0.get? f = some ⟨oc, od, .func fd, sl⟩
  free : H0 f = none
  nofr : f ∉ frs outer
section
variable {P : Program} {w : World} {K : PySem.W.Frag} {mg : Str → Option Value} {base : Heap} {k j : Nat} {outer : List Env} {H0 : Hp} {h0 : Heap} {f : Addr} {tl : XK → Hp → VK → Prop}
theorem LamV.mono (V : LamV P w K mg base j outer H0 h0 f tl) (h : j ≤ k) : LamV P w K mg base k outer H0 h0 f tl :=
  ⟨fun A out s1 HZ Q E hr => V.run A out s1 HZ Q E (hr.mono h), V.obj, V.free, V.nofr⟩
end
end L2N
end
section
set_option Elab.async false
set_option linter.all false
set_option maxRecDepth 100000
set_option maxHeartbeats 4000000
namespace L2N
open PySem PySem.Spec PyProof.Rows L2 LamX
end L2N
namespace D
open PySem L2 PyProof.Rows LamX
open L2N (LamV Zn)
section
variable {F : Fm} {X : Cx} {Γ Γ' : List Sl} {c c1 : Cells} {Pp : Cells → Dt → Prop} {pos : Pos} {σ σ' : L2.St} {H H1 : Hp}
/-- the slots of another frame, which are still there -/
theorem SI.slots (S : SI X.K F Γ c σ H) (S2 : SI X.K F Γ' c1 σ' H1) (e : Ex (Vw F c H) (Vw F c1 H1)) : SI X.K F Γ c1 σ H1 :=
  ⟨S.len, S2.nd, fun i d hi => by
    obtain ⟨v, h1, h2⟩ := S.sl i d hi
    exact ⟨v, h1, h2.mono e⟩, S2.ce, S2.keep, S2.fr, S2.live, S2.wl⟩
end
end D
end
section
set_option Elab.async false
set_option linter.all false
set_option maxRecDepth 100000
set_option maxHeartbeats 4000000
namespace L2N
open PySem PySem.Spec PyProof.Rows L2
end L2N
namespace L2H
open PySem PySem.Spec PyProof.Rows L2
end L2H
namespace D
open PySem L2 PyProof.Rows LamX
open L2H (HotC RoomH cxH Hot1)
open L2N (LamV Zn)
end D
end
section
set_option Elab.async false
set_option linter.all false
set_option maxRecDepth 100000
set_option maxHeartbeats 4000000
namespace D
open PySem L2 PyProof.Rows
def spI2 (K : PySem.W.Frag) (C : Addr) (f1 f2 : Str) (pre : Dt → Dt → Prop) : Sp := fun vs H Q _ => ∃ (a : Addr) (v1 v2 : V) (M : List Addr) (d1 d2 : Dt), vs = [.ref a, v1, v2] ∧ H a = some (exo a C none) ∧ DV K (mask M H) v1 d1 ∧ DV K (mask M H) v2 d2 ∧ pre d1 d2 ∧
  ∀ dx, H dx = none → dx ≠ a → Q .non (upd (upd (upd H dx (exd dx [(f1, v1)])) a (exo a C (some dx))) dx (exd dx [(f2, v2), (f1, v1)]))
end D
end
section
set_option Elab.async false
set_option linter.all false
set_option maxRecDepth 100000
set_option maxHeartbeats 4000000
namespace XkA
open PySem PySem.W PySem.Calls PyProof.Rows PySem.HandSPX PySem.F
/-- who makes it -/
structure NewF (B newId : String) (bm : List Value) : Prop where
  ends : newId.endsWith ".__new__" = true
  owner : newId.dropRight 8 = B
  entry : entryFor table newId = some Builtin.«BaseException.__new__»
  canon : Manifest.canonical newId = Manifest.canonical "BaseException.__new__"
  quiet : newId.startsWith "lifetime." = false
  kind : builtinKind newId = some .builtinFn
  split : splitId newId = some (B, "__new__")
  row : Manifest.signature? newId = some ⟨.any, B, B, .cls, [⟨"args", .varPos, false⟩, ⟨"kwargs", .varKw, false⟩]⟩
  star : (B != "*") = true
  hB : bm.contains (.type B) = true
  hA : bm.contains (.type "AttributeError") = false
  hN : bm.contains (.type "NameError") = false
theorem NewF.of {B newId initId : String} {bm0 bm : List Value} (F : ExcBaseFacts B newId initId bm0) (h1 : bm.contains (.type B) = true) (h2 : bm.contains (.type "AttributeError") = false) (h3 : bm.contains (.type "NameError") = false) : NewF B newId bm :=
  ⟨F.ends, F.owner, F.entry, F.canon, F.quiet, F.newKind, F.newSplit, F.newRow, F.noStar, h1, h2, h3⟩
/-- who fills it -/
structure IniF (B initId : String) (bm : List Value) : Prop where
  slot : Slot B "__init__" initId
  entry : entryFor table initId = some Builtin.«BaseException.__init__»
  split : splitId initId = some (B, "__init__")
  kind : builtinKind initId = some .slot
  row : Manifest.signature? initId = some ⟨.positional, "*", B, .self, [⟨"args", .varPos, false⟩]⟩
  star : (B != "*") = true
  hB : bm.contains (.type B) = true
theorem IniF.of {B newId initId : String} {bm0 bm : List Value} (F : ExcBaseFacts B newId initId bm0) (h1 : bm.contains (.type B) = true) : IniF B initId bm := ⟨F.init, F.initEntry, F.initSplit, F.initKind, F.initRow, F.noStar, h1⟩
section
variable {M : Model} {A : Around} {E : Value → Shared → Prop} {h : Heap} {g : Array GenState} {d : Drawn} {t : Nat} {os : OsState} {prog : Program} {w : World} {R : Result → Shared → Prop}
variable {nm q : Str} {C N : Addr} {bs bm : List Value} {hd : Bool} {sn : List Str} {sub : List Value} {ab : Bool} {col : Option Bool} {dd : Option Addr} {k0 k1 k2 k3 k5 : Option Value} {B newId initId : String}
theorem tail_has {V : Value} (x : bm.contains V = true) : (Value.ref C :: bm).contains V = true := by rw [List.contains_cons, x, Bool.or_true]
theorem tail_not {X : String} (x : bm.contains (.type X) = false) : (Value.ref C :: bm).contains (.type X) = false := by rw [List.contains_cons, x] <;> rfl
theorem ck_new (F : NewF B newId bm) {rest : List Value} {Q : Unit → Shared → Prop} (hC : h.get? C = some (excClassObj nm q C N bs bm hd sn sub ab col dd k0 k1 k2 k3 k5 newId)) (z : Q () ⟨h, g, d, t, os⟩) : wpAny M A (checkBuiltinCall newId ⟨.ref C :: rest, []⟩) Q E ⟨h, g, d, t, os⟩ := by
  have inB := tail_has (C := C) F.hB
  have st := F.star
  simp only [checkBuiltinCall, F.kind, F.split, F.row]
  repeat (first
    | refine wpAny_loadPart_at hC ?_
    | (refine wpAny_isSubtype_exc hC ?_; rw [inB])
    | refine wpAny_staticBase_exc hC ?_
    | refine wpAny_madeBy_exc hC ?_
    | simp only [bne_self_eq_false, Bool.false_eq_true, if_false]
    | wp_step)
  exact z
theorem ck_ini (F : IniF B initId bm) {e : Addr} {oe : Obj} {rest : List Value} {Q : Unit → Shared → Prop} (hC : h.get? C = some (excClassObj nm q C N bs bm hd sn sub ab col dd k0 k1 k2 k3 k5 newId)) (he : h.get? e = some oe) (ec : oe.cls = .ref C) (z : Q () ⟨h, g, d, t, os⟩) :
    wpAny M A (checkBuiltinCall initId ⟨.ref e :: rest, []⟩) Q E ⟨h, g, d, t, os⟩ := by
  have inB := tail_has (C := C) F.hB
  have st := F.star
  simp only [checkBuiltinCall, F.kind, F.split, F.row]
  repeat (first
    | (with_reducible refine wpAny_loadPart_at he ?_; rw [ec])
    | with_reducible refine wpAny_loadPart_at hC ?_
    | (with_reducible refine wpAny_isSubtype_exc hC ?_; rw [inB])
    | wp_step)
  refine wpAny_onRaise ?_
  have e0 : ∀ (a b : String) (n : Nat), Bind.check ⟨.positional, "*", B, .self, [⟨"args", .varPos, false⟩]⟩ a b n (({ pos := Value.ref e :: rest } : Args).kw.map fun x => x.fst) = pure () := fun a b n => check_star_args _ _ _ _ _ _
  rw [e0]
  exact wpAny_pure z
theorem mk_new (F : NewF B newId bm) {rest : List Value} (hC : h.get? C = some (excClassObj nm q C N bs bm hd sn sub ab col dd k0 k1 k2 k3 k5 newId))
    (z : R (.ok (.ret (.ref (h.objs.size + 1)))) ⟨(h.push (W.kdv_tup rest)).push (excO C h.objs.size), g, d, t, os⟩) (few : rest.length ≤ sizeLine) : codeAny (model prog w) A (.builtin newId ⟨.ref C :: rest, []⟩) R ⟨h, g, d, t, os⟩ := by
  have en := F.ends
  have inB := tail_has (C := C) F.hB
  have noA := tail_not (C := C) F.hA
  have noN := tail_not (C := C) F.hN
  refine codeAny_builtinAt F.entry ?_
  unfold Builtin.«BaseException.__new__»
  refine PySem.wpAt_bind ?_
  show PySem.wpAt _ _ _ (stack >>= _) _ _ _
  refine PySem.wpAt_bind (PySem.wpAt_stack fun p below => PySem.wpAt_of_wpAny ?_)
  wp_walk
  refine PySem.wpAt_of_wpAny ?_
  rw [F.owner]
  repeat (first
    | with_reducible refine wpAny_madeHere_exc F.canon hC ?_
    | with_reducible refine wpAny_loadPart_at hC ?_
    | (with_reducible refine wpAny_isSubtype_exc hC ?_; first | rw [inB] | rw [noA] | rw [noN])
    | wp_step)
  show R _ _
  rw [Heap.size_push]
  exact z
theorem tc_new (F : NewF B newId bm) {rest : List Value} {fI : Addr} {Q : Fin → Shared → Prop} (hC : h.get? C = some (excClassObj nm q C N bs bm hd sn sub ab col dd k0 k1 k2 k3 k5 newId))
    (li : W.Looks (model prog w) h (typeLookup (.ref C) "__init__") (some (.ref fI))) (lb : ∀ self, W.Looks (model prog w) h (bindSpecial (.ref fI) self) (.ref fI, [self])) (few : rest.length ≤ sizeLine)
    (z : codeAny (model prog w) A (.call (.ref fI) ⟨.ref (h.objs.size + 1) :: rest, []⟩) (fun r s' => match r with | .ok (.ret v) => v = .none ∧ Q (.done (.ret (.ref (h.objs.size + 1)))) s' | .ok _ => False | .error e => E e s') ⟨(h.push (W.kdv_tup rest)).push (excO C h.objs.size), g, d, t, os⟩) :
    wpAny (model prog w) A (Builtin.«type.__call__» ⟨.ref C :: rest, []⟩) Q E ⟨h, g, d, t, os⟩ := by
  repeat (first
    | with_reducible refine wpAny_loadPart_at hC ?_
    | with_reducible refine wpAny_madeBy_exc hC ?_
    | wp_step)
  refine codeAny_call_builtin_code (Code.quiet_builtin _ F.quiet) (ck_new F hC (mk_new F hC ?_ few))
  show wpAny _ _ _ _ _ _
  have up : ∀ b o, h.get? b = some o → ((h.push (W.kdv_tup rest)).push (excO C h.objs.size)).get? b = some o := fun b o e => Heap.get?_push_of_some _ (Heap.get?_push_of_some _ e)
  have C1 := up _ _ hC
  have e1 : ((h.push (W.kdv_tup rest)).push (excO C h.objs.size)).get? (h.objs.size + 1) = some (excO C h.objs.size) := by heap_get
  have inC : (Value.ref C :: bm).contains (.ref C) = true := by simp
  have l1 := li.keeps up
  have l2 := (lb (.ref (h.objs.size + 1))).keeps up
  unfold isInstance
  repeat (first
    | with_reducible refine wpAny_loadPart_at e1 ?_
    | (with_reducible refine wpAny_isSubtype_exc C1 ?_; rw [inC])
    | wp_step)
  show wpAny _ _ (typeLookup (.ref C) _) _ _ _
  refine l1.at (wpAny_holding (wpAny_bind (l2.at (wpAny_bind (wpAny_call (codeAny_mono z fun r s' y => ?_))))))
  rcases r with e | (v | _ | _ | _) <;> first | exact y | exact y.elim | skip
  obtain ⟨rfl, y⟩ := y
  first
    | exact wpAny_pure (wpAny_pure y)
    | (wp_walk; exact y)
theorem call_new (F : NewF B newId bm) {rest : List Value} {fI : Addr} (hC : h.get? C = some (excClassObj nm q C N bs bm hd sn sub ab col dd k0 k1 k2 k3 k5 newId))
    (li : W.Looks (model prog w) h (typeLookup (.ref C) "__init__") (some (.ref fI))) (lb : ∀ self, W.Looks (model prog w) h (bindSpecial (.ref fI) self) (.ref fI, [self])) (few : rest.length ≤ sizeLine)
    (z : codeAny (model prog w) (A.under (.builtin "type.__call__" ⟨.ref C :: rest, []⟩)) (.call (.ref fI) ⟨.ref (h.objs.size + 1) :: rest, []⟩) (W.InitBack (h.objs.size + 1) R) ⟨(h.push (W.kdv_tup rest)).push (excO C h.objs.size), g, d, t, os⟩) :
    codeAny (model prog w) A (.call (.ref C) ⟨rest, []⟩) R ⟨h, g, d, t, os⟩ := by
  have f1 := tc_lookup
  have f2 := tc_bind (.ref C)
  have ty : (⟨h, g, d, t, os⟩ : Shared).TypeIs (.ref C) "type" := ⟨_, hC, rfl⟩
  refine codeAny_of_tree ?_
  show wpAny _ _ (callAny (.ref C) _) _ _ _
  repeat (any_goals (first
    | assumption
    | with_reducible refine wpAny_loadPart_at hC ?_
    | wp_step))
  refine ⟨rfl, codeAny_call_builtin_at (Code.quiet_builtin _ (by decide +kernel)) entry_typeCall (wpAny_check_type_call_sub hC (tc_new F hC li lb few (codeAny_mono z fun r s' y => ?_)))⟩
  rcases r with e | (v | _ | _ | _) <;> exact y
theorem ini_k (F : IniF B initId bm) {e t0 : Addr} {rest : List Value} (hC : h.get? C = some (excClassObj nm q C N bs bm hd sn sub ab col dd k0 k1 k2 k3 k5 newId)) (he : h.get? e = some (excO C t0)) (few : rest.length ≤ sizeLine)
    (z : ∀ h' t1, (∀ b o, b ≠ e → h.get? b = some o → h'.get? b = some o) → h'.get? e = some (excO C t1) → R (.ok (.ret .none)) ⟨h', g, d, t, os⟩) : codeAny (model prog w) A (.call (.builtin initId) ⟨.ref e :: rest, []⟩) R ⟨h, g, d, t, os⟩ := by
  refine codeAny_call_builtin F.slot.plain F.entry (ck_ini F hC he rfl ?_)
  wp_walk
  refine z _ h.objs.size (fun b o hb ho => ?_) ?_
  · exact (Heap.get?_update_other _ _ (Ne.symm hb)).trans (Heap.get?_push_of_some _ ho)
  · exact (Heap.get?_update_self _ (Heap.get?_push_of_some _ he) rfl).trans rfl
end
abbrev mroK : List Value := [.type "KeyError", .type "LookupError", .type "Exception", .type "BaseException", .type "object"]
theorem newK : NewF "LookupError" "LookupError.__new__" mroK := .of PySem.F.excBase_LookupError (by decide) (by decide) (by decide)
theorem iniK : IniF "KeyError" "KeyError.__init__" mroK := ⟨Slot.of (n := "__init__") (owner := "KeyError") (by rw [typeLookup_type, builtinLookup_eq_fast] <;> kernel_rfl) (by decide +kernel) (by decide +kernel) (by decide +kernel) (by first | exact .inl (by decide +kernel) | exact .inr (by decide +kernel)) (by rw [isSubtype_type] <;> kernel_rfl),
  entryFor_alias (id' := "BaseException.__init__") (by rw [fastTable_eq_tree] <;> kernel_rfl) (by first | rfl | decide +kernel) (by decide +kernel) (by rw [fastTable_eq_tree] <;> kernel_rfl), by kernel_rfl, by kernel_rfl, by kernel_rfl, by decide +kernel, by decide⟩
theorem passK (self : Value) : refuseLoop self "__setattr__" mroK = pure () := by kernel_rfl
theorem vK {K : PySem.W.Frag} : PySem.W.findCls K (.type "KeyError") (.type "type") "__init__" = some (.val (.builtin "KeyError.__init__")) := by first | rfl | decide +kernel
end XkA
end
section
set_option Elab.async false
set_option linter.all false
set_option maxRecDepth 100000
set_option maxHeartbeats 4000000
namespace L2N
open PySem PySem.Spec PyProof.Rows L2
/-- what the written part says of the class -/
structure OexK (K : PySem.W.Frag) (C : Addr) (Bn newId B initId : String) (bmB : List Value) : Prop where
  new : XkA.NewF Bn newId bmB
  ini : XkA.IniF B initId bmB
  cls : ∃ nm q N bs bm sn sub ab col dd k0 k1 k2 k3 k5, K.lookup C = some (excClassObj nm q C N bs bm true sn sub ab col dd k0 k1 k2 k3 k5 newId) ∧ bm = bmB
  pass : ∀ self, refuseLoop self "__setattr__" bmB = pure ()
  ob : bmB.contains (.type "object") = true
  sa : PySem.W.findIn K (.ref C) "__setattr__" = some (some (.builtin "object.__setattr__"))
  exC : PySem.W.subIn K (.ref C) (.type "BaseException") = some true
  tyC : PySem.W.typeIn K (.ref C) = some (.type "type")
  kC : PySem.W.keepIn K (.ref C) = true
section
variable {X : Cx} {pins : List (Addr × Obj)} {σ : St} {H : Hp} {s : Shared} {a C dx : Addr} {f : Str} {y : V} {u : Value} {E : Value → Shared → Prop} {A : Around} {Bn newId B initId : String} {bmB : List Value}
/-- self.f = y, the first one -/
theorem ostK {Q : Unit → Shared → Prop} (T : OexK X.K C Bn newId B initId bmB) (I : Inv X pins σ H s) (e : H a = some (exo a C none)) (hno : PySem.W.findIn X.K (.ref C) f = some none) (ry : RelV y u)
    (h : ∀ dx s', H dx = none → dx ≠ a → Inv X pins σ (upd (upd H dx (exd dx [(f, y)])) a (exo a C (some dx))) s' → Q () s') : wpAny (model X.prog X.w) A (setAttr (.ref a) f u) Q E s := by
  obtain ⟨nm, q, N, bs, bm, sn, sub, ab, col, dd, k0, k1, k2, k3, k5, hC, rfl⟩ := T.cls
  have hcl : PySem.W.clsIn X.K C = some { name := nm, bases := bs, mro := .ref C :: bm, ns := N, qualname := q, hasDict := true, slotNames := sn, subclasses := sub, abstract := ab, collection := col, hasDel := false } := by
    unfold PySem.W.clsIn
    rw [hC] <;> rfl
  obtain ⟨t1, ho⟩ := exo_at I.hok e
  obtain ⟨hp, g, d, t, os⟩ := s
  have ne_a : ∀ {b : Addr}, H b = none → b ≠ a := fun {b} n z => by rw [z, e] at n; cases n
  refine PySem.W.set_plain I.kIn (ox := { cls := .ref C, dict := none, data := .fields #[.ref t1, .none, .none, .none, .bool false, .none] }) (od := none) ⟨ho, rfl, rfl, trivial⟩ T.sa ?_
  refine XbA.first_field I.kIn ho hcl (by show refuseLoop _ _ (.ref C :: bm) = _; rw [refuseLoop_ref]; exact T.pass _) (by show (Value.ref C :: bm).contains _ = true; rw [List.contains_cons, T.ob, Bool.or_true]) rfl hno fun h' tk' dx k dn dne hx hn => ?_
  have hnd : H dx = none := I.hok.fresh dn
  have ne_d : ∀ {b : Addr} {o : Obj}, hp.get? b = some o → b ≠ dx := fun {b o} q => Nat.ne_of_lt (Nat.lt_of_lt_of_le (Heap.lt_size q) dn)
  refine h dx _ hnd dne (I.un (t' := tk') ⟨fun b o q n _ _ => k b o (ne_a n) q, fun b o q n _ _ => ⟨o.slots, k b o (ne_a n) q⟩, fun b o q n _ => by rw [upd_ne (ne_a n), upd_ne (ne_d q)]; exact n, fun b o q _ => ?_, fun b xs q => ?_, fun b o v q => ?_, fun b ps q => ⟨#[], ?_⟩⟩ fun b o q => ?_)
  · by_cases hb : b = a
    · exact ⟨_, by rw [hb]; exact hx⟩
    · exact ⟨o, k b o hb q⟩
  · rw [upd_ne (at_ne e q exo_tup), upd_ne (ne_of_none q hnd)]; exact q
  · rw [upd_ne (at_ne e q exo_frz), upd_ne (ne_of_none q hnd)]; exact q
  · rw [upd_ne (at_ne e q exo_tbl), upd_ne (ne_of_none q hnd), q]; simp
  · by_cases hb : b = a
    · subst hb
      rw [upd_same] at q
      cases q
      exact exo_ok hx
    rw [upd_ne hb] at q
    by_cases hd : b = dx
    · subst hd
      rw [upd_same] at q
      cases q
      exact exd_ok hn (relO_put (fs := []) ry fun _ => True.intro)
    rw [upd_ne hd] at q
    refine (I.hok b o q).stay (fun c v hc z => k c v ?_ z) (fun c hc => ?_) fun c xs hc => ?_
    · rcases hc with hc | hc
      · rw [hc]; exact hb
      · exact at_ne e hc exo_own
    · rw [upd_ne (at_ne e hc exo_own), upd_ne (ne_of_none hc hnd)]; exact hc
    · rw [upd_ne (at_ne e hc exo_tup), upd_ne (ne_of_none hc hnd)]; exact hc
/-- B.__init__(self, ..) -/
theorem oinitK {us : List Value} {Q : Value → Shared → Prop} (T : OexK X.K C Bn newId B initId bmB) (I : Inv X pins σ H s) (e : H a = some (exo a C none)) (hl : us.length ≤ sizeLine) (h : ∀ s', Inv X pins σ H s' → Q .none s') :
    wpAny (model X.prog X.w) A (call (.builtin initId) (.ref a :: us)) Q E s := by
  obtain ⟨nm, q, N, bs, bm, sn, sub, ab, col, dd, k0, k1, k2, k3, k5, hC, rfl⟩ := T.cls
  obtain ⟨t1, ho⟩ := exo_at I.hok e
  obtain ⟨hp, g, d, t, os⟩ := s
  refine wpAny_call (XkA.ini_k T.ini (I.kIn _ _ hC) ho hl fun h' t2 k hx => ?_)
  have eu : upd H a (exo a C none) = H := funext fun b => by
    by_cases hb : b = a
    · rw [hb, upd_same, e]
    · rw [upd_ne hb]
  have J := I.write (t' := t) (x := a) (e := a) (o := exo a C none) (by rw [e]; exact True.intro) (.inl rfl) k ⟨_, hx⟩ (exo_ok hx)
  rw [eu] at J
  exact h _ J
end
def tIniK (K : PySem.W.Frag) (Bn newId B initId : String) (bmB : List Value) (ta : TA) : TE := fun σ H Q => ta σ H fun vs H1 => ∃ (a C : Addr) (ws : List V), vs = .ref a :: ws ∧ ws.length ≤ 1000 ∧ OexK K C Bn newId B initId bmB ∧ H1 a = some (exo a C none) ∧ Q .non H1
def tOstK (K : PySem.W.Frag) (Bn newId B initId : String) (bmB : List Value) (f : Str) (to te : TE) : TS := fun D σ H => te σ H fun y H1 => to σ H1 fun x H2 => ∃ a C : Addr, x = .ref a ∧ OexK K C Bn newId B initId bmB ∧ PySem.W.findIn K (.ref C) f = some none ∧
  H2 a = some (exo a C none) ∧ ∀ dx, H2 dx = none → dx ≠ a → D.nx σ (upd (upd H2 dx (exd dx [(f, y)])) a (exo a C (some dx)))
section
variable {X : Cx} {o e : Expr} {es : List Expr} {to te : TE} {ta : TA} {f : Str} {p p' p1 p2 pos : Pos} {Bn newId B initId : String} {bmB : List Value}
theorem pe_initK {pl : Sem Bool} {x : Str} (hg : Gl X x) (hm : X.mg x = none) (hv : bootBuiltins x = some (.type B)) (ty : typeOf (.type B) = pure (.type "type")) (nst : Manifest.isStub B = false) (hh : PySem.W.handedIn (.builtin initId) = true) (vV : PySem.W.findCls X.K (.type B) (.type "type") "__init__" = some (.val (.builtin initId))) (ha : PA X (e :: es) ta)
    (hn : x ≠ "__name__" := by decide) (hdb : (x == ("__debug__" : Str)) = false := by decide)
    (hc : eval (.Call (.Attribute (.Name x p1) "__init__" p2) (e :: es) [] pos) X.env = (do
      let ov ← eval (.Name x p1) X.env
      standAt p2.atName
      let (f, first) ← holding [ov] (getMethod ov "__init__" pl)
      callWith pos f first (backTo pos (starEach (e :: es) X.env)) (backToKw pos (keywordEach [] X.env))) := by rfl)
    (he : starEach (e :: es) X.env = (false, eval e X.env) :: starEach es X.env := by rfl) (hpl : (backTo pos (starEach es X.env)).any (·.1) = false := by rfl) :
    PE X (.Call (.Attribute (.Name x p1) "__init__" p2) (e :: es) [] pos) (tIniK X.K Bn newId B initId bmB ta) := ⟨fun pins s σ H Q I h => by
  obtain ⟨m, fr⟩ := I.fr
  refine PySem.W.methodCall_KW (ld_blt I hg hm hv ?_ hn hdb) hc
  refine PySem.W.method_type fr I.ok.mod.kin ty nst vV hh ?_
  show wpAny _ _ (callWith pos (Value.builtin initId) [] (backTo pos (starEach (e :: es) X.env)) []) _ _ _
  refine PyProof.Rows.callWith_method1 (thn (ha.run pos pins _ σ H _ (I.tok _) h) fun us s1 ⟨vs, H1, I1, r1, a, C, ws, ev, hl, T, ea, q⟩ => ?_) he hpl
  subst ev
  cases r1 with
  | @cons _ u0 _ ur ra rw' =>
    obtain rfl : u0 = Value.ref a := ra
    exact oinitK T I1 ea (by rw [← Paired.length rw', sizeLine_eq]; omega) fun s' J => ⟨.non, H1, J, rfl, q⟩⟩
theorem ps_ostK (ho : PE X o to) (he : PE X e te) (hs : swapsWith e (some (.Attribute o f p')) pos.line X.env = pure false := by rfl) : PS X (.Assign [.Attribute o f p'] e pos) (tOstK X.K Bn newId B initId bmB f to te) := ⟨fun pins s σ H D I h => by
  refine plainObj_wpAny_Assign_Attribute (thn (he.run pins s σ H _ I h) fun v s1 ⟨y, H1, I1, r1, q1⟩ => thn (ho.run pins s1 σ H1 _ I1 q1) fun u s2 ⟨x, H2, I2, r2, a, C, ex, T, hno, ea, q⟩ => ?_) hs
  subst ex
  obtain rfl : u = Value.ref a := r2
  exact ostK T I2 ea hno r1 fun dx s' n ne J => ⟨σ, _, J, q dx n ne⟩⟩
end
end L2N
namespace D
open PySem L2 PyProof.Rows
end D
end
section
set_option Elab.async false
set_option linter.all false
set_option maxRecDepth 100000
set_option maxHeartbeats 4000000
namespace XkA
open PySem PySem.W PySem.Calls PyProof.Rows PySem.HandSPX PySem.F
section
variable {M : Model} {A : Around} {E : Value → Shared → Prop} {h : Heap} {g : Array GenState} {d : Drawn} {t : Nat} {os : OsState} {prog : Program} {w : World} {R : Result → Shared → Prop}
variable {nm q : Str} {C N : Addr} {bs bm : List Value} {hd : Bool} {sn : List Str} {sub : List Value} {ab : Bool} {col : Option Bool} {dd : Option Addr} {k0 k1 k2 k3 k5 : Option Value} {B newId initId : String}
theorem ck_newW (F : NewF B newId bm) {rest : List Value} {kw : List (Str × Value)} {Q : Unit → Shared → Prop} (hC : h.get? C = some (excClassObj nm q C N bs bm hd sn sub ab col dd k0 k1 k2 k3 k5 newId)) (z : Q () ⟨h, g, d, t, os⟩) : wpAny M A (checkBuiltinCall newId ⟨.ref C :: rest, kw⟩) Q E ⟨h, g, d, t, os⟩ := by
  have inB := tail_has (C := C) F.hB
  have st := F.star
  simp only [checkBuiltinCall, F.kind, F.split, F.row]
  repeat (first
    | refine wpAny_loadPart_at hC ?_
    | (refine wpAny_isSubtype_exc hC ?_; rw [inB])
    | refine wpAny_staticBase_exc hC ?_
    | refine wpAny_madeBy_exc hC ?_
    | simp only [bne_self_eq_false, Bool.false_eq_true, if_false]
    | wp_step)
  exact z
theorem chk_typeW {rest : List Value} {kw : List (Str × Value)} {Q : Unit → Shared → Prop} (hC : h.get? C = some (excClassObj nm q C N bs bm hd sn sub ab col dd k0 k1 k2 k3 k5 newId))
    (z : Q () ⟨h, g, d, t, os⟩) : wpAny M A (checkBuiltinCall "type.__call__" ⟨.ref C :: rest, kw⟩) Q E ⟨h, g, d, t, os⟩ := by
  have f3 := tc_sub
  have ty : (⟨h, g, d, t, os⟩ : Shared).TypeIs (.ref C) "type" := ⟨_, hC, rfl⟩
  simp only [checkBuiltinCall, tc_kind, tc_split]
  repeat (any_goals (first
    | assumption
    | with_reducible refine wpAny_loadPart_at hC ?_
    | with_reducible refine wpAny_onRaise ?_
    | with_reducible refine wpAny_map ?_
    | wp_step))
theorem mk_newW (F : NewF B newId bm) {rest : List Value} {kw : List (Str × Value)} (hC : h.get? C = some (excClassObj nm q C N bs bm hd sn sub ab col dd k0 k1 k2 k3 k5 newId))
    (z : R (.ok (.ret (.ref (h.objs.size + 1)))) ⟨(h.push (W.kdv_tup rest)).push (excO C h.objs.size), g, d, t, os⟩) (few : rest.length ≤ sizeLine) : codeAny (model prog w) A (.builtin newId ⟨.ref C :: rest, kw⟩) R ⟨h, g, d, t, os⟩ := by
  have en := F.ends
  have inB := tail_has (C := C) F.hB
  have noA := tail_not (C := C) F.hA
  have noN := tail_not (C := C) F.hN
  refine codeAny_builtinAt F.entry ?_
  unfold Builtin.«BaseException.__new__»
  refine PySem.wpAt_bind ?_
  show PySem.wpAt _ _ _ (stack >>= _) _ _ _
  refine PySem.wpAt_bind (PySem.wpAt_stack fun p below => PySem.wpAt_of_wpAny ?_)
  wp_walk
  refine PySem.wpAt_of_wpAny ?_
  rw [F.owner]
  repeat (first
    | with_reducible refine wpAny_madeHere_exc F.canon hC ?_
    | with_reducible refine wpAny_loadPart_at hC ?_
    | (with_reducible refine wpAny_isSubtype_exc hC ?_; first | rw [inB] | rw [noA] | rw [noN])
    | wp_step)
  show R _ _
  rw [Heap.size_push]
  exact z
theorem tc_newW (F : NewF B newId bm) {rest : List Value} {kw : List (Str × Value)} {fI : Addr} {Q : Fin → Shared → Prop} (hC : h.get? C = some (excClassObj nm q C N bs bm hd sn sub ab col dd k0 k1 k2 k3 k5 newId))
    (li : W.Looks (model prog w) h (typeLookup (.ref C) "__init__") (some (.ref fI))) (lb : ∀ self, W.Looks (model prog w) h (bindSpecial (.ref fI) self) (.ref fI, [self])) (few : rest.length ≤ sizeLine)
    (z : codeAny (model prog w) A (.call (.ref fI) ⟨.ref (h.objs.size + 1) :: rest, kw⟩) (fun r s' => match r with | .ok (.ret v) => v = .none ∧ Q (.done (.ret (.ref (h.objs.size + 1)))) s' | .ok _ => False | .error e => E e s') ⟨(h.push (W.kdv_tup rest)).push (excO C h.objs.size), g, d, t, os⟩) :
    wpAny (model prog w) A (Builtin.«type.__call__» ⟨.ref C :: rest, kw⟩) Q E ⟨h, g, d, t, os⟩ := by
  repeat (first
    | with_reducible refine wpAny_loadPart_at hC ?_
    | with_reducible refine wpAny_madeBy_exc hC ?_
    | wp_step)
  refine codeAny_call_builtin_code (Code.quiet_builtin _ F.quiet) (ck_newW F hC (mk_newW F hC ?_ few))
  show wpAny _ _ _ _ _ _
  have up : ∀ b o, h.get? b = some o → ((h.push (W.kdv_tup rest)).push (excO C h.objs.size)).get? b = some o := fun b o e => Heap.get?_push_of_some _ (Heap.get?_push_of_some _ e)
  have C1 := up _ _ hC
  have e1 : ((h.push (W.kdv_tup rest)).push (excO C h.objs.size)).get? (h.objs.size + 1) = some (excO C h.objs.size) := by heap_get
  have inC : (Value.ref C :: bm).contains (.ref C) = true := by simp
  have l1 := li.keeps up
  have l2 := (lb (.ref (h.objs.size + 1))).keeps up
  unfold isInstance
  repeat (first
    | with_reducible refine wpAny_loadPart_at e1 ?_
    | (with_reducible refine wpAny_isSubtype_exc C1 ?_; rw [inC])
    | wp_step)
  show wpAny _ _ (typeLookup (.ref C) _) _ _ _
  refine l1.at (wpAny_holding (wpAny_bind (l2.at (wpAny_bind (wpAny_call (codeAny_mono z fun r s' y => ?_))))))
  rcases r with e | (v | _ | _ | _) <;> first | exact y | exact y.elim | skip
  obtain ⟨rfl, y⟩ := y
  first
    | exact wpAny_pure (wpAny_pure y)
    | (wp_walk; exact y)
theorem call_newW (F : NewF B newId bm) {rest : List Value} {kw : List (Str × Value)} {fI : Addr} (hC : h.get? C = some (excClassObj nm q C N bs bm hd sn sub ab col dd k0 k1 k2 k3 k5 newId))
    (li : W.Looks (model prog w) h (typeLookup (.ref C) "__init__") (some (.ref fI))) (lb : ∀ self, W.Looks (model prog w) h (bindSpecial (.ref fI) self) (.ref fI, [self])) (few : rest.length ≤ sizeLine)
    (z : codeAny (model prog w) (A.under (.builtin "type.__call__" ⟨.ref C :: rest, kw⟩)) (.call (.ref fI) ⟨.ref (h.objs.size + 1) :: rest, kw⟩) (W.InitBack (h.objs.size + 1) R) ⟨(h.push (W.kdv_tup rest)).push (excO C h.objs.size), g, d, t, os⟩) :
    codeAny (model prog w) A (.call (.ref C) ⟨rest, kw⟩) R ⟨h, g, d, t, os⟩ := by
  have f1 := tc_lookup
  have f2 := tc_bind (.ref C)
  have ty : (⟨h, g, d, t, os⟩ : Shared).TypeIs (.ref C) "type" := ⟨_, hC, rfl⟩
  refine codeAny_of_tree ?_
  show wpAny _ _ (callAny (.ref C) _) _ _ _
  repeat (any_goals (first
    | assumption
    | with_reducible refine wpAny_loadPart_at hC ?_
    | wp_step))
  refine ⟨rfl, codeAny_call_builtin_at (Code.quiet_builtin _ (by decide +kernel)) entry_typeCall (chk_typeW hC (tc_newW F hC li lb few (codeAny_mono z fun r s' y => ?_)))⟩
  rcases r with e | (v | _ | _ | _) <;> exact y
end
end XkA
end
section
set_option Elab.async false
set_option linter.all false
set_option maxRecDepth 100000
set_option maxHeartbeats 2000000
namespace D
open PySem PySem.Spec L2 PyProof.Rows
/-- what the view V1 has but the dict at p, V2 has too -/
def ExB (p : Addr) (V1 V2 : Hp) : Prop := ∀ a o, V1 a = some o → a ≠ p → V2 a = some o
end D
namespace D
open PySem PySem.Spec L2 PyProof.Rows
/-- a group that does not speak of dicts -/
def GB (φ : Hp → Hp → Prop) : Prop := ∀ (V V' H : Hp) (p : Addr) (ob : Obj) (xs0 : List (Key × L2.V)), V p = some (.frz ob (.dK xs0)) → ExB p V V' → φ V H → φ V' H
end D
end
section
set_option Elab.async false
set_option linter.all false
set_option maxRecDepth 100000
set_option maxHeartbeats 2000000
namespace D
open PySem PySem.Spec L2 PyProof.Rows
end D
end
section
set_option Elab.async false
set_option linter.all false
set_option maxRecDepth 100000
set_option maxHeartbeats 2000000
namespace D
open PySem PySem.Spec L2 PyProof.Rows
section
variable {P : Program} {w : World} {K : PySem.W.Frag} {mg : Str → Option Value} {base : Heap}
/-- a def whose function object is known: defaults or not, its code value -/
structure FunV (K : PySem.W.Frag) (x qual : Str) (st : Stmt) (f : Addr) (fd : FuncData) (cdv : Value) : Prop where
  ex : ∃ (oc : Value) (od : Option Addr) (dV kV doc pm : Value) (an : Option Addr) (ct : Value) (osl : Array (Option Value)), fd = PySem.W.fnOf x qual (defArgs st) (defBody st) (defScope st) dV kV doc pm an cdv ct ∧ K.lookup f = some ⟨oc, od, .func fd, osl⟩ ∧ PySem.W.codeIn K cdv qual = true
theorem Fun.v {x qual : Str} {st : Stmt} {f : Addr} {fd : FuncData} (Fu : L2.Fun K x qual st f fd) : FunV K x qual st f fd fd.code := by
  obtain ⟨oc, od, kV, doc, pm, an, cdv, ct, osl, rfl, lk, hcd⟩ := Fu.ex
  exact ⟨oc, od, .none, kV, doc, pm, an, ct, osl, rfl, lk, hcd⟩
end
section
variable {F : Fm} {X : Cx} {Γ : List Sl} {c : Cells} {P : Cells → Dt → Prop} {Φ : PEnds} {pos : Pos}
/-- cells at the end dropped -/
theorem ss_dropE {ss : List Stmt} : ∀ (r c : Cells), SS F X Γ c ss Φ → SS F X Γ (c ++ r) ss Φ
  | [], c, h => by rw [List.append_nil]; exact h
  | p :: r, c, h => by
    have h2 : (c ++ p :: r)[c.length]? = some p := by simp
    refine ss_dropC c.length h2 ?_
    rw [show (c ++ p :: r).eraseIdx c.length = c ++ r by simp [List.eraseIdx_append_of_length_le]]
    exact ss_dropE r c h
end
end D
end
section
set_option Elab.async false
set_option linter.all false
set_option maxRecDepth 100000
set_option maxHeartbeats 2000000
namespace D
open PySem PySem.Spec L2 PyProof.Rows
section
variable {P : Program} {w : World} {K : PySem.W.Frag} {mg : Str → Option Value} {base : Heap}
theorem fn_Vg {α : Type} {args : α → List Dt} {cells : α → Cells} {pre : α → Prop} {post : α → Cells → Dt → Prop} {exc : α → Cells → Xc → Prop} {x qual : Str} {st : Stmt} {f : Addr} {fd : FuncData} {cdv : Value} {N ps : List Str} {k : Nat} (Fu : FunV K x qual st f fd cdv) (S : FnScope N ps (defScope st)) (hl : ∀ a, (args a).length = ps.length)
    (h : ∀ (A : Around) (outer : List Env) (s : Shared) (H : Hp) (E : XK) (F : Fm) (a : α), pre a → A.guards = some [] → Room k (A.deeper (envOfC qual (defScope st) s.heap.objs.size f cdv)) →
      XT F (cxOf (L2.CX P w) P w K mg base N qual (defScope st) f cdv A outer s H E) (fun _ => exc a) →
      SS F (cxOf (L2.CX P w) P w K mg base N qual (defScope st) f cdv A outer s H E) (startP N (args a)) (cells a) (defBody st) { nx := fun _ c' => post a c' .non, rt := fun _ c' d => post a c' d }) : FnGd P w K mg base (L2.CX P w) (k + 1) f fd ps (spG K args cells pre post exc) := by
  obtain ⟨oc, od, dV, kV, doc, pm, an, ct, osl, rfl, lk, hcd⟩ := Fu.ex
  refine ⟨fun A outer s H args us vs Q E hr hg e0 hb rv hsp => ?_⟩
  obtain ⟨M, a, hM, nd, dj, ce, dv, hp, kn, kx⟩ := hsp
  refine LamX.run_ofS lk hcd S hr e0 hb rv (by rw [dv.length, hl a]) fun hr' => ?_
  have aft : ∀ {Γ' : List Sl} {c' : Cells} {σ' : L2.St} {H' : Hp}, SI K { H0 := H, M := M, W := addrs (cells a) } Γ' c' σ' H' → Aft K M H (cells a) c' H' := fun S' =>
    ⟨fun b o e n => (of_mask (S'.keep b o (by rw [mask_out n]; exact e))).2, S'.nd, fun x hx => ⟨(S'.fr x hx).2, (S'.fr x hx).1⟩, S'.ce, S'.wl⟩
  have hq := h A outer s H E { H0 := H, M := M, W := addrs (cells a) } a hp hg hr' ⟨fun cls d _ H => E cls d H, takes_of rfl rfl rfl rfl, fun Γ' c' σ' H' x cls dx ex S' xa => kx cls dx H' c' x ex (aft S') xa⟩
  refine ⟨_, pSts, hq _ H _ ⟨?_, nd, fun i d hi => ?_, ce, Ex.refl _, fun x hx => ⟨.inl hx, dj x hx⟩, hM, fun x hx => ?_⟩ ⟨?_, ?_, fun _ _ _ _ z => z.elim, fun _ _ _ _ z => z.elim⟩⟩
  · unfold L2.start startP
    rw [List.length_append, List.length_append, List.length_map, List.length_map, List.length_replicate, List.length_replicate, dv.length]
  · unfold L2.start
    rw [dv.length]
    exact slots_dat _ dv i d hi
  · obtain ⟨p, h1, h2⟩ := of_addrs hx
    exact ((ce p h1).live x h2).ex
  · intro Γ' c' σ' H' p S' e'
    exact kn .non H' c' .non p (aft S') .non
  · intro Γ' c' σ' H' v d p S' e' dv'
    exact kn v H' c' d p (aft S') dv'
end
end D
end
section
set_option Elab.async false
set_option linter.all false
set_option maxRecDepth 100000
set_option maxHeartbeats 2000000
namespace D
open PySem PySem.Spec L2 PyProof.Rows
end D
end
section
set_option Elab.async false
set_option linter.all false
set_option maxRecDepth 100000
set_option maxHeartbeats 2000000
namespace D
open PySem L2 PyProof.Rows PyProof
end D
end
section
set_option Elab.async false
set_option linter.all false
namespace D
open PySem PySem.Spec L2 PyProof.Rows
end D
end
section
set_option Elab.async false
set_option linter.all false
set_option maxRecDepth 100000
set_option maxHeartbeats 2000000
namespace D
open PySem PySem.Spec L2 PyProof.Rows PyProof
end D
end
section
set_option Elab.async false
set_option linter.all false
set_option maxRecDepth 100000
set_option maxHeartbeats 2000000
namespace D
open PySem PySem.Spec L2 PyProof.Rows PyProof
def gs2 {α : Type} : List α → List α → List α
  | [s], [b, n] => [s, n, b]
  | _, _ => []
theorem gs2_len {α : Type} : ∀ {us ws : List α}, (gs2 us ws).length = 3 → ∃ s b n, us = [s] ∧ ws = [b, n]
  | [s], [b, n], _ => ⟨s, b, n, rfl, rfl⟩
  | [], _, h => by cases h
  | [_], [], h => by cases h
  | [_], [_], h => by cases h
  | [_], _ :: _ :: _ :: _, h => by cases h
  | _ :: _ :: _, _, h => by cases h
theorem gs2_rel {vs : List V} {us : List Value} {zs : List V} {ws : List Value} (r1 : Vals vs us) (r2 : Vals zs ws) : Vals (gs2 vs zs) (gs2 us ws) := by
  cases r1 with
  | nil => exact .nil
  | cons h t => cases t with
    | cons _ _ => exact .nil
    | nil => cases r2 with
      | nil => exact .nil
      | cons h2 t2 => cases t2 with
        | nil => exact .nil
        | cons h3 t3 => cases t3 with
          | nil => exact .cons h (.cons h3 (.cons h2 .nil))
          | cons _ _ => exact .nil
theorem kb_sw3 {K : PySem.W.Frag} {x qual p0 p1 p2 : Str} {params : Arguments} {body : List Stmt} {scope : Scope} {kws : List (Str × V)} {f : Addr} {fd : FuncData} (F : FunD K x qual params body scope [] kws f fd)
    (h : ∀ (kV doc pm : Value) (an : Option Addr) (cdv ct s b n : Value), bindArgs (PySem.W.fnOf x qual params body scope .none kV doc pm an cdv ct) ⟨[s], [(p2, b), (p1, n)]⟩ = pure [(p0, s), (p1, n), (p2, b)]) :
    KBinds K fd [p0, p1, p2] [p2, p1] gs2 gs2 := by
  obtain ⟨oc, od, dV, kV, doc, pm, an, cdv, ct, osl, rfl, lk, hcd, hD, hK⟩ := F.ex
  rcases hD with ⟨_, rfl⟩ | ⟨e, _⟩
  · refine ⟨fun s us ws X hl => ?_, gs2_rel⟩
    obtain ⟨s', b, n, rfl, rfl⟩ := gs2_len hl
    exact .of_eq (h kV doc pm an cdv ct s' b n)
  · exact absurd rfl e
end D
end
section
set_option Elab.async false
set_option linter.all false
set_option maxRecDepth 100000
set_option maxHeartbeats 4000000
namespace L2N
open PySem PySem.Spec PyProof.Rows L2
theorem make_guards {A : Around} {C : Addr} {us : List Value} {kw : List (Str × Value)} (h : A.guards = some []) : (A.under (.builtin "type.__call__" ⟨.ref C :: us, kw⟩)).guards = some [] := by
  first | exact h | simpa [Around.under, Code.isGuard, guardIds] using h
def tMkV (C : Addr) (sp : Sp) (n : Nat) (ta : TA) : TE := fun σ H Q => ta σ H fun vs H1 => vs.length ≤ 1000 ∧ vs.length + 1 = n ∧ ∀ a, H1 a = none → sp (.ref a :: vs) (upd H1 a (exo a C none)) (fun v H2 => v = .non ∧ Q (.ref a) H2) (fun _ _ _ => False)
def tMkVk (C : Addr) (sp : Sp) (gV : List V → List V → List V) (n : Nat) (tk : TA) : TE := fun σ H Q => tk σ H fun zs H1 => (∀ v, (gV [v] zs).length = n) ∧ ∀ a, H1 a = none → sp (gV [.ref a] zs) (upd H1 a (exo a C none)) (fun v H2 => v = .non ∧ Q (.ref a) H2) (fun _ _ _ => False)
section
variable {X : Cx} {e : Expr} {es : List Expr} {ta : TA} {p pos : Pos} {Bn newId B initId : String} {bmB : List Value} {CX : CXT} {x : Str} {C fI : Addr} {k : Nat} {fd : FuncData} {ps ks : List Str} {sp : Sp}
theorem pe_mkV (T : OexK X.K C Bn newId B initId bmB) (iC : PySem.W.findIn X.K (.ref C) "__init__" = some (some (.ref fI))) (tI : PySem.W.typeIn X.K (.ref fI) = some (.type "function"))
    (F1 : D.FnGd X.prog X.w X.K X.mg X.base CX k fI fd ps sp) (hgd : X.A.guards = some []) (hr : Room (k + 1) X.A) (hb : Binds X.K fd ps []) (hx : Passes CX X (fun _ _ _ => False)) (hg : Gl X x) (hm : X.mg x = some (.ref C)) (ha : PA X (e :: es) ta)
    (hdb : (x == ("__debug__" : Str)) = false := by decide) (he : starEach (e :: es) X.env = (false, eval e X.env) :: starEach es X.env := by rfl) (hpl : (backTo pos (starEach es X.env)).any (·.1) = false := by rfl) :
    PE X (.Call (.Name x p) (e :: es) [] pos) (tMkV C sp ps.length ta) := ⟨fun pins s σ H Q I h => by
  obtain ⟨nm, q, N, bs, bm, sn, sub, ab, col, dd, k0, k1, k2, k3, k5, hC, rfl⟩ := T.cls
  refine wpAny_Call_Name_kw (ld_glob I hg hm ?_ hdb)
  refine PySem.W.callWith_K (h₀ := X.base) I.ok.mod.kin T.kC (thn (ha.run pos pins s σ H _ I h) fun us s1 ⟨vs, H1, I1, r1, hz, hn0, q1⟩ => ⟨I1.kIn, ?_⟩) he hpl
  show wpAny _ _ (call (.ref C) us) _ _ _
  obtain ⟨hp, g, dr, tk, os⟩ := s1
  generalize hA : hp.objs.size + 1 = a at *
  have hsz : hp.objs.size ≤ a := by omega
  have hn : H1 a = none := I1.hok.fresh hsz
  have hq := q1 a hn
  generalize hG : (hp.push (PySem.W.kdv_tup us)).push (PySem.HandSPX.excO C hp.objs.size) = hp2 at *
  have kk : ∀ b o, hp.get? b = some o → hp2.get? b = some o := fun b o e => by rw [← hG]; exact Heap.get?_push_of_some _ (Heap.get?_push_of_some _ e)
  have hget : hp2.get? a = some (PySem.HandSPX.excO C hp.objs.size) := by rw [← hG, ← hA]; heap_get
  have I2 : Inv X pins σ (upd H1 a (exo a C none)) ⟨hp2, g, dr, tk, os⟩ := I1.laid (t' := tk) (a := a) (o := exo a C none) (h' := hp2) kk hsz (exo_ok hget)
  have r2 : Vals (V.ref a :: vs) (Value.ref a :: us) := .cons rfl r1
  have hl : (Value.ref a :: us).length = ps.length := by rw [← hn0, r1.length]; rfl
  have b := hb ⟨hp2, g, dr, tk, os⟩ (Value.ref a :: us) I2.kIn (by rw [List.append_nil]; exact hl)
  rw [List.append_nil] at b
  refine wpAny_call (XkA.call_new T.new (I1.kIn _ _ hC) (PySem.W.looks_findIn I1.kIn iC) (fun self => PySem.W.bind_fn I1.kIn self tI) (by rw [← Paired.length r1, sizeLine_eq]; omega) ?_)
  rw [hA, hG]
  refine codeAny_mono (F1.go _ X.stack _ _ ⟨Value.ref a :: us, []⟩ (Value.ref a :: us) _ _ (fun _ _ _ => False) (hr.make C us []) (make_guards hgd) (I2.env0.make C us []) b r2 hq) fun r s' hq' => ?_
  cases r with
  | error er => exact hx pins σ _ _ er s' I2 hq'
  | ok fl =>
    cases fl with
    | ret u =>
      obtain ⟨v, H2, I', rv, ev, q2⟩ := I2.after hq'
      subst ev
      exact ⟨rv, .ref a, H2, I', rfl, q2⟩
    | next => exact False.elim hq'
    | brk => exact False.elim hq'
    | cont => exact False.elim hq'⟩
theorem pe_mkVk {kws : List Keyword} {tk : TA} {gL : List Value → List Value → List Value} {gV : List V → List V → List V} (T : OexK X.K C Bn newId B initId bmB) (iC : PySem.W.findIn X.K (.ref C) "__init__" = some (some (.ref fI))) (tI : PySem.W.typeIn X.K (.ref fI) = some (.type "function"))
    (F1 : D.FnGd X.prog X.w X.K X.mg X.base CX k fI fd ps sp) (hgd : X.A.guards = some []) (hr : Room (k + 1) X.A) (hb : KBinds X.K fd ps ks gL gV) (hx : Passes CX X (fun _ _ _ => False)) (hg : Gl X x) (hm : X.mg x = some (.ref C)) (hkw : PK X kws tk)
    (hall : (backToKw pos (keywordEach kws X.env)).all (·.1.isSome) = true) (hks : (backToKw pos (keywordEach kws X.env)).filterMap (·.1) = ks)
    (hpl : ((backTo pos (starEach [] X.env)).any (·.1) || (backToKw pos (keywordEach kws X.env)).any (·.1.isNone)) = false) (hdb : (x == ("__debug__" : Str)) = false) :
    PE X (.Call (.Name x p) [] kws pos) (tMkVk C sp gV ps.length tk) := ⟨fun pins s σ H Q I h => by
  obtain ⟨nm, q, N, bs, bm, sn, sub, ab, col, dd, k0, k1, k2, k3, k5, hC, rfl⟩ := T.cls
  refine wpAny_Call_Name_kw (ld_glob I hg hm ?_ hdb)
  refine PySem.W.callWith_KW0 (h₀ := X.base) I.ok.mod.kin T.kC hall (thn (hkw.run pos pins s σ H _ I h) fun ws s1 ⟨zs, H1, I1, r1, hn0, q1⟩ => ⟨I1.kIn, ?_⟩) hpl
  rw [hks]
  show wpAny _ _ (call (.ref C) [] (ks.zip ws)) _ _ _
  obtain ⟨hp, g, dr, tk, os⟩ := s1
  generalize hA : hp.objs.size + 1 = a at *
  have hsz : hp.objs.size ≤ a := by omega
  have hn : H1 a = none := I1.hok.fresh hsz
  have hq := q1 a hn
  generalize hG : (hp.push (PySem.W.kdv_tup [])).push (PySem.HandSPX.excO C hp.objs.size) = hp2 at *
  have kk : ∀ b o, hp.get? b = some o → hp2.get? b = some o := fun b o e => by rw [← hG]; exact Heap.get?_push_of_some _ (Heap.get?_push_of_some _ e)
  have hget : hp2.get? a = some (PySem.HandSPX.excO C hp.objs.size) := by rw [← hG, ← hA]; heap_get
  have I2 : Inv X pins σ (upd H1 a (exo a C none)) ⟨hp2, g, dr, tk, os⟩ := I1.laid (t' := tk) (a := a) (o := exo a C none) (h' := hp2) kk hsz (exo_ok hget)
  have r2 : Vals (gV [V.ref a] zs) (gL [Value.ref a] ws) := hb.rel (.cons rfl .nil) r1
  have hl : (gL [Value.ref a] ws).length = ps.length := by rw [← r2.length]; exact hn0 _
  refine wpAny_call (XkA.call_newW T.new (I1.kIn _ _ hC) (PySem.W.looks_findIn I1.kIn iC) (fun self => PySem.W.bind_fn I1.kIn self tI) (by show 0 ≤ sizeLine; omega) ?_)
  rw [hA, hG]
  refine codeAny_mono (F1.go _ X.stack _ _ ⟨[Value.ref a], ks.zip ws⟩ (gL [Value.ref a] ws) _ _ (fun _ _ _ => False) (hr.make C [] (ks.zip ws)) (make_guards hgd) (I2.env0.make C [] (ks.zip ws)) (hb.to ⟨hp2, g, dr, tk, os⟩ [Value.ref a] ws I2.kIn hl) r2 hq) fun r s' hq' => ?_
  cases r with
  | error er => exact hx pins σ _ _ er s' I2 hq'
  | ok fl =>
    cases fl with
    | ret u =>
      obtain ⟨v, H2, I', rv, ev, q2⟩ := I2.after hq'
      subst ev
      exact ⟨rv, .ref a, H2, I', rfl, q2⟩
    | next => exact False.elim hq'
    | brk => exact False.elim hq'
    | cont => exact False.elim hq'⟩
/-- C(), a class without an own __init__ -/
theorem pe_mk0V {bm0 : List Value} {B0 newId0 initId0 : String} (Fb : ExcBaseFacts B0 newId0 initId0 bm0) (q : PySem.W.excIn X.K C bm0 newId0 = true) (hm : X.mg x = some (.ref C)) (kC : PySem.W.keepIn X.K (.ref C) = true) (hg : Gl X x)
    (hdb : (x == ("__debug__" : Str)) = false := by decide) :
    PE X (.Call (.Name x p) [] [] pos) (fun _ H Q => ∀ a, H a = none → Q (.ref a) (upd H a (exo a C none))) := by
  refine ⟨fun pins s σ H Q I h => ?_⟩
  refine wpAny_Call_Name_kw (ld_glob I hg hm ?_ hdb)
  refine PySem.W.callWith_KW0 (kws := []) (h₀ := X.base) I.ok.mod.kin kC (by rfl) (thn (pk_nil.run pos pins s σ H (fun vs H1 => vs = [] ∧ H = H1) I ⟨rfl, rfl⟩) fun ws s1 hh => ?_) (by rfl)
  obtain ⟨zs, H1, I1, r1, ez, eH⟩ := hh
  subst ez
  cases r1
  rw [← eH] at I1
  refine ⟨I1.kIn, ?_⟩
  show wpAny _ _ (call (.ref C) []) _ _ _
  obtain ⟨bm, N, nm, qn, bs, hdct, sn, sub, ab, col, dd, k0, k1, k2, k3, k5, mN, hC, hN, hni, T⟩ := exc_obj I1.kIn q
  refine wpAny_call_exc_subT Fb T hC hN hni (fun h' a hmm => ?_) (by show 0 ≤ sizeLine; omega)
  have hn : H a = none := I1.hok.gone hmm.new
  obtain ⟨t, ht, _, _⟩ := hmm.there
  exact ⟨.ref a, upd H a (exo a C none), I1.laidN hmm.keeps hmm.new hn (exo_ok ht), rfl, h a hn⟩
end
def tXv (K : PySem.W.Frag) (n : Str) (te : TE) : TE := fun σ H Q => te σ H fun x H1 => ∃ (a C dx : Addr) (xs : List (Str × V)) (v : V), x = .ref a ∧ H1 a = some (exo a C (some dx)) ∧ H1 dx = some (exd dx xs) ∧ XfC K C ∧ PySem.W.findIn K (.ref C) n = some none ∧ xs.lookup n = some v ∧ Q v H1
/-- e.n, e such a value -/
theorem pe_xv {X : Cx} {e : Expr} {te : TE} {pos : Pos} {n : Str} (he : PE X e te) (hb : attributeBase e n X.env (eval e X.env) = eval e X.env := by rfl) : PE X (.Attribute e n pos) (tXv X.K n te) := by
  refine ⟨fun pins s σ H Q I h => ?_⟩
  refine attr_of hb (thn (he.run pins s σ H _ I h) fun u s1 hh => ?_)
  obtain ⟨x, H1, I1, rx, a, C, dx, xs, v, ex, ea, ed, T, hno, l, q⟩ := hh
  subst ex
  obtain rfl : u = Value.ref a := rx
  obtain ⟨t1, ho⟩ := exo_at I1.hok ea
  obtain ⟨mA, hns, hr⟩ := exd_at I1.hok ed
  obtain ⟨od, hod, hl⟩ := lookIn_ns hns
  obtain ⟨u, hu, ru⟩ := RelO.some_of (v := v) (o := mA n) (by rw [← l]; exact hr n)
  have J : PySem.W.InstAt s1.heap a { cls := .ref C, dict := some dx, data := .fields #[.ref t1, .none, .none, .none, .bool false, .none] } C (some od) := ⟨ho, rfl, rfl, hod⟩
  exact HandSPX.exc_get I1.kIn J T.ga T.gg T.exC (PySem.W.findObj_own T.hdC hno rfl (by rw [hl, hu])) (handed_of ru) ⟨v, H1, I1.tok _, ru, q⟩
/-- isinstance(e, c) -/
def rIsV (K : PySem.W.Frag) : List V → Hp → VK → Prop := fun xs H Q => ∃ (a D : Addr) (d : Option Addr) (c : V) (cv : Value) (b : Bool), xs = [.ref a, c] ∧ (∀ u, RelV c u → u = cv) ∧ H a = some (exo a D d) ∧ (∀ dx, d = some dx → ∃ fs, H dx = some (exd dx fs)) ∧ ExcC K D ∧ PySem.W.kitOne K (.ref D) cv = some b ∧ Q (.bl b) H
theorem call_isV {X : Cx} : CallR X (.builtin "isinstance") (rIsV X.K) := by
  intro pins s σ H xs us Q I r h
  obtain ⟨a, D, d, c, cv, b, rfl, hcv, ea, hd, C, e, q⟩ := h
  cases r with
  | cons rx rr =>
    cases rr with
    | cons rt rr =>
      cases rr
      cases rx
      have ec := hcv _ rt
      subst ec
      obtain ⟨t1, ho⟩ := exo_at I.hok ea
      cases d with
      | none =>
        have J : PySem.W.InstAt s.heap a { cls := .ref D, dict := none, data := .fields #[.ref t1, .none, .none, .none, .bool false, .none] } D none := ⟨ho, rfl, rfl, trivial⟩
        exact PySem.W.kia_one (PySem.W.kitx_excD C.hg C.hk C.hs C.hd C.ha C.hn C.ht C.hm) I.kIn J e (fun z => nomatch z) fun tk => ⟨.bl b, H, I.kept (t' := tk) fun _ _ z => z, rfl, q⟩
      | some dx =>
        obtain ⟨fs, ed⟩ := hd dx rfl
        obtain ⟨mA, hns, hr⟩ := exd_at I.hok ed
        obtain ⟨od, hod, hl⟩ := lookIn_ns hns
        have J : PySem.W.InstAt s.heap a { cls := .ref D, dict := some dx, data := .fields #[.ref t1, .none, .none, .none, .bool false, .none] } D (some od) := ⟨ho, rfl, rfl, hod⟩
        exact PySem.W.kia_one (PySem.W.kitx_excD C.hg C.hk C.hs C.hd C.ha C.hn C.ht C.hm) I.kIn J e (fun z => nomatch z) fun tk => ⟨.bl b, H, I.kept (t' := tk) fun _ _ z => z, rfl, q⟩
/-- f(..), f only called where no text of a value is being made -/
def tCallG (sp : Sp) (E : St → XK) (n : Nat) (t : TA) : TE := fun σ H Q => t σ H fun vs H1 => vs.length = n ∧ sp vs H1 Q (E σ)
theorem pe_callG {X : Cx} {CX : CXT} {k : Nat} {f : Addr} {fd : FuncData} {ps : List Str} {sp : Sp} {E : St → XK} {x : Str} {p pos : Pos} {e : Expr} {es : List Expr} {t : TA} (F : D.FnGd X.prog X.w X.K X.mg X.base CX k f fd ps sp) (hgd : X.A.guards = some []) (hr : Room k X.A) (hg : Gl X x) (hm : X.mg x = some (.ref f)) (hk : PySem.W.keepIn X.K (.ref f) = true) (hb : Binds X.K fd ps []) (hx : ∀ σ, PassesAt CX X σ (E σ))
    (ha : PA X (e :: es) t) (hdb : (x == ("__debug__" : Str)) = false := by decide) (he : starEach (e :: es) X.env = (false, eval e X.env) :: starEach es X.env := by rfl) (hpl : (backTo pos (starEach es X.env)).any (·.1) = false := by rfl) :
    PE X (.Call (.Name x p) (e :: es) [] pos) (tCallG sp E ps.length t) := by
  refine ⟨fun pins s σ H Q I h => ?_⟩
  refine wpAny_Call_Name_kw (ld_glob I hg hm ?_ hdb)
  refine PySem.W.callWith_K (h₀ := X.base) I.ok.mod.kin hk (thn (ha.run pos pins s σ H _ I h) fun us s1 ⟨vs, H1, I1, r, hl, q⟩ => ⟨I1.kIn, ?_⟩) he hpl
  have hl' : us.length = ps.length := by rw [← r.length]; exact hl
  have b := hb s1 us I1.kIn (by rw [List.append_nil]; exact hl')
  rw [List.append_nil] at b
  refine wpAny_call (codeAny_mono (F.go X.A X.stack s1 H1 ⟨us, []⟩ us vs Q (E σ) hr hgd I1.env0 b r q) fun r s' hq => ?_)
  cases r with
  | error e => exact hx σ pins H1 s1 e s' I1 hq
  | ok fl =>
    cases fl with
    | ret u => exact I1.after hq
    | next => exact False.elim hq
    | brk => exact False.elim hq
    | cont => exact False.elim hq
end L2N
end
section
set_option Elab.async false
set_option linter.all false
set_option maxRecDepth 100000
set_option maxHeartbeats 4000000
namespace D
open PySem PySem.Spec L2 PyProof.Rows
def gs1 {α : Type} : List α → List α → List α
  | [s], [v] => [s, v]
  | _, _ => []
theorem gs1_len {α : Type} : ∀ {us ws : List α}, (gs1 us ws).length = 2 → ∃ s v, us = [s] ∧ ws = [v]
  | [s], [v], _ => ⟨s, v, rfl, rfl⟩
  | [], _, h => by cases h
  | [_], [], h => by cases h
  | [_], _ :: _ :: _, h => by cases h
  | _ :: _ :: _, _, h => by cases h
theorem gs1_rel {vs : List V} {us : List Value} {zs : List V} {ws : List Value} (r1 : Vals vs us) (r2 : Vals zs ws) : Vals (gs1 vs zs) (gs1 us ws) := by
  cases r1 with
  | nil => exact .nil
  | cons h t => cases t with
    | cons _ _ => exact .nil
    | nil => cases r2 with
      | nil => exact .nil
      | cons h2 t2 => cases t2 with
        | nil => exact .cons h (.cons h2 .nil)
        | cons _ _ => exact .nil
theorem kb_v1 {K : PySem.W.Frag} {x qual p0 p1 : Str} {params : Arguments} {body : List Stmt} {scope : Scope} {kws : List (Str × V)} {f : Addr} {fd : FuncData} (F : FunD K x qual params body scope [] kws f fd)
    (h : ∀ (kV doc pm : Value) (an : Option Addr) (cdv ct s v : Value), bindArgs (PySem.W.fnOf x qual params body scope .none kV doc pm an cdv ct) ⟨[s], [(p1, v)]⟩ = pure [(p0, s), (p1, v)]) :
    KBinds K fd [p0, p1] [p1] gs1 gs1 := by
  obtain ⟨oc, od, dV, kV, doc, pm, an, cdv, ct, osl, rfl, lk, hcd, hD, hK⟩ := F.ex
  rcases hD with ⟨_, rfl⟩ | ⟨e, _⟩
  · refine ⟨fun s us ws X hl => ?_, gs1_rel⟩
    obtain ⟨s', v, rfl, rfl⟩ := gs1_len hl
    exact .of_eq (h kV doc pm an cdv ct s' v)
  · exact absurd rfl e
structure DefGd (P : Program) (w : World) (K : PySem.W.Frag) (mg : Str → Option Value) (base : Heap) (k : Nat) (x : Str) (ps : List Str) (sp : Sp) : Prop where
  ex : ∃ f fd, FnGd P w K mg base (L2.CX P w) k f fd ps sp ∧ mg x = some (.ref f) ∧ PySem.W.keepIn K (.ref f) = true ∧ Binds K fd ps []
/-- a class with one field -/
structure ExV (P : Program) (w : World) (K : PySem.W.Frag) (mg : Str → Option Value) (base : Heap) (C : Addr) (x fld : Str) (pre : Dt → Prop) : Prop where
  O : ∃ Bn newId B initId bmB, L2N.OexK K C Bn newId B initId bmB
  gx : mg x = some (.ref C)
  ini : ∃ fI fd, PySem.W.findIn K (.ref C) "__init__" = some (some (.ref fI)) ∧ PySem.W.typeIn K (.ref fI) = some (.type "function") ∧ FnGd P w K mg base CX0 1 fI fd ["self", fld] (spI K C fld pre) ∧ Binds K fd ["self", fld] [] ∧ KBinds K fd ["self", fld] [fld] gs1 gs1
/-- a class with two fields -/
structure ExV2 (P : Program) (w : World) (K : PySem.W.Frag) (mg : Str → Option Value) (base : Heap) (C : Addr) (x f1 f2 : Str) (pre : Dt → Dt → Prop) : Prop where
  O : ∃ Bn newId B initId bmB, L2N.OexK K C Bn newId B initId bmB
  gx : mg x = some (.ref C)
  ini : ∃ fI fd, PySem.W.findIn K (.ref C) "__init__" = some (some (.ref fI)) ∧ PySem.W.typeIn K (.ref fI) = some (.type "function") ∧ FnGd P w K mg base CX0 1 fI fd ["self", f1, f2] (spI2 K C f1 f2 pre) ∧ Binds K fd ["self", f1, f2] [] ∧ KBinds K fd ["self", f1, f2] [f2, f1] gs2 gs2
/-- a class without an own __init__ -/
structure ExV0 (K : PySem.W.Frag) (mg : Str → Option Value) (C : Addr) (x : Str) : Prop where
  O : ∃ B newId initId bm, ExcBaseFacts B newId initId bm ∧ PySem.W.excIn K C bm newId = true
  gx : mg x = some (.ref C)
  kC : PySem.W.keepIn K (.ref C) = true
section
variable {F : Fm} {X : Cx} {Γ : List Sl} {c : Cells} {P : Cells → Dt → Prop} {pos : Pos}
theorem xv_end {σ : L2.St} {H1 : Hp} {c1 : Cells} {a dx C : Addr} {xs : List (Str × V)} {fs : List (Str × Dt)} (S1 : SI X.K F Γ c1 σ H1) (ha : H1 a = none) (hd : H1 dx = none) (ne : dx ≠ a) (dv : DVx X.K (Vw F c1 H1) xs fs) :
    ∃ H2, H2 = upd (upd H1 dx (exd dx xs)) a (exo a C (some dx)) ∧ SI X.K F Γ c1 σ H2 ∧ Ex (Vw F c1 H1) (Vw F c1 H2) ∧ DV X.K (Vw F c1 H2) (.ref a) (.xcv C true fs) := by
  have ha2 : upd H1 dx (exd dx xs) a = none := by rw [upd_ne (Ne.symm ne)]; exact ha
  have e1 : Ex (Vw F c1 H1) (Vw F c1 (upd H1 dx (exd dx xs))) := (Kp.new (F := F) hd).hid
  have e2 : Ex (Vw F c1 (upd H1 dx (exd dx xs))) (Vw F c1 (upd (upd H1 dx (exd dx xs)) a (exo a C (some dx)))) := (Kp.new (F := F) ha2).hid
  refine ⟨_, rfl, (S1.new hd).new ha2, e1.trans e2, ?_⟩
  exact .xcv ((mask_out (S1.fresh ha)).trans upd_same) ((mask_out (S1.fresh hd)).trans ((upd_ne ne).trans upd_same)) (DVx.mono (e1.trans e2) dv)
theorem xv_heap {H : Hp} {a dx C : Addr} {xs : List (Str × V)} (ne : dx ≠ a) : upd (upd (upd H a (exo a C none)) dx (exd dx xs)) a (exo a C (some dx)) = upd (upd H dx (exd dx xs)) a (exo a C (some dx)) := by
  funext b
  by_cases h1 : b = a
  · rw [h1, upd_same, upd_same]
  · rw [upd_ne h1, upd_ne h1]
    by_cases h2 : b = dx
    · rw [h2, upd_same, upd_same]
    · rw [upd_ne h2, upd_ne h2, upd_ne h1]
theorem xv_heap2 {H : Hp} {a dx C : Addr} {xs ys : List (Str × V)} (ne : dx ≠ a) : upd (upd (upd (upd H a (exo a C none)) dx (exd dx xs)) a (exo a C (some dx))) dx (exd dx ys) = upd (upd H dx (exd dx ys)) a (exo a C (some dx)) := by
  funext b
  by_cases h2 : b = dx
  · rw [h2, upd_same, upd_ne ne, upd_same]
  · rw [upd_ne h2]
    by_cases h1 : b = a
    · rw [h1, upd_same, upd_same]
    · rw [upd_ne h1, upd_ne h1, upd_ne h2, upd_ne h2, upd_ne h1]
/-- C(e) -/
theorem se_mkV {C : Addr} {x fld : Str} {pre : Dt → Prop} {e : Expr} {p : Pos} (T : ExV X.prog X.w X.K X.mg X.base C x fld pre) (hgd : X.A.guards = some []) (hr : Room 2 X.A)
    (h : SE F X Γ c e fun c1 d => pre d ∧ P c1 (.xcv C true [(fld, d)]))
    (hg : Gl X x := by rfl) (hdb : (x == ("__debug__" : Str)) = false := by decide) (he : starEach [e] X.env = (false, eval e X.env) :: starEach [] X.env := by rfl) (hpl : (backTo pos (starEach [] X.env)).any (·.1) = false := by rfl) :
    SE F X Γ c (.Call (.Name x p) [e] [] pos) P := by
  obtain ⟨fI, fd, h1, h2, h3, h4, _⟩ := T.ini
  obtain ⟨Bn, nI, B, iI, bm, O⟩ := T.O
  refine SE.of (L2N.pe_mkV O h1 h2 h3 hgd hr h4 pass0 hg T.gx (pa_cons pE pa_nil he) hdb he hpl) fun σ H Q S k => ?_
  refine h σ H _ S fun v H1 c1 d q S1 k1 dv => ⟨by show 1 ≤ 1000; decide, rfl, fun a ha => ?_⟩
  refine ⟨a, v, hid F c1, d, rfl, upd_same, dv.mono (Kp.new (F := F) ha).hid, q.1, fun dx hdx ne => ⟨rfl, ?_⟩⟩
  have hd1 : H1 dx = none := by rw [upd_ne ne] at hdx; exact hdx
  obtain ⟨H2, e2, S2, k2, dv2⟩ := xv_end (C := C) S1 ha hd1 ne (.cons (k := fld) dv .nil)
  rw [xv_heap ne, ← e2]
  exact k _ H2 c1 _ q.2 S2 (k1.trans k2) dv2
/-- C(fld = e) -/
theorem se_mkVk {C : Addr} {x fld : Str} {pre : Dt → Prop} {e : Expr} {p kp : Pos} (T : ExV X.prog X.w X.K X.mg X.base C x fld pre) (hgd : X.A.guards = some []) (hr : Room 2 X.A)
    (h : SE F X Γ c e fun c1 d => pre d ∧ P c1 (.xcv C true [(fld, d)]))
    (hg : Gl X x := by rfl) (hdb : (x == ("__debug__" : Str)) = false := by decide)
    (hall : (backToKw pos (keywordEach [⟨some fld, e, kp⟩] X.env)).all (·.1.isSome) = true := by rfl) (hks : (backToKw pos (keywordEach [⟨some fld, e, kp⟩] X.env)).filterMap (·.1) = [fld] := by rfl)
    (hpl : ((backTo pos (starEach [] X.env)).any (·.1) || (backToKw pos (keywordEach [⟨some fld, e, kp⟩] X.env)).any (·.1.isNone)) = false := by rfl) :
    SE F X Γ c (.Call (.Name x p) [] [⟨some fld, e, kp⟩] pos) P := by
  obtain ⟨fI, fd, h1, h2, h3, _, h4⟩ := T.ini
  obtain ⟨Bn, nI, B, iI, bm, O⟩ := T.O
  refine SE.of (L2N.pe_mkVk O h1 h2 h3 hgd hr h4 pass0 hg T.gx (pk_cons pE pk_nil) hall hks hpl hdb) fun σ H Q S k => ?_
  refine h σ H _ S fun v H1 c1 d q S1 k1 dv => ⟨fun _ => rfl, fun a ha => ?_⟩
  refine ⟨a, v, hid F c1, d, rfl, upd_same, dv.mono (Kp.new (F := F) ha).hid, q.1, fun dx hdx ne => ⟨rfl, ?_⟩⟩
  have hd1 : H1 dx = none := by rw [upd_ne ne] at hdx; exact hdx
  obtain ⟨H2, e2, S2, k2, dv2⟩ := xv_end (C := C) S1 ha hd1 ne (.cons (k := fld) dv .nil)
  rw [xv_heap ne, ← e2]
  exact k _ H2 c1 _ q.2 S2 (k1.trans k2) dv2
/-- C(e, e') -/
theorem se_mkV2 {C : Addr} {x f1 f2 : Str} {pre : Dt → Dt → Prop} {e e' : Expr} {p : Pos} (T : ExV2 X.prog X.w X.K X.mg X.base C x f1 f2 pre) (hgd : X.A.guards = some []) (hr : Room 2 X.A)
    (h : SE F X Γ c e fun c1 d => SE F X Γ c1 e' fun c2 d' => pre d d' ∧ P c2 (.xcv C true [(f2, d'), (f1, d)]))
    (hg : Gl X x := by rfl) (hdb : (x == ("__debug__" : Str)) = false := by decide) (he : starEach [e, e'] X.env = (false, eval e X.env) :: starEach [e'] X.env := by rfl) (he' : starEach [e'] X.env = (false, eval e' X.env) :: starEach [] X.env := by rfl) (hpl : (backTo pos (starEach [e'] X.env)).any (·.1) = false := by rfl) :
    SE F X Γ c (.Call (.Name x p) [e, e'] [] pos) P := by
  obtain ⟨fI, fd, h1, h2, h3, h4, _⟩ := T.ini
  obtain ⟨Bn, nI, B, iI, bm, O⟩ := T.O
  refine SE.of (L2N.pe_mkV O h1 h2 h3 hgd hr h4 pass0 hg T.gx (pa_cons pE (pa_cons pE pa_nil he') he) hdb he hpl) fun σ H Q S k => ?_
  refine h σ H _ S fun v H1 c1 d q S1 k1 dv => q σ H1 _ S1 fun v' H2 c2 d' q2 S2 k2 dv2 => ⟨by show 2 ≤ 1000; decide, rfl, fun a ha => ?_⟩
  have ea : Ex (Vw F c2 H2) (Vw F c2 (upd H2 a (exo a C none))) := (Kp.new (F := F) ha).hid
  refine ⟨a, v, v', hid F c2, d, d', rfl, upd_same, (dv.mono k2).mono ea, dv2.mono ea, q2.1, fun dx hdx ne => ⟨rfl, ?_⟩⟩
  have hd1 : H2 dx = none := by rw [upd_ne ne] at hdx; exact hdx
  obtain ⟨H3, e3, S3, k3, dv3⟩ := xv_end (C := C) S2 ha hd1 ne (.cons (k := f2) dv2 (.cons (k := f1) (dv.mono k2) .nil))
  rw [xv_heap2 ne, ← e3]
  exact k _ H3 c2 _ q2.2 S3 ((k1.trans k2).trans k3) dv3
/-- C(f2 = e', f1 = e) -/
theorem se_mkV2k {C : Addr} {x f1 f2 : Str} {pre : Dt → Dt → Prop} {e e' : Expr} {p kp kp' : Pos} (T : ExV2 X.prog X.w X.K X.mg X.base C x f1 f2 pre) (hgd : X.A.guards = some []) (hr : Room 2 X.A)
    (h : SE F X Γ c e fun c1 d' => SE F X Γ c1 e' fun c2 d => pre d d' ∧ P c2 (.xcv C true [(f2, d'), (f1, d)]))
    (hg : Gl X x := by rfl) (hdb : (x == ("__debug__" : Str)) = false := by decide)
    (hall : (backToKw pos (keywordEach [⟨some f2, e, kp⟩, ⟨some f1, e', kp'⟩] X.env)).all (·.1.isSome) = true := by rfl) (hks : (backToKw pos (keywordEach [⟨some f2, e, kp⟩, ⟨some f1, e', kp'⟩] X.env)).filterMap (·.1) = [f2, f1] := by rfl)
    (hpl : ((backTo pos (starEach [] X.env)).any (·.1) || (backToKw pos (keywordEach [⟨some f2, e, kp⟩, ⟨some f1, e', kp'⟩] X.env)).any (·.1.isNone)) = false := by rfl) :
    SE F X Γ c (.Call (.Name x p) [] [⟨some f2, e, kp⟩, ⟨some f1, e', kp'⟩] pos) P := by
  obtain ⟨fI, fd, h1, h2, h3, _, h4⟩ := T.ini
  obtain ⟨Bn, nI, B, iI, bm, O⟩ := T.O
  refine SE.of (L2N.pe_mkVk O h1 h2 h3 hgd hr h4 pass0 hg T.gx (pk_cons pE (pk_cons pE pk_nil)) hall hks hpl hdb) fun σ H Q S k => ?_
  refine h σ H _ S fun v' H1 c1 d' q S1 k1 dv => q σ H1 _ S1 fun v H2 c2 d q2 S2 k2 dv2 => ⟨fun _ => rfl, fun a ha => ?_⟩
  have ea : Ex (Vw F c2 H2) (Vw F c2 (upd H2 a (exo a C none))) := (Kp.new (F := F) ha).hid
  refine ⟨a, v, v', hid F c2, d, d', rfl, upd_same, dv2.mono ea, (dv.mono k2).mono ea, q2.1, fun dx hdx ne => ⟨rfl, ?_⟩⟩
  have hd1 : H2 dx = none := by rw [upd_ne ne] at hdx; exact hdx
  obtain ⟨H3, e3, S3, k3, dv3⟩ := xv_end (C := C) S2 ha hd1 ne (.cons (k := f2) (dv.mono k2) (.cons (k := f1) dv2 .nil))
  rw [xv_heap2 ne, ← e3]
  exact k _ H3 c2 _ q2.2 S3 ((k1.trans k2).trans k3) dv3
/-- C() -/
theorem se_mkV0 {C : Addr} {x : Str} {p : Pos} (T : ExV0 X.K X.mg C x) (h : P c (.xcv C false [])) (hg : Gl X x := by rfl) (hdb : (x == ("__debug__" : Str)) = false := by decide) : SE F X Γ c (.Call (.Name x p) [] [] pos) P := by
  obtain ⟨B, nI, iI, bm, Fb, q⟩ := T.O
  refine SE.of (L2N.pe_mk0V Fb q T.gx T.kC hg hdb) fun σ H Q S k => fun a ha => ?_
  exact k _ _ c _ h (S.new ha) (Kp.new (F := F) ha).hid (.xc0 ((mask_out (S.fresh ha)).trans upd_same))
/-- e.n -/
theorem se_xv {e : Expr} {n : Str} (h : SE F X Γ c e fun c1 d => ∃ C fs d', d = .xcv C true fs ∧ XfC X.K C ∧ PySem.W.findIn X.K (.ref C) n = some none ∧ fs.lookup n = some d' ∧ P c1 d')
    (hb : attributeBase e n X.env (eval e X.env) = eval e X.env := by rfl) : SE F X Γ c (.Attribute e n pos) P :=
  SE.of (L2N.pe_xv pE hb) fun σ H Q S k => h σ H _ S fun v H1 c1 d q S1 k1 dv => by
    obtain ⟨C, fs, d', rfl, T, hno, hl, q⟩ := q
    cases dv with
    | xcv ha hx t =>
      obtain ⟨u, h3, h4⟩ := t.get hl
      exact ⟨_, C, _, _, u, rfl, (of_mask ha).2, (of_mask hx).2, T, hno, h3, k u H1 c1 d' q S1 k1 h4⟩
theorem cv_isVv {D : Addr} {cd : Dt} {cV : V} {cv : Value} {h b : Bool} {fs : List (Str × Dt)} (E : ExcC X.K D) (hcd : cd = .raw cV) (hcv : ∀ u, RelV cV u → u = cv) (hk : PySem.W.kitOne X.K (.ref D) cv = some b) (p : P c (.bl b)) : ClV F X Γ c (.builtin "isinstance") [.xcv D h fs, cd] P :=
  ClV.of L2N.call_isV fun σ H vs Q S dv k => by
    subst hcd
    cases dv with
    | cons h1 t => cases t with
      | cons h2 t =>
        cases t
        cases h2
        cases h1 with
        | xcv ha hx _ => exact ⟨_, D, _, cV, cv, b, rfl, hcv, (of_mask ha).2, (fun dx e => by cases e; exact ⟨_, (of_mask hx).2⟩), E, hk, k _ H c _ p S (Ex.refl _) (.bl b)⟩
        | xc0 ha => exact ⟨_, D, _, cV, cv, b, rfl, hcv, (of_mask ha).2, (fun dx e => by cases e), E, hk, k _ H c _ p S (Ex.refl _) (.bl b)⟩
theorem cv_isV {D C : Addr} {h b : Bool} {fs : List (Str × Dt)} (E : ExcC X.K D) (hk : PySem.W.kitOne X.K (.ref D) (.ref C) = some b) (p : P c (.bl b)) : ClV F X Γ c (.builtin "isinstance") [.xcv D h fs, .raw (.ref C)] P :=
  cv_isVv (cV := .ref C) E rfl (fun u r => r) hk p
theorem cv_isVT {D : Addr} {T : String} {h b : Bool} {fs : List (Str × Dt)} (E : ExcC X.K D) (hk : PySem.W.kitOne X.K (.ref D) (.type T) = some b) (p : P c (.bl b)) : ClV F X Γ c (.builtin "isinstance") [.xcv D h fs, .raw (.ty T)] P :=
  cv_isVv (cV := .ty T) E rfl (fun u r => r) hk p
/-- a def that is only called where no text of a value is being made -/
theorem se_fGd {α : Type} {args : α → List Dt} {cells : α → Cells} {pre : α → Prop} {post : α → Cells → Dt → Prop} {exc : α → Cells → Xc → Prop} {k : Nat} {ps : List Str} {x : Str} {q : Pos} {e : Expr} {es : List Expr} {Wd : List Sl → Cells → Xc → Prop}
    (Df : DefGd X.prog X.w X.K X.mg X.base k x ps (spG X.K args cells pre post exc)) (hl : ∀ a, (args a).length = ps.length) (hgd : X.A.guards = some []) (hr : Room k X.A) (xt : XT F X Wd)
    (h : SA F X Γ c (e :: es) fun c1 ds => ∃ a l r, ds = args a ∧ c1 = l ++ cells a ++ r ∧ pre a ∧ (∀ c' d, post a c' d → P (l ++ c' ++ r) d) ∧ ∀ c' x, exc a c' x → Wd Γ (l ++ c' ++ r) x) (hg : Gl X x := by rfl) (hdb : (x == ("__debug__" : Str)) = false := by decide)
    (he : starEach (e :: es) X.env = (false, eval e X.env) :: starEach es X.env := by rfl) (hpl : (backTo pos (starEach es X.env)).any (·.1) = false := by rfl) : SE F X Γ c (.Call (.Name x q) (e :: es) [] pos) P := by
  obtain ⟨f, fd, h1, h2, h3, h4⟩ := Df.ex
  obtain ⟨W, tk, hW⟩ := xt.ex
  refine SE.of (L2N.pe_callG h1 hgd hr hg h2 h3 h4 (fun σ => passAt tk σ) pAs hdb he hpl) fun σ H Q S k => h σ H _ S fun vs H1 c1 ds q S1 k1 dv => ?_
  obtain ⟨a, l, r, rfl, hc, hp, q1, q2⟩ := q
  exact ⟨by rw [dv.length, hl a], sp_use hW S1 hc dv hp (fun v H' c' d pd S2 e2 dv' => k v H' _ d (q1 c' d pd) S2 (k1.trans e2) dv') q2⟩
end
end D
end
section
set_option Elab.async false
set_option linter.all false
set_option maxRecDepth 100000
set_option maxHeartbeats 2000000
namespace D
open PySem PySem.Spec L2 PyProof.Rows PyProof
/-- plain data whose text has n signs at most -/
structure Sh (k n : Nat) (d : Dt) : Prop where
  fit : Fit k d
  sh : (py d).showable = true
  len : (py d).shown.length ≤ n
theorem Sh.mono {k n m : Nat} {d : Dt} (h : Sh k n d) (l : n ≤ m) : Sh k m d := ⟨h.fit, h.sh, Nat.le_trans h.len l⟩
theorem shownAll_map (l : List PyData) : PyData.shownAll l = l.map PyData.shown := by
  induction l with
  | nil => rfl
  | cons a l ih => rw [PyData.shownAll, ih]; rfl
theorem showAll (l : List PyData) (h : ∀ d ∈ l, d.showable = true) : PyData.showableAll l = true := by
  induction l with
  | nil => rfl
  | cons a l ih =>
    rw [PyData.showableAll, h a (List.mem_cons_self ..), ih fun d hd => h d (List.mem_cons_of_mem _ hd)]
    rfl
theorem sum_le {n : Nat} : ∀ {l : List Nat}, (∀ x ∈ l, x ≤ n) → l.sum ≤ l.length * n
  | [], _ => Nat.zero_le _
  | a :: l, h => by
    rw [List.sum_cons, List.length_cons, Nat.succ_mul]
    have h1 := h a (List.mem_cons_self ..)
    have h2 := sum_le (l := l) fun x hx => h x (List.mem_cons_of_mem _ hx)
    omega
theorem sh_tup {k n : Nat} {l : List Dt} (h : ∀ d ∈ l, Sh k n d) : Sh (k + 1) (l.length * (n + 2) + 3) (.tup l) := ⟨fit_tup fun d hd => (h d hd).fit, by
  show PyData.showableAll (pys l) = true
  rw [pys_map]
  refine showAll _ fun d hd => ?_
  obtain ⟨x, hx, rfl⟩ := List.mem_map.mp hd
  exact (h x hx).sh, by
  show (tupleText (PyData.shownAll (pys l))).length ≤ _
  have h1 := tupleText_len_le (PyData.shownAll (pys l))
  rw [shownAll_map, pys_map, List.length_map, List.length_map] at h1
  have h2 : (((l.map py).map PyData.shown).map (·.length)).sum ≤ l.length * n := by
    have := sum_le (n := n) (l := ((l.map py).map PyData.shown).map (·.length)) fun x hx => by
      obtain ⟨y, hy, rfl⟩ := List.mem_map.mp hx
      obtain ⟨z, hz, rfl⟩ := List.mem_map.mp hy
      obtain ⟨d, hd, rfl⟩ := List.mem_map.mp hz
      exact (h d hd).len
    rwa [List.length_map, List.length_map, List.length_map] at this
  rw [shownAll_map, pys_map]
  have e : l.length * (n + 2) = l.length * n + l.length * 2 := Nat.mul_add ..
  omega⟩
end D
end
section
set_option Elab.async false
set_option linter.all false
set_option maxRecDepth 100000
set_option maxHeartbeats 2000000
namespace D
open PySem PySem.Spec L2 PyProof.Rows PyProof
def strT : PyData → Str
  | .str s => s
  | d => d.shown
section
variable {X : Cx}
def rShow (X : Cx) (txt : PyData → Str) : List V → Hp → VK → Prop := fun vs H Q => ∃ (v : V) (d : PyData), vs = [v] ∧ Dp X.K H v d ∧ d.showable = true ∧ d.hasDict = false ∧ d.shown.length ≤ sizeLine ∧ d.depth ≤ 60 ∧ Q (.str (txt d)) H
theorem cr_repr (hg : X.A.guards = some []) (hu : X.A.units + 70 < cLine) : CallR X (.builtin "repr") (rShow X PyData.shown) := by
  intro pins s σ H vs us Q I r h
  obtain ⟨v, d, rfl, hdp, hsh, hnd, hz, hd, q⟩ := h
  obtain ⟨u, rfl, rv⟩ := vals1 r
  obtain ⟨as, hR⟩ := Dp.reads I d v u hdp rv
  cases hR with
  | none => exact PySem.P.repr_of_none ⟨.str _, H, I.tok _, ⟨_, rfl⟩, q⟩
  | bool b => exact PySem.P.repr_of_bool ⟨.str _, H, I.tok _, ⟨_, rfl⟩, by simpa only [PyData.shown] using q⟩
  | int i t => exact PySem.P.repr_of_int (by simpa [PyData.showable] using hsh) ⟨.str _, H, I.tok _, ⟨_, rfl⟩, by simpa only [PyData.shown] using q⟩
  | str x t => exact PySem.P.repr_of_str ⟨.str _, H, I.tok _, ⟨_, rfl⟩, by simpa only [PyData.shown] using q⟩ (by simpa only [PyData.shown] using hz)
  | list h1 h2 h3 h4 => exact repr_of_reads' (.list h1 h2 h3 h4) hsh (fun z => by rw [hnd] at z; cases z) hg (by omega) (fun _ _ e => e) (fun h' u tk hk => ⟨.str _, H, I.kept hk, ⟨u, rfl⟩, q⟩) hz
  | tuple h1 h2 h3 h4 => exact repr_of_reads' (.tuple h1 h2 h3 h4) hsh (fun z => by rw [hnd] at z; cases z) hg (by omega) (fun _ _ e => e) (fun h' u tk hk => ⟨.str _, H, I.kept hk, ⟨u, rfl⟩, q⟩) hz
  | dict h1 h2 h3 h4 h5 => simp [PyData.hasDict] at hnd
theorem cr_str (hg : X.A.guards = some []) (hu : X.A.units + 70 < cLine) : CallR X (.type "str") (rShow X strT) := by
  intro pins s σ H vs us Q I r h
  obtain ⟨v, d, rfl, hdp, hsh, hnd, hz, hd, q⟩ := h
  obtain ⟨u, rfl, rv⟩ := vals1 r
  obtain ⟨as, hR⟩ := Dp.reads I d v u hdp rv
  cases hR with
  | none => exact PySem.P.str_of_none ⟨.str _, H, I.tok _, ⟨_, rfl⟩, q⟩
  | bool b => exact PySem.P.str_of_bool ⟨.str _, H, I.tok _, ⟨_, rfl⟩, by simpa only [PyData.shown, strT] using q⟩
  | int i t => exact PySem.P.str_of_int (by simpa [PyData.showable] using hsh) ⟨.str _, H, I.tok _, ⟨_, rfl⟩, by simpa only [PyData.shown, strT] using q⟩
  | str x t => exact PySem.P.str_of_str ⟨.str x, H, I, ⟨t, rfl⟩, q⟩
  | list h1 h2 h3 h4 => exact str_of_reads (.list h1 h2 h3 h4) hsh (fun z => by rw [hnd] at z; cases z) hg (by omega) (fun _ _ e => e) (fun h' u tk hk => ⟨.str _, H, I.kept hk, ⟨u, rfl⟩, q⟩) hz
  | tuple h1 h2 h3 h4 => exact str_of_reads (.tuple h1 h2 h3 h4) hsh (fun z => by rw [hnd] at z; cases z) hg (by omega) (fun _ _ e => e) (fun h' u tk hk => ⟨.str _, H, I.kept hk, ⟨u, rfl⟩, q⟩) hz
  | dict h1 h2 h3 h4 h5 => simp [PyData.hasDict] at hnd
end
section
variable {F : Fm} {X : Cx} {Γ : List Sl} {c : Cells} {P : Cells → Dt → Prop}
theorem rshow_of {txt : PyData → Str} {σ : L2.St} {H : Hp} {vs : List V} {Q : VK} {n k : Nat} {d : Dt} (hs : Sh k n d) (hk : k ≤ 60) (hn : n ≤ 100000) (S : SI X.K F Γ c σ H) (dvs : DVs X.K (Vw F c H) vs [d]) (q : Q (.str (txt (py d))) H) : rShow X txt vs H Q := by
  cases dvs with
  | cons dv t =>
    cases t
    have hbig := big_line
    exact ⟨_, py d, rfl, DV.dp (dv.mono (mask_ex _ _)) hs.fit.pl, hs.sh, PyData.hasDict_of_canLay _ hs.fit.lay, Nat.le_trans hs.len (by omega), Nat.le_trans hs.fit.dp hk, q⟩
theorem cv_repr {n k : Nat} {d : Dt} (hg : X.A.guards = some []) (hu : X.A.units + 70 < cLine) (hs : Sh k n d) (hk : k ≤ 60) (hn : n ≤ 100000) (p : P c (.str (py d).shown)) : ClV F X Γ c (.builtin "repr") [d] P :=
  ClV.of (cr_repr hg hu) fun σ H vs Q S dvs kk => rshow_of hs hk hn S dvs (kk _ H c _ p S (Ex.refl _) (.str _))
end
end D
end
section
set_option Elab.async false
set_option linter.all false
set_option maxRecDepth 100000
set_option maxHeartbeats 4000000
namespace XbA
open PySem PySem.W PySem.Calls PyProof.Rows PySem.HandSPX
open Builtin Builtin.ObjectAttr
section
variable {prog : Program} {w : World} {A : Around} {R : Result → Shared → Prop} {hp : Heap} {g : Array GenState} {d : Drawn} {t : Nat} {os : OsState}
theorem next_field {K : W.Frag} {name : Str} {tk : Tok} {v : Value} {x C dx : Addr} {fv : Array Value} {cd : ClassData} {m0 : Str → Option Value} {nl : List Str} (X : K.In hp) (hx : hp.get? x = some { cls := .ref C, dict := some dx, data := .fields fv }) (hns : hp.Ns1 dx m0) (hw : Within m0 nl) (hz : nl.length ≤ 1000) (hcd : W.clsIn K C = some cd)
    (hpass : refuseLoop (.ref x) "__setattr__" cd.mro = pure ()) (hob : cd.mro.contains (.type "object") = true) (hh : cd.hasDict = true) (ha : W.findIn K (.ref C) name = some none)
    (hq : ∀ h' tk', (∀ b o, b ≠ dx → hp.get? b = some o → h'.get? b = some o) → h'.Ns1 dx (fun y => if y = name then some v else m0 y) → R (.ok (.ret .none)) ⟨h', g, d, tk', os⟩) :
    codeAny (model prog w) A (.call (.builtin "object.__setattr__") ⟨[.ref x, .str name tk, v], []⟩) R ⟨hp, g, d, t, os⟩ := by
  have ne : cd.mro.isEmpty = false := by
    cases e : cd.mro with
    | nil => rw [e] at hob; cases hob
    | cons _ _ => rfl
  obtain ⟨oD, esD, epD, hoD, hdD, _⟩ := hns.count hw
  have I : W.InstAt hp x { cls := .ref C, dict := some dx, data := .fields fv } C (some oD) := ⟨hx, rfl, rfl, hoD⟩
  have sub : W.Looks (model prog w) hp (isInstance (.ref x) (.type "object")) true := by
    refine I.type.andThen (W.looks_mroIn X ?_)
    unfold W.mroIn
    rw [hcd, Option.bind_some, if_neg (by rw [ne]; decide), hob]
  have hmr : W.Looks (model prog w) hp (mroOf (.ref C)) cd.mro := (W.looks_clsIn X hcd).andThen .now
  have hcls : W.Looks (model prog w) hp (classData C) cd := W.looks_clsIn X hcd
  have L3 : W.Looks (model prog w) hp (storeTaker? none) none := .now
  refine codeAny_call_builtin PySem.F.store_object.slot.plain PySem.F.store_object.entry ?_
  refine @W.check_slot (model prog w) _ _ ⟨hp, g, d, t, os⟩ "object.__setattr__" "object" "__setattr__" (.ref x) [.str name tk, v] [] _ PySem.F.store_object.kind PySem.F.store_object.split sub (PySem.F.store_object.args (.ref x) (.str name tk) v) ?_
  rw [W.osa_eq, refuse_eq]
  refine wpAny_bind (wpAny_bind (I.type.at (wpAny_bind (hmr.at ?_))))
  rw [hpass]
  refine wpAny_pure (wpAny_bind (I.type.at (wpAny_bind ((W.looks_findIn X ha).at (wpAny_bind (L3.at ?_))))))
  show wpAny _ _ (storeInOwnDict (.ref x) (.ref C) (.str name tk) name v false) _ _ _
  obtain ⟨nm, bs, mro, ns, qn, hd, sn, sb, ab, col, del⟩ := cd
  obtain rfl : hd = true := hh
  unfold storeInOwnDict ownDictForStores
  repeat (first | with_reducible refine PySem.OEX.store_in_old hns hw hz ?_ | with_reducible refine wpAny_loadPart_at hx ?_ | with_reducible refine hcls.at ?_ | wp_step)
  intro h' tk' hn' hs
  exact hq h' tk' (fun b o hb ho => (hs.2 b hb).trans ho) hn'
end
end XbA
namespace L2N
open PySem PySem.Spec PyProof.Rows L2
section
variable {X : Cx} {pins : List (Addr × Obj)} {σ : St} {H : Hp} {s : Shared} {a C dx : Addr} {f : Str} {y : V} {u : Value} {E : Value → Shared → Prop} {A : Around} {Bn newId B initId : String} {bmB : List Value} {fs : List (Str × V)}
/-- self.f = y, a further one -/
theorem ostKo {Q : Unit → Shared → Prop} (T : OexK X.K C Bn newId B initId bmB) (I : Inv X pins σ H s) (e : H a = some (exo a C (some dx))) (ed : H dx = some (exd dx fs)) (hl : fs.length ≤ 900) (hno : PySem.W.findIn X.K (.ref C) f = some none) (ry : RelV y u)
    (h : ∀ s', Inv X pins σ (upd H dx (exd dx ((f, y) :: fs))) s' → Q () s') : wpAny (model X.prog X.w) A (setAttr (.ref a) f u) Q E s := by
  obtain ⟨nm, q, N, bs, bm, sn, sub, ab, col, dd, k0, k1, k2, k3, k5, hC, rfl⟩ := T.cls
  have hcl : PySem.W.clsIn X.K C = some { name := nm, bases := bs, mro := .ref C :: bm, ns := N, qualname := q, hasDict := true, slotNames := sn, subclasses := sub, abstract := ab, collection := col, hasDel := false } := by
    unfold PySem.W.clsIn
    rw [hC] <;> rfl
  obtain ⟨t1, ho⟩ := exo_at I.hok e
  obtain ⟨mA, hns, rel⟩ := exd_at I.hok ed
  have hw := within_of rel
  obtain ⟨hp, g, d, t, os⟩ := s
  obtain ⟨oD, _, _, hoD, _, _⟩ := hns.count hw
  refine PySem.W.set_plain I.kIn (ox := { cls := .ref C, dict := some dx, data := .fields #[.ref t1, .none, .none, .none, .bool false, .none] }) (od := some oD) ⟨ho, rfl, rfl, hoD⟩ T.sa ?_
  refine XbA.next_field I.kIn ho hns hw (by rw [List.length_map]; omega) hcl (by show refuseLoop _ _ (.ref C :: bm) = _; rw [refuseLoop_ref]; exact T.pass _) (by show (Value.ref C :: bm).contains _ = true; rw [List.contains_cons, T.ob, Bool.or_true]) rfl hno (fun h' tk' k hn => ?_)
  have hd : ∃ o, h'.get? dx = some o := by
    obtain ⟨o, _, _, e', _⟩ := hn
    exact ⟨o, e'⟩
  exact h _ (I.write (t' := tk') (x := dx) (e := dx) (o := exd dx ((f, y) :: fs)) (by rw [ed]; exact True.intro) (.inl rfl) k hd (exd_ok hn (relO_put ry rel)))
end
def tOstK2 (K : PySem.W.Frag) (Bn newId B initId : String) (bmB : List Value) (f : Str) (to te : TE) : TS := fun D σ H => te σ H fun y H1 => to σ H1 fun x H2 => ∃ (a C dx : Addr) (fs : List (Str × V)), x = .ref a ∧ OexK K C Bn newId B initId bmB ∧ PySem.W.findIn K (.ref C) f = some none ∧
  H2 a = some (exo a C (some dx)) ∧ H2 dx = some (exd dx fs) ∧ fs.length ≤ 900 ∧ D.nx σ (upd H2 dx (exd dx ((f, y) :: fs)))
theorem ps_ostK2 {X : Cx} {o e : Expr} {to te : TE} {f : Str} {p' pos : Pos} {Bn newId B initId : String} {bmB : List Value} (ho : PE X o to) (he : PE X e te) (hs : swapsWith e (some (.Attribute o f p')) pos.line X.env = pure false := by rfl) : PS X (.Assign [.Attribute o f p'] e pos) (tOstK2 X.K Bn newId B initId bmB f to te) := ⟨fun pins s σ H D I h => by
  refine plainObj_wpAny_Assign_Attribute (thn (he.run pins s σ H _ I h) fun v s1 ⟨y, H1, I1, r1, q1⟩ => thn (ho.run pins s1 σ H1 _ I1 q1) fun u s2 ⟨x, H2, I2, r2, a, C, dx, fs, ex, T, hno, ea, ed, hl, q⟩ => ?_) hs
  subst ex
  obtain rfl : u = Value.ref a := r2
  exact ostKo T I2 ea ed hl hno r1 fun s' J => ⟨σ, _, J, q⟩⟩
theorem fun_okG {P : Program} {w : World} {K : PySem.W.Frag} {mg : Str → Option Value} {base : Heap} {x qual : Str} {st : Stmt} {f : Addr} {fd : FuncData} {N ps : List Str} {k : Nat} {sp : Sp} (F : Fun K x qual st f fd) (S : FnScope N ps (defScope st)) (len : ∀ vs H Q E, sp vs H Q E → vs.length = ps.length)
    (hbody : ∀ (cdv : Value) (A : Around) (outer : List Env) (s : Shared) (H : Hp) (vs : List V) (Q : VK) (E : XK), A.guards = some [] → Room k (A.deeper (envOfC qual (defScope st) s.heap.objs.size f cdv)) → sp vs H Q E →
      ∃ t, PSs (cxOf CX0 P w K mg base N qual (defScope st) f cdv A outer s H E).nox (defBody st) t ∧ t { nx := fun _ H' => Q .non H', rt := Q } (start N vs) H) : D.FnGd P w K mg base CX0 (k + 1) f fd ps sp := by
  obtain ⟨oc, od, kV, doc, pm, an, cdv, ct, osl, rfl, lk, hcd⟩ := F.ex
  refine ⟨fun A outer s H args us vs Q E hr hg e0 hb rv hsp => ?_⟩
  refine LamX.run_ofS lk hcd S hr e0 hb rv (len _ _ _ _ hsp) fun hr' => ?_
  obtain ⟨t, h, q⟩ := hbody cdv A outer s H vs Q E hg hr' hsp
  exact ⟨t, h.nox, q⟩
end L2N
namespace XkA
open PySem PySem.W PySem.Calls PyProof.Rows PySem.HandSPX PySem.F
abbrev mroV : List Value := [.type "ValueError", .type "Exception", .type "BaseException", .type "object"]
abbrev mroL : List Value := [.type "LookupError", .type "Exception", .type "BaseException", .type "object"]
abbrev mroR : List Value := [.type "RuntimeError", .type "Exception", .type "BaseException", .type "object"]
abbrev mroO : List Value := [.type "OverflowError", .type "ArithmeticError", .type "Exception", .type "BaseException", .type "object"]
theorem newV : NewF "ValueError" "ValueError.__new__" mroV := .of PySem.F.excBase_ValueError (by decide) (by decide) (by decide)
theorem newL : NewF "LookupError" "LookupError.__new__" mroL := .of PySem.F.excBase_LookupError (by decide) (by decide) (by decide)
theorem newR : NewF "RuntimeError" "RuntimeError.__new__" mroR := .of PySem.F.excBase_RuntimeError (by decide) (by decide) (by decide)
theorem newO : NewF "OverflowError" "OverflowError.__new__" mroO := .of PySem.F.excBase_OverflowError (by decide) (by decide) (by decide)
theorem iniV : IniF "ValueError" "ValueError.__init__" mroV := .of PySem.F.excBase_ValueError (by decide)
theorem iniL : IniF "LookupError" "LookupError.__init__" mroL := .of PySem.F.excBase_LookupError (by decide)
theorem iniR : IniF "RuntimeError" "RuntimeError.__init__" mroR := .of PySem.F.excBase_RuntimeError (by decide)
theorem iniO : IniF "OverflowError" "OverflowError.__init__" mroO := .of PySem.F.excBase_OverflowError (by decide)
theorem passV (self : Value) : refuseLoop self "__setattr__" mroV = pure () := by kernel_rfl
theorem passL (self : Value) : refuseLoop self "__setattr__" mroL = pure () := by kernel_rfl
theorem passR (self : Value) : refuseLoop self "__setattr__" mroR = pure () := by kernel_rfl
theorem passO (self : Value) : refuseLoop self "__setattr__" mroO = pure () := by kernel_rfl
theorem vV {K : PySem.W.Frag} : PySem.W.findCls K (.type "ValueError") (.type "type") "__init__" = some (.val (.builtin "ValueError.__init__")) := by first | rfl | decide +kernel
theorem vL {K : PySem.W.Frag} : PySem.W.findCls K (.type "LookupError") (.type "type") "__init__" = some (.val (.builtin "LookupError.__init__")) := by first | rfl | decide +kernel
theorem vR {K : PySem.W.Frag} : PySem.W.findCls K (.type "RuntimeError") (.type "type") "__init__" = some (.val (.builtin "RuntimeError.__init__")) := by first | rfl | decide +kernel
theorem vO {K : PySem.W.Frag} : PySem.W.findCls K (.type "OverflowError") (.type "type") "__init__" = some (.val (.builtin "OverflowError.__init__")) := by first | rfl | decide +kernel
end XkA
end
section
open PySem L2 D PyProof.Rows
local macro_rules
  | `(tactic| fail "z") => `(tactic| ((try simp only [List.length_map, List.length_cons, List.length_nil, List.length_append, List.length_drop, List.length_take]); have := big_line; omega))
local macro_rules
  | `(tactic| fail) => `(tactic| first
    | ((with_reducible refine (?_ : SE _ _ _ _ _ _)); first | refine se_nm rfl ?_ | refine se_tyTuple (by assumption) ?_ | refine se_tyStr (by assumption) ?_ | refine se_tyInt (by assumption) ?_ | refine se_tyBool (by assumption) ?_ | refine se_int ?_ | refine se_str ?_ | refine se_non ?_ | refine se_bl ?_ | refine se_cmp ?_ | refine se_bin ?_ | refine se_backT ?_ | refine se_ix ?_ | refine se_slice ?_ | refine se_tup ?_ | refine se_lst ?_ | ((with_reducible refine (?_ : SE _ _ _ _ (.Call _ _ _ _) _)); first | refine se_any (by assumption) ?_ | refine se_all (by assumption) ?_ | refine se_len (by assumption) ?_ | refine se_min (by assumption) ?_ | refine se_max (by assumption) ?_ | refine se_sorted (by assumption) ?_ | refine se_isi (by assumption) ?_ | refine se_abs (by assumption) ?_ | refine se_sum (by assumption) ?_ | refine se_tupleC (by assumption) ?_ | refine se_listC (by assumption) ?_) | refine se_M rfl (by assumption) (blkOk_by rfl) ?_ | refine se_F rfl (by assumption) (blkOk_by rfl) ?_ | refine se_Dc rfl (by assumption) (blkOk_by rfl) ?_ | refine se_chain ?_ | refine se_indexN ?_ | refine se_not ?_ | refine se_if ?_ | refine se_one ?_ | refine se_and ?_ | refine se_or ?_ | refine se_neg ?_)
    | ((with_reducible refine (?_ : ST _ _ _ _ _ _)); first | refine st_cmp ?_ | refine st_chain ?_ | refine st_not ?_ | refine st_w (sw_and ?_) | refine st_w (sw_or ?_) | refine st_val ?_)
    | ((with_reducible refine (?_ : SWt _ _ _ _ _ _)); first | refine sw_and ?_ | refine sw_and1 ?_ | refine sw_or ?_ | refine sw_or1 ?_)
    | ((with_reducible refine (?_ : SA _ _ _ _ _ _)); first | refine sa_cons ?_ | refine sa_nil ?_)
    | ((with_reducible refine (?_ : SO _ _ _ _ _ _)); first | refine so_none ?_ | refine so_some ?_)
    | ((with_reducible refine (?_ : SS _ _ _ _ _ _)); first | refine ss_one ?_ | refine ss_cons ?_)
    | ((with_reducible refine (?_ : S1 _ _ _ _ _ _)); first | refine s_ret ?_ | refine s_if ?_ | refine s_M rfl (by assumption) (blkOk_by rfl) ?_ | refine s_F rfl (by assumption) (blkOk_by rfl) ?_ | refine s_Dc rfl (by assumption) (blkOk_by rfl) ?_ | refine s_st (by assumption) ?_ | refine s_aug (by assumption) rfl ?_ | refine s_asg ?_ | refine s_expr ?_)
    | ((with_reducible refine (?_ : SG _ _ _ _ _ _ _)); first | refine sg_nm (by assumption) ?_ | refine sg_par rfl ?_ | refine sg_tup rfl ?_)
    | ((with_reducible refine (?_ : SGs _ _ _ _ _ _ _)); first | refine sgs_cons ?_ | refine sgs_nil ?_)
    | ((with_reducible refine (?_ : SGb _ _ _ _ _ _ _ _)); first | refine sgb_nm (by assumption) ?_ (by first | exact vs_self | exact vs_one | exact vs_two) | refine sgb_par rfl ?_ | refine sgb_tup rfl ?_)
    | ((with_reducible refine (?_ : SGbs _ _ _ _ _ _ _ _)); first | refine sgbs_cons ?_ | refine sgbs_nil ?_)
    | ((with_reducible refine (?_ : SW _ _ _ _ _ _ _)); first | refine sw_vals ?_ | refine sw_zipT (by assumption) ?_ | refine sw_range (by assumption) ?_ | refine sw_seq ?_)
    | ((with_reducible refine (?_ : OpV _ _ _ _ _ _ _ _)); first | refine ov_eqN ?_ | refine ov_neN ?_ | refine ov_inN ?_ | refine ov_ninN ?_ | refine ov_inNT ?_ | refine ov_ninNT ?_ | refine oi_add ?_ | refine oi_catT (by fail "z") ?_ | refine ov_cat (by fail "z") ?_ | refine ov_catT (by fail "z") ?_ | refine ov_add ?_ | refine ov_sub ?_ | refine ov_lt ?_ | refine ov_le ?_ | refine ov_gt ?_ | refine ov_ge ?_ | refine ov_eqI ?_ | refine ov_neI ?_ | refine ov_eqS ?_ | refine ov_neS ?_ | refine ov_eqB ?_ | refine ov_neB ?_)
    | ((with_reducible refine (?_ : IxV _ _ _ _ _ _ _)); first | refine iv_cons ?_ | refine iv_consT ?_)
    | ((with_reducible refine (?_ : SlV _ _ _ _ _ _ _ _)); first | refine sv_fromL (by decide) ?_ | refine sv_fromT (by decide) ?_ | refine sv_toL (by decide) ?_ | refine sv_toT (by decide) ?_)
    | ((with_reducible refine (?_ : ClV _ _ _ _ _ _ _)); first | refine cv_anyM rfl ?_ | refine cv_allM rfl ?_ | refine cv_len rfl ?_ | refine cv_tuple rfl ?_ | refine cv_list rfl ?_ | refine cv_abs ?_ | refine cv_isStr rfl ?_ | refine cv_isTup rfl ?_ | refine cv_isInt rfl ?_ | refine cv_isBool rfl ?_ | refine cv_sum rfl ?_)
    | (with_reducible refine turn0I (fun _ _ _ _ _ _ => ?_)) | (with_reducible refine turn1I (fun _ _ _ _ _ _ => ?_)) | (with_reducible refine turnDI (fun _ _ _ _ _ _ => ?_)) | (with_reducible refine abI (fun _ _ _ _ _ => ?_)) | ((with_reducible show (if _ then _ else _)); first | refine iteT ?_ | refine iteF ?_) | ((with_reducible refine (?_ : And _ _)); refine And.intro (show _ ≤ sizeLine by fail "z") ?_) | ((with_reducible refine (?_ : Exists _)); refine ⟨_, rfl, ?_⟩))
local macro_rules
  | `(tactic| fail "e") => `(tactic| first
    | ((with_reducible refine (?_ : SE _ _ _ _ _ _)); first | refine se_nm rfl ?_ | refine se_tyTuple (by assumption) ?_ | refine se_tyStr (by assumption) ?_ | refine se_tyInt (by assumption) ?_ | refine se_tyBool (by assumption) ?_ | refine se_int ?_ | refine se_str ?_ | refine se_non ?_ | refine se_bl ?_ | refine se_cmp ?_ | refine se_bin ?_ | refine se_backT ?_ | refine se_ix ?_ | refine se_slice ?_ | refine se_tup ?_ | refine se_lst ?_ | ((with_reducible refine (?_ : SE _ _ _ _ (.Call _ _ _ _) _)); first | refine se_any (by assumption) ?_ | refine se_all (by assumption) ?_ | refine se_len (by assumption) ?_ | refine se_min (by assumption) ?_ | refine se_max (by assumption) ?_ | refine se_sorted (by assumption) ?_ | refine se_isi (by assumption) ?_ | refine se_abs (by assumption) ?_ | refine se_sum (by assumption) ?_ | refine se_tupleC (by assumption) ?_ | refine se_listC (by assumption) ?_) | refine se_M rfl (by assumption) (blkOk_by rfl) ?_ | refine se_F rfl (by assumption) (blkOk_by rfl) ?_ | refine se_Dc rfl (by assumption) (blkOk_by rfl) ?_ | refine se_chain ?_ | refine se_indexN ?_ | refine se_not ?_ | refine se_if ?_ | refine se_one ?_ | refine se_and ?_ | refine se_or ?_ | refine se_neg ?_)
    | ((with_reducible refine (?_ : ST _ _ _ _ _ _)); first | refine st_cmp ?_ | refine st_chain ?_ | refine st_not ?_ | refine st_w (sw_and ?_) | refine st_w (sw_or ?_) | refine st_val ?_)
    | ((with_reducible refine (?_ : SWt _ _ _ _ _ _)); first | refine sw_and ?_ | refine sw_and1 ?_ | refine sw_or ?_ | refine sw_or1 ?_)
    | ((with_reducible refine (?_ : SA _ _ _ _ _ _)); first | refine sa_cons ?_ | refine sa_nil ?_)
    | ((with_reducible refine (?_ : SO _ _ _ _ _ _)); first | refine so_none ?_ | refine so_some ?_)
    | ((with_reducible refine (?_ : SG _ _ _ _ _ _ _)); first | refine sg_nm (by assumption) ?_ | refine sg_par rfl ?_ | refine sg_tup rfl ?_)
    | ((with_reducible refine (?_ : SGs _ _ _ _ _ _ _)); first | refine sgs_cons ?_ | refine sgs_nil ?_)
    | ((with_reducible refine (?_ : SGb _ _ _ _ _ _ _ _)); first | refine sgb_nm (by assumption) ?_ (by first | exact vs_self | exact vs_one | exact vs_two) | refine sgb_par rfl ?_ | refine sgb_tup rfl ?_)
    | ((with_reducible refine (?_ : SGbs _ _ _ _ _ _ _ _)); first | refine sgbs_cons ?_ | refine sgbs_nil ?_)
    | ((with_reducible refine (?_ : SW _ _ _ _ _ _ _)); first | refine sw_vals ?_ | refine sw_zipT (by assumption) ?_ | refine sw_range (by assumption) ?_ | refine sw_seq ?_)
    | ((with_reducible refine (?_ : OpV _ _ _ _ _ _ _ _)); first | refine ov_eqN ?_ | refine ov_neN ?_ | refine ov_inN ?_ | refine ov_ninN ?_ | refine ov_inNT ?_ | refine ov_ninNT ?_ | refine oi_add ?_ | refine oi_catT (by fail "z") ?_ | refine ov_cat (by fail "z") ?_ | refine ov_catT (by fail "z") ?_ | refine ov_add ?_ | refine ov_sub ?_ | refine ov_lt ?_ | refine ov_le ?_ | refine ov_gt ?_ | refine ov_ge ?_ | refine ov_eqI ?_ | refine ov_neI ?_ | refine ov_eqS ?_ | refine ov_neS ?_ | refine ov_eqB ?_ | refine ov_neB ?_)
    | ((with_reducible refine (?_ : IxV _ _ _ _ _ _ _)); first | refine iv_cons ?_ | refine iv_consT ?_)
    | ((with_reducible refine (?_ : SlV _ _ _ _ _ _ _ _)); first | refine sv_fromL (by decide) ?_ | refine sv_fromT (by decide) ?_ | refine sv_toL (by decide) ?_ | refine sv_toT (by decide) ?_)
    | ((with_reducible refine (?_ : ClV _ _ _ _ _ _ _)); first | refine cv_anyM rfl ?_ | refine cv_allM rfl ?_ | refine cv_len rfl ?_ | refine cv_tuple rfl ?_ | refine cv_list rfl ?_ | refine cv_abs ?_ | refine cv_isStr rfl ?_ | refine cv_isTup rfl ?_ | refine cv_isInt rfl ?_ | refine cv_isBool rfl ?_ | refine cv_sum rfl ?_)
    | (with_reducible refine turn0I (fun _ _ _ _ _ _ => ?_)) | (with_reducible refine turn1I (fun _ _ _ _ _ _ => ?_)) | (with_reducible refine turnDI (fun _ _ _ _ _ _ => ?_)) | (with_reducible refine abI (fun _ _ _ _ _ => ?_)) | ((with_reducible show (if _ then _ else _)); first | refine iteT ?_ | refine iteF ?_) | ((with_reducible refine (?_ : And _ _)); refine And.intro (show _ ≤ sizeLine by fail "z") ?_) | ((with_reducible refine (?_ : Exists _)); refine ⟨_, rfl, ?_⟩))
local macro_rules
  | `(tactic| fail "u") => `(tactic| first
    | ((with_reducible refine (?_ : SE _ _ _ _ _ _)); first | refine se_nm rfl ?_ | refine se_tyTuple (by assumption) ?_ | refine se_tyStr (by assumption) ?_ | refine se_tyInt (by assumption) ?_ | refine se_tyBool (by assumption) ?_ | refine se_int ?_ | refine se_str ?_ | refine se_non ?_ | refine se_bl ?_ | refine se_cmp ?_ | refine se_bin ?_ | refine se_backT ?_ | refine se_ix ?_ | refine se_slice ?_ | refine se_tup ?_ | refine se_lst ?_ | ((with_reducible refine (?_ : SE _ _ _ _ (.Call _ _ _ _) _)); first | refine se_any (by assumption) ?_ | refine se_all (by assumption) ?_ | refine se_len (by assumption) ?_ | refine se_min (by assumption) ?_ | refine se_max (by assumption) ?_ | refine se_sorted (by assumption) ?_ | refine se_isi (by assumption) ?_ | refine se_abs (by assumption) ?_ | refine se_sum (by assumption) ?_ | refine se_tupleC (by assumption) ?_ | refine se_listC (by assumption) ?_) | refine se_M rfl (by assumption) (blkOk_by rfl) ?_ | refine se_F rfl (by assumption) (blkOk_by rfl) ?_ | refine se_Dc rfl (by assumption) (blkOk_by rfl) ?_ | refine se_chain ?_ | refine se_indexN ?_ | refine se_not ?_ | refine se_if ?_ | refine se_one ?_ | refine se_and ?_ | refine se_or ?_ | refine se_neg ?_)
    | ((with_reducible refine (?_ : ST _ _ _ _ _ _)); first | refine st_cmp ?_ | refine st_chain ?_ | refine st_not ?_ | refine st_w (sw_and ?_) | refine st_w (sw_or ?_) | refine st_val ?_)
    | ((with_reducible refine (?_ : SWt _ _ _ _ _ _)); first | refine sw_and ?_ | refine sw_and1 ?_ | refine sw_or ?_ | refine sw_or1 ?_)
    | ((with_reducible refine (?_ : SA _ _ _ _ _ _)); first | refine sa_cons ?_ | refine sa_nil ?_)
    | ((with_reducible refine (?_ : SO _ _ _ _ _ _)); first | refine so_none ?_ | refine so_some ?_)
    | ((with_reducible refine (?_ : SG _ _ _ _ _ _ _)); first | refine sg_nm (by assumption) ?_ | refine sg_par rfl ?_ | refine sg_tup rfl ?_)
    | ((with_reducible refine (?_ : SGs _ _ _ _ _ _ _)); first | refine sgs_cons ?_ | refine sgs_nil ?_)
    | ((with_reducible refine (?_ : SGb _ _ _ _ _ _ _ _)); first | refine sgb_nm (by assumption) ?_ (by first | exact vs_self | exact vs_one | exact vs_two) | refine sgb_par rfl ?_ | refine sgb_tup rfl ?_)
    | ((with_reducible refine (?_ : SGbs _ _ _ _ _ _ _ _)); first | refine sgbs_cons ?_ | refine sgbs_nil ?_)
    | ((with_reducible refine (?_ : SW _ _ _ _ _ _ _)); first | refine sw_vals ?_ | refine sw_zipT (by assumption) ?_ | refine sw_range (by assumption) ?_ | refine sw_seq ?_)
    | ((with_reducible refine (?_ : OpV _ _ _ _ _ _ _ _)); first | refine ov_eqN ?_ | refine ov_neN ?_ | refine ov_inN ?_ | refine ov_ninN ?_ | refine ov_inNT ?_ | refine ov_ninNT ?_ | refine oi_add ?_ | refine oi_catT (by fail "z") ?_ | refine ov_cat (by fail "z") ?_ | refine ov_catT (by fail "z") ?_ | refine ov_add ?_ | refine ov_sub ?_ | refine ov_lt ?_ | refine ov_le ?_ | refine ov_gt ?_ | refine ov_ge ?_ | refine ov_eqI ?_ | refine ov_neI ?_ | refine ov_eqS ?_ | refine ov_neS ?_ | refine ov_eqB ?_ | refine ov_neB ?_)
    | ((with_reducible refine (?_ : IxV _ _ _ _ _ _ _)); first | refine iv_cons ?_ | refine iv_consT ?_)
    | ((with_reducible refine (?_ : SlV _ _ _ _ _ _ _ _)); first | refine sv_fromL (by decide) ?_ | refine sv_fromT (by decide) ?_ | refine sv_toL (by decide) ?_ | refine sv_toT (by decide) ?_)
    | ((with_reducible refine (?_ : ClV _ _ _ _ _ _ _)); first | refine cv_anyM rfl ?_ | refine cv_allM rfl ?_ | refine cv_len rfl ?_ | refine cv_tuple rfl ?_ | refine cv_list rfl ?_ | refine cv_abs ?_ | refine cv_isStr rfl ?_ | refine cv_isTup rfl ?_ | refine cv_isInt rfl ?_ | refine cv_isBool rfl ?_ | refine cv_sum rfl ?_)
    | (with_reducible refine turn0I (fun _ _ _ _ _ _ => ?_)) | (with_reducible refine turn1I (fun _ _ _ _ _ _ => ?_)) | (with_reducible refine turnDI (fun _ _ _ _ _ _ => ?_)) | (with_reducible refine abI (fun _ _ _ _ _ => ?_)) | ((with_reducible show (if _ then _ else _)); first | (with_reducible refine iteT ?_) | (with_reducible refine iteF ?_)) | ((with_reducible refine (?_ : And _ _)); refine And.intro (show _ ≤ sizeLine by fail "z") ?_) | ((with_reducible refine (?_ : Exists _)); refine ⟨_, rfl, ?_⟩))
section
set_option Elab.async false
set_option linter.all false
set_option maxRecDepth 100000
set_option maxHeartbeats 4000000
open PySem L2 D PyProof.Rows
namespace W
open PySem L2 D PyProof.Rows
structure Txt (mg : Str → Option Value) : Prop where
  any : mg "any" = none
  all : mg "all" = none
  len : mg "len" = none
  min : mg "min" = none
  max : mg "max" = none
  abs : mg "abs" = none
  isi : mg "isinstance" = none
  tuple : mg "tuple" = none
  list : mg "list" = none
  sorted : mg "sorted" = none
  sum : mg "sum" = none
  str : mg "str" = none
  int : mg "int" = none
  bool : mg "bool" = none
  range : mg "range" = none
  enumerate : mg "enumerate" = none
  zip : mg "zip" = none
end W
end
section
set_option Elab.async false
set_option linter.all false
set_option maxRecDepth 100000
set_option maxHeartbeats 4000000
open PySem L2 D PyProof.Rows
namespace W
open PySem L2 D PyProof.Rows
theorem mod_lt {a b : Int} (h : 0 < b) : 0 ≤ a % b ∧ a % b < b := ⟨Int.emod_nonneg a (by omega), Int.emod_lt_of_pos a h⟩
theorem atI_nat' {α : Type} {l : List α} {i : Int} (h0 : 0 ≤ i) (h1 : i < l.length) : ∃ d, atI l i = some d ∧ d ∈ l := by
  unfold atI L2.ixN
  rw [if_pos h0, if_pos h1]
  have hl : i.toNat < l.length := by omega
  exact ⟨l[i.toNat], List.getElem?_eq_getElem hl, List.getElem_mem hl⟩
section
variable {P : Program} {w : World} {K : PySem.W.Frag} {mg : Str → Option Value} {base : Heap}
abbrev sp_bag (K : PySem.W.Frag) : Sp := spG K (fun x : List Int × Int => [.fzl (x.1.map .int), .int x.2]) (fun _ => []) (fun x => 0 ≤ x.2 ∧ x.2 < 1000) (fun _ c' d => ∃ a, c' = [(a, .bag 0)] ∧ d = .raw (.ref a)) fun _ _ _ => False
theorem ok_bag {f : Addr} {fd : FuncData} (Fu : Fun K "_law_bag" "_law_bag" s__law_bag f fd) (T : Txt mg) : FnOk P w K mg base (L2.CX P w) 1 f fd ["_law_script", "_law_spot_at"] (sp_bag K) := by
  refine fn_G Fu sc__law_bag (fun a => rfl) (fun cdv A outer s H E F x hp hr xt => ?_)
  obtain ⟨ns, i⟩ := x
  obtain ⟨h0, h1⟩ := (show 0 ≤ i ∧ i < 1000 from hp)
  have nd := sc__law_bag.nd
  have habs := T.abs
  have hlen := T.len
  have key2 : ∀ n m : Int, 0 ≤ m → SS F (cxOf (L2.CX P w) P w K mg base n__law_bag "_law_bag" (defScope s__law_bag) f cdv A outer s H E) (((startP n__law_bag [.fzl (ns.map .int), .int i]).set 2 (.dat (.int n))).set 3 (.dat (.int m))) [] ((defBody s__law_bag).drop 2)
      { nx := fun _ c' => ∃ a, c' = [(a, .bag 0)] ∧ Dt.non = .raw (.ref a), rt := fun _ c' d => ∃ a, c' = [(a, .bag 0)] ∧ d = .raw (.ref a) } := by
    intro n m hm
    have hn := mod_lt (a := n) (b := 2147483647) (by decide)
    have hb : (n % 2147483647 + 7121 * i + 11).natAbs < 2 ^ 64 := by omega
    have hx := mod_lt (a := (n % 2147483647 + 7121 * i + 11) ^ (3 : Int).toNat) (b := 2147483629) (by decide)
    refine ss_one (s_ret (SE.closeBag (SEL.sc (sel_lst ?_))))
    repeat fail
    refine ov_mod (by decide) ?_
    repeat fail
    refine ov_mul (.inl ⟨by decide, by decide⟩) ?_
    repeat fail
    refine ov_pow ⟨by decide, by decide, hb⟩ ?_
    repeat fail
    refine ov_mod (by decide) ?_
    repeat fail
    intro a
    exact ⟨0, a, m, _, 0, 0, rfl, hm, hx.1, by omega, by decide, by decide, a, rfl, rfl⟩
  have key : ∀ n : Int, SS F (cxOf (L2.CX P w) P w K mg base n__law_bag "_law_bag" (defScope s__law_bag) f cdv A outer s H E) ((startP n__law_bag [.fzl (ns.map .int), .int i]).set 2 (.dat (.int n))) [] ((defBody s__law_bag).drop 1)
      { nx := fun _ c' => ∃ a, c' = [(a, .bag 0)] ∧ Dt.non = .raw (.ref a), rt := fun _ c' d => ∃ a, c' = [(a, .bag 0)] ∧ d = .raw (.ref a) } := by
    intro n
    repeat fail
    refine ov_pow ⟨by decide, by decide, by decide⟩ ?_
    repeat fail
    refine ite2 (fun h => ?_) (fun h => ?_)
    · repeat fail "e"
      exact key2 n _ (by split <;> omega)
    · repeat fail "e"
      exact key2 n 0 (by decide)
  repeat fail
  refine cv_lenF  ?_
  repeat fail "e"
  refine ite2 (fun h => ?_) (fun h => ?_)
  · repeat fail "e"
    have h := of_decide_eq_true h
    obtain ⟨d, hd, hm⟩ := atI_nat' (l := ns.map Dt.int) h0 (by simpa using h)
    obtain ⟨n, _, rfl⟩ := List.mem_map.mp hm
    exact iv_fzl hd (key n)
  · repeat fail "e"
    exact key 0
abbrev sp_take (K : PySem.W.Frag) : Sp := spB K (fun n : Int => [.int n]) (fun n => 0 < n ∧ n < 1000000) (fun _ => 1) (fun n z => ∃ k, z = .int k ∧ 0 ≤ k ∧ k < n)
theorem ok_take {f : Addr} {fd : FuncData} (Fu : Fun K "_law_take" "_law_take" s__law_take f fd) : FnOk P w K mg base (L2.CX P w) 1 f fd ["_law_bag_here", "_law_many"] (sp_take K) := by
  refine fn_B Fu sc__law_take (fun a => rfl) (fun cdv A outer s H E F b c n hp hc hr => ?_)
  obtain ⟨hn0, hn1⟩ := hp
  have nd := sc__law_take.nd
  have hc' : (c : Int) + 1 ≤ 1000000000 := by have : c + 1 ≤ 1000000000 := hc; omega
  refine ss_openBag 0 rfl fun d s' k' h1 h2 h3 h4 h5 => ?_
  repeat fail
  refine iv_lcel 0 rfl rfl ?_
  repeat fail
  refine ite2 (fun h => ?_) (fun h => ?_)
  · have hd : 0 < d := of_decide_eq_true h
    repeat fail
    refine iv_lcel 0 rfl rfl ?_
    repeat fail "e"
    refine ov_mod hn0 ?_
    refine ss_cons (s_lput ?_)
    repeat fail
    refine iv_lcel 0 rfl rfl ?_
    repeat fail "e"
    refine ov_div ⟨hn0, by omega⟩ ?_
    repeat fail "e"
    refine ⟨0, _, _, 0, rfl, rfl, rfl, ?_⟩
    refine ss_one (s_ret (SE.closeBag ?_))
    repeat fail
    refine ⟨0, b, d / n, s', k', c + 1, rfl, Int.ediv_nonneg (by omega) (by omega), h2, h3, h4, by omega, ?_⟩
    exact ⟨⟨_, Nat.le_refl _, rfl⟩, _, rfl, mod_lt hn0⟩
  · refine ss_nil ?_
    refine ss_cons (s_lput ?_)
    repeat fail "e"
    refine iv_lcel 0 rfl rfl ?_
    repeat fail "e"
    refine ⟨0, _, _, 2, rfl, rfl, rfl, ?_⟩
    refine ss_cons (s_lput ?_)
    repeat fail
    refine iv_lcel 0 rfl rfl ?_
    repeat fail
    refine ov_mul (.inr ⟨by decide, by decide⟩) ?_
    repeat fail
    refine iv_lcel 0 rfl rfl ?_
    repeat fail
    refine ov_mul (.inl ⟨by decide, by decide⟩) ?_
    repeat fail
    refine iv_lcel 0 rfl rfl ?_
    repeat fail
    refine ov_mul (.inr ⟨by omega, by omega⟩) ?_
    repeat fail
    refine ov_mod (by decide) ?_
    repeat fail
    refine ⟨0, _, _, 1, rfl, rfl, rfl, ?_⟩
    have hm := mod_lt (a := s' * 48271 + 6607 * (k' + 1) * (k' + 1) + 5) (b := 2147483647) (by decide)
    have hb : ((s' * 48271 + 6607 * (k' + 1) * (k' + 1) + 5) % 2147483647 / 16).natAbs < 2 ^ 64 := by omega
    refine ss_one (s_ret (SE.closeBag ?_))
    repeat fail
    refine iv_lcel 0 rfl rfl ?_
    repeat fail
    refine ov_div ⟨by decide, by decide⟩ ?_
    repeat fail
    refine ov_pow ⟨by decide, by decide, hb⟩ ?_
    repeat fail
    refine ov_mod (by decide) ?_
    repeat fail
    refine ov_mod hn0 ?_
    refine ⟨0, b, d, _, _, c + 1, rfl, h1, hm.1, hm.2, by omega, by omega, ?_⟩
    exact ⟨⟨_, Nat.le_refl _, rfl⟩, _, rfl, mod_lt hn0⟩
end
end W
end
section
set_option Elab.async false
set_option linter.all false
set_option maxRecDepth 100000
set_option maxHeartbeats 4000000
set_option pp.maxSteps 600
open PySem L2 D PyProof.Rows
namespace D
theorem cv_int1 {F : Fm} {X : Cx} {Γ : List Sl} {c : Cells} {P : Cells → Dt → Prop} {b : Bool} (h : b = true) (p : P c (.int 1)) : ClV F X Γ c (.type "int") [.bl b] P := by
  subst h
  exact cv_intB p
theorem cv_int0 {F : Fm} {X : Cx} {Γ : List Sl} {c : Cells} {P : Cells → Dt → Prop} {b : Bool} (h : b = false) (p : P c (.int 0)) : ClV F X Γ c (.type "int") [.bl b] P := by
  subst h
  exact cv_intB p
end D
namespace W
open PySem L2 D PyProof.Rows
abbrev words22 : List Str := ["NoName", "NoBases", "NoLine", "NoMerge", "NoCall", "NoBody", "NoChain", "NoRegistry", "NoText", "NoCommand", "NoKind", "NoObject", "NoOpen", "Absent", "NoDefiner", "Taken", "InUse", "Busy", "Nothing", "TooMany", "TooLong", "TooDeep"]
abbrev typs5 : List String := ["ValueError", "KeyError", "LookupError", "RuntimeError", "OverflowError"]
def wi (x : Str) : Nat := words22.idxOf x
/-- which built-in classes stand above -/
def aboveB (x : Str) : List Bool := if wi x < 10 then [true, false, false, false, false] else if wi x < 13 then [false, true, true, false, false] else if wi x < 15 then [false, false, true, false, false] else if wi x < 19 then [false, false, false, true, false] else [false, false, false, false, true]
def isW (x : Str) : List Bool := words22.map fun y => decide (x = y)
theorem isW_count : ∀ x ∈ words22, (isW x).count true = 1 := by decide +kernel
theorem isW_ix : ∀ x ∈ words22, (isW x).idxOf true = wi x := by decide +kernel
theorem isW_mem : ∀ x ∈ words22, true ∈ isW x := by decide +kernel
theorem wi_at : ∀ x ∈ words22, words22[wi x]? = some x := by decide +kernel
theorem ss_norm {F : Fm} {X : Cx} {Γ Γ' : List Sl} {c : Cells} {ss : List Stmt} {Φ : PEnds} (e : Γ = Γ') (h : SS F X Γ' c ss Φ) : SS F X Γ c ss Φ := by rw [e]; exact h
theorem atI_words {x : Str} {n : Nat} (h : words22[n]? = some x) : atI (words22.map Dt.str) (n : Int) = some (.str x) := by
  exact atI_nat (by rw [List.getElem?_map, h]; rfl)
theorem above_cases (x : Str) : (wi x < 10 ∧ aboveB x = [true, false, false, false, false]) ∨ ((10 ≤ wi x ∧ wi x < 13) ∧ aboveB x = [false, true, true, false, false]) ∨ ((13 ≤ wi x ∧ wi x < 15) ∧ aboveB x = [false, false, true, false, false]) ∨ ((15 ≤ wi x ∧ wi x < 19) ∧ aboveB x = [false, false, false, true, false]) ∨ (19 ≤ wi x ∧ aboveB x = [false, false, false, false, true]) := by
  unfold aboveB
  by_cases h1 : wi x < 10
  · exact .inl ⟨h1, if_pos h1⟩
  · rw [if_neg h1]
    by_cases h2 : wi x < 13
    · exact .inr (.inl ⟨⟨by omega, h2⟩, if_pos h2⟩)
    · rw [if_neg h2]
      by_cases h3 : wi x < 15
      · exact .inr (.inr (.inl ⟨⟨by omega, h3⟩, if_pos h3⟩))
      · rw [if_neg h3]
        by_cases h4 : wi x < 19
        · exact .inr (.inr (.inr (.inl ⟨⟨by omega, h4⟩, if_pos h4⟩)))
        · exact .inr (.inr (.inr (.inr ⟨by omega, if_neg h4⟩)))
section
variable {P : Program} {w : World} {K : PySem.W.Frag} {mg : Str → Option Value} {base : Heap} {cls : Str → Addr} {R : List Str}
/-- an exception as an argument: its word, has it a dict, its fields -/
abbrev argE (cls : Str → Addr) (x : Str × Bool × List (Str × Dt)) : List Dt := [.xcv (cls x.1) x.2.1 x.2.2]
abbrev sp_word (K : PySem.W.Frag) (cls : Str → Addr) (R : List Str) : Sp := spP K (argE cls) (fun x => x.1 ∈ R) (fun x d => d = .str x.1)
/-- what the classes are; those of R may be raised -/
structure ClsW (K : PySem.W.Frag) (mg : Str → Option Value) (cls : Str → Addr) (R : List Str) : Prop where
  sub : ∀ x ∈ R, x ∈ words22
  ec : ∀ x ∈ R, ExcC K (cls x)
  gl : ∀ y ∈ words22, mg y = some (.ref (cls y))
  one : ∀ x ∈ R, ∀ y ∈ words22, PySem.W.kitOne K (.ref (cls x)) (.ref (cls y)) = some (decide (x = y))
  nT : ∀ T ∈ typs5, mg (Str.ofString T) = none
  kT : ∀ x ∈ R, typs5.map (fun T => PySem.W.kitOne K (.ref (cls x)) (.type T)) = (aboveB x).map some
theorem ok_word {f : Addr} {fd : FuncData} (Fu : Fun K "_law_word" "_law_word" s__law_word f fd) (hisi : mg "isinstance" = none) (hint : mg "int" = none) (hstr : mg "str" = none) (CW : ClsW K mg cls R) : FnOk P w K mg base (L2.CX P w) 1 f fd ["_law_e"] (sp_word K cls R) := by
  refine fn_P Fu sc__law_word (fun a => rfl) (fun cdv A outer s H E F x hpre hr => ?_)
  obtain ⟨wd, hb, fs⟩ := x
  have hR : wd ∈ R := hpre
  have nd := sc__law_word.nd
  have hm := CW.sub wd hR
  have EC := CW.ec wd hR
  have hW := CW.gl
  have hk := CW.one wd hR
  obtain ⟨b0, b1, b2, b3, b4, hab, hgr⟩ : ∃ b0 b1 b2 b3 b4, aboveB wd = [b0, b1, b2, b3, b4] ∧ ((wi wd < 10 ∧ [b0, b1, b2, b3, b4] = [true, false, false, false, false]) ∨ ((10 ≤ wi wd ∧ wi wd < 13) ∧ [b0, b1, b2, b3, b4] = [false, true, true, false, false]) ∨ ((13 ≤ wi wd ∧ wi wd < 15) ∧ [b0, b1, b2, b3, b4] = [false, false, true, false, false]) ∨ ((15 ≤ wi wd ∧ wi wd < 19) ∧ [b0, b1, b2, b3, b4] = [false, false, false, true, false]) ∨ (19 ≤ wi wd ∧ [b0, b1, b2, b3, b4] = [false, false, false, false, true])) := by
    rcases above_cases wd with ⟨h, e⟩ | ⟨h, e⟩ | ⟨h, e⟩ | ⟨h, e⟩ | ⟨h, e⟩
    · exact ⟨_, _, _, _, _, e, .inl ⟨h, rfl⟩⟩
    · exact ⟨_, _, _, _, _, e, .inr (.inl ⟨h, rfl⟩)⟩
    · exact ⟨_, _, _, _, _, e, .inr (.inr (.inl ⟨h, rfl⟩))⟩
    · exact ⟨_, _, _, _, _, e, .inr (.inr (.inr (.inl ⟨h, rfl⟩)))⟩
    · exact ⟨_, _, _, _, _, e, .inr (.inr (.inr (.inr ⟨h, rfl⟩)))⟩
  have hkT := CW.kT wd hR
  rw [hab] at hkT
  obtain ⟨k0, hkT⟩ := List.cons.inj hkT
  obtain ⟨k1, hkT⟩ := List.cons.inj hkT
  obtain ⟨k2, hkT⟩ := List.cons.inj hkT
  obtain ⟨k3, hkT⟩ := List.cons.inj hkT
  obtain ⟨k4, _⟩ := List.cons.inj hkT
  have h1 := isW_count wd hm
  have h2 := isW_ix wd hm
  have h3 := isW_mem wd hm
  have h4 := wi_at wd hm
  generalize hn : wi wd = n at h2 h4 hgr
  have hbig := big_line
  refine ss_cons (s_st nd ?_)
  repeat fail "e"
  refine ss_cons (s_st nd ?_)
  repeat fail "e"
  refine ss_cons (s_st nd ?_)
  repeat fail "e"
  refine ss_cons (s_st nd ?_)
  refine se_lst ?_
  refine sa_cons (se_isi hisi (sa_cons (se_nm rfl (sa_cons (se_glob (u := .ref (cls "NoName")) (v := .ref (cls "NoName")) rfl (hW "NoName" (by decide)) rfl (fun _ => .raw _) (sa_nil (cv_isV EC (hk "NoName" (by decide)) ?_)))))))
  refine sa_cons (se_isi hisi (sa_cons (se_nm rfl (sa_cons (se_glob (u := .ref (cls "NoBases")) (v := .ref (cls "NoBases")) rfl (hW "NoBases" (by decide)) rfl (fun _ => .raw _) (sa_nil (cv_isV EC (hk "NoBases" (by decide)) ?_)))))))
  refine sa_cons (se_isi hisi (sa_cons (se_nm rfl (sa_cons (se_glob (u := .ref (cls "NoLine")) (v := .ref (cls "NoLine")) rfl (hW "NoLine" (by decide)) rfl (fun _ => .raw _) (sa_nil (cv_isV EC (hk "NoLine" (by decide)) ?_)))))))
  refine sa_cons (se_isi hisi (sa_cons (se_nm rfl (sa_cons (se_glob (u := .ref (cls "NoMerge")) (v := .ref (cls "NoMerge")) rfl (hW "NoMerge" (by decide)) rfl (fun _ => .raw _) (sa_nil (cv_isV EC (hk "NoMerge" (by decide)) ?_)))))))
  refine sa_nil ⟨by fail "z", ?_⟩
  refine ss_cons (s_st nd ?_)
  refine se_bin (se_nm rfl ?_)
  refine se_lst ?_
  refine sa_cons (se_isi hisi (sa_cons (se_nm rfl (sa_cons (se_glob (u := .ref (cls "NoCall")) (v := .ref (cls "NoCall")) rfl (hW "NoCall" (by decide)) rfl (fun _ => .raw _) (sa_nil (cv_isV EC (hk "NoCall" (by decide)) ?_)))))))
  refine sa_cons (se_isi hisi (sa_cons (se_nm rfl (sa_cons (se_glob (u := .ref (cls "NoBody")) (v := .ref (cls "NoBody")) rfl (hW "NoBody" (by decide)) rfl (fun _ => .raw _) (sa_nil (cv_isV EC (hk "NoBody" (by decide)) ?_)))))))
  refine sa_cons (se_isi hisi (sa_cons (se_nm rfl (sa_cons (se_glob (u := .ref (cls "NoChain")) (v := .ref (cls "NoChain")) rfl (hW "NoChain" (by decide)) rfl (fun _ => .raw _) (sa_nil (cv_isV EC (hk "NoChain" (by decide)) ?_)))))))
  refine sa_cons (se_isi hisi (sa_cons (se_nm rfl (sa_cons (se_glob (u := .ref (cls "NoRegistry")) (v := .ref (cls "NoRegistry")) rfl (hW "NoRegistry" (by decide)) rfl (fun _ => .raw _) (sa_nil (cv_isV EC (hk "NoRegistry" (by decide)) ?_)))))))
  refine sa_nil ⟨by fail "z", ?_⟩
  refine ov_cat (by fail "z") ?_
  refine ss_cons (s_st nd ?_)
  refine se_bin (se_nm rfl ?_)
  refine se_lst ?_
  refine sa_cons (se_isi hisi (sa_cons (se_nm rfl (sa_cons (se_glob (u := .ref (cls "NoText")) (v := .ref (cls "NoText")) rfl (hW "NoText" (by decide)) rfl (fun _ => .raw _) (sa_nil (cv_isV EC (hk "NoText" (by decide)) ?_)))))))
  refine sa_cons (se_isi hisi (sa_cons (se_nm rfl (sa_cons (se_glob (u := .ref (cls "NoCommand")) (v := .ref (cls "NoCommand")) rfl (hW "NoCommand" (by decide)) rfl (fun _ => .raw _) (sa_nil (cv_isV EC (hk "NoCommand" (by decide)) ?_)))))))
  refine sa_cons (se_isi hisi (sa_cons (se_nm rfl (sa_cons (se_glob (u := .ref (cls "NoKind")) (v := .ref (cls "NoKind")) rfl (hW "NoKind" (by decide)) rfl (fun _ => .raw _) (sa_nil (cv_isV EC (hk "NoKind" (by decide)) ?_)))))))
  refine sa_cons (se_isi hisi (sa_cons (se_nm rfl (sa_cons (se_glob (u := .ref (cls "NoObject")) (v := .ref (cls "NoObject")) rfl (hW "NoObject" (by decide)) rfl (fun _ => .raw _) (sa_nil (cv_isV EC (hk "NoObject" (by decide)) ?_)))))))
  refine sa_nil ⟨by fail "z", ?_⟩
  refine ov_cat (by fail "z") ?_
  refine ss_cons (s_st nd ?_)
  refine se_bin (se_nm rfl ?_)
  refine se_lst ?_
  refine sa_cons (se_isi hisi (sa_cons (se_nm rfl (sa_cons (se_glob (u := .ref (cls "NoOpen")) (v := .ref (cls "NoOpen")) rfl (hW "NoOpen" (by decide)) rfl (fun _ => .raw _) (sa_nil (cv_isV EC (hk "NoOpen" (by decide)) ?_)))))))
  refine sa_cons (se_isi hisi (sa_cons (se_nm rfl (sa_cons (se_glob (u := .ref (cls "Absent")) (v := .ref (cls "Absent")) rfl (hW "Absent" (by decide)) rfl (fun _ => .raw _) (sa_nil (cv_isV EC (hk "Absent" (by decide)) ?_)))))))
  refine sa_cons (se_isi hisi (sa_cons (se_nm rfl (sa_cons (se_glob (u := .ref (cls "NoDefiner")) (v := .ref (cls "NoDefiner")) rfl (hW "NoDefiner" (by decide)) rfl (fun _ => .raw _) (sa_nil (cv_isV EC (hk "NoDefiner" (by decide)) ?_)))))))
  refine sa_cons (se_isi hisi (sa_cons (se_nm rfl (sa_cons (se_glob (u := .ref (cls "Taken")) (v := .ref (cls "Taken")) rfl (hW "Taken" (by decide)) rfl (fun _ => .raw _) (sa_nil (cv_isV EC (hk "Taken" (by decide)) ?_)))))))
  refine sa_nil ⟨by fail "z", ?_⟩
  refine ov_cat (by fail "z") ?_
  refine ss_cons (s_st nd ?_)
  refine se_bin (se_nm rfl ?_)
  refine se_lst ?_
  refine sa_cons (se_isi hisi (sa_cons (se_nm rfl (sa_cons (se_glob (u := .ref (cls "InUse")) (v := .ref (cls "InUse")) rfl (hW "InUse" (by decide)) rfl (fun _ => .raw _) (sa_nil (cv_isV EC (hk "InUse" (by decide)) ?_)))))))
  refine sa_cons (se_isi hisi (sa_cons (se_nm rfl (sa_cons (se_glob (u := .ref (cls "Busy")) (v := .ref (cls "Busy")) rfl (hW "Busy" (by decide)) rfl (fun _ => .raw _) (sa_nil (cv_isV EC (hk "Busy" (by decide)) ?_)))))))
  refine sa_cons (se_isi hisi (sa_cons (se_nm rfl (sa_cons (se_glob (u := .ref (cls "Nothing")) (v := .ref (cls "Nothing")) rfl (hW "Nothing" (by decide)) rfl (fun _ => .raw _) (sa_nil (cv_isV EC (hk "Nothing" (by decide)) ?_)))))))
  refine sa_cons (se_isi hisi (sa_cons (se_nm rfl (sa_cons (se_glob (u := .ref (cls "TooMany")) (v := .ref (cls "TooMany")) rfl (hW "TooMany" (by decide)) rfl (fun _ => .raw _) (sa_nil (cv_isV EC (hk "TooMany" (by decide)) ?_)))))))
  refine sa_nil ⟨by fail "z", ?_⟩
  refine ov_cat (by fail "z") ?_
  refine ss_cons (s_st nd ?_)
  refine se_bin (se_nm rfl ?_)
  refine se_lst ?_
  refine sa_cons (se_isi hisi (sa_cons (se_nm rfl (sa_cons (se_glob (u := .ref (cls "TooLong")) (v := .ref (cls "TooLong")) rfl (hW "TooLong" (by decide)) rfl (fun _ => .raw _) (sa_nil (cv_isV EC (hk "TooLong" (by decide)) ?_)))))))
  refine sa_cons (se_isi hisi (sa_cons (se_nm rfl (sa_cons (se_glob (u := .ref (cls "TooDeep")) (v := .ref (cls "TooDeep")) rfl (hW "TooDeep" (by decide)) rfl (fun _ => .raw _) (sa_nil (cv_isV EC (hk "TooDeep" (by decide)) ?_)))))))
  refine sa_nil ⟨by fail "z", ?_⟩
  refine ov_cat (by fail "z") ?_
  refine ss_cons (s_st nd ?_)
  refine se_lst ?_
  refine sa_cons (se_isi hisi (sa_cons (se_nm rfl (sa_cons (se_ty (T := "ValueError") (CW.nT "ValueError" (by decide)) (sa_nil (cv_isVT EC k0 ?_)) (by decide +kernel) rfl)))))
  refine sa_cons (se_isi hisi (sa_cons (se_nm rfl (sa_cons (se_ty (T := "KeyError") (CW.nT "KeyError" (by decide)) (sa_nil (cv_isVT EC k1 ?_)) (by decide +kernel) rfl)))))
  refine sa_cons (se_isi hisi (sa_cons (se_nm rfl (sa_cons (se_ty (T := "LookupError") (CW.nT "LookupError" (by decide)) (sa_nil (cv_isVT EC k2 ?_)) (by decide +kernel) rfl)))))
  refine sa_nil ⟨by fail "z", ?_⟩
  refine ss_cons (s_st nd ?_)
  refine se_bin (se_nm rfl ?_)
  refine se_lst ?_
  refine sa_cons (se_isi hisi (sa_cons (se_nm rfl (sa_cons (se_ty (T := "RuntimeError") (CW.nT "RuntimeError" (by decide)) (sa_nil (cv_isVT EC k3 ?_)) (by decide +kernel) rfl)))))
  refine sa_cons (se_isi hisi (sa_cons (se_nm rfl (sa_cons (se_ty (T := "OverflowError") (CW.nT "OverflowError" (by decide)) (sa_nil (cv_isVT EC k4 ?_)) (by decide +kernel) rfl)))))
  refine sa_nil ⟨by fail "z", ?_⟩
  refine ov_cat (by fail "z") ?_
  refine ss_cons (s_if ?_)
  refine st_cmp (se_countB ?_)
  repeat fail "e"
  refine ⟨isW wd, rfl, ?_⟩
  repeat fail "e"
  rw [h1]
  repeat fail "e"
  refine ss_nil (ss_cons (s_st nd (se_indexB ?_)))
  repeat fail "e"
  refine ⟨isW wd, rfl, ?_⟩
  repeat fail "e"
  refine ⟨h3, ?_⟩
  rw [h2]
  have dgt : ∀ z : Nat, z ∈ [48, 49] → PySem.intText? ⟨#[z]⟩ = some ((z : Int) - 48) := by decide +kernel
  have hl22 : n < 22 := by
    have := (List.getElem?_eq_some_iff.mp h4).1
    exact this
  refine ss_norm (Γ' := [_, _, _, _, _, _, _, _, _]) rfl ?_
  rcases hgr with ⟨hlt, e⟩ | ⟨⟨hge, hlt⟩, e⟩ | ⟨⟨hge, hlt⟩, e⟩ | ⟨⟨hge, hlt⟩, e⟩ | ⟨hge, e⟩
  · obtain ⟨rfl, rfl, rfl, rfl, rfl⟩ : b0 = true ∧ b1 = false ∧ b2 = false ∧ b3 = false ∧ b4 = false := by simpa using e
    refine ss_cons (s_st nd ?_)
    refine se_bin (se_bin (se_bin (se_callT (id := "int") hint ?_)))
    repeat fail "u"
    refine cv_int0 (decide_eq_false (by omega)) ?_
    refine se_callT (id := "int") hint ?_
    repeat fail "u"
    refine cv_int0 (decide_eq_false (by omega)) ?_
    refine ov_add ?_
    refine se_callT (id := "int") hint ?_
    repeat fail "u"
    refine cv_int0 (decide_eq_false (by omega)) ?_
    refine ov_add ?_
    refine se_callT (id := "int") hint ?_
    repeat fail "u"
    refine cv_int0 (decide_eq_false (by omega)) ?_
    refine ov_add ?_
    refine ss_norm (Γ' := [_, _, _, _, _, .dat (.int 0), _, _, _]) rfl ?_
    refine ss_cons (s_st nd ?_)
    repeat fail "u"
    refine ss_cons (s_st nd ?_)
    refine se_join (se_str ⟨_, rfl, se_M rfl nd (blkOk_by rfl) (sw_lst ?_)⟩)
    repeat fail "u"
    refine lcM (enc := Dt.bl) (l := [true, false, false, false, false]) (fun b => .str (if b then "1" else "0")) (by fail "z") ?_ ?_
    · intro z hz'
      repeat fail "u"
      refine se_callT (id := "str") hstr ?_
      refine sa_cons (se_callT (id := "int") hint ?_)
      repeat fail "u"
      cases z
      · refine cv_int0 rfl ?_
        refine sa_nil ?_
        refine cv_strI (by decide +kernel) ?_
        exact ⟨rfl, congrArg Dt.str (by decide +kernel)⟩
      · refine cv_int1 rfl ?_
        refine sa_nil ?_
        refine cv_strI (by decide +kernel) ?_
        exact ⟨rfl, congrArg Dt.str (by decide +kernel)⟩
    refine ⟨["1", "0", "0", "0", "0"], rfl, by decide +kernel, ?_⟩
    refine ss_norm (Γ' := [_, _, _, _, _, _, .dat (.str "10000"), .dat (.str "10000"), _]) (by rw [show Txt.join "" ["1", "0", "0", "0", "0"] = ("10000" : Str) by decide +kernel]; rfl) ?_
    refine ss_one (s_ret (se_if ?_))
    repeat fail "u"
    refine iteTr (by decide +kernel) ?_
    repeat fail "u"
    refine iv_lst (d := .str wd) ?_ ?_
    · exact atI_words h4
    exact ⟨rfl, rfl⟩
  · obtain ⟨rfl, rfl, rfl, rfl, rfl⟩ : b0 = false ∧ b1 = true ∧ b2 = true ∧ b3 = false ∧ b4 = false := by simpa using e
    refine ss_cons (s_st nd ?_)
    refine se_bin (se_bin (se_bin (se_callT (id := "int") hint ?_)))
    repeat fail "u"
    refine cv_int1 (decide_eq_true (by omega)) ?_
    refine se_callT (id := "int") hint ?_
    repeat fail "u"
    refine cv_int0 (decide_eq_false (by omega)) ?_
    refine ov_add ?_
    refine se_callT (id := "int") hint ?_
    repeat fail "u"
    refine cv_int0 (decide_eq_false (by omega)) ?_
    refine ov_add ?_
    refine se_callT (id := "int") hint ?_
    repeat fail "u"
    refine cv_int0 (decide_eq_false (by omega)) ?_
    refine ov_add ?_
    refine ss_norm (Γ' := [_, _, _, _, _, .dat (.int 1), _, _, _]) rfl ?_
    refine ss_cons (s_st nd ?_)
    repeat fail "u"
    refine iv_tup (d := .str "01100") ?_ ?_
    · rfl
    refine ss_cons (s_st nd ?_)
    refine se_join (se_str ⟨_, rfl, se_M rfl nd (blkOk_by rfl) (sw_lst ?_)⟩)
    repeat fail "u"
    refine lcM (enc := Dt.bl) (l := [false, true, true, false, false]) (fun b => .str (if b then "1" else "0")) (by fail "z") ?_ ?_
    · intro z hz'
      repeat fail "u"
      refine se_callT (id := "str") hstr ?_
      refine sa_cons (se_callT (id := "int") hint ?_)
      repeat fail "u"
      cases z
      · refine cv_int0 rfl ?_
        refine sa_nil ?_
        refine cv_strI (by decide +kernel) ?_
        exact ⟨rfl, congrArg Dt.str (by decide +kernel)⟩
      · refine cv_int1 rfl ?_
        refine sa_nil ?_
        refine cv_strI (by decide +kernel) ?_
        exact ⟨rfl, congrArg Dt.str (by decide +kernel)⟩
    refine ⟨["0", "1", "1", "0", "0"], rfl, by decide +kernel, ?_⟩
    refine ss_norm (Γ' := [_, _, _, _, _, _, .dat (.str "01100"), .dat (.str "01100"), _]) (by rw [show Txt.join "" ["0", "1", "1", "0", "0"] = ("01100" : Str) by decide +kernel]; rfl) ?_
    refine ss_one (s_ret (se_if ?_))
    repeat fail "u"
    refine iteTr (by decide +kernel) ?_
    repeat fail "u"
    refine iv_lst (d := .str wd) ?_ ?_
    · exact atI_words h4
    exact ⟨rfl, rfl⟩
  · obtain ⟨rfl, rfl, rfl, rfl, rfl⟩ : b0 = false ∧ b1 = false ∧ b2 = true ∧ b3 = false ∧ b4 = false := by simpa using e
    refine ss_cons (s_st nd ?_)
    refine se_bin (se_bin (se_bin (se_callT (id := "int") hint ?_)))
    repeat fail "u"
    refine cv_int1 (decide_eq_true (by omega)) ?_
    refine se_callT (id := "int") hint ?_
    repeat fail "u"
    refine cv_int1 (decide_eq_true (by omega)) ?_
    refine ov_add ?_
    refine se_callT (id := "int") hint ?_
    repeat fail "u"
    refine cv_int0 (decide_eq_false (by omega)) ?_
    refine ov_add ?_
    refine se_callT (id := "int") hint ?_
    repeat fail "u"
    refine cv_int0 (decide_eq_false (by omega)) ?_
    refine ov_add ?_
    refine ss_norm (Γ' := [_, _, _, _, _, .dat (.int 2), _, _, _]) rfl ?_
    refine ss_cons (s_st nd ?_)
    repeat fail "u"
    refine iv_tup (d := .str "00100") ?_ ?_
    · rfl
    refine ss_cons (s_st nd ?_)
    refine se_join (se_str ⟨_, rfl, se_M rfl nd (blkOk_by rfl) (sw_lst ?_)⟩)
    repeat fail "u"
    refine lcM (enc := Dt.bl) (l := [false, false, true, false, false]) (fun b => .str (if b then "1" else "0")) (by fail "z") ?_ ?_
    · intro z hz'
      repeat fail "u"
      refine se_callT (id := "str") hstr ?_
      refine sa_cons (se_callT (id := "int") hint ?_)
      repeat fail "u"
      cases z
      · refine cv_int0 rfl ?_
        refine sa_nil ?_
        refine cv_strI (by decide +kernel) ?_
        exact ⟨rfl, congrArg Dt.str (by decide +kernel)⟩
      · refine cv_int1 rfl ?_
        refine sa_nil ?_
        refine cv_strI (by decide +kernel) ?_
        exact ⟨rfl, congrArg Dt.str (by decide +kernel)⟩
    refine ⟨["0", "0", "1", "0", "0"], rfl, by decide +kernel, ?_⟩
    refine ss_norm (Γ' := [_, _, _, _, _, _, .dat (.str "00100"), .dat (.str "00100"), _]) (by rw [show Txt.join "" ["0", "0", "1", "0", "0"] = ("00100" : Str) by decide +kernel]; rfl) ?_
    refine ss_one (s_ret (se_if ?_))
    repeat fail "u"
    refine iteTr (by decide +kernel) ?_
    repeat fail "u"
    refine iv_lst (d := .str wd) ?_ ?_
    · exact atI_words h4
    exact ⟨rfl, rfl⟩
  · obtain ⟨rfl, rfl, rfl, rfl, rfl⟩ : b0 = false ∧ b1 = false ∧ b2 = false ∧ b3 = true ∧ b4 = false := by simpa using e
    refine ss_cons (s_st nd ?_)
    refine se_bin (se_bin (se_bin (se_callT (id := "int") hint ?_)))
    repeat fail "u"
    refine cv_int1 (decide_eq_true (by omega)) ?_
    refine se_callT (id := "int") hint ?_
    repeat fail "u"
    refine cv_int1 (decide_eq_true (by omega)) ?_
    refine ov_add ?_
    refine se_callT (id := "int") hint ?_
    repeat fail "u"
    refine cv_int1 (decide_eq_true (by omega)) ?_
    refine ov_add ?_
    refine se_callT (id := "int") hint ?_
    repeat fail "u"
    refine cv_int0 (decide_eq_false (by omega)) ?_
    refine ov_add ?_
    refine ss_norm (Γ' := [_, _, _, _, _, .dat (.int 3), _, _, _]) rfl ?_
    refine ss_cons (s_st nd ?_)
    repeat fail "u"
    refine iv_tup (d := .str "00010") ?_ ?_
    · rfl
    refine ss_cons (s_st nd ?_)
    refine se_join (se_str ⟨_, rfl, se_M rfl nd (blkOk_by rfl) (sw_lst ?_)⟩)
    repeat fail "u"
    refine lcM (enc := Dt.bl) (l := [false, false, false, true, false]) (fun b => .str (if b then "1" else "0")) (by fail "z") ?_ ?_
    · intro z hz'
      repeat fail "u"
      refine se_callT (id := "str") hstr ?_
      refine sa_cons (se_callT (id := "int") hint ?_)
      repeat fail "u"
      cases z
      · refine cv_int0 rfl ?_
        refine sa_nil ?_
        refine cv_strI (by decide +kernel) ?_
        exact ⟨rfl, congrArg Dt.str (by decide +kernel)⟩
      · refine cv_int1 rfl ?_
        refine sa_nil ?_
        refine cv_strI (by decide +kernel) ?_
        exact ⟨rfl, congrArg Dt.str (by decide +kernel)⟩
    refine ⟨["0", "0", "0", "1", "0"], rfl, by decide +kernel, ?_⟩
    refine ss_norm (Γ' := [_, _, _, _, _, _, .dat (.str "00010"), .dat (.str "00010"), _]) (by rw [show Txt.join "" ["0", "0", "0", "1", "0"] = ("00010" : Str) by decide +kernel]; rfl) ?_
    refine ss_one (s_ret (se_if ?_))
    repeat fail "u"
    refine iteTr (by decide +kernel) ?_
    repeat fail "u"
    refine iv_lst (d := .str wd) ?_ ?_
    · exact atI_words h4
    exact ⟨rfl, rfl⟩
  · obtain ⟨rfl, rfl, rfl, rfl, rfl⟩ : b0 = false ∧ b1 = false ∧ b2 = false ∧ b3 = false ∧ b4 = true := by simpa using e
    refine ss_cons (s_st nd ?_)
    refine se_bin (se_bin (se_bin (se_callT (id := "int") hint ?_)))
    repeat fail "u"
    refine cv_int1 (decide_eq_true (by omega)) ?_
    refine se_callT (id := "int") hint ?_
    repeat fail "u"
    refine cv_int1 (decide_eq_true (by omega)) ?_
    refine ov_add ?_
    refine se_callT (id := "int") hint ?_
    repeat fail "u"
    refine cv_int1 (decide_eq_true (by omega)) ?_
    refine ov_add ?_
    refine se_callT (id := "int") hint ?_
    repeat fail "u"
    refine cv_int1 (decide_eq_true (by omega)) ?_
    refine ov_add ?_
    refine ss_norm (Γ' := [_, _, _, _, _, .dat (.int 4), _, _, _]) rfl ?_
    refine ss_cons (s_st nd ?_)
    repeat fail "u"
    refine iv_tup (d := .str "00001") ?_ ?_
    · rfl
    refine ss_cons (s_st nd ?_)
    refine se_join (se_str ⟨_, rfl, se_M rfl nd (blkOk_by rfl) (sw_lst ?_)⟩)
    repeat fail "u"
    refine lcM (enc := Dt.bl) (l := [false, false, false, false, true]) (fun b => .str (if b then "1" else "0")) (by fail "z") ?_ ?_
    · intro z hz'
      repeat fail "u"
      refine se_callT (id := "str") hstr ?_
      refine sa_cons (se_callT (id := "int") hint ?_)
      repeat fail "u"
      cases z
      · refine cv_int0 rfl ?_
        refine sa_nil ?_
        refine cv_strI (by decide +kernel) ?_
        exact ⟨rfl, congrArg Dt.str (by decide +kernel)⟩
      · refine cv_int1 rfl ?_
        refine sa_nil ?_
        refine cv_strI (by decide +kernel) ?_
        exact ⟨rfl, congrArg Dt.str (by decide +kernel)⟩
    refine ⟨["0", "0", "0", "0", "1"], rfl, by decide +kernel, ?_⟩
    refine ss_norm (Γ' := [_, _, _, _, _, _, .dat (.str "00001"), .dat (.str "00001"), _]) (by rw [show Txt.join "" ["0", "0", "0", "0", "1"] = ("00001" : Str) by decide +kernel]; rfl) ?_
    refine ss_one (s_ret (se_if ?_))
    repeat fail "u"
    refine iteTr (by decide +kernel) ?_
    repeat fail "u"
    refine iv_lst (d := .str wd) ?_ ?_
    · exact atI_words h4
    exact ⟨rfl, rfl⟩
abbrev D_word (P : Program) (w : World) (K : PySem.W.Frag) (mg : Str → Option Value) (base : Heap) (cls : Str → Addr) (R : List Str) : Prop := DefOk P w K mg base 1 "_law_word" ["_law_e"] (sp_word K cls R)
end
end W
end
end
section
set_option Elab.async false
set_option linter.all false
set_option maxRecDepth 100000
set_option maxHeartbeats 4000000
namespace W
open PySem L2 D PyProof.Rows
/-- data that may be shown, and made a text of -/
structure ShS (d : Dt) : Prop where
  sh : Sh 8 1000 d
  st : (strT (py d)).length ≤ 1000
  ok : PyData.strOk (py d).shown = true
abbrev shD2 (d e : Dt) : Prop := ShS d ∧ ShS e
section
variable {P : Program} {w : World} {K : PySem.W.Frag} {mg : Str → Option Value} {base : Heap}
theorem rshow_in {M : List Addr} {H : Hp} {v : V} {d : Dt} (dv : DV K (mask M H) v d) (hs : ShS d) : Dp K H v (py d) ∧ (py d).showable = true ∧ (py d).hasDict = false ∧ (py d).shown.length ≤ sizeLine ∧ (py d).depth ≤ 60 := by
  have hbig := big_line
  exact ⟨DV.dp (dv.mono (mask_ex _ _)) hs.sh.fit.pl, hs.sh.sh, PyData.hasDict_of_canLay _ hs.sh.fit.lay, Nat.le_trans hs.sh.len (by omega), Nat.le_trans hs.sh.fit.dp (by decide)⟩
theorem iv_NoName {f C : Addr} {fd : FuncData} (Fu : Fun K "__init__" "NoName.__init__" s_NoName___init__ f fd) (TO : L2N.OexK K C "ValueError" "ValueError.__new__" "ValueError" "ValueError.__init__" XkA.mroV) (nof0 : PySem.W.findIn K (.ref C) "name" = some none) (hve : mg "ValueError" = none) : FnGd P w K mg base CX0 1 f fd ["self", "name"] (spI K C "name" ShS) := by
  refine L2N.fun_okG Fu sc_NoName___init__ (fun vs H Q E h => ?_) (fun cdv A outer s H vs Q E hg hr h => ?_)
  · obtain ⟨a, v, M, d, rfl, _⟩ := h; rfl
  · obtain ⟨a, v, M, d, rfl, ha, dv, hd, k⟩ := h
    refine ⟨_, pss_cons (ps_expr (L2N.pe_initK (Bn := "ValueError") (newId := "ValueError.__new__") (bmB := XkA.mroV) rfl hve rfl rfl rfl rfl XkA.vV (pa_cons (pv 0) (pa_cons pe_str pa_nil)))) (pss_one (L2N.ps_ostK (Bn := "ValueError") (newId := "ValueError.__new__") (B := "ValueError") (initId := "ValueError.__init__") (bmB := XkA.mroV) (pv 0) (pv 1))), ?_⟩
    refine ⟨_, rfl, a, C, _, rfl, by show 1 ≤ 1000; decide, TO, ha, ?_⟩
    exact ⟨_, rfl, _, rfl, a, C, rfl, TO, nof0, ha, fun dx hdx ne => k dx hdx ne⟩
theorem iv_NoBases {f C : Addr} {fd : FuncData} (Fu : Fun K "__init__" "NoBases.__init__" s_NoBases___init__ f fd) (hstr : mg "str" = none) (TO : L2N.OexK K C "ValueError" "ValueError.__new__" "ValueError" "ValueError.__init__" XkA.mroV) (nof0 : PySem.W.findIn K (.ref C) "at" = some none) (hve : mg "ValueError" = none) : FnGd P w K mg base CX0 1 f fd ["self", "at"] (spI K C "at" ShS) := by
  refine L2N.fun_okG Fu sc_NoBases___init__ (fun vs H Q E h => ?_) (fun cdv A outer s H vs Q E hg hr h => ?_)
  · obtain ⟨a, v, M, d, rfl, _⟩ := h; rfl
  · obtain ⟨a, v, M, d, rfl, ha, dv, hd, k⟩ := h
    have hu : (cxOf CX0 P w K mg base n_NoBases___init__ "NoBases.__init__" (defScope s_NoBases___init__) f cdv A outer s H E).nox.A.units + 70 < cLine := Nat.lt_of_le_of_lt (Nat.add_le_add_left (by decide : 70 ≤ 16 * 0 + 200) _) hr.un
    have hlen : (Str.ofString "not bases: ").length + (strT (py d)).length ≤ sizeLine := by
      have h1 : (Str.ofString "not bases: ").length = 11 := by decide +kernel
      have h2 := hd.st
      have h3 := big_line
      omega
    refine ⟨_, pss_cons (ps_expr (L2N.pe_initK (Bn := "ValueError") (newId := "ValueError.__new__") (bmB := XkA.mroV) rfl hve rfl rfl rfl rfl XkA.vV (pa_cons (pv 0) (pa_cons (pe_op op_add_str pe_str (pe_callTy (cr_str hg hu) (by rfl) hstr (by decide +kernel) (pa_cons (pv 1) pa_nil))) pa_nil)))) (pss_one (L2N.ps_ostK (Bn := "ValueError") (newId := "ValueError.__new__") (B := "ValueError") (initId := "ValueError.__init__") (bmB := XkA.mroV) (pv 0) (pv 1))), ?_⟩
    obtain ⟨x1, x2, x3, x4, x5⟩ := rshow_in (H := H) dv hd
    refine ⟨_, rfl, _, rfl, v, py d, rfl, x1, x2, x3, x4, x5, _, _, rfl, rfl, hlen, a, C, _, rfl, by show 1 ≤ 1000; decide, TO, ha, ?_⟩
    exact ⟨_, rfl, _, rfl, a, C, rfl, TO, nof0, ha, fun dx hdx ne => k dx hdx ne⟩
theorem iv_NoLine {f C : Addr} {fd : FuncData} (Fu : Fun K "__init__" "NoLine.__init__" s_NoLine___init__ f fd) (hstr : mg "str" = none) (TO : L2N.OexK K C "ValueError" "ValueError.__new__" "ValueError" "ValueError.__init__" XkA.mroV) (nof0 : PySem.W.findIn K (.ref C) "kind" = some none) (nof1 : PySem.W.findIn K (.ref C) "ring" = some none) (hve : mg "ValueError" = none) : FnGd P w K mg base CX0 1 f fd ["self", "kind", "ring"] (spI2 K C "kind" "ring" shD2) := by
  refine L2N.fun_okG Fu sc_NoLine___init__ (fun vs H Q E h => ?_) (fun cdv A outer s H vs Q E hg hr h => ?_)
  · obtain ⟨a, v1, v2, M, d1, d2, rfl, _⟩ := h; rfl
  · obtain ⟨a, v1, v2, M, d1, d2, rfl, ha, dv1, dv2, ⟨hd, _⟩, k⟩ := h
    have hu : (cxOf CX0 P w K mg base n_NoLine___init__ "NoLine.__init__" (defScope s_NoLine___init__) f cdv A outer s H E).nox.A.units + 70 < cLine := Nat.lt_of_le_of_lt (Nat.add_le_add_left (by decide : 70 ≤ 16 * 0 + 200) _) hr.un
    have hlen : (Str.ofString "no line: ").length + (strT (py d1)).length ≤ sizeLine := by
      have h1 : (Str.ofString "no line: ").length = 9 := by decide +kernel
      have h2 := hd.st
      have h3 := big_line
      omega
    refine ⟨_, pss_cons (ps_expr (L2N.pe_initK (Bn := "ValueError") (newId := "ValueError.__new__") (bmB := XkA.mroV) rfl hve rfl rfl rfl rfl XkA.vV (pa_cons (pv 0) (pa_cons (pe_op op_add_str pe_str (pe_callTy (cr_str hg hu) (by rfl) hstr (by decide +kernel) (pa_cons (pv 1) pa_nil))) pa_nil)))) (pss_cons (L2N.ps_ostK (Bn := "ValueError") (newId := "ValueError.__new__") (B := "ValueError") (initId := "ValueError.__init__") (bmB := XkA.mroV) (pv 0) (pv 1)) (pss_one (L2N.ps_ostK2 (Bn := "ValueError") (newId := "ValueError.__new__") (B := "ValueError") (initId := "ValueError.__init__") (bmB := XkA.mroV) (pv 0) (pv 2)))), ?_⟩
    obtain ⟨x1, x2, x3, x4, x5⟩ := rshow_in (H := H) dv1 hd
    refine ⟨_, rfl, _, rfl, v1, py d1, rfl, x1, x2, x3, x4, x5, _, _, rfl, rfl, hlen, a, C, _, rfl, by show 1 ≤ 1000; decide, TO, ha, ?_⟩
    refine ⟨_, rfl, _, rfl, a, C, rfl, TO, nof0, ha, fun dx hdx ne => ?_⟩
    exact ⟨_, rfl, _, rfl, a, C, dx, _, rfl, TO, nof1, upd_same, by rw [upd_ne ne, upd_same], by show 1 ≤ 900; decide, k dx hdx ne⟩
theorem iv_NoMerge {f C : Addr} {fd : FuncData} (Fu : Fun K "__init__" "NoMerge.__init__" s_NoMerge___init__ f fd) (TO : L2N.OexK K C "ValueError" "ValueError.__new__" "ValueError" "ValueError.__init__" XkA.mroV) (nof0 : PySem.W.findIn K (.ref C) "ring" = some none) (hve : mg "ValueError" = none) : FnGd P w K mg base CX0 1 f fd ["self", "ring"] (spI K C "ring" ShS) := by
  refine L2N.fun_okG Fu sc_NoMerge___init__ (fun vs H Q E h => ?_) (fun cdv A outer s H vs Q E hg hr h => ?_)
  · obtain ⟨a, v, M, d, rfl, _⟩ := h; rfl
  · obtain ⟨a, v, M, d, rfl, ha, dv, hd, k⟩ := h
    refine ⟨_, pss_cons (ps_expr (L2N.pe_initK (Bn := "ValueError") (newId := "ValueError.__new__") (bmB := XkA.mroV) rfl hve rfl rfl rfl rfl XkA.vV (pa_cons (pv 0) (pa_cons pe_str pa_nil)))) (pss_one (L2N.ps_ostK (Bn := "ValueError") (newId := "ValueError.__new__") (B := "ValueError") (initId := "ValueError.__init__") (bmB := XkA.mroV) (pv 0) (pv 1))), ?_⟩
    refine ⟨_, rfl, a, C, _, rfl, by show 1 ≤ 1000; decide, TO, ha, ?_⟩
    exact ⟨_, rfl, _, rfl, a, C, rfl, TO, nof0, ha, fun dx hdx ne => k dx hdx ne⟩
theorem iv_NoCall {f C : Addr} {fd : FuncData} (Fu : Fun K "__init__" "NoCall.__init__" s_NoCall___init__ f fd) (TO : L2N.OexK K C "ValueError" "ValueError.__new__" "ValueError" "ValueError.__init__" XkA.mroV) (nof0 : PySem.W.findIn K (.ref C) "call" = some none) (hve : mg "ValueError" = none) : FnGd P w K mg base CX0 1 f fd ["self", "call"] (spI K C "call" ShS) := by
  refine L2N.fun_okG Fu sc_NoCall___init__ (fun vs H Q E h => ?_) (fun cdv A outer s H vs Q E hg hr h => ?_)
  · obtain ⟨a, v, M, d, rfl, _⟩ := h; rfl
  · obtain ⟨a, v, M, d, rfl, ha, dv, hd, k⟩ := h
    refine ⟨_, pss_cons (ps_expr (L2N.pe_initK (Bn := "ValueError") (newId := "ValueError.__new__") (bmB := XkA.mroV) rfl hve rfl rfl rfl rfl XkA.vV (pa_cons (pv 0) (pa_cons pe_str pa_nil)))) (pss_one (L2N.ps_ostK (Bn := "ValueError") (newId := "ValueError.__new__") (B := "ValueError") (initId := "ValueError.__init__") (bmB := XkA.mroV) (pv 0) (pv 1))), ?_⟩
    refine ⟨_, rfl, a, C, _, rfl, by show 1 ≤ 1000; decide, TO, ha, ?_⟩
    exact ⟨_, rfl, _, rfl, a, C, rfl, TO, nof0, ha, fun dx hdx ne => k dx hdx ne⟩
theorem iv_NoBody {f C : Addr} {fd : FuncData} (Fu : Fun K "__init__" "NoBody.__init__" s_NoBody___init__ f fd) (hstr : mg "str" = none) (TO : L2N.OexK K C "ValueError" "ValueError.__new__" "ValueError" "ValueError.__init__" XkA.mroV) (nof0 : PySem.W.findIn K (.ref C) "at" = some none) (hve : mg "ValueError" = none) : FnGd P w K mg base CX0 1 f fd ["self", "at"] (spI K C "at" ShS) := by
  refine L2N.fun_okG Fu sc_NoBody___init__ (fun vs H Q E h => ?_) (fun cdv A outer s H vs Q E hg hr h => ?_)
  · obtain ⟨a, v, M, d, rfl, _⟩ := h; rfl
  · obtain ⟨a, v, M, d, rfl, ha, dv, hd, k⟩ := h
    have hu : (cxOf CX0 P w K mg base n_NoBody___init__ "NoBody.__init__" (defScope s_NoBody___init__) f cdv A outer s H E).nox.A.units + 70 < cLine := Nat.lt_of_le_of_lt (Nat.add_le_add_left (by decide : 70 ≤ 16 * 0 + 200) _) hr.un
    have hlen : (Str.ofString "not a body: ").length + (strT (py d)).length ≤ sizeLine := by
      have h1 : (Str.ofString "not a body: ").length = 12 := by decide +kernel
      have h2 := hd.st
      have h3 := big_line
      omega
    refine ⟨_, pss_cons (ps_expr (L2N.pe_initK (Bn := "ValueError") (newId := "ValueError.__new__") (bmB := XkA.mroV) rfl hve rfl rfl rfl rfl XkA.vV (pa_cons (pv 0) (pa_cons (pe_op op_add_str pe_str (pe_callTy (cr_str hg hu) (by rfl) hstr (by decide +kernel) (pa_cons (pv 1) pa_nil))) pa_nil)))) (pss_one (L2N.ps_ostK (Bn := "ValueError") (newId := "ValueError.__new__") (B := "ValueError") (initId := "ValueError.__init__") (bmB := XkA.mroV) (pv 0) (pv 1))), ?_⟩
    obtain ⟨x1, x2, x3, x4, x5⟩ := rshow_in (H := H) dv hd
    refine ⟨_, rfl, _, rfl, v, py d, rfl, x1, x2, x3, x4, x5, _, _, rfl, rfl, hlen, a, C, _, rfl, by show 1 ≤ 1000; decide, TO, ha, ?_⟩
    exact ⟨_, rfl, _, rfl, a, C, rfl, TO, nof0, ha, fun dx hdx ne => k dx hdx ne⟩
theorem iv_NoChain {f C : Addr} {fd : FuncData} (Fu : Fun K "__init__" "NoChain.__init__" s_NoChain___init__ f fd) (hstr : mg "str" = none) (TO : L2N.OexK K C "ValueError" "ValueError.__new__" "ValueError" "ValueError.__init__" XkA.mroV) (nof0 : PySem.W.findIn K (.ref C) "at" = some none) (hve : mg "ValueError" = none) : FnGd P w K mg base CX0 1 f fd ["self", "at"] (spI K C "at" ShS) := by
  refine L2N.fun_okG Fu sc_NoChain___init__ (fun vs H Q E h => ?_) (fun cdv A outer s H vs Q E hg hr h => ?_)
  · obtain ⟨a, v, M, d, rfl, _⟩ := h; rfl
  · obtain ⟨a, v, M, d, rfl, ha, dv, hd, k⟩ := h
    have hu : (cxOf CX0 P w K mg base n_NoChain___init__ "NoChain.__init__" (defScope s_NoChain___init__) f cdv A outer s H E).nox.A.units + 70 < cLine := Nat.lt_of_le_of_lt (Nat.add_le_add_left (by decide : 70 ≤ 16 * 0 + 200) _) hr.un
    have hlen : (Str.ofString "not a chain: ").length + (strT (py d)).length ≤ sizeLine := by
      have h1 : (Str.ofString "not a chain: ").length = 13 := by decide +kernel
      have h2 := hd.st
      have h3 := big_line
      omega
    refine ⟨_, pss_cons (ps_expr (L2N.pe_initK (Bn := "ValueError") (newId := "ValueError.__new__") (bmB := XkA.mroV) rfl hve rfl rfl rfl rfl XkA.vV (pa_cons (pv 0) (pa_cons (pe_op op_add_str pe_str (pe_callTy (cr_str hg hu) (by rfl) hstr (by decide +kernel) (pa_cons (pv 1) pa_nil))) pa_nil)))) (pss_one (L2N.ps_ostK (Bn := "ValueError") (newId := "ValueError.__new__") (B := "ValueError") (initId := "ValueError.__init__") (bmB := XkA.mroV) (pv 0) (pv 1))), ?_⟩
    obtain ⟨x1, x2, x3, x4, x5⟩ := rshow_in (H := H) dv hd
    refine ⟨_, rfl, _, rfl, v, py d, rfl, x1, x2, x3, x4, x5, _, _, rfl, rfl, hlen, a, C, _, rfl, by show 1 ≤ 1000; decide, TO, ha, ?_⟩
    exact ⟨_, rfl, _, rfl, a, C, rfl, TO, nof0, ha, fun dx hdx ne => k dx hdx ne⟩
theorem iv_NoText {f C : Addr} {fd : FuncData} (Fu : Fun K "__init__" "NoText.__init__" s_NoText___init__ f fd) (hstr : mg "str" = none) (TO : L2N.OexK K C "ValueError" "ValueError.__new__" "ValueError" "ValueError.__init__" XkA.mroV) (nof0 : PySem.W.findIn K (.ref C) "at" = some none) (hve : mg "ValueError" = none) : FnGd P w K mg base CX0 1 f fd ["self", "at"] (spI K C "at" ShS) := by
  refine L2N.fun_okG Fu sc_NoText___init__ (fun vs H Q E h => ?_) (fun cdv A outer s H vs Q E hg hr h => ?_)
  · obtain ⟨a, v, M, d, rfl, _⟩ := h; rfl
  · obtain ⟨a, v, M, d, rfl, ha, dv, hd, k⟩ := h
    have hu : (cxOf CX0 P w K mg base n_NoText___init__ "NoText.__init__" (defScope s_NoText___init__) f cdv A outer s H E).nox.A.units + 70 < cLine := Nat.lt_of_le_of_lt (Nat.add_le_add_left (by decide : 70 ≤ 16 * 0 + 200) _) hr.un
    have hlen : (Str.ofString "not so written: ").length + (strT (py d)).length ≤ sizeLine := by
      have h1 : (Str.ofString "not so written: ").length = 16 := by decide +kernel
      have h2 := hd.st
      have h3 := big_line
      omega
    refine ⟨_, pss_cons (ps_expr (L2N.pe_initK (Bn := "ValueError") (newId := "ValueError.__new__") (bmB := XkA.mroV) rfl hve rfl rfl rfl rfl XkA.vV (pa_cons (pv 0) (pa_cons (pe_op op_add_str pe_str (pe_callTy (cr_str hg hu) (by rfl) hstr (by decide +kernel) (pa_cons (pv 1) pa_nil))) pa_nil)))) (pss_one (L2N.ps_ostK (Bn := "ValueError") (newId := "ValueError.__new__") (B := "ValueError") (initId := "ValueError.__init__") (bmB := XkA.mroV) (pv 0) (pv 1))), ?_⟩
    obtain ⟨x1, x2, x3, x4, x5⟩ := rshow_in (H := H) dv hd
    refine ⟨_, rfl, _, rfl, v, py d, rfl, x1, x2, x3, x4, x5, _, _, rfl, rfl, hlen, a, C, _, rfl, by show 1 ≤ 1000; decide, TO, ha, ?_⟩
    exact ⟨_, rfl, _, rfl, a, C, rfl, TO, nof0, ha, fun dx hdx ne => k dx hdx ne⟩
theorem iv_NoKind {f C : Addr} {fd : FuncData} (Fu : Fun K "__init__" "NoKind.__init__" s_NoKind___init__ f fd) (TO : L2N.OexK K C "LookupError" "LookupError.__new__" "KeyError" "KeyError.__init__" XkA.mroK) (nof0 : PySem.W.findIn K (.ref C) "name" = some none) (hve : mg "KeyError" = none) : FnGd P w K mg base CX0 1 f fd ["self", "name"] (spI K C "name" ShS) := by
  refine L2N.fun_okG Fu sc_NoKind___init__ (fun vs H Q E h => ?_) (fun cdv A outer s H vs Q E hg hr h => ?_)
  · obtain ⟨a, v, M, d, rfl, _⟩ := h; rfl
  · obtain ⟨a, v, M, d, rfl, ha, dv, hd, k⟩ := h
    refine ⟨_, pss_cons (ps_expr (L2N.pe_initK (Bn := "LookupError") (newId := "LookupError.__new__") (bmB := XkA.mroK) rfl hve rfl rfl rfl rfl XkA.vK (pa_cons (pv 0) (pa_cons pe_str pa_nil)))) (pss_one (L2N.ps_ostK (Bn := "LookupError") (newId := "LookupError.__new__") (B := "KeyError") (initId := "KeyError.__init__") (bmB := XkA.mroK) (pv 0) (pv 1))), ?_⟩
    refine ⟨_, rfl, a, C, _, rfl, by show 1 ≤ 1000; decide, TO, ha, ?_⟩
    exact ⟨_, rfl, _, rfl, a, C, rfl, TO, nof0, ha, fun dx hdx ne => k dx hdx ne⟩
theorem iv_NoObject {f C : Addr} {fd : FuncData} (Fu : Fun K "__init__" "NoObject.__init__" s_NoObject___init__ f fd) (TO : L2N.OexK K C "LookupError" "LookupError.__new__" "KeyError" "KeyError.__init__" XkA.mroK) (nof0 : PySem.W.findIn K (.ref C) "number" = some none) (hve : mg "KeyError" = none) : FnGd P w K mg base CX0 1 f fd ["self", "number"] (spI K C "number" ShS) := by
  refine L2N.fun_okG Fu sc_NoObject___init__ (fun vs H Q E h => ?_) (fun cdv A outer s H vs Q E hg hr h => ?_)
  · obtain ⟨a, v, M, d, rfl, _⟩ := h; rfl
  · obtain ⟨a, v, M, d, rfl, ha, dv, hd, k⟩ := h
    refine ⟨_, pss_cons (ps_expr (L2N.pe_initK (Bn := "LookupError") (newId := "LookupError.__new__") (bmB := XkA.mroK) rfl hve rfl rfl rfl rfl XkA.vK (pa_cons (pv 0) (pa_cons pe_str pa_nil)))) (pss_one (L2N.ps_ostK (Bn := "LookupError") (newId := "LookupError.__new__") (B := "KeyError") (initId := "KeyError.__init__") (bmB := XkA.mroK) (pv 0) (pv 1))), ?_⟩
    refine ⟨_, rfl, a, C, _, rfl, by show 1 ≤ 1000; decide, TO, ha, ?_⟩
    exact ⟨_, rfl, _, rfl, a, C, rfl, TO, nof0, ha, fun dx hdx ne => k dx hdx ne⟩
theorem iv_NoOpen {f C : Addr} {fd : FuncData} (Fu : Fun K "__init__" "NoOpen.__init__" s_NoOpen___init__ f fd) (TO : L2N.OexK K C "LookupError" "LookupError.__new__" "KeyError" "KeyError.__init__" XkA.mroK) (nof0 : PySem.W.findIn K (.ref C) "number" = some none) (hve : mg "KeyError" = none) : FnGd P w K mg base CX0 1 f fd ["self", "number"] (spI K C "number" ShS) := by
  refine L2N.fun_okG Fu sc_NoOpen___init__ (fun vs H Q E h => ?_) (fun cdv A outer s H vs Q E hg hr h => ?_)
  · obtain ⟨a, v, M, d, rfl, _⟩ := h; rfl
  · obtain ⟨a, v, M, d, rfl, ha, dv, hd, k⟩ := h
    refine ⟨_, pss_cons (ps_expr (L2N.pe_initK (Bn := "LookupError") (newId := "LookupError.__new__") (bmB := XkA.mroK) rfl hve rfl rfl rfl rfl XkA.vK (pa_cons (pv 0) (pa_cons pe_str pa_nil)))) (pss_one (L2N.ps_ostK (Bn := "LookupError") (newId := "LookupError.__new__") (B := "KeyError") (initId := "KeyError.__init__") (bmB := XkA.mroK) (pv 0) (pv 1))), ?_⟩
    refine ⟨_, rfl, a, C, _, rfl, by show 1 ≤ 1000; decide, TO, ha, ?_⟩
    exact ⟨_, rfl, _, rfl, a, C, rfl, TO, nof0, ha, fun dx hdx ne => k dx hdx ne⟩
theorem iv_Absent {f C : Addr} {fd : FuncData} (Fu : Fun K "__init__" "Absent.__init__" s_Absent___init__ f fd) (TO : L2N.OexK K C "LookupError" "LookupError.__new__" "LookupError" "LookupError.__init__" XkA.mroL) (nof0 : PySem.W.findIn K (.ref C) "kind" = some none) (nof1 : PySem.W.findIn K (.ref C) "call" = some none) (hve : mg "LookupError" = none) : FnGd P w K mg base CX0 1 f fd ["self", "kind", "call"] (spI2 K C "kind" "call" shD2) := by
  refine L2N.fun_okG Fu sc_Absent___init__ (fun vs H Q E h => ?_) (fun cdv A outer s H vs Q E hg hr h => ?_)
  · obtain ⟨a, v1, v2, M, d1, d2, rfl, _⟩ := h; rfl
  · obtain ⟨a, v1, v2, M, d1, d2, rfl, ha, dv1, dv2, ⟨hd, _⟩, k⟩ := h
    refine ⟨_, pss_cons (ps_expr (L2N.pe_initK (Bn := "LookupError") (newId := "LookupError.__new__") (bmB := XkA.mroL) rfl hve rfl rfl rfl rfl XkA.vL (pa_cons (pv 0) (pa_cons pe_str pa_nil)))) (pss_cons (L2N.ps_ostK (Bn := "LookupError") (newId := "LookupError.__new__") (B := "LookupError") (initId := "LookupError.__init__") (bmB := XkA.mroL) (pv 0) (pv 1)) (pss_one (L2N.ps_ostK2 (Bn := "LookupError") (newId := "LookupError.__new__") (B := "LookupError") (initId := "LookupError.__init__") (bmB := XkA.mroL) (pv 0) (pv 2)))), ?_⟩
    refine ⟨_, rfl, a, C, _, rfl, by show 1 ≤ 1000; decide, TO, ha, ?_⟩
    refine ⟨_, rfl, _, rfl, a, C, rfl, TO, nof0, ha, fun dx hdx ne => ?_⟩
    exact ⟨_, rfl, _, rfl, a, C, dx, _, rfl, TO, nof1, upd_same, by rw [upd_ne ne, upd_same], by show 1 ≤ 900; decide, k dx hdx ne⟩
theorem iv_NoDefiner {f C : Addr} {fd : FuncData} (Fu : Fun K "__init__" "NoDefiner.__init__" s_NoDefiner___init__ f fd) (TO : L2N.OexK K C "LookupError" "LookupError.__new__" "LookupError" "LookupError.__init__" XkA.mroL) (nof0 : PySem.W.findIn K (.ref C) "definer" = some none) (hve : mg "LookupError" = none) : FnGd P w K mg base CX0 1 f fd ["self", "definer"] (spI K C "definer" ShS) := by
  refine L2N.fun_okG Fu sc_NoDefiner___init__ (fun vs H Q E h => ?_) (fun cdv A outer s H vs Q E hg hr h => ?_)
  · obtain ⟨a, v, M, d, rfl, _⟩ := h; rfl
  · obtain ⟨a, v, M, d, rfl, ha, dv, hd, k⟩ := h
    refine ⟨_, pss_cons (ps_expr (L2N.pe_initK (Bn := "LookupError") (newId := "LookupError.__new__") (bmB := XkA.mroL) rfl hve rfl rfl rfl rfl XkA.vL (pa_cons (pv 0) (pa_cons pe_str pa_nil)))) (pss_one (L2N.ps_ostK (Bn := "LookupError") (newId := "LookupError.__new__") (B := "LookupError") (initId := "LookupError.__init__") (bmB := XkA.mroL) (pv 0) (pv 1))), ?_⟩
    refine ⟨_, rfl, a, C, _, rfl, by show 1 ≤ 1000; decide, TO, ha, ?_⟩
    exact ⟨_, rfl, _, rfl, a, C, rfl, TO, nof0, ha, fun dx hdx ne => k dx hdx ne⟩
theorem iv_Taken {f C : Addr} {fd : FuncData} (Fu : Fun K "__init__" "Taken.__init__" s_Taken___init__ f fd) (TO : L2N.OexK K C "RuntimeError" "RuntimeError.__new__" "RuntimeError" "RuntimeError.__init__" XkA.mroR) (nof0 : PySem.W.findIn K (.ref C) "name" = some none) (hve : mg "RuntimeError" = none) : FnGd P w K mg base CX0 1 f fd ["self", "name"] (spI K C "name" ShS) := by
  refine L2N.fun_okG Fu sc_Taken___init__ (fun vs H Q E h => ?_) (fun cdv A outer s H vs Q E hg hr h => ?_)
  · obtain ⟨a, v, M, d, rfl, _⟩ := h; rfl
  · obtain ⟨a, v, M, d, rfl, ha, dv, hd, k⟩ := h
    refine ⟨_, pss_cons (ps_expr (L2N.pe_initK (Bn := "RuntimeError") (newId := "RuntimeError.__new__") (bmB := XkA.mroR) rfl hve rfl rfl rfl rfl XkA.vR (pa_cons (pv 0) (pa_cons pe_str pa_nil)))) (pss_one (L2N.ps_ostK (Bn := "RuntimeError") (newId := "RuntimeError.__new__") (B := "RuntimeError") (initId := "RuntimeError.__init__") (bmB := XkA.mroR) (pv 0) (pv 1))), ?_⟩
    refine ⟨_, rfl, a, C, _, rfl, by show 1 ≤ 1000; decide, TO, ha, ?_⟩
    exact ⟨_, rfl, _, rfl, a, C, rfl, TO, nof0, ha, fun dx hdx ne => k dx hdx ne⟩
theorem iv_InUse {f C : Addr} {fd : FuncData} (Fu : Fun K "__init__" "InUse.__init__" s_InUse___init__ f fd) (TO : L2N.OexK K C "RuntimeError" "RuntimeError.__new__" "RuntimeError" "RuntimeError.__init__" XkA.mroR) (nof0 : PySem.W.findIn K (.ref C) "name" = some none) (hve : mg "RuntimeError" = none) : FnGd P w K mg base CX0 1 f fd ["self", "name"] (spI K C "name" ShS) := by
  refine L2N.fun_okG Fu sc_InUse___init__ (fun vs H Q E h => ?_) (fun cdv A outer s H vs Q E hg hr h => ?_)
  · obtain ⟨a, v, M, d, rfl, _⟩ := h; rfl
  · obtain ⟨a, v, M, d, rfl, ha, dv, hd, k⟩ := h
    refine ⟨_, pss_cons (ps_expr (L2N.pe_initK (Bn := "RuntimeError") (newId := "RuntimeError.__new__") (bmB := XkA.mroR) rfl hve rfl rfl rfl rfl XkA.vR (pa_cons (pv 0) (pa_cons pe_str pa_nil)))) (pss_one (L2N.ps_ostK (Bn := "RuntimeError") (newId := "RuntimeError.__new__") (B := "RuntimeError") (initId := "RuntimeError.__init__") (bmB := XkA.mroR) (pv 0) (pv 1))), ?_⟩
    refine ⟨_, rfl, a, C, _, rfl, by show 1 ≤ 1000; decide, TO, ha, ?_⟩
    exact ⟨_, rfl, _, rfl, a, C, rfl, TO, nof0, ha, fun dx hdx ne => k dx hdx ne⟩
theorem iv_Busy {f C : Addr} {fd : FuncData} (Fu : Fun K "__init__" "Busy.__init__" s_Busy___init__ f fd) (TO : L2N.OexK K C "RuntimeError" "RuntimeError.__new__" "RuntimeError" "RuntimeError.__init__" XkA.mroR) (nof0 : PySem.W.findIn K (.ref C) "number" = some none) (hve : mg "RuntimeError" = none) : FnGd P w K mg base CX0 1 f fd ["self", "number"] (spI K C "number" ShS) := by
  refine L2N.fun_okG Fu sc_Busy___init__ (fun vs H Q E h => ?_) (fun cdv A outer s H vs Q E hg hr h => ?_)
  · obtain ⟨a, v, M, d, rfl, _⟩ := h; rfl
  · obtain ⟨a, v, M, d, rfl, ha, dv, hd, k⟩ := h
    refine ⟨_, pss_cons (ps_expr (L2N.pe_initK (Bn := "RuntimeError") (newId := "RuntimeError.__new__") (bmB := XkA.mroR) rfl hve rfl rfl rfl rfl XkA.vR (pa_cons (pv 0) (pa_cons pe_str pa_nil)))) (pss_one (L2N.ps_ostK (Bn := "RuntimeError") (newId := "RuntimeError.__new__") (B := "RuntimeError") (initId := "RuntimeError.__init__") (bmB := XkA.mroR) (pv 0) (pv 1))), ?_⟩
    refine ⟨_, rfl, a, C, _, rfl, by show 1 ≤ 1000; decide, TO, ha, ?_⟩
    exact ⟨_, rfl, _, rfl, a, C, rfl, TO, nof0, ha, fun dx hdx ne => k dx hdx ne⟩
theorem iv_TooDeep {f C : Addr} {fd : FuncData} (Fu : Fun K "__init__" "TooDeep.__init__" s_TooDeep___init__ f fd) (TO : L2N.OexK K C "OverflowError" "OverflowError.__new__" "OverflowError" "OverflowError.__init__" XkA.mroO) (nof0 : PySem.W.findIn K (.ref C) "number" = some none) (hve : mg "OverflowError" = none) : FnGd P w K mg base CX0 1 f fd ["self", "number"] (spI K C "number" ShS) := by
  refine L2N.fun_okG Fu sc_TooDeep___init__ (fun vs H Q E h => ?_) (fun cdv A outer s H vs Q E hg hr h => ?_)
  · obtain ⟨a, v, M, d, rfl, _⟩ := h; rfl
  · obtain ⟨a, v, M, d, rfl, ha, dv, hd, k⟩ := h
    refine ⟨_, pss_cons (ps_expr (L2N.pe_initK (Bn := "OverflowError") (newId := "OverflowError.__new__") (bmB := XkA.mroO) rfl hve rfl rfl rfl rfl XkA.vO (pa_cons (pv 0) (pa_cons pe_str pa_nil)))) (pss_one (L2N.ps_ostK (Bn := "OverflowError") (newId := "OverflowError.__new__") (B := "OverflowError") (initId := "OverflowError.__init__") (bmB := XkA.mroO) (pv 0) (pv 1))), ?_⟩
    refine ⟨_, rfl, a, C, _, rfl, by show 1 ≤ 1000; decide, TO, ha, ?_⟩
    exact ⟨_, rfl, _, rfl, a, C, rfl, TO, nof0, ha, fun dx hdx ne => k dx hdx ne⟩
end
end W
end
section
open PySem L2 D PyProof.Rows
local macro_rules
  | `(tactic| fail "z") => `(tactic| ((try simp only [List.length_map, List.length_cons, List.length_nil, List.length_append, List.length_drop, List.length_take]); have := big_line; omega))
local macro_rules
  | `(tactic| fail) => `(tactic| first
    | ((with_reducible refine (?_ : SE _ _ _ _ _ _)); first | refine se_nm rfl ?_ | refine se_tyTuple (by assumption) ?_ | refine se_tyStr (by assumption) ?_ | refine se_tyInt (by assumption) ?_ | refine se_tyBool (by assumption) ?_ | refine se_int ?_ | refine se_str ?_ | refine se_non ?_ | refine se_bl ?_ | refine se_cmp ?_ | refine se_bin ?_ | refine se_backT ?_ | refine se_ix ?_ | refine se_slice ?_ | refine se_tup ?_ | refine se_lst ?_ | ((with_reducible refine (?_ : SE _ _ _ _ (.Call _ _ _ _) _)); first | refine se_any (by assumption) ?_ | refine se_all (by assumption) ?_ | refine se_len (by assumption) ?_ | refine se_min (by assumption) ?_ | refine se_max (by assumption) ?_ | refine se_sorted (by assumption) ?_ | refine se_isi (by assumption) ?_ | refine se_abs (by assumption) ?_ | refine se_sum (by assumption) ?_ | refine se_tupleC (by assumption) ?_ | refine se_listC (by assumption) ?_) | refine se_M rfl (by assumption) (blkOk_by rfl) ?_ | refine se_F rfl (by assumption) (blkOk_by rfl) ?_ | refine se_Dc rfl (by assumption) (blkOk_by rfl) ?_ | refine se_chain ?_ | refine se_indexN ?_ | refine se_not ?_ | refine se_if ?_ | refine se_one ?_ | refine se_and ?_ | refine se_or ?_ | refine se_neg ?_)
    | ((with_reducible refine (?_ : ST _ _ _ _ _ _)); first | refine st_cmp ?_ | refine st_chain ?_ | refine st_not ?_ | refine st_w (sw_and ?_) | refine st_w (sw_or ?_) | refine st_val ?_)
    | ((with_reducible refine (?_ : SWt _ _ _ _ _ _)); first | refine sw_and ?_ | refine sw_and1 ?_ | refine sw_or ?_ | refine sw_or1 ?_)
    | ((with_reducible refine (?_ : SA _ _ _ _ _ _)); first | refine sa_cons ?_ | refine sa_nil ?_)
    | ((with_reducible refine (?_ : SO _ _ _ _ _ _)); first | refine so_none ?_ | refine so_some ?_)
    | ((with_reducible refine (?_ : SS _ _ _ _ _ _)); first | refine ss_one ?_ | refine ss_cons ?_)
    | ((with_reducible refine (?_ : S1 _ _ _ _ _ _)); first | refine s_ret ?_ | refine s_if ?_ | refine s_M rfl (by assumption) (blkOk_by rfl) ?_ | refine s_F rfl (by assumption) (blkOk_by rfl) ?_ | refine s_Dc rfl (by assumption) (blkOk_by rfl) ?_ | refine s_st (by assumption) ?_ | refine s_aug (by assumption) rfl ?_ | refine s_asg ?_ | refine s_expr ?_)
    | ((with_reducible refine (?_ : SG _ _ _ _ _ _ _)); first | refine sg_nm (by assumption) ?_ | refine sg_par rfl ?_ | refine sg_tup rfl ?_)
    | ((with_reducible refine (?_ : SGs _ _ _ _ _ _ _)); first | refine sgs_cons ?_ | refine sgs_nil ?_)
    | ((with_reducible refine (?_ : SGb _ _ _ _ _ _ _ _)); first | refine sgb_nm (by assumption) ?_ (by first | exact vs_self | exact vs_one | exact vs_two) | refine sgb_par rfl ?_ | refine sgb_tup rfl ?_)
    | ((with_reducible refine (?_ : SGbs _ _ _ _ _ _ _ _)); first | refine sgbs_cons ?_ | refine sgbs_nil ?_)
    | ((with_reducible refine (?_ : SW _ _ _ _ _ _ _)); first | refine sw_vals ?_ | refine sw_zipT (by assumption) ?_ | refine sw_range (by assumption) ?_ | refine sw_seq ?_)
    | ((with_reducible refine (?_ : OpV _ _ _ _ _ _ _ _)); first | refine ov_eqN ?_ | refine ov_neN ?_ | refine ov_inN ?_ | refine ov_ninN ?_ | refine ov_inNT ?_ | refine ov_ninNT ?_ | refine oi_add ?_ | refine oi_catT (by fail "z") ?_ | refine ov_cat (by fail "z") ?_ | refine ov_catT (by fail "z") ?_ | refine ov_add ?_ | refine ov_sub ?_ | refine ov_lt ?_ | refine ov_le ?_ | refine ov_gt ?_ | refine ov_ge ?_ | refine ov_eqI ?_ | refine ov_neI ?_ | refine ov_eqS ?_ | refine ov_neS ?_ | refine ov_eqB ?_ | refine ov_neB ?_)
    | ((with_reducible refine (?_ : IxV _ _ _ _ _ _ _)); first | refine iv_cons ?_ | refine iv_consT ?_)
    | ((with_reducible refine (?_ : SlV _ _ _ _ _ _ _ _)); first | refine sv_fromL (by decide) ?_ | refine sv_fromT (by decide) ?_ | refine sv_toL (by decide) ?_ | refine sv_toT (by decide) ?_)
    | ((with_reducible refine (?_ : ClV _ _ _ _ _ _ _)); first | refine cv_anyM rfl ?_ | refine cv_allM rfl ?_ | refine cv_len rfl ?_ | refine cv_tuple rfl ?_ | refine cv_list rfl ?_ | refine cv_abs ?_ | refine cv_isStr rfl ?_ | refine cv_isTup rfl ?_ | refine cv_isInt rfl ?_ | refine cv_isBool rfl ?_ | refine cv_sum rfl ?_)
    | (with_reducible refine turn0I (fun _ _ _ _ _ _ => ?_)) | (with_reducible refine turn1I (fun _ _ _ _ _ _ => ?_)) | (with_reducible refine turnDI (fun _ _ _ _ _ _ => ?_)) | (with_reducible refine abI (fun _ _ _ _ _ => ?_)) | ((with_reducible show (if _ then _ else _)); first | refine iteT ?_ | refine iteF ?_) | ((with_reducible refine (?_ : And _ _)); refine And.intro (show _ ≤ sizeLine by fail "z") ?_) | ((with_reducible refine (?_ : Exists _)); refine ⟨_, rfl, ?_⟩))
local macro_rules
  | `(tactic| fail "e") => `(tactic| first
    | ((with_reducible refine (?_ : SE _ _ _ _ _ _)); first | refine se_nm rfl ?_ | refine se_tyTuple (by assumption) ?_ | refine se_tyStr (by assumption) ?_ | refine se_tyInt (by assumption) ?_ | refine se_tyBool (by assumption) ?_ | refine se_int ?_ | refine se_str ?_ | refine se_non ?_ | refine se_bl ?_ | refine se_cmp ?_ | refine se_bin ?_ | refine se_backT ?_ | refine se_ix ?_ | refine se_slice ?_ | refine se_tup ?_ | refine se_lst ?_ | ((with_reducible refine (?_ : SE _ _ _ _ (.Call _ _ _ _) _)); first | refine se_any (by assumption) ?_ | refine se_all (by assumption) ?_ | refine se_len (by assumption) ?_ | refine se_min (by assumption) ?_ | refine se_max (by assumption) ?_ | refine se_sorted (by assumption) ?_ | refine se_isi (by assumption) ?_ | refine se_abs (by assumption) ?_ | refine se_sum (by assumption) ?_ | refine se_tupleC (by assumption) ?_ | refine se_listC (by assumption) ?_) | refine se_M rfl (by assumption) (blkOk_by rfl) ?_ | refine se_F rfl (by assumption) (blkOk_by rfl) ?_ | refine se_Dc rfl (by assumption) (blkOk_by rfl) ?_ | refine se_chain ?_ | refine se_indexN ?_ | refine se_not ?_ | refine se_if ?_ | refine se_one ?_ | refine se_and ?_ | refine se_or ?_ | refine se_neg ?_)
    | ((with_reducible refine (?_ : ST _ _ _ _ _ _)); first | refine st_cmp ?_ | refine st_chain ?_ | refine st_not ?_ | refine st_w (sw_and ?_) | refine st_w (sw_or ?_) | refine st_val ?_)
    | ((with_reducible refine (?_ : SWt _ _ _ _ _ _)); first | refine sw_and ?_ | refine sw_and1 ?_ | refine sw_or ?_ | refine sw_or1 ?_)
    | ((with_reducible refine (?_ : SA _ _ _ _ _ _)); first | refine sa_cons ?_ | refine sa_nil ?_)
    | ((with_reducible refine (?_ : SO _ _ _ _ _ _)); first | refine so_none ?_ | refine so_some ?_)
    | ((with_reducible refine (?_ : SG _ _ _ _ _ _ _)); first | refine sg_nm (by assumption) ?_ | refine sg_par rfl ?_ | refine sg_tup rfl ?_)
    | ((with_reducible refine (?_ : SGs _ _ _ _ _ _ _)); first | refine sgs_cons ?_ | refine sgs_nil ?_)
    | ((with_reducible refine (?_ : SGb _ _ _ _ _ _ _ _)); first | refine sgb_nm (by assumption) ?_ (by first | exact vs_self | exact vs_one | exact vs_two) | refine sgb_par rfl ?_ | refine sgb_tup rfl ?_)
    | ((with_reducible refine (?_ : SGbs _ _ _ _ _ _ _ _)); first | refine sgbs_cons ?_ | refine sgbs_nil ?_)
    | ((with_reducible refine (?_ : SW _ _ _ _ _ _ _)); first | refine sw_vals ?_ | refine sw_zipT (by assumption) ?_ | refine sw_range (by assumption) ?_ | refine sw_seq ?_)
    | ((with_reducible refine (?_ : OpV _ _ _ _ _ _ _ _)); first | refine ov_eqN ?_ | refine ov_neN ?_ | refine ov_inN ?_ | refine ov_ninN ?_ | refine ov_inNT ?_ | refine ov_ninNT ?_ | refine oi_add ?_ | refine oi_catT (by fail "z") ?_ | refine ov_cat (by fail "z") ?_ | refine ov_catT (by fail "z") ?_ | refine ov_add ?_ | refine ov_sub ?_ | refine ov_lt ?_ | refine ov_le ?_ | refine ov_gt ?_ | refine ov_ge ?_ | refine ov_eqI ?_ | refine ov_neI ?_ | refine ov_eqS ?_ | refine ov_neS ?_ | refine ov_eqB ?_ | refine ov_neB ?_)
    | ((with_reducible refine (?_ : IxV _ _ _ _ _ _ _)); first | refine iv_cons ?_ | refine iv_consT ?_)
    | ((with_reducible refine (?_ : SlV _ _ _ _ _ _ _ _)); first | refine sv_fromL (by decide) ?_ | refine sv_fromT (by decide) ?_ | refine sv_toL (by decide) ?_ | refine sv_toT (by decide) ?_)
    | ((with_reducible refine (?_ : ClV _ _ _ _ _ _ _)); first | refine cv_anyM rfl ?_ | refine cv_allM rfl ?_ | refine cv_len rfl ?_ | refine cv_tuple rfl ?_ | refine cv_list rfl ?_ | refine cv_abs ?_ | refine cv_isStr rfl ?_ | refine cv_isTup rfl ?_ | refine cv_isInt rfl ?_ | refine cv_isBool rfl ?_ | refine cv_sum rfl ?_)
    | (with_reducible refine turn0I (fun _ _ _ _ _ _ => ?_)) | (with_reducible refine turn1I (fun _ _ _ _ _ _ => ?_)) | (with_reducible refine turnDI (fun _ _ _ _ _ _ => ?_)) | (with_reducible refine abI (fun _ _ _ _ _ => ?_)) | ((with_reducible show (if _ then _ else _)); first | refine iteT ?_ | refine iteF ?_) | ((with_reducible refine (?_ : And _ _)); refine And.intro (show _ ≤ sizeLine by fail "z") ?_) | ((with_reducible refine (?_ : Exists _)); refine ⟨_, rfl, ?_⟩))
local macro_rules
  | `(tactic| fail "u") => `(tactic| first
    | ((with_reducible refine (?_ : SE _ _ _ _ _ _)); first | refine se_nm rfl ?_ | refine se_tyTuple (by assumption) ?_ | refine se_tyStr (by assumption) ?_ | refine se_tyInt (by assumption) ?_ | refine se_tyBool (by assumption) ?_ | refine se_int ?_ | refine se_str ?_ | refine se_non ?_ | refine se_bl ?_ | refine se_cmp ?_ | refine se_bin ?_ | refine se_backT ?_ | refine se_ix ?_ | refine se_slice ?_ | refine se_tup ?_ | refine se_lst ?_ | ((with_reducible refine (?_ : SE _ _ _ _ (.Call _ _ _ _) _)); first | refine se_any (by assumption) ?_ | refine se_all (by assumption) ?_ | refine se_len (by assumption) ?_ | refine se_min (by assumption) ?_ | refine se_max (by assumption) ?_ | refine se_sorted (by assumption) ?_ | refine se_isi (by assumption) ?_ | refine se_abs (by assumption) ?_ | refine se_sum (by assumption) ?_ | refine se_tupleC (by assumption) ?_ | refine se_listC (by assumption) ?_) | refine se_M rfl (by assumption) (blkOk_by rfl) ?_ | refine se_F rfl (by assumption) (blkOk_by rfl) ?_ | refine se_Dc rfl (by assumption) (blkOk_by rfl) ?_ | refine se_chain ?_ | refine se_indexN ?_ | refine se_not ?_ | refine se_if ?_ | refine se_one ?_ | refine se_and ?_ | refine se_or ?_ | refine se_neg ?_)
    | ((with_reducible refine (?_ : ST _ _ _ _ _ _)); first | refine st_cmp ?_ | refine st_chain ?_ | refine st_not ?_ | refine st_w (sw_and ?_) | refine st_w (sw_or ?_) | refine st_val ?_)
    | ((with_reducible refine (?_ : SWt _ _ _ _ _ _)); first | refine sw_and ?_ | refine sw_and1 ?_ | refine sw_or ?_ | refine sw_or1 ?_)
    | ((with_reducible refine (?_ : SA _ _ _ _ _ _)); first | refine sa_cons ?_ | refine sa_nil ?_)
    | ((with_reducible refine (?_ : SO _ _ _ _ _ _)); first | refine so_none ?_ | refine so_some ?_)
    | ((with_reducible refine (?_ : SG _ _ _ _ _ _ _)); first | refine sg_nm (by assumption) ?_ | refine sg_par rfl ?_ | refine sg_tup rfl ?_)
    | ((with_reducible refine (?_ : SGs _ _ _ _ _ _ _)); first | refine sgs_cons ?_ | refine sgs_nil ?_)
    | ((with_reducible refine (?_ : SGb _ _ _ _ _ _ _ _)); first | refine sgb_nm (by assumption) ?_ (by first | exact vs_self | exact vs_one | exact vs_two) | refine sgb_par rfl ?_ | refine sgb_tup rfl ?_)
    | ((with_reducible refine (?_ : SGbs _ _ _ _ _ _ _ _)); first | refine sgbs_cons ?_ | refine sgbs_nil ?_)
    | ((with_reducible refine (?_ : SW _ _ _ _ _ _ _)); first | refine sw_vals ?_ | refine sw_zipT (by assumption) ?_ | refine sw_range (by assumption) ?_ | refine sw_seq ?_)
    | ((with_reducible refine (?_ : OpV _ _ _ _ _ _ _ _)); first | refine ov_eqN ?_ | refine ov_neN ?_ | refine ov_inN ?_ | refine ov_ninN ?_ | refine ov_inNT ?_ | refine ov_ninNT ?_ | refine oi_add ?_ | refine oi_catT (by fail "z") ?_ | refine ov_cat (by fail "z") ?_ | refine ov_catT (by fail "z") ?_ | refine ov_add ?_ | refine ov_sub ?_ | refine ov_lt ?_ | refine ov_le ?_ | refine ov_gt ?_ | refine ov_ge ?_ | refine ov_eqI ?_ | refine ov_neI ?_ | refine ov_eqS ?_ | refine ov_neS ?_ | refine ov_eqB ?_ | refine ov_neB ?_)
    | ((with_reducible refine (?_ : IxV _ _ _ _ _ _ _)); first | refine iv_cons ?_ | refine iv_consT ?_)
    | ((with_reducible refine (?_ : SlV _ _ _ _ _ _ _ _)); first | refine sv_fromL (by decide) ?_ | refine sv_fromT (by decide) ?_ | refine sv_toL (by decide) ?_ | refine sv_toT (by decide) ?_)
    | ((with_reducible refine (?_ : ClV _ _ _ _ _ _ _)); first | refine cv_anyM rfl ?_ | refine cv_allM rfl ?_ | refine cv_len rfl ?_ | refine cv_tuple rfl ?_ | refine cv_list rfl ?_ | refine cv_abs ?_ | refine cv_isStr rfl ?_ | refine cv_isTup rfl ?_ | refine cv_isInt rfl ?_ | refine cv_isBool rfl ?_ | refine cv_sum rfl ?_)
    | (with_reducible refine turn0I (fun _ _ _ _ _ _ => ?_)) | (with_reducible refine turn1I (fun _ _ _ _ _ _ => ?_)) | (with_reducible refine turnDI (fun _ _ _ _ _ _ => ?_)) | (with_reducible refine abI (fun _ _ _ _ _ => ?_)) | ((with_reducible show (if _ then _ else _)); first | (with_reducible refine iteT ?_) | (with_reducible refine iteF ?_)) | ((with_reducible refine (?_ : And _ _)); refine And.intro (show _ ≤ sizeLine by fail "z") ?_) | ((with_reducible refine (?_ : Exists _)); refine ⟨_, rfl, ?_⟩))
section
set_option Elab.async false
set_option linter.all false
set_option maxRecDepth 100000
set_option maxHeartbeats 4000000
open PySem L2 D PyProof.Rows PyProof
namespace W
open PySem L2 D PyProof.Rows PyProof
abbrev D_take (P : Program) (w : World) (K : PySem.W.Frag) (mg : Str → Option Value) (base : Heap) : Prop := DefOk P w K mg base 1 "_law_take" ["_law_bag_here", "_law_many"] (sp_take K)
def ShL (l : List Dt) : Prop := ∀ d ∈ l, ShS d
theorem shl_nil : ShL [] := fun _ h => nomatch h
theorem shl_cons {d : Dt} {l : List Dt} (h : ShS d) (t : ShL l) : ShL (d :: l) := fun x hx => by
  rcases List.mem_cons.mp hx with e | hx
  · rw [e]; exact h
  · exact t x hx
theorem shl_app {l m : List Dt} (h : ShL l) (t : ShL m) : ShL (l ++ m) := fun x hx => by
  rcases List.mem_append.mp hx with hx | hx
  · exact h x hx
  · exact t x hx
theorem shs_cl {d : Dt} (h1 : plain d = true) (h2 : (py d).canLay0 = true) (h3 : (py d).depth ≤ 8) (h4 : (py d).showable = true) (h5 : (py d).shown.length ≤ 1000) (h6 : (strT (py d)).length ≤ 1000) (h7 : PyData.strOk (py d).shown = true) : ShS d := ⟨⟨⟨h1, h2, h3⟩, h4, h5⟩, h6, h7⟩
section
variable {P : Program} {w : World} {K : PySem.W.Frag} {mg : Str → Option Value} {base : Heap}
abbrev sp_any1 (K : PySem.W.Frag) : Sp := spB K (fun _ : Unit => [.lst []]) (fun _ => True) (fun _ => 1) (fun _ z => ShS z)
theorem ok_any1 {f : Addr} {fd : FuncData} (Fu : Fun K "_law_any" "_law_any" s__law_any f fd) (T : Txt mg) (Dt' : D_take P w K mg base) : FnOk P w K mg base (L2.CX P w) 2 f fd ["_law_bag_here", "_law_objects"] (sp_any1 K) := by
  refine fn_B Fu sc__law_any (fun a => rfl) (fun cdv A outer s H E F b c a hp hc hr => ?_)
  have hc : c + 1 ≤ LIM := hc
  have nd := sc__law_any.nd
  have hlen := T.len
  repeat fail
  refine ov_pow ⟨by decide, by decide, by decide⟩ ?_
  repeat fail
  refine lcM (enc := fun d : Dt => d) (l := []) (fun d => .tup [d]) (by fail "z") ?_ ?_
  · intro x hx
    cases hx
  repeat fail
  refine se_fB 0 Dt' hr ?_
  repeat fail "e"
  refine ⟨b, c, _, rfl, rfl, ⟨?_, ?_⟩, by show c + 1 ≤ LIM; omega, ?_⟩
  · simp only [List.length_append, List.length_cons, List.length_map, List.length_nil]; omega
  · simp only [List.length_append, List.length_cons, List.length_map, List.length_nil]; omega
  rintro _ ⟨k, rfl, hk0, hk1⟩
  obtain ⟨d, hd, hm⟩ := atI_nat' hk0 hk1
  refine iv_lst hd ?_
  refine ⟨⟨_, Nat.le_refl _, rfl⟩, ?_⟩
  revert hm
  refine (?_ : ShL _) d
  repeat' (first | exact shl_nil | refine shl_cons ?_ ?_ | refine shl_app ?_ ?_ | exact shs_cl (by decide +kernel) (by decide +kernel) (by decide +kernel) (by decide +kernel) (by decide +kernel) (by decide +kernel) (by decide +kernel))
abbrev D_any1 (P : Program) (w : World) (K : PySem.W.Frag) (mg : Str → Option Value) (base : Heap) : Prop := DefOk P w K mg base 2 "_law_any" ["_law_bag_here", "_law_objects"] (sp_any1 K)
end
end W
end
section
set_option Elab.async false
set_option linter.all false
set_option maxRecDepth 100000
set_option maxHeartbeats 8000000
set_option pp.maxSteps 800
open PySem L2 D PyProof.Rows
namespace W
open PySem L2 D PyProof.Rows
abbrev ones : List (Str × Str) := [("NoName", "name"), ("NoBases", "at"), ("NoMerge", "ring"), ("NoCall", "call"), ("NoBody", "at"), ("NoChain", "at"), ("NoText", "at"), ("NoKind", "name"), ("NoObject", "number"), ("NoOpen", "number"), ("NoDefiner", "definer"), ("Taken", "name"), ("InUse", "name"), ("Busy", "number"), ("TooDeep", "number")]
abbrev twos : List (Str × Str × Str) := [("NoLine", "kind", "ring"), ("Absent", "kind", "call")]
abbrev nons : List Str := ["NoRegistry", "NoCommand", "Nothing", "TooMany", "TooLong"]
/-- the classes of exceptions -/
structure ClsV (P : Program) (w : World) (K : PySem.W.Frag) (mg : Str → Option Value) (base : Heap) (cls : Str → Addr) : Prop where
  one : ∀ p ∈ ones, ExV P w K mg base (cls p.1) p.1 p.2 ShS
  two : ∀ p ∈ twos, ExV2 P w K mg base (cls p.1) p.1 p.2.1 p.2.2 shD2
  non : ∀ x ∈ nons, ExV0 K mg (cls x) x
  xf : ∀ x ∈ words22, XfC K (cls x)
  no : ∀ p ∈ ones, PySem.W.findIn K (.ref (cls p.1)) p.2 = some none
  no1 : ∀ p ∈ twos, PySem.W.findIn K (.ref (cls p.1)) p.2.1 = some none
  no2 : ∀ p ∈ twos, PySem.W.findIn K (.ref (cls p.1)) p.2.2 = some none
abbrev xv1 (cls : Str → Addr) (f : Str) (t : Dt) (x : Str) : Dt := .xcv (cls x) true [(f, t)]
theorem fit_sh {n : Nat} {d : Dt} (h : ShS d) : Fit n (.str (py d).shown) := fit_str h.ok
theorem eqd_self1 {n : Nat} {d : Dt} (h : Fit n d) : eqd d d = true := SeqAt.eqv_refl _ h.lay
theorem fit_rep {n k : Nat} {d : Dt} (h : ShS d) : Fit (n + 1) (.lst (List.replicate k (.str (py d).shown))) := fit_lst fun x hx => by rw [(List.mem_replicate.mp hx).2]; exact fit_sh h
section
variable {P : Program} {w : World} {K : PySem.W.Frag} {mg : Str → Option Value} {base : Heap} {cls : Str → Addr}
abbrev sp_named (K : PySem.W.Frag) : Sp := spG K (fun t : Dt => [t]) (fun _ => []) ShS (fun _ c' d => c' = [] ∧ d = .bl true) fun _ _ _ => False
theorem ok_named {f : Addr} {fd : FuncData} (Fu : Fun K "_law_named_right" "_law_named_right" s__law_named_right f fd) (hrep : mg "repr" = none) (D : ClsV P w K mg base cls) : FnGd P w K mg base (L2.CX P w) 4 f fd ["_law_term"] (sp_named K) := by
  refine fn_Vg (Fun.v Fu) sc__law_named_right (fun a => rfl) (fun A outer s H E F t hs hgd hr xt => ?_)
  have hs : ShS t := hs
  have nd := sc__law_named_right.nd
  have hbig := big_line
  have hu : (cxOf (L2.CX P w) P w K mg base n__law_named_right "_law_named_right" (defScope s__law_named_right) f fd.code A outer s H E).A.units + 70 < cLine := Nat.lt_of_le_of_lt (Nat.add_le_add_left (by decide : 70 ≤ 16 * 3 + 200) _) hr.un
  show SS F _ (startP n__law_named_right [t]) [] _ _
  refine ss_cons (s_st nd (se_lst ?_))
  refine sa_cons (se_mkV (D.one ("NoName", "name") (by decide +kernel)) hgd (hr.mono (by decide)) (se_nm rfl ⟨hs, ?_⟩))
  refine sa_cons (se_mkVk (D.one ("NoName", "name") (by decide +kernel)) hgd (hr.mono (by decide)) (se_nm rfl ⟨hs, ?_⟩))
  refine sa_cons (se_mkV (D.one ("NoKind", "name") (by decide +kernel)) hgd (hr.mono (by decide)) (se_nm rfl ⟨hs, ?_⟩))
  refine sa_cons (se_mkVk (D.one ("NoKind", "name") (by decide +kernel)) hgd (hr.mono (by decide)) (se_nm rfl ⟨hs, ?_⟩))
  refine sa_cons (se_mkV (D.one ("Taken", "name") (by decide +kernel)) hgd (hr.mono (by decide)) (se_nm rfl ⟨hs, ?_⟩))
  refine sa_cons (se_mkVk (D.one ("Taken", "name") (by decide +kernel)) hgd (hr.mono (by decide)) (se_nm rfl ⟨hs, ?_⟩))
  refine sa_nil ⟨by fail "z", ?_⟩
  refine ss_cons (s_st nd (se_bin (se_nm rfl (se_lst ?_))))
  refine sa_cons (se_mkV (D.one ("InUse", "name") (by decide +kernel)) hgd (hr.mono (by decide)) (se_nm rfl ⟨hs, ?_⟩))
  refine sa_cons (se_mkVk (D.one ("InUse", "name") (by decide +kernel)) hgd (hr.mono (by decide)) (se_nm rfl ⟨hs, ?_⟩))
  refine sa_nil ⟨by fail "z", ?_⟩
  refine ov_cat (by fail "z") ?_
  refine ss_cons (s_st nd (se_lst ?_))
  refine sa_cons (se_mkV (D.one ("NoBases", "at") (by decide +kernel)) hgd (hr.mono (by decide)) (se_nm rfl ⟨hs, ?_⟩))
  refine sa_cons (se_mkVk (D.one ("NoBases", "at") (by decide +kernel)) hgd (hr.mono (by decide)) (se_nm rfl ⟨hs, ?_⟩))
  refine sa_cons (se_mkV (D.one ("NoBody", "at") (by decide +kernel)) hgd (hr.mono (by decide)) (se_nm rfl ⟨hs, ?_⟩))
  refine sa_cons (se_mkVk (D.one ("NoBody", "at") (by decide +kernel)) hgd (hr.mono (by decide)) (se_nm rfl ⟨hs, ?_⟩))
  refine sa_cons (se_mkV (D.one ("NoChain", "at") (by decide +kernel)) hgd (hr.mono (by decide)) (se_nm rfl ⟨hs, ?_⟩))
  refine sa_cons (se_mkVk (D.one ("NoChain", "at") (by decide +kernel)) hgd (hr.mono (by decide)) (se_nm rfl ⟨hs, ?_⟩))
  refine sa_nil ⟨by fail "z", ?_⟩
  refine ss_cons (s_st nd (se_bin (se_nm rfl (se_lst ?_))))
  refine sa_cons (se_mkV (D.one ("NoText", "at") (by decide +kernel)) hgd (hr.mono (by decide)) (se_nm rfl ⟨hs, ?_⟩))
  refine sa_cons (se_mkVk (D.one ("NoText", "at") (by decide +kernel)) hgd (hr.mono (by decide)) (se_nm rfl ⟨hs, ?_⟩))
  refine sa_nil ⟨by fail "z", ?_⟩
  refine ov_cat (by fail "z") ?_
  refine ss_cons (s_st nd (se_lst ?_))
  refine sa_cons (se_mkV (D.one ("NoObject", "number") (by decide +kernel)) hgd (hr.mono (by decide)) (se_nm rfl ⟨hs, ?_⟩))
  refine sa_cons (se_mkVk (D.one ("NoObject", "number") (by decide +kernel)) hgd (hr.mono (by decide)) (se_nm rfl ⟨hs, ?_⟩))
  refine sa_cons (se_mkV (D.one ("NoOpen", "number") (by decide +kernel)) hgd (hr.mono (by decide)) (se_nm rfl ⟨hs, ?_⟩))
  refine sa_cons (se_mkVk (D.one ("NoOpen", "number") (by decide +kernel)) hgd (hr.mono (by decide)) (se_nm rfl ⟨hs, ?_⟩))
  refine sa_cons (se_mkV (D.one ("Busy", "number") (by decide +kernel)) hgd (hr.mono (by decide)) (se_nm rfl ⟨hs, ?_⟩))
  refine sa_nil ⟨by fail "z", ?_⟩
  refine ss_cons (s_st nd (se_bin (se_nm rfl (se_lst ?_))))
  refine sa_cons (se_mkVk (D.one ("Busy", "number") (by decide +kernel)) hgd (hr.mono (by decide)) (se_nm rfl ⟨hs, ?_⟩))
  refine sa_cons (se_mkV (D.one ("TooDeep", "number") (by decide +kernel)) hgd (hr.mono (by decide)) (se_nm rfl ⟨hs, ?_⟩))
  refine sa_cons (se_mkVk (D.one ("TooDeep", "number") (by decide +kernel)) hgd (hr.mono (by decide)) (se_nm rfl ⟨hs, ?_⟩))
  refine sa_nil ⟨by fail "z", ?_⟩
  refine ov_cat (by fail "z") ?_
  refine ss_cons (s_st nd (se_bin (se_bin (se_M rfl nd (blkOk_by rfl) (sw_lst (se_nm rfl ⟨_, rfl, ?_⟩))))))
  refine lcM (enc := xv1 cls "name" t) (l := (["NoName", "NoName", "NoKind", "NoKind", "Taken", "Taken", "InUse", "InUse"] : List Str)) (fun _ => t) (by fail "z") ?_ ?_
  · intro x hx
    have hx1 : ∀ x ∈ (["NoName", "NoName", "NoKind", "NoKind", "Taken", "Taken", "InUse", "InUse"] : List Str), (x, ("name" : Str)) ∈ ones ∧ x ∈ words22 := by decide +kernel
    repeat fail "e"
    refine se_xv (se_nm rfl ⟨_, _, t, rfl, D.xf x (hx1 x hx).2, D.no (x, "name") (hx1 x hx).1, rfl, ?_⟩)
    exact ⟨rfl, rfl⟩
  refine se_M rfl nd (blkOk_by rfl) (sw_lst (se_nm rfl ⟨_, rfl, ?_⟩))
  refine lcM (enc := xv1 cls "at" t) (l := (["NoBases", "NoBases", "NoBody", "NoBody", "NoChain", "NoChain", "NoText", "NoText"] : List Str)) (fun _ => t) (by fail "z") ?_ ?_
  · intro x hx
    have hx1 : ∀ x ∈ (["NoBases", "NoBases", "NoBody", "NoBody", "NoChain", "NoChain", "NoText", "NoText"] : List Str), (x, ("at" : Str)) ∈ ones ∧ x ∈ words22 := by decide +kernel
    repeat fail "e"
    refine se_xv (se_nm rfl ⟨_, _, t, rfl, D.xf x (hx1 x hx).2, D.no (x, "at") (hx1 x hx).1, rfl, ?_⟩)
    exact ⟨rfl, rfl⟩
  refine ov_cat (by fail "z") ?_
  refine se_M rfl nd (blkOk_by rfl) (sw_lst (se_nm rfl ⟨_, rfl, ?_⟩))
  refine lcM (enc := xv1 cls "number" t) (l := (["NoObject", "NoObject", "NoOpen", "NoOpen", "Busy", "Busy", "TooDeep", "TooDeep"] : List Str)) (fun _ => t) (by fail "z") ?_ ?_
  · intro x hx
    have hx1 : ∀ x ∈ (["NoObject", "NoObject", "NoOpen", "NoOpen", "Busy", "Busy", "TooDeep", "TooDeep"] : List Str), (x, ("number" : Str)) ∈ ones ∧ x ∈ words22 := by decide +kernel
    repeat fail "e"
    refine se_xv (se_nm rfl ⟨_, _, t, rfl, D.xf x (hx1 x hx).2, D.no (x, "number") (hx1 x hx).1, rfl, ?_⟩)
    exact ⟨rfl, rfl⟩
  refine ov_cat (by fail "z") ?_
  refine ss_cons (s_st nd (se_bin (se_nm rfl (se_lst ?_))))
  refine sa_cons (se_xv (se_mkV (D.one ("NoCall", "call") (by decide +kernel)) hgd (hr.mono (by decide)) (se_nm rfl ⟨hs, _, _, t, rfl, D.xf _ (by decide +kernel), D.no ("NoCall", "call") (by decide +kernel), rfl, ?_⟩)))
  refine sa_cons (se_xv (se_mkVk (D.one ("NoCall", "call") (by decide +kernel)) hgd (hr.mono (by decide)) (se_nm rfl ⟨hs, _, _, t, rfl, D.xf _ (by decide +kernel), D.no ("NoCall", "call") (by decide +kernel), rfl, ?_⟩)))
  refine sa_cons (se_xv (se_mkV (D.one ("NoDefiner", "definer") (by decide +kernel)) hgd (hr.mono (by decide)) (se_nm rfl ⟨hs, _, _, t, rfl, D.xf _ (by decide +kernel), D.no ("NoDefiner", "definer") (by decide +kernel), rfl, ?_⟩)))
  refine sa_nil ⟨by fail "z", ?_⟩
  refine ov_cat (by fail "z") ?_
  refine ss_one (s_ret (se_cmp (se_M rfl nd (blkOk_by rfl) (sw_lst (se_bin (se_nm rfl (se_lst ?_)))))))
  refine sa_cons (se_xv (se_mkVk (D.one ("NoDefiner", "definer") (by decide +kernel)) hgd (hr.mono (by decide)) (se_nm rfl ⟨hs, _, _, t, rfl, D.xf _ (by decide +kernel), D.no ("NoDefiner", "definer") (by decide +kernel), rfl, ?_⟩)))
  refine sa_nil ⟨by fail "z", ?_⟩
  refine ov_cat (by fail "z") ?_
  refine ⟨_, rfl, ?_⟩
  refine lcM (enc := fun _ : Unit => t) (l := List.replicate 28 ()) (fun _ => .str (py t).shown) (by rw [List.length_replicate]; omega) ?_ ?_
  · intro x _
    repeat fail "e"
    refine se_callB (id := "repr") hrep (sa_cons (se_nm rfl (sa_nil ?_)))
    refine cv_repr hgd hu hs.sh (by decide) (by decide) ?_
    exact ⟨rfl, rfl⟩
  refine se_bin (se_lst (sa_cons (se_callB (id := "repr") hrep (sa_cons (se_nm rfl (sa_nil ?_))))))
  refine cv_repr hgd hu hs.sh (by decide) (by decide) ?_
  refine sa_nil ⟨by fail "z", ?_⟩
  repeat fail "e"
  refine ov_rep (by decide) (by decide) (by fail "z") ?_
  refine ov_eqD hr.units (fit_rep (k := 28) hs) (fit_rep (k := 28) hs) ?_
  exact ⟨rfl, congrArg Dt.bl (eqd_self1 (n := 64) (fit_rep (k := 28) hs))⟩
abbrev D_named (P : Program) (w : World) (K : PySem.W.Frag) (mg : Str → Option Value) (base : Heap) : Prop := DefGd P w K mg base 4 "_law_named_right" ["_law_term"] (sp_named K)
theorem strOk_app {a b : Str} (ha : PyData.strOk a = true) (hb : PyData.strOk b = true) : PyData.strOk (a ++ b) = true := by
  unfold PyData.strOk at *
  show (a.cps ++ b.cps).all _ = true
  rw [Array.all_append, ha, hb]; rfl
theorem strOk_tup2 {a b : Str} (ha : PyData.strOk a = true) (hb : PyData.strOk b = true) : PyData.strOk (tupleText [a, b]) = true := by
  show PyData.strOk ((("(" : Str) ++ (a ++ (", " : Str) ++ b)) ++ (")" : Str)) = true
  exact strOk_app (strOk_app (by decide +kernel) (strOk_app (strOk_app ha (by decide +kernel)) hb)) (by decide +kernel)
theorem sh_pair {t o : Dt} (h1 : ShS t) (h2 : ShS o) : Sh 9 3000 (.tup [t, o]) := (sh_tup (k := 8) (n := 1000) fun d hd => by
  rcases List.mem_cons.mp hd with rfl | hd
  · exact h1.sh
  · rw [List.mem_singleton.mp hd]; exact h2.sh).mono (by show 2 * (1000 + 2) + 3 ≤ 3000; decide)
theorem ok_pair {t o : Dt} (h1 : ShS t) (h2 : ShS o) : PyData.strOk (py (.tup [t, o])).shown = true := by
  show PyData.strOk (tupleText [(py t).shown, (py o).shown]) = true
  exact strOk_tup2 h1.ok h2.ok
theorem fit_repS {n k : Nat} {s : Str} (h : PyData.strOk s = true) : Fit (n + 1) (.lst (List.replicate k (.str s))) := fit_lst fun x hx => by rw [(List.mem_replicate.mp hx).2]; exact fit_str h
abbrev sp_prs (K : PySem.W.Frag) : Sp := spG K (fun x : Dt × Dt => [x.1, x.2]) (fun _ => []) (fun x => ShS x.1 ∧ ShS x.2) (fun _ c' d => c' = [] ∧ d = .bl true) fun _ _ _ => False
theorem ok_prs {f : Addr} {fd : FuncData} (Fu : Fun K "_law_pairs_right" "_law_pairs_right" s__law_pairs_right f fd) (hrep : mg "repr" = none) (D : ClsV P w K mg base cls) : FnGd P w K mg base (L2.CX P w) 4 f fd ["_law_term", "_law_other"] (sp_prs K) := by
  refine fn_Vg (Fun.v Fu) sc__law_pairs_right (fun a => rfl) (fun A outer s H E F x hp hgd hr xt => ?_)
  obtain ⟨t, u⟩ := x
  obtain ⟨hs, hu'⟩ := hp
  have hs : ShS t := hs
  have ho : ShS u := hu'
  have nd := sc__law_pairs_right.nd
  have hbig := big_line
  have hu : (cxOf (L2.CX P w) P w K mg base n__law_pairs_right "_law_pairs_right" (defScope s__law_pairs_right) f fd.code A outer s H E).A.units + 70 < cLine := Nat.lt_of_le_of_lt (Nat.add_le_add_left (by decide : 70 ≤ 16 * 3 + 200) _) hr.un
  have tL := D.two ("NoLine", "kind", "ring") (by decide +kernel)
  have tA := D.two ("Absent", "kind", "call") (by decide +kernel)
  have nL1 := D.no1 ("NoLine", "kind", "ring") (by decide +kernel)
  have nL2 := D.no2 ("NoLine", "kind", "ring") (by decide +kernel)
  have nA1 := D.no1 ("Absent", "kind", "call") (by decide +kernel)
  have nA2 := D.no2 ("Absent", "kind", "call") (by decide +kernel)
  have xL := D.xf "NoLine" (by decide +kernel)
  have xA := D.xf "Absent" (by decide +kernel)
  show SS F _ (startP n__law_pairs_right [t, u]) [] _ _
  refine ss_cons (s_st nd (se_lst ?_))
  refine sa_cons (se_mkV2 tL hgd (hr.mono (by decide)) (se_nm rfl (se_nm rfl ⟨⟨hs, ho⟩, ?_⟩)))
  refine sa_cons (se_mkV2k tL hgd (hr.mono (by decide)) (se_nm rfl (se_nm rfl ⟨⟨hs, ho⟩, ?_⟩)))
  refine sa_nil ⟨by fail "z", ?_⟩
  refine ss_cons (s_st nd (se_lst ?_))
  refine sa_cons (se_mkV2 tA hgd (hr.mono (by decide)) (se_nm rfl (se_nm rfl ⟨⟨hs, ho⟩, ?_⟩)))
  refine sa_cons (se_mkV2k tA hgd (hr.mono (by decide)) (se_nm rfl (se_nm rfl ⟨⟨hs, ho⟩, ?_⟩)))
  refine sa_nil ⟨by fail "z", ?_⟩
  refine ss_cons (s_st nd (se_bin (se_M rfl nd (blkOk_by rfl) (sw_lst (se_nm rfl ⟨_, rfl, ?_⟩)))))
  refine lcM (enc := fun _ : Unit => .xcv (cls "NoLine") true [("ring", u), ("kind", t)]) (l := [(), ()]) (fun _ => .tup [t, u]) (by fail "z") ?_ ?_
  · intro x hx
    repeat fail "e"
    refine se_xv (se_nm rfl ⟨_, _, t, rfl, xL, nL1, rfl, ?_⟩)
    repeat fail "e"
    refine se_xv (se_nm rfl ⟨_, _, u, rfl, xL, nL2, rfl, ?_⟩)
    repeat fail "e"
    exact ⟨rfl, rfl⟩
  refine se_M rfl nd (blkOk_by rfl) (sw_lst (se_nm rfl ⟨_, rfl, ?_⟩))
  refine lcM (enc := fun _ : Unit => .xcv (cls "Absent") true [("call", u), ("kind", t)]) (l := [(), ()]) (fun _ => .tup [t, u]) (by fail "z") ?_ ?_
  · intro x hx
    repeat fail "e"
    refine se_xv (se_nm rfl ⟨_, _, t, rfl, xA, nA1, rfl, ?_⟩)
    repeat fail "e"
    refine se_xv (se_nm rfl ⟨_, _, u, rfl, xA, nA2, rfl, ?_⟩)
    repeat fail "e"
    exact ⟨rfl, rfl⟩
  refine ov_cat (by fail "z") ?_
  refine ss_cons (s_if ?_)
  refine st_cmp (se_M rfl nd (blkOk_by rfl) (sw_lst (se_nm rfl ⟨_, rfl, ?_⟩)))
  refine lcM (enc := fun _ : Unit => .tup [t, u]) (l := List.replicate 4 ()) (fun _ => .str (py (.tup [t, u])).shown) (by rw [List.length_replicate]; omega) ?_ ?_
  · intro x _
    repeat fail "e"
    refine se_callB (id := "repr") hrep (sa_cons (se_nm rfl (sa_nil ?_)))
    refine cv_repr hgd hu (sh_pair hs ho) (by decide) (by decide) ?_
    exact ⟨rfl, rfl⟩
  refine se_bin (se_lst (sa_cons (se_callB (id := "repr") hrep ?_)))
  repeat fail "e"
  refine cv_repr hgd hu (sh_pair hs ho) (by decide) (by decide) ?_
  refine sa_nil ⟨by fail "z", ?_⟩
  repeat fail "e"
  refine ov_rep (by decide) (by decide) (by fail "z") ?_
  refine ov_neD hr.units (fit_repS (k := 4) (ok_pair hs ho)) (fit_repS (k := 4) (ok_pair hs ho)) ?_
  refine ⟨_, rfl, iteFr (congrArg (!·) (eqd_self1 (n := 64) (fit_repS (k := 4) (ok_pair hs ho)))) ?_⟩
  refine ss_nil ?_
  have tM := D.one ("NoMerge", "ring") (by decide +kernel)
  have nM := D.no ("NoMerge", "ring") (by decide +kernel)
  have xM := D.xf "NoMerge" (by decide +kernel)
  refine ss_one (s_ret (se_cmp (se_lst ?_)))
  refine sa_cons (se_callB (id := "repr") hrep (sa_cons (se_xv (se_mkV tM hgd (hr.mono (by decide)) (se_nm rfl ⟨ho, _, _, u, rfl, xM, nM, rfl, ?_⟩)))))
  refine sa_nil (cv_repr hgd hu ho.sh (by decide) (by decide) ?_)
  refine sa_cons (se_callB (id := "repr") hrep (sa_cons (se_xv (se_mkVk tM hgd (hr.mono (by decide)) (se_nm rfl ⟨ho, _, _, u, rfl, xM, nM, rfl, ?_⟩)))))
  refine sa_nil (cv_repr hgd hu ho.sh (by decide) (by decide) ?_)
  refine sa_nil ⟨by fail "z", ?_⟩
  refine se_bin (se_lst (sa_cons (se_callB (id := "repr") hrep (sa_cons (se_nm rfl (sa_nil ?_))))))
  refine cv_repr hgd hu ho.sh (by decide) (by decide) ?_
  refine sa_nil ⟨by fail "z", ?_⟩
  repeat fail "e"
  refine ov_rep (by decide) (by decide) (by fail "z") ?_
  refine ov_eqD hr.units (fit_rep (k := 2) ho) (fit_rep (k := 2) ho) ?_
  exact ⟨rfl, congrArg Dt.bl (eqd_self1 (n := 64) (fit_rep (k := 2) ho))⟩
abbrev D_prs (P : Program) (w : World) (K : PySem.W.Frag) (mg : Str → Option Value) (base : Heap) : Prop := DefGd P w K mg base 4 "_law_pairs_right" ["_law_term", "_law_other"] (sp_prs K)
end
end W
end
section
set_option Elab.async false
set_option linter.all false
set_option maxRecDepth 100000
set_option maxHeartbeats 8000000
set_option pp.maxSteps 800
open PySem L2 D PyProof.Rows
namespace W
open PySem L2 D PyProof.Rows
theorem range_lt01 {n : Nat} {pre rest : List Nat} {k : Nat} (h : List.range n = pre ++ k :: rest) : k < n := by
  have : k ∈ List.range n := by rw [h]; simp
  exact List.mem_range.mp this
theorem fit_words : Fit 64 (.lst (words22.map Dt.str)) := ⟨by decide +kernel, by decide +kernel, by decide +kernel⟩
abbrev entL (t u : Dt) : List (Str × Bool × List (Str × Dt)) := [(("NoName" : Str), true, [(("name" : Str), t)]), (("NoBases" : Str), true, [(("at" : Str), t)]), (("NoLine" : Str), true, [(("ring" : Str), u), (("kind" : Str), t)]), (("NoMerge" : Str), true, [(("ring" : Str), t)]), (("NoCall" : Str), true, [(("call" : Str), t)]), (("NoBody" : Str), true, [(("at" : Str), t)]), (("NoChain" : Str), true, [(("at" : Str), t)]), (("NoRegistry" : Str), false, []), (("NoText" : Str), true, [(("at" : Str), t)]), (("NoCommand" : Str), false, []), (("NoKind" : Str), true, [(("name" : Str), t)]), (("NoObject" : Str), true, [(("number" : Str), t)]), (("NoOpen" : Str), true, [(("number" : Str), t)]), (("Absent" : Str), true, [(("call" : Str), u), (("kind" : Str), t)]), (("NoDefiner" : Str), true, [(("definer" : Str), t)]), (("Taken" : Str), true, [(("name" : Str), t)]), (("InUse" : Str), true, [(("name" : Str), t)]), (("Busy" : Str), true, [(("number" : Str), t)]), (("Nothing" : Str), false, []), (("TooMany" : Str), false, []), (("TooLong" : Str), false, []), (("TooDeep" : Str), true, [(("number" : Str), t)])]
structure Lw01 (P : Program) (w : World) (K : PySem.W.Frag) (mg : Str → Option Value) (base : Heap) (cls : Str → Addr) : Prop where
  bag : DefOk P w K mg base 1 "_law_bag" ["_law_script", "_law_spot_at"] (sp_bag K)
  any : D_any1 P w K mg base
  named : D_named P w K mg base
  prs : D_prs P w K mg base
  word : D_word P w K mg base cls words22
section
variable {P : Program} {w : World} {K : PySem.W.Frag} {mg : Str → Option Value} {base : Heap} {cls : Str → Addr}
abbrev spLaw (K : PySem.W.Frag) : Sp := spG K (fun ns : List Int => [.fzl (ns.map .int)]) (fun _ => []) (fun ns => ns.length ≤ 63) (fun _ _ d => d = .bl true) (fun _ _ _ => False)
theorem ok_law {f : Addr} {fd : FuncData} (Fu : Fun K "law" "law" s_law f fd) (T : Txt mg) (CV : ClsV P w K mg base cls) (D : Lw01 P w K mg base cls) : FnGd P w K mg base (L2.CX P w) 6 f fd ["_law_script"] (spLaw K) := by
  refine fn_Vg (Fun.v Fu) sc_law (fun a => rfl) (fun A outer s H E F ns hp hgd hr xt => ?_)
  have hp : ns.length ≤ 63 := hp
  have nd := sc_law.nd
  have hrg := T.range
  have hmin := T.min
  have hmax := T.max
  have hlen := T.len
  have hbig := big_line
  have LW := D
  clear D
  refine ss_cons (s_for (passes_of rfl) rfl (sw_range hrg ?_))
  repeat fail "e"
  refine cv_lenF  ?_
  repeat fail "e"
  refine cv_min2 rfl ?_
  repeat fail "e"
  refine cv_max2 rfl ?_
  repeat fail "e"
  obtain ⟨m, hm⟩ : ∃ m : Nat, (m : Int) = (if (if ((ns.map Dt.int).length : Int) < 12 then ((ns.map Dt.int).length : Int) else 12) > 2 then (if ((ns.map Dt.int).length : Int) < 12 then ((ns.map Dt.int).length : Int) else 12) else 2) ∧ m ≤ 12 :=
    ⟨(if (if ((ns.map Dt.int).length : Int) < 12 then ((ns.map Dt.int).length : Int) else 12) > 2 then (if ((ns.map Dt.int).length : Int) < 12 then ((ns.map Dt.int).length : Int) else 12) else 2).toNat, by split <;> split <;> omega, by split <;> split <;> omega⟩
  rw [← hm.1]
  refine ⟨by omega, by omega, ?_⟩
  rw [Int.toNat_natCast, idxs_eq]
  refine for_t (fun rest Γ c => ∃ u1 u2 u3 u4 u5 u6 u7, Γ = [.dat (.fzl (ns.map .int)), u1, u2, u3, u4, u5, u6, u7]) ⟨_, _, _, _, _, _, _, rfl⟩ ?_ ?_
  · rintro pre k rest Γ c hl ⟨u1, u2, u3, u4, u5, u6, u7, rfl⟩
    have hk12 := range_lt01 hl
    repeat fail "e"
    refine ss_dropE c [] ?_
    refine ss_cons (s_st nd (se_fG LW.bag (hr.mono (by decide)) XT.no ?_))
    repeat fail "e"
    refine ⟨(ns, (k : Int)), [], [], rfl, rfl, ⟨by omega, by omega⟩, ?_, fun _ _ z => z⟩
    rintro _ _ ⟨b, rfl, rfl⟩
    refine ss_perm (c' := [(b, .bag 0)]) (.refl _) ?_
    refine ss_cons (s_par 3 4 rfl nd (by decide) (sa_cons (se_fB 0 LW.any (hr.mono (by decide)) ?_)))
    repeat fail "e"
    refine ⟨b, 0, (), rfl, rfl, trivial, (show 0 + 1 ≤ LIM by decide), ?_⟩
    intro t ht
    refine sa_cons (se_fB 0 LW.any (hr.mono (by decide)) ?_)
    repeat fail "e"
    refine ⟨b, 1, (), rfl, rfl, trivial, (show 1 + 1 ≤ LIM by decide), ?_⟩
    intro u hu
    have ht : ShS t := ht
    have hu : ShS u := hu
    refine sa_nil ⟨t, u, rfl, ?_⟩
    refine ss_norm (Γ' := [.dat (.fzl (ns.map .int)), .dat (.int (k : Int)), .dat (.raw (.ref b)), .dat t, .dat u, u5, u6, u7]) rfl ?_
    refine ss_perm (c' := [(b, .bag 2)]) (.refl _) ?_
    refine ss_cons (s_if (st_w (sw_or (st_not (st_val (se_fGd LW.named (fun _ => rfl) hgd (hr.mono (by decide)) XT.no (sa_cons (se_nm rfl (sa_nil ⟨t, [(b, .bag 2)], [], rfl, rfl, ht, ?_, fun _ _ z => z⟩)))))))))
    rintro _ _ ⟨rfl, rfl⟩
    refine ⟨_, rfl, iteFr rfl ?_⟩
    refine sw_or1 (st_not (st_val (se_fGd LW.prs (fun _ => rfl) hgd (hr.mono (by decide)) XT.no (sa_cons (se_nm rfl (sa_cons (se_nm rfl (sa_nil ⟨(t, u), [(b, .bag 2)], [], rfl, rfl, ⟨ht, hu⟩, ?_, fun _ _ z => z⟩))))))))
    rintro _ _ ⟨rfl, rfl⟩
    refine ⟨_, rfl, iteFr rfl ?_⟩
    refine ss_nil ?_
    have tL := CV.two ("NoLine", "kind", "ring") (by decide +kernel)
    have tA := CV.two ("Absent", "kind", "call") (by decide +kernel)
    refine ss_cons (s_st nd (se_lst ?_))
    refine sa_cons (se_mkV (CV.one ("NoName", "name") (by decide +kernel)) hgd (hr.mono (by decide)) (se_nm rfl ⟨ht, ?_⟩))
    refine sa_cons (se_mkV (CV.one ("NoBases", "at") (by decide +kernel)) hgd (hr.mono (by decide)) (se_nm rfl ⟨ht, ?_⟩))
    refine sa_cons (se_mkV2 tL hgd (hr.mono (by decide)) (se_nm rfl (se_nm rfl ⟨⟨ht, hu⟩, ?_⟩)))
    refine sa_cons (se_mkV (CV.one ("NoMerge", "ring") (by decide +kernel)) hgd (hr.mono (by decide)) (se_nm rfl ⟨ht, ?_⟩))
    refine sa_cons (se_mkV (CV.one ("NoCall", "call") (by decide +kernel)) hgd (hr.mono (by decide)) (se_nm rfl ⟨ht, ?_⟩))
    refine sa_cons (se_mkV (CV.one ("NoBody", "at") (by decide +kernel)) hgd (hr.mono (by decide)) (se_nm rfl ⟨ht, ?_⟩))
    refine sa_nil ⟨by fail "z", ?_⟩
    refine ss_cons (s_st nd (se_bin (se_nm rfl (se_lst ?_))))
    refine sa_cons (se_mkV (CV.one ("NoChain", "at") (by decide +kernel)) hgd (hr.mono (by decide)) (se_nm rfl ⟨ht, ?_⟩))
    refine sa_cons (se_mkV0 (CV.non "NoRegistry" (by decide +kernel)) ?_)
    refine sa_cons (se_mkV (CV.one ("NoText", "at") (by decide +kernel)) hgd (hr.mono (by decide)) (se_nm rfl ⟨ht, ?_⟩))
    refine sa_cons (se_mkV0 (CV.non "NoCommand" (by decide +kernel)) ?_)
    refine sa_cons (se_mkV (CV.one ("NoKind", "name") (by decide +kernel)) hgd (hr.mono (by decide)) (se_nm rfl ⟨ht, ?_⟩))
    refine sa_cons (se_mkV (CV.one ("NoObject", "number") (by decide +kernel)) hgd (hr.mono (by decide)) (se_nm rfl ⟨ht, ?_⟩))
    refine sa_nil ⟨by fail "z", ?_⟩
    refine ov_cat (by fail "z") ?_
    refine ss_cons (s_st nd (se_bin (se_nm rfl (se_lst ?_))))
    refine sa_cons (se_mkV (CV.one ("NoOpen", "number") (by decide +kernel)) hgd (hr.mono (by decide)) (se_nm rfl ⟨ht, ?_⟩))
    refine sa_cons (se_mkV2 tA hgd (hr.mono (by decide)) (se_nm rfl (se_nm rfl ⟨⟨ht, hu⟩, ?_⟩)))
    refine sa_cons (se_mkV (CV.one ("NoDefiner", "definer") (by decide +kernel)) hgd (hr.mono (by decide)) (se_nm rfl ⟨ht, ?_⟩))
    refine sa_cons (se_mkV (CV.one ("Taken", "name") (by decide +kernel)) hgd (hr.mono (by decide)) (se_nm rfl ⟨ht, ?_⟩))
    refine sa_cons (se_mkV (CV.one ("InUse", "name") (by decide +kernel)) hgd (hr.mono (by decide)) (se_nm rfl ⟨ht, ?_⟩))
    refine sa_cons (se_mkV (CV.one ("Busy", "number") (by decide +kernel)) hgd (hr.mono (by decide)) (se_nm rfl ⟨ht, ?_⟩))
    refine sa_nil ⟨by fail "z", ?_⟩
    refine ov_cat (by fail "z") ?_
    refine ss_cons (s_st nd (se_bin (se_nm rfl (se_lst ?_))))
    refine sa_cons (se_mkV0 (CV.non "Nothing" (by decide +kernel)) ?_)
    refine sa_cons (se_mkV0 (CV.non "TooMany" (by decide +kernel)) ?_)
    refine sa_cons (se_mkV0 (CV.non "TooLong" (by decide +kernel)) ?_)
    refine sa_cons (se_mkV (CV.one ("TooDeep", "number") (by decide +kernel)) hgd (hr.mono (by decide)) (se_nm rfl ⟨ht, ?_⟩))
    refine sa_nil ⟨by fail "z", ?_⟩
    refine ov_cat (by fail "z") ?_
    refine ss_cons (s_st nd ?_)
    repeat fail "e"
    refine ss_cons (s_st nd ?_)
    repeat fail "e"
    refine ss_one (s_if ?_)
    refine st_cmp (se_M rfl nd (blkOk_by rfl) (sw_lst (se_nm rfl ⟨_, rfl, ?_⟩)))
    have hLw : (entL t u).map (·.1) = words22 := rfl
    have hLm : ∀ x ∈ entL t u, x.1 ∈ words22 := fun x hx => by rw [← hLw]; exact List.mem_map.mpr ⟨x, hx, rfl⟩
    have hLl : (entL t u).length = 22 := rfl
    refine lcM (enc := fun x : Str × Bool × List (Str × Dt) => .xcv (cls x.1) x.2.1 x.2.2) (l := entL t u) (fun x => .str x.1) (by omega) ?_ ?_
    · intro x hx
      repeat fail "e"
      refine se_fP LW.word (hr.mono (by decide)) (sa_cons (se_nm rfl (sa_nil ⟨x, rfl, hLm x hx, ?_⟩)))
      rintro _ rfl
      exact ⟨rfl, rfl⟩
    repeat fail "e"
    refine ov_neD hr.units fit_words fit_words ?_
    refine ⟨_, rfl, iteFr (congrArg (!·) (eqd_self1 (n := 64) fit_words)) ?_⟩
    exact ss_nil ⟨_, _, _, _, _, _, _, rfl⟩

  rintro Γ c ⟨u1, u2, u3, u4, u5, u6, u7, rfl⟩
  repeat fail
  rfl
end
end W
end
end
section
set_option Elab.async false
set_option linter.all false
set_option maxRecDepth 100000
set_option maxHeartbeats 2000000
namespace Hy
open PySem PySem.Spec PyProof.Rows L2 D
theorem funD_fun {K : PySem.W.Frag} {x q : Str} {st : Stmt} {f : Addr} {fd : FuncData} (F : FunD K x q (defArgs st) (defBody st) (defScope st) [] [] f fd) : L2.Fun K x q st f fd := by
  obtain ⟨oc, od, dV, kV, doc, pm, an, cdv, ct, osl, rfl, lk, hcd, hD, hK⟩ := F.ex
  rcases hD with ⟨_, rfl⟩ | ⟨e, _⟩
  · exact ⟨⟨oc, od, kV, doc, pm, an, cdv, ct, osl, rfl, lk, hcd⟩, F.kp⟩
  · exact absurd rfl e
end Hy
end
section
set_option Elab.async false
set_option linter.all false
set_option maxRecDepth 100000
set_option maxHeartbeats 8000000
namespace K01
open PySem L2 D W PyProof.Rows
theorem all_mk {l : PySem.W.OpenLaw} {w : World} {K : PySem.W.Frag} {h : Heap} {mg : Str → Option Value} {fa : Addr}  {cls : Str → Addr}  (X : K.In h) (Gg : h.Ns mainGlobals mg) (hfa : mg "law" = some (.ref fa))
    {fd0 : Addr} {gd0 : FuncData}
    {fd1 : Addr} {gd1 : FuncData}
    {fd2 : Addr} {gd2 : FuncData}
    {fd3 : Addr} {gd3 : FuncData}
    {fd4 : Addr} {gd4 : FuncData}
    {fd5 : Addr} {gd5 : FuncData}
    {fd6 : Addr} {gd6 : FuncData}
    {fc0 : Addr} {gc0 : FuncData}
    {fc1 : Addr} {gc1 : FuncData}
    {fc2 : Addr} {gc2 : FuncData}
    {fc3 : Addr} {gc3 : FuncData}
    {fc4 : Addr} {gc4 : FuncData}
    {fc5 : Addr} {gc5 : FuncData}
    {fc6 : Addr} {gc6 : FuncData}
    {fc7 : Addr} {gc7 : FuncData}
    {fc8 : Addr} {gc8 : FuncData}
    {fc9 : Addr} {gc9 : FuncData}
    {fc10 : Addr} {gc10 : FuncData}
    {fc11 : Addr} {gc11 : FuncData}
    {fc12 : Addr} {gc12 : FuncData}
    {fc13 : Addr} {gc13 : FuncData}
    {fc14 : Addr} {gc14 : FuncData}
    {fc15 : Addr} {gc15 : FuncData}
    {fc16 : Addr} {gc16 : FuncData}
     (Dd0 : FunD K "_law_bag" "_law_bag" (defArgs s__law_bag) (defBody s__law_bag) (defScope s__law_bag) [] [] fd0 gd0)
     (Dd1 : FunD K "_law_take" "_law_take" (defArgs s__law_take) (defBody s__law_take) (defScope s__law_take) [] [] fd1 gd1)
     (Dd2 : FunD K "_law_any" "_law_any" (defArgs s__law_any) (defBody s__law_any) (defScope s__law_any) [] [] fd2 gd2)
     (Dd3 : FunD K "_law_word" "_law_word" (defArgs s__law_word) (defBody s__law_word) (defScope s__law_word) [] [] fd3 gd3)
     (Dd4 : FunD K "_law_named_right" "_law_named_right" (defArgs s__law_named_right) (defBody s__law_named_right) (defScope s__law_named_right) [] [] fd4 gd4)
     (Dd5 : FunD K "_law_pairs_right" "_law_pairs_right" (defArgs s__law_pairs_right) (defBody s__law_pairs_right) (defScope s__law_pairs_right) [] [] fd5 gd5)
     (Dd6 : FunD K "law" "law" (defArgs s_law) (defBody s_law) (defScope s_law) [] [] fd6 gd6)
     (Dc0 : FunD K "__init__" "NoName.__init__" (defArgs s_NoName___init__) (defBody s_NoName___init__) (defScope s_NoName___init__) [] [] fc0 gc0)
     (Dc1 : FunD K "__init__" "NoBases.__init__" (defArgs s_NoBases___init__) (defBody s_NoBases___init__) (defScope s_NoBases___init__) [] [] fc1 gc1)
     (Dc2 : FunD K "__init__" "NoLine.__init__" (defArgs s_NoLine___init__) (defBody s_NoLine___init__) (defScope s_NoLine___init__) [] [] fc2 gc2)
     (Dc3 : FunD K "__init__" "NoMerge.__init__" (defArgs s_NoMerge___init__) (defBody s_NoMerge___init__) (defScope s_NoMerge___init__) [] [] fc3 gc3)
     (Dc4 : FunD K "__init__" "NoCall.__init__" (defArgs s_NoCall___init__) (defBody s_NoCall___init__) (defScope s_NoCall___init__) [] [] fc4 gc4)
     (Dc5 : FunD K "__init__" "NoBody.__init__" (defArgs s_NoBody___init__) (defBody s_NoBody___init__) (defScope s_NoBody___init__) [] [] fc5 gc5)
     (Dc6 : FunD K "__init__" "NoChain.__init__" (defArgs s_NoChain___init__) (defBody s_NoChain___init__) (defScope s_NoChain___init__) [] [] fc6 gc6)
     (Dc7 : FunD K "__init__" "NoText.__init__" (defArgs s_NoText___init__) (defBody s_NoText___init__) (defScope s_NoText___init__) [] [] fc7 gc7)
     (Dc8 : FunD K "__init__" "NoKind.__init__" (defArgs s_NoKind___init__) (defBody s_NoKind___init__) (defScope s_NoKind___init__) [] [] fc8 gc8)
     (Dc9 : FunD K "__init__" "NoObject.__init__" (defArgs s_NoObject___init__) (defBody s_NoObject___init__) (defScope s_NoObject___init__) [] [] fc9 gc9)
     (Dc10 : FunD K "__init__" "NoOpen.__init__" (defArgs s_NoOpen___init__) (defBody s_NoOpen___init__) (defScope s_NoOpen___init__) [] [] fc10 gc10)
     (Dc11 : FunD K "__init__" "Absent.__init__" (defArgs s_Absent___init__) (defBody s_Absent___init__) (defScope s_Absent___init__) [] [] fc11 gc11)
     (Dc12 : FunD K "__init__" "NoDefiner.__init__" (defArgs s_NoDefiner___init__) (defBody s_NoDefiner___init__) (defScope s_NoDefiner___init__) [] [] fc12 gc12)
     (Dc13 : FunD K "__init__" "Taken.__init__" (defArgs s_Taken___init__) (defBody s_Taken___init__) (defScope s_Taken___init__) [] [] fc13 gc13)
     (Dc14 : FunD K "__init__" "InUse.__init__" (defArgs s_InUse___init__) (defBody s_InUse___init__) (defScope s_InUse___init__) [] [] fc14 gc14)
     (Dc15 : FunD K "__init__" "Busy.__init__" (defArgs s_Busy___init__) (defBody s_Busy___init__) (defScope s_Busy___init__) [] [] fc15 gc15)
     (Dc16 : FunD K "__init__" "TooDeep.__init__" (defArgs s_TooDeep___init__) (defBody s_TooDeep___init__) (defScope s_TooDeep___init__) [] [] fc16 gc16)
    (ad0 : PySem.W.nsIn K mainGlobals "_law_bag" = some (some (.ref fd0)))
    (ad1 : PySem.W.nsIn K mainGlobals "_law_take" = some (some (.ref fd1)))
    (ad2 : PySem.W.nsIn K mainGlobals "_law_any" = some (some (.ref fd2)))
    (ad3 : PySem.W.nsIn K mainGlobals "_law_word" = some (some (.ref fd3)))
    (ad4 : PySem.W.nsIn K mainGlobals "_law_named_right" = some (some (.ref fd4)))
    (ad5 : PySem.W.nsIn K mainGlobals "_law_pairs_right" = some (some (.ref fd5)))
    (ad6 : PySem.W.nsIn K mainGlobals "law" = some (some (.ref fd6)))
    (clsGl : ∀ y ∈ (["NoName", "NoBases", "NoLine", "NoMerge", "NoCall", "NoBody", "NoChain", "NoRegistry", "NoText", "NoCommand", "NoKind", "NoObject", "NoOpen", "Absent", "NoDefiner", "Taken", "InUse", "Busy", "Nothing", "TooMany", "TooLong", "TooDeep"] : List Str), PySem.W.nsIn K mainGlobals y = some (some (.ref (cls y))))
    (clsOne : ∀ x ∈ (["NoName", "NoBases", "NoLine", "NoMerge", "NoCall", "NoBody", "NoChain", "NoRegistry", "NoText", "NoCommand", "NoKind", "NoObject", "NoOpen", "Absent", "NoDefiner", "Taken", "InUse", "Busy", "Nothing", "TooMany", "TooLong", "TooDeep"] : List Str), ∀ y ∈ (["NoName", "NoBases", "NoLine", "NoMerge", "NoCall", "NoBody", "NoChain", "NoRegistry", "NoText", "NoCommand", "NoKind", "NoObject", "NoOpen", "Absent", "NoDefiner", "Taken", "InUse", "Busy", "Nothing", "TooMany", "TooLong", "TooDeep"] : List Str), PySem.W.kitOne K (.ref (cls x)) (.ref (cls y)) = some (decide (x = y)))
    (clsTyNoName : (["ValueError", "KeyError", "LookupError", "RuntimeError", "OverflowError"] : List String).map (fun T => PySem.W.kitOne K (.ref (cls "NoName")) (.type T)) = ([true, false, false, false, false] : List Bool).map some)
    (clsTyNoBases : (["ValueError", "KeyError", "LookupError", "RuntimeError", "OverflowError"] : List String).map (fun T => PySem.W.kitOne K (.ref (cls "NoBases")) (.type T)) = ([true, false, false, false, false] : List Bool).map some)
    (clsTyNoLine : (["ValueError", "KeyError", "LookupError", "RuntimeError", "OverflowError"] : List String).map (fun T => PySem.W.kitOne K (.ref (cls "NoLine")) (.type T)) = ([true, false, false, false, false] : List Bool).map some)
    (clsTyNoMerge : (["ValueError", "KeyError", "LookupError", "RuntimeError", "OverflowError"] : List String).map (fun T => PySem.W.kitOne K (.ref (cls "NoMerge")) (.type T)) = ([true, false, false, false, false] : List Bool).map some)
    (clsTyNoCall : (["ValueError", "KeyError", "LookupError", "RuntimeError", "OverflowError"] : List String).map (fun T => PySem.W.kitOne K (.ref (cls "NoCall")) (.type T)) = ([true, false, false, false, false] : List Bool).map some)
    (clsTyNoBody : (["ValueError", "KeyError", "LookupError", "RuntimeError", "OverflowError"] : List String).map (fun T => PySem.W.kitOne K (.ref (cls "NoBody")) (.type T)) = ([true, false, false, false, false] : List Bool).map some)
    (clsTyNoChain : (["ValueError", "KeyError", "LookupError", "RuntimeError", "OverflowError"] : List String).map (fun T => PySem.W.kitOne K (.ref (cls "NoChain")) (.type T)) = ([true, false, false, false, false] : List Bool).map some)
    (clsTyNoRegistry : (["ValueError", "KeyError", "LookupError", "RuntimeError", "OverflowError"] : List String).map (fun T => PySem.W.kitOne K (.ref (cls "NoRegistry")) (.type T)) = ([true, false, false, false, false] : List Bool).map some)
    (clsTyNoText : (["ValueError", "KeyError", "LookupError", "RuntimeError", "OverflowError"] : List String).map (fun T => PySem.W.kitOne K (.ref (cls "NoText")) (.type T)) = ([true, false, false, false, false] : List Bool).map some)
    (clsTyNoCommand : (["ValueError", "KeyError", "LookupError", "RuntimeError", "OverflowError"] : List String).map (fun T => PySem.W.kitOne K (.ref (cls "NoCommand")) (.type T)) = ([true, false, false, false, false] : List Bool).map some)
    (clsTyNoKind : (["ValueError", "KeyError", "LookupError", "RuntimeError", "OverflowError"] : List String).map (fun T => PySem.W.kitOne K (.ref (cls "NoKind")) (.type T)) = ([false, true, true, false, false] : List Bool).map some)
    (clsTyNoObject : (["ValueError", "KeyError", "LookupError", "RuntimeError", "OverflowError"] : List String).map (fun T => PySem.W.kitOne K (.ref (cls "NoObject")) (.type T)) = ([false, true, true, false, false] : List Bool).map some)
    (clsTyNoOpen : (["ValueError", "KeyError", "LookupError", "RuntimeError", "OverflowError"] : List String).map (fun T => PySem.W.kitOne K (.ref (cls "NoOpen")) (.type T)) = ([false, true, true, false, false] : List Bool).map some)
    (clsTyAbsent : (["ValueError", "KeyError", "LookupError", "RuntimeError", "OverflowError"] : List String).map (fun T => PySem.W.kitOne K (.ref (cls "Absent")) (.type T)) = ([false, false, true, false, false] : List Bool).map some)
    (clsTyNoDefiner : (["ValueError", "KeyError", "LookupError", "RuntimeError", "OverflowError"] : List String).map (fun T => PySem.W.kitOne K (.ref (cls "NoDefiner")) (.type T)) = ([false, false, true, false, false] : List Bool).map some)
    (clsTyTaken : (["ValueError", "KeyError", "LookupError", "RuntimeError", "OverflowError"] : List String).map (fun T => PySem.W.kitOne K (.ref (cls "Taken")) (.type T)) = ([false, false, false, true, false] : List Bool).map some)
    (clsTyInUse : (["ValueError", "KeyError", "LookupError", "RuntimeError", "OverflowError"] : List String).map (fun T => PySem.W.kitOne K (.ref (cls "InUse")) (.type T)) = ([false, false, false, true, false] : List Bool).map some)
    (clsTyBusy : (["ValueError", "KeyError", "LookupError", "RuntimeError", "OverflowError"] : List String).map (fun T => PySem.W.kitOne K (.ref (cls "Busy")) (.type T)) = ([false, false, false, true, false] : List Bool).map some)
    (clsTyNothing : (["ValueError", "KeyError", "LookupError", "RuntimeError", "OverflowError"] : List String).map (fun T => PySem.W.kitOne K (.ref (cls "Nothing")) (.type T)) = ([false, false, false, true, false] : List Bool).map some)
    (clsTyTooMany : (["ValueError", "KeyError", "LookupError", "RuntimeError", "OverflowError"] : List String).map (fun T => PySem.W.kitOne K (.ref (cls "TooMany")) (.type T)) = ([false, false, false, false, true] : List Bool).map some)
    (clsTyTooLong : (["ValueError", "KeyError", "LookupError", "RuntimeError", "OverflowError"] : List String).map (fun T => PySem.W.kitOne K (.ref (cls "TooLong")) (.type T)) = ([false, false, false, false, true] : List Bool).map some)
    (clsTyTooDeep : (["ValueError", "KeyError", "LookupError", "RuntimeError", "OverflowError"] : List String).map (fun T => PySem.W.kitOne K (.ref (cls "TooDeep")) (.type T)) = ([false, false, false, false, true] : List Bool).map some)
    (xsa : ∀ x ∈ (["NoName", "NoBases", "NoLine", "NoMerge", "NoCall", "NoBody", "NoChain", "NoText", "NoKind", "NoObject", "NoOpen", "Absent", "NoDefiner", "Taken", "InUse", "Busy", "TooDeep"] : List Str), PySem.W.findIn K (.ref (cls x)) "__setattr__" = some (some (.builtin "object.__setattr__")))
    (xga : ∀ x ∈ (["NoName", "NoBases", "NoLine", "NoMerge", "NoCall", "NoBody", "NoChain", "NoRegistry", "NoText", "NoCommand", "NoKind", "NoObject", "NoOpen", "Absent", "NoDefiner", "Taken", "InUse", "Busy", "Nothing", "TooMany", "TooLong", "TooDeep"] : List Str), PySem.W.findIn K (.ref (cls x)) "__getattribute__" = some (some (.builtin "BaseException.__getattribute__")))
    (xgg : ∀ x ∈ (["NoName", "NoBases", "NoLine", "NoMerge", "NoCall", "NoBody", "NoChain", "NoRegistry", "NoText", "NoCommand", "NoKind", "NoObject", "NoOpen", "Absent", "NoDefiner", "Taken", "InUse", "Busy", "Nothing", "TooMany", "TooLong", "TooDeep"] : List Str), PySem.W.findIn K (.ref (cls x)) "__getattr__" = some none)
    (xkC : ∀ x ∈ (["NoName", "NoBases", "NoLine", "NoMerge", "NoCall", "NoBody", "NoChain", "NoRegistry", "NoText", "NoCommand", "NoKind", "NoObject", "NoOpen", "Absent", "NoDefiner", "Taken", "InUse", "Busy", "Nothing", "TooMany", "TooLong", "TooDeep"] : List Str), PySem.W.keepIn K (.ref (cls x)) = true)
    (xeC : ∀ x ∈ (["NoName", "NoBases", "NoLine", "NoMerge", "NoCall", "NoBody", "NoChain", "NoRegistry", "NoText", "NoCommand", "NoKind", "NoObject", "NoOpen", "Absent", "NoDefiner", "Taken", "InUse", "Busy", "Nothing", "TooMany", "TooLong", "TooDeep"] : List Str), PySem.W.subIn K (.ref (cls x)) (.type "BaseException") = some true)
    (xtC : ∀ x ∈ (["NoName", "NoBases", "NoLine", "NoMerge", "NoCall", "NoBody", "NoChain", "NoRegistry", "NoText", "NoCommand", "NoKind", "NoObject", "NoOpen", "Absent", "NoDefiner", "Taken", "InUse", "Busy", "Nothing", "TooMany", "TooLong", "TooDeep"] : List Str), PySem.W.typeIn K (.ref (cls x)) = some (.type "type"))
    (xhC : ∀ x ∈ (["NoName", "NoBases", "NoLine", "NoMerge", "NoCall", "NoBody", "NoChain", "NoRegistry", "NoText", "NoCommand", "NoKind", "NoObject", "NoOpen", "Absent", "NoDefiner", "Taken", "InUse", "Busy", "Nothing", "TooMany", "TooLong", "TooDeep"] : List Str), PySem.W.hasDictIn K (cls x) = true)
    (xhA : ∀ x ∈ (["NoName", "NoBases", "NoLine", "NoMerge", "NoCall", "NoBody", "NoChain", "NoRegistry", "NoText", "NoCommand", "NoKind", "NoObject", "NoOpen", "Absent", "NoDefiner", "Taken", "InUse", "Busy", "Nothing", "TooMany", "TooLong", "TooDeep"] : List Str), PySem.W.findIn K (.ref (cls x)) "__class__" = some (some (.builtin "object.__class__")))
    (xhM : ∀ x ∈ (["NoName", "NoBases", "NoLine", "NoMerge", "NoCall", "NoBody", "NoChain", "NoRegistry", "NoText", "NoCommand", "NoKind", "NoObject", "NoOpen", "Absent", "NoDefiner", "Taken", "InUse", "Busy", "Nothing", "TooMany", "TooLong", "TooDeep"] : List Str), PySem.W.mroIn K (cls x) (.type "object") = some true)
    (xn : ∀ p ∈ ([("NoName", "name"), ("NoBases", "at"), ("NoLine", "kind"), ("NoLine", "ring"), ("NoMerge", "ring"), ("NoCall", "call"), ("NoBody", "at"), ("NoChain", "at"), ("NoText", "at"), ("NoKind", "name"), ("NoObject", "number"), ("NoOpen", "number"), ("Absent", "kind"), ("Absent", "call"), ("NoDefiner", "definer"), ("Taken", "name"), ("InUse", "name"), ("Busy", "number"), ("TooDeep", "number")] : List (Str × Str)), PySem.W.findIn K (.ref (cls p.1)) p.2 = some none)
    (xLV : ∀ x ∈ (["NoName", "NoBases", "NoLine", "NoMerge", "NoCall", "NoBody", "NoChain", "NoText"] : List Str), Hq.oexB2 K (cls x) "ValueError.__new__" ["ValueError", "Exception", "BaseException", "object"] = true)
    (xZV : ∀ x ∈ (["NoRegistry", "NoCommand"] : List Str), PySem.W.excIn K (cls x) [.type "ValueError", .type "Exception", .type "BaseException", .type "object"] "ValueError.__new__" = true)
    (xLK : ∀ x ∈ (["NoKind", "NoObject", "NoOpen"] : List Str), Hq.oexB2 K (cls x) "LookupError.__new__" ["KeyError", "LookupError", "Exception", "BaseException", "object"] = true)
    (xLL : ∀ x ∈ (["Absent", "NoDefiner"] : List Str), Hq.oexB2 K (cls x) "LookupError.__new__" ["LookupError", "Exception", "BaseException", "object"] = true)
    (xLR : ∀ x ∈ (["Taken", "InUse", "Busy"] : List Str), Hq.oexB2 K (cls x) "RuntimeError.__new__" ["RuntimeError", "Exception", "BaseException", "object"] = true)
    (xZR : ∀ x ∈ (["Nothing"] : List Str), PySem.W.excIn K (cls x) [.type "RuntimeError", .type "Exception", .type "BaseException", .type "object"] "RuntimeError.__new__" = true)
    (xLO : ∀ x ∈ (["TooDeep"] : List Str), Hq.oexB2 K (cls x) "OverflowError.__new__" ["OverflowError", "ArithmeticError", "Exception", "BaseException", "object"] = true)
    (xZO : ∀ x ∈ (["TooMany", "TooLong"] : List Str), PySem.W.excIn K (cls x) [.type "OverflowError", .type "ArithmeticError", .type "Exception", .type "BaseException", .type "object"] "OverflowError.__new__" = true)
    (ac0 : PySem.W.findIn K (.ref (cls "NoName")) "__init__" = some (some (.ref fc0)))
    (tI0 : PySem.W.typeIn K (.ref fc0) = some (.type "function"))
    (ac1 : PySem.W.findIn K (.ref (cls "NoBases")) "__init__" = some (some (.ref fc1)))
    (tI1 : PySem.W.typeIn K (.ref fc1) = some (.type "function"))
    (ac2 : PySem.W.findIn K (.ref (cls "NoLine")) "__init__" = some (some (.ref fc2)))
    (tI2 : PySem.W.typeIn K (.ref fc2) = some (.type "function"))
    (ac3 : PySem.W.findIn K (.ref (cls "NoMerge")) "__init__" = some (some (.ref fc3)))
    (tI3 : PySem.W.typeIn K (.ref fc3) = some (.type "function"))
    (ac4 : PySem.W.findIn K (.ref (cls "NoCall")) "__init__" = some (some (.ref fc4)))
    (tI4 : PySem.W.typeIn K (.ref fc4) = some (.type "function"))
    (ac5 : PySem.W.findIn K (.ref (cls "NoBody")) "__init__" = some (some (.ref fc5)))
    (tI5 : PySem.W.typeIn K (.ref fc5) = some (.type "function"))
    (ac6 : PySem.W.findIn K (.ref (cls "NoChain")) "__init__" = some (some (.ref fc6)))
    (tI6 : PySem.W.typeIn K (.ref fc6) = some (.type "function"))
    (ac7 : PySem.W.findIn K (.ref (cls "NoText")) "__init__" = some (some (.ref fc7)))
    (tI7 : PySem.W.typeIn K (.ref fc7) = some (.type "function"))
    (ac8 : PySem.W.findIn K (.ref (cls "NoKind")) "__init__" = some (some (.ref fc8)))
    (tI8 : PySem.W.typeIn K (.ref fc8) = some (.type "function"))
    (ac9 : PySem.W.findIn K (.ref (cls "NoObject")) "__init__" = some (some (.ref fc9)))
    (tI9 : PySem.W.typeIn K (.ref fc9) = some (.type "function"))
    (ac10 : PySem.W.findIn K (.ref (cls "NoOpen")) "__init__" = some (some (.ref fc10)))
    (tI10 : PySem.W.typeIn K (.ref fc10) = some (.type "function"))
    (ac11 : PySem.W.findIn K (.ref (cls "Absent")) "__init__" = some (some (.ref fc11)))
    (tI11 : PySem.W.typeIn K (.ref fc11) = some (.type "function"))
    (ac12 : PySem.W.findIn K (.ref (cls "NoDefiner")) "__init__" = some (some (.ref fc12)))
    (tI12 : PySem.W.typeIn K (.ref fc12) = some (.type "function"))
    (ac13 : PySem.W.findIn K (.ref (cls "Taken")) "__init__" = some (some (.ref fc13)))
    (tI13 : PySem.W.typeIn K (.ref fc13) = some (.type "function"))
    (ac14 : PySem.W.findIn K (.ref (cls "InUse")) "__init__" = some (some (.ref fc14)))
    (tI14 : PySem.W.typeIn K (.ref fc14) = some (.type "function"))
    (ac15 : PySem.W.findIn K (.ref (cls "Busy")) "__init__" = some (some (.ref fc15)))
    (tI15 : PySem.W.typeIn K (.ref fc15) = some (.type "function"))
    (ac16 : PySem.W.findIn K (.ref (cls "TooDeep")) "__init__" = some (some (.ref fc16)))
    (tI16 : PySem.W.typeIn K (.ref fc16) = some (.type "function"))
    (hnC : PySem.W.specialIn K (.builtin "object.__class__") "__get__" = some (some (.builtin "getset_descriptor.__get__")))
    (htC : PySem.W.takesIn K (.builtin "object.__class__") = some true)
    (zany : PySem.W.nsIn K mainGlobals "any" = some none)
    (zall : PySem.W.nsIn K mainGlobals "all" = some none)
    (zlen : PySem.W.nsIn K mainGlobals "len" = some none)
    (zmin : PySem.W.nsIn K mainGlobals "min" = some none)
    (zmax : PySem.W.nsIn K mainGlobals "max" = some none)
    (zabs : PySem.W.nsIn K mainGlobals "abs" = some none)
    (zisinstance : PySem.W.nsIn K mainGlobals "isinstance" = some none)
    (ztuple : PySem.W.nsIn K mainGlobals "tuple" = some none)
    (zlist : PySem.W.nsIn K mainGlobals "list" = some none)
    (zsorted : PySem.W.nsIn K mainGlobals "sorted" = some none)
    (zsum : PySem.W.nsIn K mainGlobals "sum" = some none)
    (zstr : PySem.W.nsIn K mainGlobals "str" = some none)
    (zint : PySem.W.nsIn K mainGlobals "int" = some none)
    (zbool : PySem.W.nsIn K mainGlobals "bool" = some none)
    (zrange : PySem.W.nsIn K mainGlobals "range" = some none)
    (zenumerate : PySem.W.nsIn K mainGlobals "enumerate" = some none)
    (zzip : PySem.W.nsIn K mainGlobals "zip" = some none)
    (zrepr : PySem.W.nsIn K mainGlobals "repr" = some none)
    (zValueError : PySem.W.nsIn K mainGlobals "ValueError" = some none)
    (zKeyError : PySem.W.nsIn K mainGlobals "KeyError" = some none)
    (zLookupError : PySem.W.nsIn K mainGlobals "LookupError" = some none)
    (zRuntimeError : PySem.W.nsIn K mainGlobals "RuntimeError" = some none)
    (zOverflowError : PySem.W.nsIn K mainGlobals "OverflowError" = some none)
     (base : Heap)  : D.FnGd l.prog w K mg base (L2.CX l.prog w) 6 fa gd6 ["_law_script"] (spLaw K ) := by
  have e := hfa.symm.trans (PySem.W.mg_of X Gg ad6)
  cases e
  have T : Txt mg := { any := PySem.W.mg_none_of X Gg zany, all := PySem.W.mg_none_of X Gg zall, len := PySem.W.mg_none_of X Gg zlen, min := PySem.W.mg_none_of X Gg zmin, max := PySem.W.mg_none_of X Gg zmax, abs := PySem.W.mg_none_of X Gg zabs, isi := PySem.W.mg_none_of X Gg zisinstance, tuple := PySem.W.mg_none_of X Gg ztuple, list := PySem.W.mg_none_of X Gg zlist, sorted := PySem.W.mg_none_of X Gg zsorted, sum := PySem.W.mg_none_of X Gg zsum, str := PySem.W.mg_none_of X Gg zstr, int := PySem.W.mg_none_of X Gg zint, bool := PySem.W.mg_none_of X Gg zbool, range := PySem.W.mg_none_of X Gg zrange, enumerate := PySem.W.mg_none_of X Gg zenumerate, zip := PySem.W.mg_none_of X Gg zzip }
  have Fd0 := Hy.funD_fun Dd0
  have kd0 := Dd0.kp
  have Fd1 := Hy.funD_fun Dd1
  have kd1 := Dd1.kp
  have Fd2 := Hy.funD_fun Dd2
  have kd2 := Dd2.kp
  have Fd3 := Hy.funD_fun Dd3
  have kd3 := Dd3.kp
  have Fd4 := Hy.funD_fun Dd4
  have kd4 := Dd4.kp
  have Fd5 := Hy.funD_fun Dd5
  have kd5 := Dd5.kp
  have Fd6 := Hy.funD_fun Dd6
  have kd6 := Dd6.kp
  have Fc0 := Hy.funD_fun Dc0
  have kc0 := Dc0.kp
  have Fc1 := Hy.funD_fun Dc1
  have kc1 := Dc1.kp
  have Fc2 := Hy.funD_fun Dc2
  have kc2 := Dc2.kp
  have Fc3 := Hy.funD_fun Dc3
  have kc3 := Dc3.kp
  have Fc4 := Hy.funD_fun Dc4
  have kc4 := Dc4.kp
  have Fc5 := Hy.funD_fun Dc5
  have kc5 := Dc5.kp
  have Fc6 := Hy.funD_fun Dc6
  have kc6 := Dc6.kp
  have Fc7 := Hy.funD_fun Dc7
  have kc7 := Dc7.kp
  have Fc8 := Hy.funD_fun Dc8
  have kc8 := Dc8.kp
  have Fc9 := Hy.funD_fun Dc9
  have kc9 := Dc9.kp
  have Fc10 := Hy.funD_fun Dc10
  have kc10 := Dc10.kp
  have Fc11 := Hy.funD_fun Dc11
  have kc11 := Dc11.kp
  have Fc12 := Hy.funD_fun Dc12
  have kc12 := Dc12.kp
  have Fc13 := Hy.funD_fun Dc13
  have kc13 := Dc13.kp
  have Fc14 := Hy.funD_fun Dc14
  have kc14 := Dc14.kp
  have Fc15 := Hy.funD_fun Dc15
  have kc15 := Dc15.kp
  have Fc16 := Hy.funD_fun Dc16
  have kc16 := Dc16.kp
  have bd0 : Binds K gd0 ["_law_script", "_law_spot_at"] [] := Dd0.bindsN fun _ _ _ _ _ _ us hl => match us, hl with | [_, _], _ => rfl
  have bd1 : Binds K gd1 ["_law_bag_here", "_law_many"] [] := Dd1.bindsN fun _ _ _ _ _ _ us hl => match us, hl with | [_, _], _ => rfl
  have bd2 : Binds K gd2 ["_law_bag_here", "_law_objects"] [] := Dd2.bindsN fun _ _ _ _ _ _ us hl => match us, hl with | [_, _], _ => rfl
  have bd3 : Binds K gd3 ["_law_e"] [] := Dd3.bindsN fun _ _ _ _ _ _ us hl => match us, hl with | [_], _ => rfl
  have bd4 : Binds K gd4 ["_law_term"] [] := Dd4.bindsN fun _ _ _ _ _ _ us hl => match us, hl with | [_], _ => rfl
  have bd5 : Binds K gd5 ["_law_term", "_law_other"] [] := Dd5.bindsN fun _ _ _ _ _ _ us hl => match us, hl with | [_, _], _ => rfl
  have bc0 : Binds K gc0 ["self", "name"] [] := Dc0.bindsN fun _ _ _ _ _ _ us hl => match us, hl with | [_, _], _ => rfl
  have bc1 : Binds K gc1 ["self", "at"] [] := Dc1.bindsN fun _ _ _ _ _ _ us hl => match us, hl with | [_, _], _ => rfl
  have bc2 : Binds K gc2 ["self", "kind", "ring"] [] := Dc2.bindsN fun _ _ _ _ _ _ us hl => match us, hl with | [_, _, _], _ => rfl
  have bc3 : Binds K gc3 ["self", "ring"] [] := Dc3.bindsN fun _ _ _ _ _ _ us hl => match us, hl with | [_, _], _ => rfl
  have bc4 : Binds K gc4 ["self", "call"] [] := Dc4.bindsN fun _ _ _ _ _ _ us hl => match us, hl with | [_, _], _ => rfl
  have bc5 : Binds K gc5 ["self", "at"] [] := Dc5.bindsN fun _ _ _ _ _ _ us hl => match us, hl with | [_, _], _ => rfl
  have bc6 : Binds K gc6 ["self", "at"] [] := Dc6.bindsN fun _ _ _ _ _ _ us hl => match us, hl with | [_, _], _ => rfl
  have bc7 : Binds K gc7 ["self", "at"] [] := Dc7.bindsN fun _ _ _ _ _ _ us hl => match us, hl with | [_, _], _ => rfl
  have bc8 : Binds K gc8 ["self", "name"] [] := Dc8.bindsN fun _ _ _ _ _ _ us hl => match us, hl with | [_, _], _ => rfl
  have bc9 : Binds K gc9 ["self", "number"] [] := Dc9.bindsN fun _ _ _ _ _ _ us hl => match us, hl with | [_, _], _ => rfl
  have bc10 : Binds K gc10 ["self", "number"] [] := Dc10.bindsN fun _ _ _ _ _ _ us hl => match us, hl with | [_, _], _ => rfl
  have bc11 : Binds K gc11 ["self", "kind", "call"] [] := Dc11.bindsN fun _ _ _ _ _ _ us hl => match us, hl with | [_, _, _], _ => rfl
  have bc12 : Binds K gc12 ["self", "definer"] [] := Dc12.bindsN fun _ _ _ _ _ _ us hl => match us, hl with | [_, _], _ => rfl
  have bc13 : Binds K gc13 ["self", "name"] [] := Dc13.bindsN fun _ _ _ _ _ _ us hl => match us, hl with | [_, _], _ => rfl
  have bc14 : Binds K gc14 ["self", "name"] [] := Dc14.bindsN fun _ _ _ _ _ _ us hl => match us, hl with | [_, _], _ => rfl
  have bc15 : Binds K gc15 ["self", "number"] [] := Dc15.bindsN fun _ _ _ _ _ _ us hl => match us, hl with | [_, _], _ => rfl
  have bc16 : Binds K gc16 ["self", "number"] [] := Dc16.bindsN fun _ _ _ _ _ _ us hl => match us, hl with | [_, _], _ => rfl
  have EC : ∀ x ∈ words22, ExcC K (cls x) := fun x hx => ⟨xga x hx, xgg x hx, xeC x hx, xhC x hx, xhA x hx, hnC, htC, xhM x hx⟩
  have XF : ∀ x ∈ words22, XfC K (cls x) := fun x hx => ⟨xga x hx, xgg x hx, xeC x hx, xhC x hx⟩
  have O0 : L2N.OexK K (cls "NoName") "ValueError" "ValueError.__new__" "ValueError" "ValueError.__init__" XkA.mroV := ⟨XkA.newV, XkA.iniV, Hq.oexB2_ok (xLV "NoName" (by decide +kernel)), XkA.passV, by decide, xsa "NoName" (by decide +kernel), xeC "NoName" (by decide +kernel), xtC "NoName" (by decide +kernel), xkC "NoName" (by decide +kernel)⟩
  have V0 : ExV l.prog w K mg base (cls "NoName") "NoName" "name" ShS := ⟨⟨_, _, _, _, _, O0⟩, PySem.W.mg_of X Gg (clsGl "NoName" (by decide +kernel)), fc0, _, ac0, tI0, iv_NoName Fc0 O0 (xn ("NoName", "name") (by decide +kernel)) (PySem.W.mg_none_of X Gg zValueError), bc0, D.kb_v1 Dc0 (fun kV doc pm an cdv ct s v => rfl)⟩
  have O1 : L2N.OexK K (cls "NoBases") "ValueError" "ValueError.__new__" "ValueError" "ValueError.__init__" XkA.mroV := ⟨XkA.newV, XkA.iniV, Hq.oexB2_ok (xLV "NoBases" (by decide +kernel)), XkA.passV, by decide, xsa "NoBases" (by decide +kernel), xeC "NoBases" (by decide +kernel), xtC "NoBases" (by decide +kernel), xkC "NoBases" (by decide +kernel)⟩
  have V1 : ExV l.prog w K mg base (cls "NoBases") "NoBases" "at" ShS := ⟨⟨_, _, _, _, _, O1⟩, PySem.W.mg_of X Gg (clsGl "NoBases" (by decide +kernel)), fc1, _, ac1, tI1, iv_NoBases Fc1 T.str O1 (xn ("NoBases", "at") (by decide +kernel)) (PySem.W.mg_none_of X Gg zValueError), bc1, D.kb_v1 Dc1 (fun kV doc pm an cdv ct s v => rfl)⟩
  have O2 : L2N.OexK K (cls "NoLine") "ValueError" "ValueError.__new__" "ValueError" "ValueError.__init__" XkA.mroV := ⟨XkA.newV, XkA.iniV, Hq.oexB2_ok (xLV "NoLine" (by decide +kernel)), XkA.passV, by decide, xsa "NoLine" (by decide +kernel), xeC "NoLine" (by decide +kernel), xtC "NoLine" (by decide +kernel), xkC "NoLine" (by decide +kernel)⟩
  have V2 : ExV2 l.prog w K mg base (cls "NoLine") "NoLine" "kind" "ring" shD2 := ⟨⟨_, _, _, _, _, O2⟩, PySem.W.mg_of X Gg (clsGl "NoLine" (by decide +kernel)), fc2, _, ac2, tI2, iv_NoLine Fc2 T.str O2 (xn ("NoLine", "kind") (by decide +kernel)) (xn ("NoLine", "ring") (by decide +kernel)) (PySem.W.mg_none_of X Gg zValueError), bc2, D.kb_sw3 Dc2 (fun kV doc pm an cdv ct s b n => rfl)⟩
  have O3 : L2N.OexK K (cls "NoMerge") "ValueError" "ValueError.__new__" "ValueError" "ValueError.__init__" XkA.mroV := ⟨XkA.newV, XkA.iniV, Hq.oexB2_ok (xLV "NoMerge" (by decide +kernel)), XkA.passV, by decide, xsa "NoMerge" (by decide +kernel), xeC "NoMerge" (by decide +kernel), xtC "NoMerge" (by decide +kernel), xkC "NoMerge" (by decide +kernel)⟩
  have V3 : ExV l.prog w K mg base (cls "NoMerge") "NoMerge" "ring" ShS := ⟨⟨_, _, _, _, _, O3⟩, PySem.W.mg_of X Gg (clsGl "NoMerge" (by decide +kernel)), fc3, _, ac3, tI3, iv_NoMerge Fc3 O3 (xn ("NoMerge", "ring") (by decide +kernel)) (PySem.W.mg_none_of X Gg zValueError), bc3, D.kb_v1 Dc3 (fun kV doc pm an cdv ct s v => rfl)⟩
  have O4 : L2N.OexK K (cls "NoCall") "ValueError" "ValueError.__new__" "ValueError" "ValueError.__init__" XkA.mroV := ⟨XkA.newV, XkA.iniV, Hq.oexB2_ok (xLV "NoCall" (by decide +kernel)), XkA.passV, by decide, xsa "NoCall" (by decide +kernel), xeC "NoCall" (by decide +kernel), xtC "NoCall" (by decide +kernel), xkC "NoCall" (by decide +kernel)⟩
  have V4 : ExV l.prog w K mg base (cls "NoCall") "NoCall" "call" ShS := ⟨⟨_, _, _, _, _, O4⟩, PySem.W.mg_of X Gg (clsGl "NoCall" (by decide +kernel)), fc4, _, ac4, tI4, iv_NoCall Fc4 O4 (xn ("NoCall", "call") (by decide +kernel)) (PySem.W.mg_none_of X Gg zValueError), bc4, D.kb_v1 Dc4 (fun kV doc pm an cdv ct s v => rfl)⟩
  have O5 : L2N.OexK K (cls "NoBody") "ValueError" "ValueError.__new__" "ValueError" "ValueError.__init__" XkA.mroV := ⟨XkA.newV, XkA.iniV, Hq.oexB2_ok (xLV "NoBody" (by decide +kernel)), XkA.passV, by decide, xsa "NoBody" (by decide +kernel), xeC "NoBody" (by decide +kernel), xtC "NoBody" (by decide +kernel), xkC "NoBody" (by decide +kernel)⟩
  have V5 : ExV l.prog w K mg base (cls "NoBody") "NoBody" "at" ShS := ⟨⟨_, _, _, _, _, O5⟩, PySem.W.mg_of X Gg (clsGl "NoBody" (by decide +kernel)), fc5, _, ac5, tI5, iv_NoBody Fc5 T.str O5 (xn ("NoBody", "at") (by decide +kernel)) (PySem.W.mg_none_of X Gg zValueError), bc5, D.kb_v1 Dc5 (fun kV doc pm an cdv ct s v => rfl)⟩
  have O6 : L2N.OexK K (cls "NoChain") "ValueError" "ValueError.__new__" "ValueError" "ValueError.__init__" XkA.mroV := ⟨XkA.newV, XkA.iniV, Hq.oexB2_ok (xLV "NoChain" (by decide +kernel)), XkA.passV, by decide, xsa "NoChain" (by decide +kernel), xeC "NoChain" (by decide +kernel), xtC "NoChain" (by decide +kernel), xkC "NoChain" (by decide +kernel)⟩
  have V6 : ExV l.prog w K mg base (cls "NoChain") "NoChain" "at" ShS := ⟨⟨_, _, _, _, _, O6⟩, PySem.W.mg_of X Gg (clsGl "NoChain" (by decide +kernel)), fc6, _, ac6, tI6, iv_NoChain Fc6 T.str O6 (xn ("NoChain", "at") (by decide +kernel)) (PySem.W.mg_none_of X Gg zValueError), bc6, D.kb_v1 Dc6 (fun kV doc pm an cdv ct s v => rfl)⟩
  have O7 : L2N.OexK K (cls "NoText") "ValueError" "ValueError.__new__" "ValueError" "ValueError.__init__" XkA.mroV := ⟨XkA.newV, XkA.iniV, Hq.oexB2_ok (xLV "NoText" (by decide +kernel)), XkA.passV, by decide, xsa "NoText" (by decide +kernel), xeC "NoText" (by decide +kernel), xtC "NoText" (by decide +kernel), xkC "NoText" (by decide +kernel)⟩
  have V7 : ExV l.prog w K mg base (cls "NoText") "NoText" "at" ShS := ⟨⟨_, _, _, _, _, O7⟩, PySem.W.mg_of X Gg (clsGl "NoText" (by decide +kernel)), fc7, _, ac7, tI7, iv_NoText Fc7 T.str O7 (xn ("NoText", "at") (by decide +kernel)) (PySem.W.mg_none_of X Gg zValueError), bc7, D.kb_v1 Dc7 (fun kV doc pm an cdv ct s v => rfl)⟩
  have O8 : L2N.OexK K (cls "NoKind") "LookupError" "LookupError.__new__" "KeyError" "KeyError.__init__" XkA.mroK := ⟨XkA.newK, XkA.iniK, Hq.oexB2_ok (xLK "NoKind" (by decide +kernel)), XkA.passK, by decide, xsa "NoKind" (by decide +kernel), xeC "NoKind" (by decide +kernel), xtC "NoKind" (by decide +kernel), xkC "NoKind" (by decide +kernel)⟩
  have V8 : ExV l.prog w K mg base (cls "NoKind") "NoKind" "name" ShS := ⟨⟨_, _, _, _, _, O8⟩, PySem.W.mg_of X Gg (clsGl "NoKind" (by decide +kernel)), fc8, _, ac8, tI8, iv_NoKind Fc8 O8 (xn ("NoKind", "name") (by decide +kernel)) (PySem.W.mg_none_of X Gg zKeyError), bc8, D.kb_v1 Dc8 (fun kV doc pm an cdv ct s v => rfl)⟩
  have O9 : L2N.OexK K (cls "NoObject") "LookupError" "LookupError.__new__" "KeyError" "KeyError.__init__" XkA.mroK := ⟨XkA.newK, XkA.iniK, Hq.oexB2_ok (xLK "NoObject" (by decide +kernel)), XkA.passK, by decide, xsa "NoObject" (by decide +kernel), xeC "NoObject" (by decide +kernel), xtC "NoObject" (by decide +kernel), xkC "NoObject" (by decide +kernel)⟩
  have V9 : ExV l.prog w K mg base (cls "NoObject") "NoObject" "number" ShS := ⟨⟨_, _, _, _, _, O9⟩, PySem.W.mg_of X Gg (clsGl "NoObject" (by decide +kernel)), fc9, _, ac9, tI9, iv_NoObject Fc9 O9 (xn ("NoObject", "number") (by decide +kernel)) (PySem.W.mg_none_of X Gg zKeyError), bc9, D.kb_v1 Dc9 (fun kV doc pm an cdv ct s v => rfl)⟩
  have O10 : L2N.OexK K (cls "NoOpen") "LookupError" "LookupError.__new__" "KeyError" "KeyError.__init__" XkA.mroK := ⟨XkA.newK, XkA.iniK, Hq.oexB2_ok (xLK "NoOpen" (by decide +kernel)), XkA.passK, by decide, xsa "NoOpen" (by decide +kernel), xeC "NoOpen" (by decide +kernel), xtC "NoOpen" (by decide +kernel), xkC "NoOpen" (by decide +kernel)⟩
  have V10 : ExV l.prog w K mg base (cls "NoOpen") "NoOpen" "number" ShS := ⟨⟨_, _, _, _, _, O10⟩, PySem.W.mg_of X Gg (clsGl "NoOpen" (by decide +kernel)), fc10, _, ac10, tI10, iv_NoOpen Fc10 O10 (xn ("NoOpen", "number") (by decide +kernel)) (PySem.W.mg_none_of X Gg zKeyError), bc10, D.kb_v1 Dc10 (fun kV doc pm an cdv ct s v => rfl)⟩
  have O11 : L2N.OexK K (cls "Absent") "LookupError" "LookupError.__new__" "LookupError" "LookupError.__init__" XkA.mroL := ⟨XkA.newL, XkA.iniL, Hq.oexB2_ok (xLL "Absent" (by decide +kernel)), XkA.passL, by decide, xsa "Absent" (by decide +kernel), xeC "Absent" (by decide +kernel), xtC "Absent" (by decide +kernel), xkC "Absent" (by decide +kernel)⟩
  have V11 : ExV2 l.prog w K mg base (cls "Absent") "Absent" "kind" "call" shD2 := ⟨⟨_, _, _, _, _, O11⟩, PySem.W.mg_of X Gg (clsGl "Absent" (by decide +kernel)), fc11, _, ac11, tI11, iv_Absent Fc11 O11 (xn ("Absent", "kind") (by decide +kernel)) (xn ("Absent", "call") (by decide +kernel)) (PySem.W.mg_none_of X Gg zLookupError), bc11, D.kb_sw3 Dc11 (fun kV doc pm an cdv ct s b n => rfl)⟩
  have O12 : L2N.OexK K (cls "NoDefiner") "LookupError" "LookupError.__new__" "LookupError" "LookupError.__init__" XkA.mroL := ⟨XkA.newL, XkA.iniL, Hq.oexB2_ok (xLL "NoDefiner" (by decide +kernel)), XkA.passL, by decide, xsa "NoDefiner" (by decide +kernel), xeC "NoDefiner" (by decide +kernel), xtC "NoDefiner" (by decide +kernel), xkC "NoDefiner" (by decide +kernel)⟩
  have V12 : ExV l.prog w K mg base (cls "NoDefiner") "NoDefiner" "definer" ShS := ⟨⟨_, _, _, _, _, O12⟩, PySem.W.mg_of X Gg (clsGl "NoDefiner" (by decide +kernel)), fc12, _, ac12, tI12, iv_NoDefiner Fc12 O12 (xn ("NoDefiner", "definer") (by decide +kernel)) (PySem.W.mg_none_of X Gg zLookupError), bc12, D.kb_v1 Dc12 (fun kV doc pm an cdv ct s v => rfl)⟩
  have O13 : L2N.OexK K (cls "Taken") "RuntimeError" "RuntimeError.__new__" "RuntimeError" "RuntimeError.__init__" XkA.mroR := ⟨XkA.newR, XkA.iniR, Hq.oexB2_ok (xLR "Taken" (by decide +kernel)), XkA.passR, by decide, xsa "Taken" (by decide +kernel), xeC "Taken" (by decide +kernel), xtC "Taken" (by decide +kernel), xkC "Taken" (by decide +kernel)⟩
  have V13 : ExV l.prog w K mg base (cls "Taken") "Taken" "name" ShS := ⟨⟨_, _, _, _, _, O13⟩, PySem.W.mg_of X Gg (clsGl "Taken" (by decide +kernel)), fc13, _, ac13, tI13, iv_Taken Fc13 O13 (xn ("Taken", "name") (by decide +kernel)) (PySem.W.mg_none_of X Gg zRuntimeError), bc13, D.kb_v1 Dc13 (fun kV doc pm an cdv ct s v => rfl)⟩
  have O14 : L2N.OexK K (cls "InUse") "RuntimeError" "RuntimeError.__new__" "RuntimeError" "RuntimeError.__init__" XkA.mroR := ⟨XkA.newR, XkA.iniR, Hq.oexB2_ok (xLR "InUse" (by decide +kernel)), XkA.passR, by decide, xsa "InUse" (by decide +kernel), xeC "InUse" (by decide +kernel), xtC "InUse" (by decide +kernel), xkC "InUse" (by decide +kernel)⟩
  have V14 : ExV l.prog w K mg base (cls "InUse") "InUse" "name" ShS := ⟨⟨_, _, _, _, _, O14⟩, PySem.W.mg_of X Gg (clsGl "InUse" (by decide +kernel)), fc14, _, ac14, tI14, iv_InUse Fc14 O14 (xn ("InUse", "name") (by decide +kernel)) (PySem.W.mg_none_of X Gg zRuntimeError), bc14, D.kb_v1 Dc14 (fun kV doc pm an cdv ct s v => rfl)⟩
  have O15 : L2N.OexK K (cls "Busy") "RuntimeError" "RuntimeError.__new__" "RuntimeError" "RuntimeError.__init__" XkA.mroR := ⟨XkA.newR, XkA.iniR, Hq.oexB2_ok (xLR "Busy" (by decide +kernel)), XkA.passR, by decide, xsa "Busy" (by decide +kernel), xeC "Busy" (by decide +kernel), xtC "Busy" (by decide +kernel), xkC "Busy" (by decide +kernel)⟩
  have V15 : ExV l.prog w K mg base (cls "Busy") "Busy" "number" ShS := ⟨⟨_, _, _, _, _, O15⟩, PySem.W.mg_of X Gg (clsGl "Busy" (by decide +kernel)), fc15, _, ac15, tI15, iv_Busy Fc15 O15 (xn ("Busy", "number") (by decide +kernel)) (PySem.W.mg_none_of X Gg zRuntimeError), bc15, D.kb_v1 Dc15 (fun kV doc pm an cdv ct s v => rfl)⟩
  have O16 : L2N.OexK K (cls "TooDeep") "OverflowError" "OverflowError.__new__" "OverflowError" "OverflowError.__init__" XkA.mroO := ⟨XkA.newO, XkA.iniO, Hq.oexB2_ok (xLO "TooDeep" (by decide +kernel)), XkA.passO, by decide, xsa "TooDeep" (by decide +kernel), xeC "TooDeep" (by decide +kernel), xtC "TooDeep" (by decide +kernel), xkC "TooDeep" (by decide +kernel)⟩
  have V16 : ExV l.prog w K mg base (cls "TooDeep") "TooDeep" "number" ShS := ⟨⟨_, _, _, _, _, O16⟩, PySem.W.mg_of X Gg (clsGl "TooDeep" (by decide +kernel)), fc16, _, ac16, tI16, iv_TooDeep Fc16 O16 (xn ("TooDeep", "number") (by decide +kernel)) (PySem.W.mg_none_of X Gg zOverflowError), bc16, D.kb_v1 Dc16 (fun kV doc pm an cdv ct s v => rfl)⟩
  have Z0 : ExV0 K mg (cls "NoRegistry") "NoRegistry" := ⟨⟨_, _, _, _, PySem.F.excBase_ValueError, xZV "NoRegistry" (by decide +kernel)⟩, PySem.W.mg_of X Gg (clsGl "NoRegistry" (by decide +kernel)), xkC "NoRegistry" (by decide +kernel)⟩
  have Z1 : ExV0 K mg (cls "NoCommand") "NoCommand" := ⟨⟨_, _, _, _, PySem.F.excBase_ValueError, xZV "NoCommand" (by decide +kernel)⟩, PySem.W.mg_of X Gg (clsGl "NoCommand" (by decide +kernel)), xkC "NoCommand" (by decide +kernel)⟩
  have Z2 : ExV0 K mg (cls "Nothing") "Nothing" := ⟨⟨_, _, _, _, PySem.F.excBase_RuntimeError, xZR "Nothing" (by decide +kernel)⟩, PySem.W.mg_of X Gg (clsGl "Nothing" (by decide +kernel)), xkC "Nothing" (by decide +kernel)⟩
  have Z3 : ExV0 K mg (cls "TooMany") "TooMany" := ⟨⟨_, _, _, _, PySem.F.excBase_OverflowError, xZO "TooMany" (by decide +kernel)⟩, PySem.W.mg_of X Gg (clsGl "TooMany" (by decide +kernel)), xkC "TooMany" (by decide +kernel)⟩
  have Z4 : ExV0 K mg (cls "TooLong") "TooLong" := ⟨⟨_, _, _, _, PySem.F.excBase_OverflowError, xZO "TooLong" (by decide +kernel)⟩, PySem.W.mg_of X Gg (clsGl "TooLong" (by decide +kernel)), xkC "TooLong" (by decide +kernel)⟩
  have CV : ClsV l.prog w K mg base cls := { one := fun p hp => by { rcases List.mem_cons.mp hp with rfl | hp; { exact V0 }; rcases List.mem_cons.mp hp with rfl | hp; { exact V1 }; rcases List.mem_cons.mp hp with rfl | hp; { exact V3 }; rcases List.mem_cons.mp hp with rfl | hp; { exact V4 }; rcases List.mem_cons.mp hp with rfl | hp; { exact V5 }; rcases List.mem_cons.mp hp with rfl | hp; { exact V6 }; rcases List.mem_cons.mp hp with rfl | hp; { exact V7 }; rcases List.mem_cons.mp hp with rfl | hp; { exact V8 }; rcases List.mem_cons.mp hp with rfl | hp; { exact V9 }; rcases List.mem_cons.mp hp with rfl | hp; { exact V10 }; rcases List.mem_cons.mp hp with rfl | hp; { exact V12 }; rcases List.mem_cons.mp hp with rfl | hp; { exact V13 }; rcases List.mem_cons.mp hp with rfl | hp; { exact V14 }; rcases List.mem_cons.mp hp with rfl | hp; { exact V15 }; rw [List.mem_singleton.mp hp]; exact V16 }, two := fun p hp => by { rcases List.mem_cons.mp hp with rfl | hp; { exact V2 }; rw [List.mem_singleton.mp hp]; exact V11 }, non := fun x hp => by { rcases List.mem_cons.mp hp with rfl | hp; { exact Z0 }; rcases List.mem_cons.mp hp with rfl | hp; { exact Z1 }; rcases List.mem_cons.mp hp with rfl | hp; { exact Z2 }; rcases List.mem_cons.mp hp with rfl | hp; { exact Z3 }; rw [List.mem_singleton.mp hp]; exact Z4 }, xf := XF, no := fun p hp => by { rcases List.mem_cons.mp hp with rfl | hp; { exact xn ("NoName", "name") (by decide +kernel) }; rcases List.mem_cons.mp hp with rfl | hp; { exact xn ("NoBases", "at") (by decide +kernel) }; rcases List.mem_cons.mp hp with rfl | hp; { exact xn ("NoMerge", "ring") (by decide +kernel) }; rcases List.mem_cons.mp hp with rfl | hp; { exact xn ("NoCall", "call") (by decide +kernel) }; rcases List.mem_cons.mp hp with rfl | hp; { exact xn ("NoBody", "at") (by decide +kernel) }; rcases List.mem_cons.mp hp with rfl | hp; { exact xn ("NoChain", "at") (by decide +kernel) }; rcases List.mem_cons.mp hp with rfl | hp; { exact xn ("NoText", "at") (by decide +kernel) }; rcases List.mem_cons.mp hp with rfl | hp; { exact xn ("NoKind", "name") (by decide +kernel) }; rcases List.mem_cons.mp hp with rfl | hp; { exact xn ("NoObject", "number") (by decide +kernel) }; rcases List.mem_cons.mp hp with rfl | hp; { exact xn ("NoOpen", "number") (by decide +kernel) }; rcases List.mem_cons.mp hp with rfl | hp; { exact xn ("NoDefiner", "definer") (by decide +kernel) }; rcases List.mem_cons.mp hp with rfl | hp; { exact xn ("Taken", "name") (by decide +kernel) }; rcases List.mem_cons.mp hp with rfl | hp; { exact xn ("InUse", "name") (by decide +kernel) }; rcases List.mem_cons.mp hp with rfl | hp; { exact xn ("Busy", "number") (by decide +kernel) }; rw [List.mem_singleton.mp hp]; exact xn ("TooDeep", "number") (by decide +kernel) }, no1 := fun p hp => by { rcases List.mem_cons.mp hp with rfl | hp; { exact xn ("NoLine", "kind") (by decide +kernel) }; rw [List.mem_singleton.mp hp]; exact xn ("Absent", "kind") (by decide +kernel) }, no2 := fun p hp => by { rcases List.mem_cons.mp hp with rfl | hp; { exact xn ("NoLine", "ring") (by decide +kernel) }; rw [List.mem_singleton.mp hp]; exact xn ("Absent", "call") (by decide +kernel) } }
  have CW : ClsW K mg cls words22 := { sub := fun x hx => hx, ec := EC, gl := fun y hy => PySem.W.mg_of X Gg (clsGl y hy), one := clsOne, nT := fun T hT => by { simp only [typs5, List.mem_cons, List.not_mem_nil, or_false] at hT; rcases hT with rfl | rfl | rfl | rfl | rfl; { exact PySem.W.mg_none_of X Gg zValueError }; { exact PySem.W.mg_none_of X Gg zKeyError }; { exact PySem.W.mg_none_of X Gg zLookupError }; { exact PySem.W.mg_none_of X Gg zRuntimeError }; { exact PySem.W.mg_none_of X Gg zOverflowError } }, kT := fun x hx => by { rcases List.mem_cons.mp hx with rfl | hx; { exact clsTyNoName.trans (congrArg (List.map some) (show [true, false, false, false, false] = aboveB "NoName" by decide +kernel)) }; rcases List.mem_cons.mp hx with rfl | hx; { exact clsTyNoBases.trans (congrArg (List.map some) (show [true, false, false, false, false] = aboveB "NoBases" by decide +kernel)) }; rcases List.mem_cons.mp hx with rfl | hx; { exact clsTyNoLine.trans (congrArg (List.map some) (show [true, false, false, false, false] = aboveB "NoLine" by decide +kernel)) }; rcases List.mem_cons.mp hx with rfl | hx; { exact clsTyNoMerge.trans (congrArg (List.map some) (show [true, false, false, false, false] = aboveB "NoMerge" by decide +kernel)) }; rcases List.mem_cons.mp hx with rfl | hx; { exact clsTyNoCall.trans (congrArg (List.map some) (show [true, false, false, false, false] = aboveB "NoCall" by decide +kernel)) }; rcases List.mem_cons.mp hx with rfl | hx; { exact clsTyNoBody.trans (congrArg (List.map some) (show [true, false, false, false, false] = aboveB "NoBody" by decide +kernel)) }; rcases List.mem_cons.mp hx with rfl | hx; { exact clsTyNoChain.trans (congrArg (List.map some) (show [true, false, false, false, false] = aboveB "NoChain" by decide +kernel)) }; rcases List.mem_cons.mp hx with rfl | hx; { exact clsTyNoRegistry.trans (congrArg (List.map some) (show [true, false, false, false, false] = aboveB "NoRegistry" by decide +kernel)) }; rcases List.mem_cons.mp hx with rfl | hx; { exact clsTyNoText.trans (congrArg (List.map some) (show [true, false, false, false, false] = aboveB "NoText" by decide +kernel)) }; rcases List.mem_cons.mp hx with rfl | hx; { exact clsTyNoCommand.trans (congrArg (List.map some) (show [true, false, false, false, false] = aboveB "NoCommand" by decide +kernel)) }; rcases List.mem_cons.mp hx with rfl | hx; { exact clsTyNoKind.trans (congrArg (List.map some) (show [false, true, true, false, false] = aboveB "NoKind" by decide +kernel)) }; rcases List.mem_cons.mp hx with rfl | hx; { exact clsTyNoObject.trans (congrArg (List.map some) (show [false, true, true, false, false] = aboveB "NoObject" by decide +kernel)) }; rcases List.mem_cons.mp hx with rfl | hx; { exact clsTyNoOpen.trans (congrArg (List.map some) (show [false, true, true, false, false] = aboveB "NoOpen" by decide +kernel)) }; rcases List.mem_cons.mp hx with rfl | hx; { exact clsTyAbsent.trans (congrArg (List.map some) (show [false, false, true, false, false] = aboveB "Absent" by decide +kernel)) }; rcases List.mem_cons.mp hx with rfl | hx; { exact clsTyNoDefiner.trans (congrArg (List.map some) (show [false, false, true, false, false] = aboveB "NoDefiner" by decide +kernel)) }; rcases List.mem_cons.mp hx with rfl | hx; { exact clsTyTaken.trans (congrArg (List.map some) (show [false, false, false, true, false] = aboveB "Taken" by decide +kernel)) }; rcases List.mem_cons.mp hx with rfl | hx; { exact clsTyInUse.trans (congrArg (List.map some) (show [false, false, false, true, false] = aboveB "InUse" by decide +kernel)) }; rcases List.mem_cons.mp hx with rfl | hx; { exact clsTyBusy.trans (congrArg (List.map some) (show [false, false, false, true, false] = aboveB "Busy" by decide +kernel)) }; rcases List.mem_cons.mp hx with rfl | hx; { exact clsTyNothing.trans (congrArg (List.map some) (show [false, false, false, true, false] = aboveB "Nothing" by decide +kernel)) }; rcases List.mem_cons.mp hx with rfl | hx; { exact clsTyTooMany.trans (congrArg (List.map some) (show [false, false, false, false, true] = aboveB "TooMany" by decide +kernel)) }; rcases List.mem_cons.mp hx with rfl | hx; { exact clsTyTooLong.trans (congrArg (List.map some) (show [false, false, false, false, true] = aboveB "TooLong" by decide +kernel)) }; rw [List.mem_singleton.mp hx]; exact clsTyTooDeep.trans (congrArg (List.map some) (show [false, false, false, false, true] = aboveB "TooDeep" by decide +kernel)) } }
  have E0 : DefOk l.prog w K mg base 1 "_law_bag" _ _ := ⟨_, _, ok_bag Fd0 T, PySem.W.mg_of X Gg ad0, kd0, bd0⟩
  have E1 : DefOk l.prog w K mg base 1 "_law_take" _ _ := ⟨_, _, ok_take Fd1, PySem.W.mg_of X Gg ad1, kd1, bd1⟩
  have E2 : DefOk l.prog w K mg base 2 "_law_any" _ _ := ⟨_, _, ok_any1 Fd2 T E1, PySem.W.mg_of X Gg ad2, kd2, bd2⟩
  have E3 : DefOk l.prog w K mg base 1 "_law_word" _ _ := ⟨_, _, ok_word Fd3 T.isi T.int T.str CW, PySem.W.mg_of X Gg ad3, kd3, bd3⟩
  have E4 : D_named l.prog w K mg base := ⟨_, _, ok_named Fd4 (PySem.W.mg_none_of X Gg zrepr) CV, PySem.W.mg_of X Gg ad4, kd4, bd4⟩
  have E5 : D_prs l.prog w K mg base := ⟨_, _, ok_prs Fd5 (PySem.W.mg_none_of X Gg zrepr) CV, PySem.W.mg_of X Gg ad5, kd5, bd5⟩
  exact ok_law Fd6 T CV ⟨E0, E2, E4, E5, E3⟩
theorem sp0 {K : PySem.W.Frag} {H : Hp} {a : Addr} {ns : List Int} (hl : ns.length ≤ 63) (hS : SqL K H a (ns.map V.int)) : spLaw K [.ref a] H (fun v _ => v = .bl true) fun _ _ _ => False := by
  refine ⟨[], ns, fun x hx => absurd hx (by simp), .nil, fun x hx z => (nomatch z), fun p hp => (nomatch hp), ?_, hl, ?_, fun _ _ _ _ _ z => z.elim⟩
  · refine .cons (.fzl ?_ (DVs.ints ns)) .nil
    show SqL K (mask [] H) a _
    rw [mask_nil]
    exact hS
  · rintro v H' C' d rfl _ dv
    cases dv; rfl
theorem facts {l : PySem.W.OpenLaw} {w : World} {K : PySem.W.Frag} {h : Heap} {mg : Str → Option Value} {f : Addr} (hm : l.most = some 63) (X : K.In h) (Gg : h.Ns mainGlobals mg) (hfa : mg ("law" : Str) = some (.ref f)) (c0 : Hq.SaysP fn tf (Hy.exB fx) pf h K) :
    HyG.LawAtG l w K (L2.CX l.prog w) 6 63 "_law_script" mg f h := by
  have c := c0.y
  obtain ⟨gd0, Dd0⟩ := c.d.def_ 0 (d := qd0) rfl
  obtain ⟨gd1, Dd1⟩ := c.d.def_ 1 (d := qd1) rfl
  obtain ⟨gd2, Dd2⟩ := c.d.def_ 2 (d := qd2) rfl
  obtain ⟨gd3, Dd3⟩ := c.d.def_ 3 (d := qd3) rfl
  obtain ⟨gd4, Dd4⟩ := c.d.def_ 4 (d := qd4) rfl
  obtain ⟨gd5, Dd5⟩ := c.d.def_ 5 (d := qd5) rfl
  obtain ⟨gd6, Dd6⟩ := c.d.def_ 6 (d := qd6) rfl
  obtain ⟨gc0, Dc0⟩ := c.d.def_ 7 (d := qc0) rfl
  obtain ⟨gc1, Dc1⟩ := c.d.def_ 8 (d := qc1) rfl
  obtain ⟨gc2, Dc2⟩ := c.d.def_ 9 (d := qc2) rfl
  obtain ⟨gc3, Dc3⟩ := c.d.def_ 10 (d := qc3) rfl
  obtain ⟨gc4, Dc4⟩ := c.d.def_ 11 (d := qc4) rfl
  obtain ⟨gc5, Dc5⟩ := c.d.def_ 12 (d := qc5) rfl
  obtain ⟨gc6, Dc6⟩ := c.d.def_ 13 (d := qc6) rfl
  obtain ⟨gc7, Dc7⟩ := c.d.def_ 14 (d := qc7) rfl
  obtain ⟨gc8, Dc8⟩ := c.d.def_ 15 (d := qc8) rfl
  obtain ⟨gc9, Dc9⟩ := c.d.def_ 16 (d := qc9) rfl
  obtain ⟨gc10, Dc10⟩ := c.d.def_ 17 (d := qc10) rfl
  obtain ⟨gc11, Dc11⟩ := c.d.def_ 18 (d := qc11) rfl
  obtain ⟨gc12, Dc12⟩ := c.d.def_ 19 (d := qc12) rfl
  obtain ⟨gc13, Dc13⟩ := c.d.def_ 20 (d := qc13) rfl
  obtain ⟨gc14, Dc14⟩ := c.d.def_ 21 (d := qc14) rfl
  obtain ⟨gc15, Dc15⟩ := c.d.def_ 22 (d := qc15) rfl
  obtain ⟨gc16, Dc16⟩ := c.d.def_ 23 (d := qc16) rfl
  refine ⟨gd6, tf.map (He.cT K), W.spLaw K , fun p hp => ?_, fun p hp => ?_, fun p hp => ?_, fun s v => Dd6.bindsA (ps := ["_law_script"]) (fun _ _ _ _ _ _ us hl => match us, hl with | [_], _ => rfl) s [v] rfl, fun H a ns hl hT hS => K01.sp0 hl hS, fun base KB GB TB => ?_⟩
  · obtain ⟨q, hq, rfl⟩ := List.mem_map.mp hp
    exact c.empty q hq
  · obtain ⟨q, hq, rfl⟩ := List.mem_map.mp hp
    exact c.out q hq
  · obtain ⟨q, hq, rfl⟩ := List.mem_map.mp hp
    exact PySem.W.codeHd_of_K X (c.hd q hq)
  exact all_mk (cls := He.ga K) X Gg hfa Dd0 Dd1 Dd2 Dd3 Dd4 Dd5 Dd6 Dc0 Dc1 Dc2 Dc3 Dc4 Dc5 Dc6 Dc7 Dc8 Dc9 Dc10 Dc11 Dc12 Dc13 Dc14 Dc15 Dc16 (of_decide_eq_true (Hy.exB_fact c.more 0 0 rfl rfl)) (of_decide_eq_true (Hy.exB_fact c.more 0 1 rfl rfl)) (of_decide_eq_true (Hy.exB_fact c.more 0 2 rfl rfl)) (of_decide_eq_true (Hy.exB_fact c.more 0 3 rfl rfl)) (of_decide_eq_true (Hy.exB_fact c.more 0 4 rfl rfl)) (of_decide_eq_true (Hy.exB_fact c.more 0 5 rfl rfl)) (of_decide_eq_true (Hy.exB_fact c.more 0 6 rfl rfl)) (of_decide_eq_true (Hy.exB_fact c.more 0 7 rfl rfl)) (of_decide_eq_true (Hy.exB_fact c.more 0 8 rfl rfl)) (of_decide_eq_true (Hy.exB_fact c.more 0 9 rfl rfl)) (of_decide_eq_true (Hy.exB_fact c.more 0 10 rfl rfl)) (of_decide_eq_true (Hy.exB_fact c.more 0 11 rfl rfl)) (of_decide_eq_true (Hy.exB_fact c.more 0 12 rfl rfl)) (of_decide_eq_true (Hy.exB_fact c.more 0 13 rfl rfl)) (of_decide_eq_true (Hy.exB_fact c.more 0 14 rfl rfl)) (of_decide_eq_true (Hy.exB_fact c.more 0 15 rfl rfl)) (of_decide_eq_true (Hy.exB_fact c.more 0 16 rfl rfl)) (of_decide_eq_true (Hy.exB_fact c.more 0 17 rfl rfl)) (of_decide_eq_true (Hy.exB_fact c.more 0 18 rfl rfl)) (of_decide_eq_true (Hy.exB_fact c.more 0 19 rfl rfl)) (of_decide_eq_true (Hy.exB_fact c.more 0 20 rfl rfl)) (of_decide_eq_true (Hy.exB_fact c.more 0 21 rfl rfl)) (of_decide_eq_true (Hy.exB_fact c.more 0 22 rfl rfl)) (of_decide_eq_true (Hy.exB_fact c.more 0 23 rfl rfl)) (of_decide_eq_true (Hy.exB_fact c.more 0 24 rfl rfl)) (of_decide_eq_true (Hy.exB_fact c.more 1 0 rfl rfl)) (of_decide_eq_true (Hy.exB_fact c.more 1 1 rfl rfl)) (of_decide_eq_true (Hy.exB_fact c.more 1 2 rfl rfl)) (of_decide_eq_true (Hy.exB_fact c.more 1 3 rfl rfl)) (of_decide_eq_true (Hy.exB_fact c.more 1 4 rfl rfl)) (of_decide_eq_true (Hy.exB_fact c.more 1 5 rfl rfl)) (of_decide_eq_true (Hy.exB_fact c.more 1 6 rfl rfl)) (of_decide_eq_true (Hy.exB_fact c.more 1 7 rfl rfl)) (of_decide_eq_true (Hy.exB_fact c.more 1 8 rfl rfl)) (of_decide_eq_true (Hy.exB_fact c.more 1 9 rfl rfl)) (of_decide_eq_true (Hy.exB_fact c.more 1 10 rfl rfl)) (of_decide_eq_true (Hy.exB_fact c.more 1 11 rfl rfl)) (of_decide_eq_true (Hy.exB_fact c.more 1 12 rfl rfl)) (of_decide_eq_true (Hy.exB_fact c.more 1 13 rfl rfl)) (of_decide_eq_true (Hy.exB_fact c.more 1 14 rfl rfl)) (of_decide_eq_true (Hy.exB_fact c.more 1 15 rfl rfl)) (of_decide_eq_true (Hy.exB_fact c.more 1 16 rfl rfl)) (of_decide_eq_true (Hy.exB_fact c.more 1 17 rfl rfl)) (of_decide_eq_true (Hy.exB_fact c.more 1 18 rfl rfl)) (of_decide_eq_true (Hy.exB_fact c.more 1 19 rfl rfl)) (of_decide_eq_true (Hy.exB_fact c.more 1 20 rfl rfl)) (of_decide_eq_true (Hy.exB_fact c.more 1 21 rfl rfl)) (of_decide_eq_true (Hy.exB_fact c.more 1 22 rfl rfl)) (of_decide_eq_true (Hy.exB_fact c.more 1 23 rfl rfl)) (of_decide_eq_true (Hy.exB_fact c.more 1 24 rfl rfl)) (of_decide_eq_true (Hy.exB_fact c.more 2 0 rfl rfl)) (of_decide_eq_true (Hy.exB_fact c.more 2 1 rfl rfl)) (of_decide_eq_true (Hy.exB_fact c.more 2 2 rfl rfl)) (of_decide_eq_true (Hy.exB_fact c.more 2 3 rfl rfl)) (of_decide_eq_true (Hy.exB_fact c.more 2 4 rfl rfl)) (of_decide_eq_true (Hy.exB_fact c.more 2 5 rfl rfl)) (of_decide_eq_true (Hy.exB_fact c.more 2 6 rfl rfl)) (of_decide_eq_true (Hy.exB_fact c.more 2 7 rfl rfl)) (of_decide_eq_true (Hy.exB_fact c.more 2 8 rfl rfl)) (of_decide_eq_true (Hy.exB_fact c.more 2 9 rfl rfl)) (of_decide_eq_true (Hy.exB_fact c.more 2 10 rfl rfl)) (of_decide_eq_true (Hy.exB_fact c.more 2 11 rfl rfl)) (of_decide_eq_true (Hy.exB_fact c.more 2 12 rfl rfl)) (of_decide_eq_true (Hy.exB_fact c.more 2 13 rfl rfl)) (of_decide_eq_true (Hy.exB_fact c.more 2 14 rfl rfl)) (of_decide_eq_true (Hy.exB_fact c.more 2 15 rfl rfl)) (of_decide_eq_true (Hy.exB_fact c.more 2 16 rfl rfl)) (of_decide_eq_true (Hy.exB_fact c.more 2 17 rfl rfl)) (of_decide_eq_true (Hy.exB_fact c.more 2 18 rfl rfl)) (of_decide_eq_true (Hy.exB_fact c.more 2 19 rfl rfl)) (of_decide_eq_true (Hy.exB_fact c.more 2 20 rfl rfl)) (of_decide_eq_true (Hy.exB_fact c.more 2 21 rfl rfl)) (of_decide_eq_true (Hy.exB_fact c.more 2 22 rfl rfl)) (of_decide_eq_true (Hy.exB_fact c.more 2 23 rfl rfl)) (of_decide_eq_true (Hy.exB_fact c.more 2 24 rfl rfl)) (of_decide_eq_true (Hy.exB_fact c.more 3 0 rfl rfl)) (of_decide_eq_true (Hy.exB_fact c.more 3 1 rfl rfl)) (of_decide_eq_true (Hy.exB_fact c.more 3 2 rfl rfl)) (of_decide_eq_true (Hy.exB_fact c.more 3 3 rfl rfl)) (of_decide_eq_true (Hy.exB_fact c.more 3 4 rfl rfl)) (of_decide_eq_true (Hy.exB_fact c.more 3 5 rfl rfl)) (of_decide_eq_true (Hy.exB_fact c.more 3 6 rfl rfl)) (of_decide_eq_true (Hy.exB_fact c.more 3 7 rfl rfl)) (of_decide_eq_true (Hy.exB_fact c.more 3 8 rfl rfl)) (of_decide_eq_true (Hy.exB_fact c.more 3 9 rfl rfl)) (of_decide_eq_true (Hy.exB_fact c.more 3 10 rfl rfl)) (of_decide_eq_true (Hy.exB_fact c.more 3 11 rfl rfl)) (of_decide_eq_true (Hy.exB_fact c.more 3 12 rfl rfl)) (of_decide_eq_true (Hy.exB_fact c.more 3 13 rfl rfl)) (of_decide_eq_true (Hy.exB_fact c.more 3 14 rfl rfl)) (of_decide_eq_true (Hy.exB_fact c.more 3 15 rfl rfl)) (of_decide_eq_true (Hy.exB_fact c.more 3 16 rfl rfl)) (of_decide_eq_true (Hy.exB_fact c.more 3 17 rfl rfl)) (of_decide_eq_true (Hy.exB_fact c.more 3 18 rfl rfl)) (of_decide_eq_true (Hy.exB_fact c.more 3 19 rfl rfl)) (of_decide_eq_true (Hy.exB_fact c.more 3 20 rfl rfl)) (of_decide_eq_true (Hy.exB_fact c.more 3 21 rfl rfl)) (of_decide_eq_true (Hy.exB_fact c.more 3 22 rfl rfl)) (of_decide_eq_true (Hy.exB_fact c.more 3 23 rfl rfl)) (of_decide_eq_true (Hy.exB_fact c.more 3 24 rfl rfl)) (of_decide_eq_true (Hy.exB_fact c.more 4 0 rfl rfl)) (of_decide_eq_true (Hy.exB_fact c.more 4 1 rfl rfl)) (of_decide_eq_true (Hy.exB_fact c.more 4 2 rfl rfl)) (of_decide_eq_true (Hy.exB_fact c.more 4 3 rfl rfl)) (of_decide_eq_true (Hy.exB_fact c.more 4 4 rfl rfl)) (of_decide_eq_true (Hy.exB_fact c.more 4 5 rfl rfl)) (of_decide_eq_true (Hy.exB_fact c.more 4 6 rfl rfl)) (of_decide_eq_true (Hy.exB_fact c.more 4 7 rfl rfl)) base
end K01
theorem PySem.Challenge.cw_openlines_k01_errors_made_holds : PySem.Challenge.rw_openlines_k01_errors_made.Holds :=
  K01.fin fun hm X Gg hfa c => K01.facts hm X Gg hfa c
#print axioms PySem.Challenge.cw_openlines_k01_errors_made_holds
end
